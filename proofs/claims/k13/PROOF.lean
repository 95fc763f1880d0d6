import PyProof.Rows.All
import Wide.All
import OpenK.AllK
import Wide.FinOn
import HandS.ForMost
import HandS.IsInst
import HandS.TupAny
import HandS.SortRule
import HandS.SortInts
import HandS.SortKw
import HandS.Rev
import HandS.Zip
import HandS.Conv
import HandS.Deep
import KE.GoesEnum
import KE.SortData
import KE.DataMinMax
import KE.DataFind
import KE.DataEq
import PySem.Challenge.RW_lentkept_k13_whole_things_by_kinds
set_option Elab.async false
set_option linter.all false
set_option maxRecDepth 100000
namespace PZ
open PySem PySem.Spec PyProof.Rows L2

/-! worlds: F is the part of the heap that never changes again -/
structure Wd where
  F : Hp
  H : Hp
  sub : Same F H

structure Le (w w' : Wd) : Prop where
  f : Same w.F w'.F
  h : Same w.H w'.H
  new : ∀ a o, w.F a = none → w.H a = some o → w'.F a = none
theorem Le.refl (w : Wd) : Le w w := ⟨Same.refl _, Same.refl _, fun _ _ h _ => h⟩
theorem Le.trans {a b c : Wd} (h : Le a b) (k : Le b c) : Le a c :=
  ⟨h.f.trans k.f, h.h.trans k.h, fun x o e q => k.new x o (h.new x o e q) (h.h x o q)⟩
theorem none_back {H H' : Hp} (s : Same H H') {p : Addr} (h : H' p = none) : H p = none := s.free h

theorem same_new {H : Hp} {p : Addr} {o : HO} (h : H p = none) : Same H (upd H p o) := fun b u e => by
  rw [upd_ne (ne_of_none e h)]; exact e
theorem same_mut {H H' : Hp} {p : Addr} {o : HO} (s : Same H H') (h : H p = none) : Same H (upd H' p o) := fun b u e => by
  rw [upd_ne (ne_of_none e h)]; exact s b u e

/-- a new object that never changes -/
def Wd.newF (w : Wd) (p : Addr) (o : HO) (hp : w.H p = none) : Wd :=
  ⟨upd w.F p o, upd w.H p o, fun a u e => by
    by_cases ha : a = p
    · subst ha; rw [upd_same] at e ⊢; exact e
    · rw [upd_ne ha] at e ⊢; exact w.sub a u e⟩
theorem Wd.le_newF (w : Wd) (p : Addr) (o : HO) (hp : w.H p = none) : Le w (w.newF p o hp) :=
  ⟨same_new (none_back w.sub hp), same_new hp, fun a u e q => by
    show upd w.F p o a = none
    rw [upd_ne (ne_of_none q hp)]; exact e⟩
/-- a new object that may change -/
def Wd.newM (w : Wd) (p : Addr) (o : HO) (hp : w.H p = none) : Wd :=
  ⟨w.F, upd w.H p o, same_mut w.sub (none_back w.sub hp)⟩
theorem Wd.le_newM (w : Wd) (p : Addr) (o : HO) (hp : w.H p = none) : Le w (w.newM p o hp) :=
  ⟨Same.refl _, same_new hp, fun a u e q => e⟩
/-- an object that is not frozen is changed -/
def Wd.put (w : Wd) (p : Addr) (o : HO) (hp : w.F p = none) : Wd :=
  ⟨w.F, upd w.H p o, same_mut w.sub hp⟩
/-- frozen from now on -/
def Wd.frz (w : Wd) (p : Addr) (o : HO) (hp : w.H p = some o) : Wd :=
  ⟨upd w.F p o, w.H, fun a u e => by
    by_cases ha : a = p
    · subst ha; rw [upd_same] at e; rw [hp]; exact e
    · rw [upd_ne ha] at e; exact w.sub a u e⟩
theorem Le.put {w w' : Wd} (h : Le w w') {p : Addr} {o : HO} (h0 : w.H p = none) (hp : w'.F p = none) : Le w (w'.put p o hp) :=
  ⟨h.f, same_mut h.h h0, fun a u e q => h.new a u e q⟩
theorem Le.frz {w w' : Wd} (h : Le w w') {p : Addr} {o : HO} (h0 : w.H p = none) (hp : w'.H p = some o) : Le w (w'.frz p o hp) :=
  ⟨same_mut h.f (none_back w.sub h0), h.h, fun a u e q => by
    show upd w'.F p o a = none
    rw [upd_ne (ne_of_none q h0)]; exact h.new a u e q⟩

/-! what stands for what -/
structure Fz (α : Type) where
  r : PySem.W.Frag → Hp → V → α → Prop
  mono : ∀ {K : PySem.W.Frag} {F F' : Hp} {v : V} {x : α}, Same F F' → r K F v x → r K F' v x

theorem Paired.mp {α β : Type} {F G : α → β → Prop} : ∀ {l₁ : List α} {l₂ : List β}, Paired F l₁ l₂ → (∀ a b, F a b → G a b) → Paired G l₁ l₂
  | _, _, .nil, _ => .nil
  | _, _, .cons r t, f => .cons (f _ _ r) (Paired.mp t f)
theorem Paired.at {α β : Type} {F : α → β → Prop} : ∀ {l₁ : List α} {l₂ : List β} (i : Nat) (h : i < l₂.length), Paired F l₁ l₂ → ∃ a, l₁[i]? = some a ∧ F a l₂[i]
  | _, _, _, h, .nil => absurd h (by simp)
  | _, _, 0, _, .cons r _ => ⟨_, rfl, r⟩
  | _, _, i + 1, h, .cons _ t => by
    obtain ⟨a, e, q⟩ := Paired.at i (by simpa using h) t
    exact ⟨a, by simpa using e, by simpa using q⟩
theorem Paired.app {α β : Type} {F : α → β → Prop} : ∀ {a c : List α} {b d : List β}, Paired F a b → Paired F c d → Paired F (a ++ c) (b ++ d)
  | _, _, _, _, .nil, s => s
  | _, _, _, _, .cons r t, s => .cons r (Paired.app t s)
theorem Paired.mapl {α β γ : Type} {F : α → γ → Prop} {f : β → α} {g : β → γ} : ∀ {xs : List β}, (∀ x ∈ xs, F (f x) (g x)) → Paired F (xs.map f) (xs.map g)
  | [], _ => .nil
  | x :: xs, h => .cons (h x List.mem_cons_self) (Paired.mapl fun y hy => h y (List.mem_cons_of_mem _ hy))
theorem sqT_mono {K : PySem.W.Frag} {F F' : Hp} {a : Addr} {vs : List V} (s : Same F F') (h : SqT K F a vs) : SqT K F' a vs := by
  rcases h with (h | ⟨o, h⟩) | h
  · exact .inl (.inl (s _ _ h))
  · exact .inl (.inr ⟨o, s _ _ h⟩)
  · exact .inr h
theorem sqL_mono {K : PySem.W.Frag} {F F' : Hp} {a : Addr} {vs : List V} (s : Same F F') (h : SqL K F a vs) : SqL K F' a vs := s.seq h

def rInt : Fz Int := ⟨fun _ _ v x => v = .int x, fun _ h => h⟩
def rBool : Fz Bool := ⟨fun _ _ v x => v = .bl x, fun _ h => h⟩
def rStr : Fz Str := ⟨fun _ _ v x => v = .str x, fun _ h => h⟩
def rNon : Fz Unit := ⟨fun _ _ v _ => v = .non, fun _ h => h⟩
def rTup {α : Type} (R : Fz α) : Fz (List α) :=
  ⟨fun K F v xs => ∃ a vs, v = .ref a ∧ SqT K F a vs ∧ vs.length ≤ sizeLine ∧ Paired (R.r K F) vs xs,
   fun s ⟨a, vs, e, q, l, p⟩ => ⟨a, vs, e, sqT_mono s q, l, Paired.mp p fun _ _ h => R.mono s h⟩⟩
def rLst {α : Type} (R : Fz α) : Fz (List α) :=
  ⟨fun K F v xs => ∃ a vs, v = .ref a ∧ F a = some (.lst vs) ∧ vs.length ≤ sizeLine ∧ Paired (R.r K F) vs xs,
   fun s ⟨a, vs, e, q, l, p⟩ => ⟨a, vs, e, s _ _ q, l, Paired.mp p fun _ _ h => R.mono s h⟩⟩
/-- the script -/
def rScr : Fz (List Int) :=
  ⟨fun K F v xs => ∃ a, v = .ref a ∧ SqL K F a (xs.map V.int) ∧ xs.length ≤ sizeLine,
   fun s ⟨a, e, q, l⟩ => ⟨a, e, sqL_mono s q, l⟩⟩
def rOpt {α : Type} (R : Fz α) : Fz (Option α) :=
  ⟨fun K F v x => (v = .non ∧ x = none) ∨ ∃ y, x = some y ∧ R.r K F v y,
   fun s h => h.elim .inl fun ⟨y, e, q⟩ => .inr ⟨y, e, R.mono s q⟩⟩
/-- a tuple of two -/
def rPr {α β : Type} (R : Fz α) (S : Fz β) : Fz (α × β) :=
  ⟨fun K F v x => ∃ a u z, v = .ref a ∧ SqT K F a [u, z] ∧ R.r K F u x.1 ∧ S.r K F z x.2,
   fun s ⟨a, u, z, e, q, h, k⟩ => ⟨a, u, z, e, sqT_mono s q, R.mono s h, S.mono s k⟩⟩
def rT3 {α β γ : Type} (R : Fz α) (S : Fz β) (T : Fz γ) : Fz (α × β × γ) :=
  ⟨fun K F v x => ∃ a u z y, v = .ref a ∧ SqT K F a [u, z, y] ∧ R.r K F u x.1 ∧ S.r K F z x.2.1 ∧ T.r K F y x.2.2,
   fun s ⟨a, u, z, y, e, q, h, k, l⟩ => ⟨a, u, z, y, e, sqT_mono s q, R.mono s h, S.mono s k, T.mono s l⟩⟩
def rT4 {α β γ δ : Type} (R : Fz α) (S : Fz β) (T : Fz γ) (U : Fz δ) : Fz (α × β × γ × δ) :=
  ⟨fun K F v x => ∃ a u z y t, v = .ref a ∧ SqT K F a [u, z, y, t] ∧ R.r K F u x.1 ∧ S.r K F z x.2.1 ∧ T.r K F y x.2.2.1 ∧ U.r K F t x.2.2.2,
   fun s ⟨a, u, z, y, t, e, q, h, k, l, m⟩ => ⟨a, u, z, y, t, e, sqT_mono s q, R.mono s h, S.mono s k, T.mono s l, U.mono s m⟩⟩

/-! the symbolic environment -/
structure Cell where
  P : PySem.W.Frag → Wd → (Addr → Prop) → V → Prop
  loc : ∀ {K : PySem.W.Frag} {w w' : Wd} {A : Addr → Prop} {v : V}, Same w.F w'.F → (∀ a, A a → w'.H a = w.H a) → P K w A v → P K w' A v
def fz {α : Type} (R : Fz α) (x : α) : Cell := ⟨fun K w _ v => R.r K w.F v x, fun s _ h => R.mono s h⟩
def own {α : Type} (R : Fz α) (xs : List α) : Cell :=
  ⟨fun K w A v => ∃ p vs, v = .ref p ∧ A p ∧ w.H p = some (.lst vs) ∧ vs.length ≤ sizeLine ∧ Paired (R.r K w.F) vs xs,
   fun s hA ⟨p, vs, e, ap, h, l, q⟩ => ⟨p, vs, e, ap, by rw [hA p ap]; exact h, l, Paired.mp q fun _ _ h => R.mono s h⟩⟩
abbrev Gm := List (Option Cell)

structure EnvA (K : PySem.W.Frag) (b w : Wd) (σ : L2.St) (Γ : Gm) (A : Nat → Addr → Prop) : Prop where
  cells : ∀ (i : Nat) (c : Cell), Γ[i]? = some (some c) → ∃ v, σ[i]? = some (some v) ∧ c.P K w (A i) v
  sep : ∀ i j a, A i a → A j a → i = j
  mine : ∀ i a, A i a → w.F a = none ∧ (∃ o, w.H a = some o) ∧ b.H a = none
  base : Le b w
  len : σ.length = Γ.length
def EnvOk (K : PySem.W.Frag) (b w : Wd) (σ : L2.St) (Γ : Gm) : Prop := ∃ A, EnvA K b w σ Γ A

theorem EnvA.mono {K : PySem.W.Frag} {b w w' : Wd} {σ : L2.St} {Γ : Gm} {A : Nat → Addr → Prop} (h : EnvA K b w σ Γ A) (l : Le w w') : EnvA K b w' σ Γ A where
  cells := fun i c e => by
    obtain ⟨v, e1, q⟩ := h.cells i c e
    refine ⟨v, e1, c.loc l.f (fun a ha => ?_) q⟩
    obtain ⟨_, ⟨o, ho⟩, _⟩ := h.mine i a ha
    rw [ho]; exact l.h a o ho
  sep := h.sep
  mine := fun i a ha => by
    obtain ⟨h1, ⟨o, ho⟩, h3⟩ := h.mine i a ha
    exact ⟨l.new a o h1 ho, ⟨o, l.h a o ho⟩, h3⟩
  base := h.base.trans l
  len := h.len
theorem EnvOk.mono {K : PySem.W.Frag} {b w w' : Wd} {σ : L2.St} {Γ : Gm} (h : EnvOk K b w σ Γ) (l : Le w w') : EnvOk K b w' σ Γ := let ⟨A, h⟩ := h; ⟨A, h.mono l⟩
theorem EnvOk.base {K : PySem.W.Frag} {b w : Wd} {σ : L2.St} {Γ : Gm} (h : EnvOk K b w σ Γ) : Le b w := let ⟨_, h⟩ := h; h.base
theorem EnvOk.get {K : PySem.W.Frag} {b w : Wd} {σ : L2.St} {Γ : Gm} {i : Nat} {α : Type} {R : Fz α} {x : α} (h : EnvOk K b w σ Γ) (e : Γ[i]? = some (some (fz R x))) : ∃ v, σ[i]? = some (some v) ∧ R.r K w.F v x := by
  obtain ⟨A, h⟩ := h
  exact h.cells i _ e
theorem EnvOk.len {K : PySem.W.Frag} {b w : Wd} {σ : L2.St} {Γ : Gm} (h : EnvOk K b w σ Γ) : σ.length = Γ.length := let ⟨_, h⟩ := h; h.len
/-- a slot gets a value -/
theorem EnvOk.set {K : PySem.W.Frag} {b w : Wd} {σ : L2.St} {Γ : Gm} {i : Nat} {α : Type} {R : Fz α} {x : α} {v : V} (h : EnvOk K b w σ Γ) (q : R.r K w.F v x) : EnvOk K b w (σ.set i (some v)) (Γ.set i (some (fz R x))) := by
  obtain ⟨A, h⟩ := h
  refine ⟨fun j a => j ≠ i ∧ A j a, ⟨fun j c e => ?_, fun j k a ha hb => h.sep j k a ha.2 hb.2, fun j a ha => h.mine j a ha.2, h.base, by simp [h.len]⟩⟩
  by_cases hj : i = j
  · subst hj
    by_cases hi : i < Γ.length
    · rw [List.getElem?_set_self hi] at e
      have e := Option.some.inj (Option.some.inj e)
      subst e
      exact ⟨v, by rw [List.getElem?_set_self (by rw [h.len]; exact hi)], q⟩
    · rw [List.getElem?_eq_none (by simpa using hi)] at e; cases e
  · rw [List.getElem?_set_ne hj] at e
    obtain ⟨u, e1, p⟩ := h.cells j c e
    exact ⟨u, by rw [List.getElem?_set_ne hj]; exact e1, c.loc (Same.refl _) (fun _ _ => rfl) (by
      have : (fun a => j ≠ i ∧ A j a) = A j := by funext a; simp [Ne.symm hj]
      rw [this]; exact p)⟩
/-- a slot gets a new list that is its own -/
theorem EnvOk.setOwn {K : PySem.W.Frag} {b w w' : Wd} {σ : L2.St} {Γ : Gm} {i : Nat} {c : Cell} {p : Addr} {o : HO} (h : EnvOk K b w σ Γ) (l : Le w w') (hp : w.H p = none) (hF : w'.F p = none) (hH : w'.H p = some o)
    (q : c.P K w' (fun a => a = p) (.ref p)) : EnvOk K b w' (σ.set i (some (.ref p))) (Γ.set i (some c)) := by
  obtain ⟨A, h0⟩ := h
  have h := h0.mono l
  have np : ∀ j, ¬ A j p := fun j hj => by
    obtain ⟨_, ⟨o, ho⟩, _⟩ := h0.mine j p hj
    rw [hp] at ho; cases ho
  refine ⟨fun j a => (j ≠ i ∧ A j a) ∨ (j = i ∧ a = p), ⟨fun j c' e => ?_, fun j k a ha hb => ?_, fun j a ha => ?_, h.base, by simp [h.len]⟩⟩
  · by_cases hj : i = j
    · subst hj
      by_cases hi : i < Γ.length
      · rw [List.getElem?_set_self hi] at e
        have e := Option.some.inj (Option.some.inj e)
        subst e
        refine ⟨.ref p, by rw [List.getElem?_set_self (by rw [h.len]; exact hi)], ?_⟩
        have : (fun a => (i ≠ i ∧ A i a) ∨ (i = i ∧ a = p)) = (fun a => a = p) := by funext a; simp
        rw [this]; exact q
      · rw [List.getElem?_eq_none (by simpa using hi)] at e; cases e
    · rw [List.getElem?_set_ne hj] at e
      obtain ⟨u, e1, p'⟩ := h.cells j c' e
      refine ⟨u, by rw [List.getElem?_set_ne hj]; exact e1, ?_⟩
      have : (fun a => (j ≠ i ∧ A j a) ∨ (j = i ∧ a = p)) = A j := by funext a; simp [Ne.symm hj]
      rw [this]; exact p'
  · rcases ha with ⟨h1, h2⟩ | ⟨h1, h2⟩ <;> rcases hb with ⟨h3, h4⟩ | ⟨h3, h4⟩
    · exact h.sep j k a h2 h4
    · subst h4; exact absurd h2 (np j)
    · subst h2; exact absurd h4 (np k)
    · rw [h1, h3]
  · rcases ha with ⟨h1, h2⟩ | ⟨h1, h2⟩
    · exact h.mine j a h2
    · subst h2
      exact ⟨hF, ⟨o, hH⟩, none_back h0.base.h hp⟩
/-- slots forgotten -/
theorem EnvOk.sub {K : PySem.W.Frag} {b w : Wd} {σ : L2.St} {Γ Γ' : Gm} (h : EnvOk K b w σ Γ) (hl : Γ'.length = Γ.length) (e : ∀ (i : Nat) (c : Cell), Γ'[i]? = some (some c) → Γ[i]? = some (some c)) : EnvOk K b w σ Γ' := by
  obtain ⟨A, h⟩ := h
  exact ⟨A, ⟨fun i c q => h.cells i c (e i c q), h.sep, h.mine, h.base, by rw [h.len, hl]⟩⟩
def wipeE (Γ : Gm) : List Nat → Gm
  | [] => Γ
  | v :: vs => (wipeE Γ vs).set v none
theorem EnvOk.forget {K : PySem.W.Frag} {b w : Wd} {σ : L2.St} {Γ : Gm} {i : Nat} {s : Option V} (h : EnvOk K b w σ Γ) : EnvOk K b w (σ.set i s) (Γ.set i none) := by
  obtain ⟨A, h⟩ := h
  refine ⟨A, ⟨fun j c q => ?_, h.sep, h.mine, h.base, by simp [h.len]⟩⟩
  by_cases hj : i = j
  · subst hj
    by_cases hi : i < Γ.length
    · rw [List.getElem?_set_self hi] at q; cases q
    · rw [List.getElem?_eq_none (by simpa using hi)] at q; cases q
  · rw [List.getElem?_set_ne hj] at q
    rw [List.getElem?_set_ne hj]
    exact h.cells j c q
theorem EnvOk.wipe {K : PySem.W.Frag} {b w : Wd} {σ : L2.St} {Γ : Gm} (h : EnvOk K b w σ Γ) : ∀ vs : List Nat, EnvOk K b w (L2.wipe σ vs) (wipeE Γ vs)
  | [] => h
  | v :: vs => (EnvOk.wipe h vs).forget

/-! judgements -/
theorem PE.imp {X : Cx} {e : Expr} {t t' : TE} (h : PE X e t) (f : ∀ σ H Q, t' σ H Q → t σ H Q) : PE X e t' := ⟨fun pins s σ H Q I q => h.run pins s σ H Q I (f σ H Q q)⟩
theorem PT.imp {X : Cx} {e : Expr} {t t' : TT} (h : PT X e t) (f : ∀ σ H Q, t' σ H Q → t σ H Q) : PT X e t' := ⟨fun pins s σ H Q I q => h.run pins s σ H Q I (f σ H Q q)⟩
theorem PW.imp {X : Cx} {e : Expr} {t t' : TT} (h : PW X e t) (f : ∀ σ H Q, t' σ H Q → t σ H Q) : PW X e t' := ⟨fun wh pins s σ H Q I q => h.run wh pins s σ H Q I (f σ H Q q)⟩
theorem PA.imp {X : Cx} {es : List Expr} {t t' : TA} (h : PA X es t) (f : ∀ σ H Q, t' σ H Q → t σ H Q) : PA X es t' := ⟨fun pos pins s σ H Q I q => h.run pos pins s σ H Q I (f σ H Q q)⟩
theorem PS.imp {X : Cx} {st : Stmt} {t t' : TS} (h : PS X st t) (f : ∀ D σ H, t' D σ H → t D σ H) : PS X st t' := ⟨fun pins s σ H D I q => h.run pins s σ H D I (f D σ H q)⟩
theorem PSs.imp {X : Cx} {st : List Stmt} {t t' : TS} (h : PSs X st t) (f : ∀ D σ H, t' D σ H → t D σ H) : PSs X st t' := ⟨fun pins s σ H D I q => h.run pins s σ H D I (f D σ H q)⟩
theorem PI.imp {X : Cx} {tg it : Expr} {t t' : TI} (h : PI X tg it t) (f : ∀ σ H Q, t' σ H Q → t σ H Q) : PI X tg it t' := ⟨fun pins s σ H Q I q => h.run pins s σ H Q I (f σ H Q q)⟩
theorem PG.imp {X : Cx} {tg : Expr} {t t' : TG} (h : PG X tg t) (f : ∀ v σ H Q, t' v σ H Q → t v σ H Q) : PG X tg t' := ⟨fun pins s σ H v u Q I r q => h.run pins s σ H v u Q I r (f v σ H Q q)⟩
/-- a family -/
theorem PE.any {X : Cx} {e : Expr} {ι : Type} {t : ι → TE} (h : ∀ i, PE X e (t i)) : PE X e (fun σ H Q => ∃ i, t i σ H Q) := ⟨fun pins s σ H Q I ⟨i, q⟩ => (h i).run pins s σ H Q I q⟩
theorem PTs.any {X : Cx} {e : List Expr} {ι : Type} {t : ι → TT} (h : ∀ i, PTs X e (t i)) : PTs X e (fun σ H Q => ∃ i, t i σ H Q) := ⟨fun pins s σ H Q I ⟨i, q⟩ => (h i).run pins s σ H Q I q⟩
theorem PSs.any {X : Cx} {e : List Stmt} {ι : Type} {t : ι → TS} (h : ∀ i, PSs X e (t i)) : PSs X e (fun D σ H => ∃ i, t i D σ H) := ⟨fun pins s σ H D I ⟨i, q⟩ => (h i).run pins s σ H D I q⟩
theorem PT.any {X : Cx} {e : Expr} {ι : Type} {t : ι → TT} (h : ∀ i, PT X e (t i)) : PT X e (fun σ H Q => ∃ i, t i σ H Q) := ⟨fun pins s σ H Q I ⟨i, q⟩ => (h i).run pins s σ H Q I q⟩
theorem PI.any {X : Cx} {tg e : Expr} {ι : Type} {t : ι → TI} (h : ∀ i, PI X tg e (t i)) : PI X tg e (fun σ H Q => ∃ i, t i σ H Q) := ⟨fun pins s σ H Q I ⟨i, q⟩ => (h i).run pins s σ H Q I q⟩

/-- from the environment Γ a value v comes with what P says of it, of the world before and of the world behind -/
def tX (K : PySem.W.Frag) (Γ : Gm) (P : Wd → V → Wd → Prop) : TE := fun σ H Q => ∃ b w, w.H = H ∧ EnvOk K b w σ Γ ∧ ∀ v w', Le w w' → P w v w' → Q v w'.H
/-- a value that stands for x and never changes -/
def tE {α : Type} (K : PySem.W.Frag) (Γ : Gm) (R : Fz α) (x : α) : TE := tX K Γ fun _ v w' => R.r K w'.F v x
/-- a list or tuple to be read now -/
def SqB (K : PySem.W.Frag) {α : Type} (R : Fz α) (xs : List α) (v : V) (w : Wd) : Prop := ∃ a vs, v = .ref a ∧ (w.H a = some (.lst vs) ∨ SqT K w.H a vs) ∧ vs.length ≤ sizeLine ∧ Paired (R.r K w.F) vs xs
def tB {α : Type} (K : PySem.W.Frag) (Γ : Gm) (R : Fz α) (xs : List α) : TE := tX K Γ fun _ v w' => SqB K R xs v w'
/-- a list to be read now -/
def LsB (K : PySem.W.Frag) {α : Type} (R : Fz α) (xs : List α) (v : V) (w : Wd) : Prop := ∃ a vs, v = .ref a ∧ w.H a = some (.lst vs) ∧ vs.length ≤ sizeLine ∧ Paired (R.r K w.F) vs xs
def tL {α : Type} (K : PySem.W.Frag) (Γ : Gm) (R : Fz α) (xs : List α) : TE := tX K Γ fun _ v w' => LsB K R xs v w'
/-- a new list -/
def NwB (K : PySem.W.Frag) {α : Type} (R : Fz α) (xs : List α) (w : Wd) (v : V) (w' : Wd) : Prop := ∃ p vs, v = .ref p ∧ w.H p = none ∧ w'.F p = none ∧ w'.H p = some (.lst vs) ∧ vs.length ≤ sizeLine ∧ Paired (R.r K w'.F) vs xs
def tN {α : Type} (K : PySem.W.Frag) (Γ : Gm) (R : Fz α) (xs : List α) : TE := tX K Γ (NwB K R xs)
def tT (K : PySem.W.Frag) (Γ : Gm) (c : Bool) : TT := fun σ H Q => ∃ b w, w.H = H ∧ EnvOk K b w σ Γ ∧ ∀ w', Le w w' → Q c w'.H
/-- arguments -/
abbrev Arg := PySem.W.Frag → Wd → V → Prop
def aF {α : Type} (R : Fz α) (x : α) : Arg := fun K w v => R.r K w.F v x
def ArgsOk (K : PySem.W.Frag) (w : Wd) : List V → List Arg → Prop := Paired fun v a => a K w v
def tA (K : PySem.W.Frag) (Γ : Gm) (as : List Arg) : TA := fun σ H Q => ∃ b w, w.H = H ∧ EnvOk K b w σ Γ ∧ ∀ vs w', Le w w' → ArgsOk K w' vs as → Q vs w'.H

section
variable {X : Cx} {Γ : Gm} {α β γ : Type} {R : Fz α} {S : Fz β} {e : Expr}
theorem tX.imp {K : PySem.W.Frag} {P P' : Wd → V → Wd → Prop} (h : PE X e (tX K Γ P)) (f : ∀ w v w', Le w w' → P w v w' → P' w v w') : PE X e (tX K Γ P') :=
  PE.imp h fun σ H Q ⟨b, w, hw, ok, k⟩ => ⟨b, w, hw, ok, fun v w' l p => k v w' l (f w v w' l p)⟩
/-- the world behind may be changed on the way out -/
theorem tX.chg {K : PySem.W.Frag} {P P' : Wd → V → Wd → Prop} (h : PE X e (tX K Γ P)) (f : ∀ w v w', Le w w' → P w v w' → ∃ w'', w''.H = w'.H ∧ Le w w'' ∧ P' w v w'') : PE X e (tX K Γ P') :=
  PE.imp h fun σ H Q ⟨b, w, hw, ok, k⟩ => ⟨b, w, hw, ok, fun v w' l p => by
    obtain ⟨w'', e, l', p'⟩ := f w v w' l p
    rw [← e]; exact k v w'' l' p'⟩
/-- new, frozen at once -/
theorem e_fz {xs : List α} (h : PE X e (tN X.K Γ R xs)) : PE X e (tE X.K Γ (rLst R) xs) := tX.chg h fun w v w' l ⟨p, vs, e, h1, h2, h3, h4, h5⟩ => by
  refine ⟨w'.frz p _ h3, rfl, l.frz h1 h3, p, vs, e, upd_same, h4, Paired.mp h5 fun _ _ q => R.mono (same_new h2) q⟩
theorem e_LN {xs : List α} (h : PE X e (tN X.K Γ R xs)) : PE X e (tL X.K Γ R xs) := tX.imp h fun w v w' l ⟨p, vs, e, h1, h2, h3, h4, h5⟩ => ⟨p, vs, e, h3, h4, h5⟩
theorem e_LE {xs : List α} (h : PE X e (tE X.K Γ (rLst R) xs)) : PE X e (tL X.K Γ R xs) := tX.imp h fun w v w' l ⟨p, vs, e, h3, h4, h5⟩ => ⟨p, vs, e, w'.sub _ _ h3, h4, h5⟩
theorem e_BL {xs : List α} (h : PE X e (tL X.K Γ R xs)) : PE X e (tB X.K Γ R xs) := tX.imp h fun w v w' l ⟨p, vs, e, h3, h4, h5⟩ => ⟨p, vs, e, .inl h3, h4, h5⟩
theorem e_BN {xs : List α} (h : PE X e (tN X.K Γ R xs)) : PE X e (tB X.K Γ R xs) := e_BL (e_LN h)
theorem e_BE {xs : List α} (h : PE X e (tE X.K Γ (rLst R) xs)) : PE X e (tB X.K Γ R xs) := e_BL (e_LE h)
theorem e_BT {xs : List α} (h : PE X e (tE X.K Γ (rTup R) xs)) : PE X e (tB X.K Γ R xs) := tX.imp h fun w v w' l ⟨p, vs, e, h3, h4, h5⟩ => ⟨p, vs, e, .inr (sqT_mono w'.sub h3), h4, h5⟩
theorem e_some {x : α} (h : PE X e (tE X.K Γ R x)) : PE X e (tE X.K Γ (rOpt R) (some x)) := tX.imp h fun w v w' l q => .inr ⟨x, rfl, q⟩

/-! names and constants -/
theorem e_var {i : Nat} {x : Str} {pos : Pos} {v : α} (hv : PE X (.Name x pos) (tVar i)) (h : Γ[i]? = some (some (fz R v))) : PE X (.Name x pos) (tE X.K Γ R v) :=
  PE.imp hv fun σ H Q ⟨b, w, hw, ok, k⟩ => by
    obtain ⟨u, e1, q⟩ := ok.get h
    exact ⟨u, e1, by rw [← hw]; exact k u w (Le.refl w) q⟩
/-- a list of its own, read -/
theorem e_own {i : Nat} {x : Str} {pos : Pos} {xs : List α} (hv : PE X (.Name x pos) (tVar i)) (h : Γ[i]? = some (some (own R xs))) : PE X (.Name x pos) (tL X.K Γ R xs) :=
  PE.imp hv fun σ H Q ⟨b, w, hw, ⟨A, ok⟩, k⟩ => by
    obtain ⟨u, e1, p, vs, e2, hA, h3, h4, h5⟩ := ok.cells i _ h
    exact ⟨u, e1, by rw [← hw]; exact k u w (Le.refl w) ⟨p, vs, e2, h3, h4, h5⟩⟩
theorem e_c {v : V} {x : α} (hc : PE X e (tC v)) (q : ∀ F, R.r X.K F v x) : PE X e (tE X.K Γ R x) :=
  PE.imp hc fun σ H Q ⟨b, w, hw, ok, k⟩ => by
    show Q v H
    rw [← hw]; exact k v w (Le.refl w) (q _)
theorem e_int {i : Int} {j pos} : PE X (.Constant (.int i) j pos) (tE X.K Γ rInt i) := e_c pe_int fun _ => rfl
theorem e_bool {i : Bool} {j pos} : PE X (.Constant (.bool i) j pos) (tE X.K Γ rBool i) := e_c pe_bl fun _ => rfl
theorem e_str {i : Str} {j pos} : PE X (.Constant (.str i) j pos) (tE X.K Γ rStr i) := e_c pe_str fun _ => rfl
theorem e_non {j pos} : PE X (.Constant .none j pos) (tE X.K Γ (rOpt R) none) := e_c pe_non fun _ => .inl ⟨rfl, rfl⟩
theorem e_nonU {j pos} : PE X (.Constant .none j pos) (tE X.K Γ rNon ()) := e_c pe_non fun _ => rfl

/-! operators over two values -/
theorem e_op2 {a b : Expr} {ta tb : TE} {P1 P2 P3 : Wd → V → Wd → Prop} {r : R2} {t : TE} (ht : PE X e (tOp r (tX X.K Γ P1) (tX X.K Γ P2)))
    (h : ∀ w u w1 v w2 Q, Le w w1 → Le w1 w2 → P1 w u w1 → P2 w1 v w2 → (∀ z w3, Le w w3 → P3 w z w3 → Q z w3.H) → r u v w2.H Q) : PE X e (tX X.K Γ P3) :=
  PE.imp ht fun σ H Q ⟨b, w, hw, ok, k⟩ => ⟨b, w, hw, ok, fun u w1 l1 p1 => ⟨b, w1, rfl, ok.mono l1, fun v w2 l2 p2 => h w u w1 v w2 Q l1 l2 p1 p2 k⟩⟩
theorem e_opI {a b : Expr} {op : Operator} {pos : Pos} {C : Int → Int → Prop} {g : Int → Int → Int} {i j : Int} (ho : OpR X (binaryOp op) (rI C fun i j => .int (g i j))) (ha : PE X a (tE X.K Γ rInt i)) (hb : PE X b (tE X.K Γ rInt j)) (hc : C i j) :
    PE X (.BinOp a op b pos) (tE X.K Γ rInt (g i j)) :=
  e_op2 (ta := tE X.K Γ rInt i) (tb := tE X.K Γ rInt j) (t := tE X.K Γ rInt (g i j)) (a := a) (b := b) (pe_op ho ha hb) fun w u w1 v w2 Q l1 l2 p1 p2 k => ⟨i, j, p1, p2, hc, k _ w2 (l1.trans l2) rfl⟩
theorem e_opI0 {a b : Expr} {op : Operator} {pos : Pos} {g : Int → Int → Int} {i j : Int} (ho : OpR X (binaryOp op) (rI0 fun i j => .int (g i j))) (ha : PE X a (tE X.K Γ rInt i)) (hb : PE X b (tE X.K Γ rInt j)) :
    PE X (.BinOp a op b pos) (tE X.K Γ rInt (g i j)) :=
  e_op2 (ta := tE X.K Γ rInt i) (tb := tE X.K Γ rInt j) (t := tE X.K Γ rInt (g i j)) (a := a) (b := b) (pe_op ho ha hb) fun w u w1 v w2 Q l1 l2 p1 p2 k => ⟨i, j, p1, p2, k _ w2 (l1.trans l2) rfl⟩
theorem e_add {a b : Expr} {pos : Pos} {i j : Int} (ha : PE X a (tE X.K Γ rInt i)) (hb : PE X b (tE X.K Γ rInt j)) : PE X (.BinOp a .Add b pos) (tE X.K Γ rInt (i + j)) := e_opI0 (g := fun i j => i + j) op_add ha hb
theorem e_sub {a b : Expr} {pos : Pos} {i j : Int} (ha : PE X a (tE X.K Γ rInt i)) (hb : PE X b (tE X.K Γ rInt j)) : PE X (.BinOp a .Sub b pos) (tE X.K Γ rInt (i - j)) := e_opI0 (g := fun i j => i - j) op_sub ha hb
theorem e_mul {a b : Expr} {pos : Pos} {i j : Int} (ha : PE X a (tE X.K Γ rInt i)) (hb : PE X b (tE X.K Γ rInt j)) (h : CMul i j) : PE X (.BinOp a .Mult b pos) (tE X.K Γ rInt (i * j)) := e_opI (g := fun i j => i * j) op_mul ha hb h
theorem e_fdiv {a b : Expr} {pos : Pos} {i j : Int} (ha : PE X a (tE X.K Γ rInt i)) (hb : PE X b (tE X.K Γ rInt j)) (h : CDiv i j) : PE X (.BinOp a .FloorDiv b pos) (tE X.K Γ rInt (i / j)) := e_opI (g := fun i j => i / j) op_fdiv ha hb h
theorem e_mod {a b : Expr} {pos : Pos} {i j : Int} (ha : PE X a (tE X.K Γ rInt i)) (hb : PE X b (tE X.K Γ rInt j)) (h : 0 < j) : PE X (.BinOp a .Mod b pos) (tE X.K Γ rInt (i % j)) := e_opI (C := fun _ j => 0 < j) (g := fun i j => i % j) op_mod ha hb h
theorem e_pow {a b : Expr} {pos : Pos} {i j : Int} (ha : PE X a (tE X.K Γ rInt i)) (hb : PE X b (tE X.K Γ rInt j)) (h : CPow i j) : PE X (.BinOp a .Pow b pos) (tE X.K Γ rInt (i ^ j.toNat)) := e_opI (g := fun i j => i ^ j.toNat) op_pow ha hb h
theorem e_neg {a : Expr} {pos : Pos} {i : Int} (ha : PE X a (tE X.K Γ rInt i)) : PE X (.UnaryOp .USub a pos) (tE X.K Γ rInt (-i)) :=
  PE.imp (pe_un un_neg ha) fun σ H Q ⟨b, w, hw, ok, k⟩ => ⟨b, w, hw, ok, fun u w1 l1 p1 => ⟨i, p1, k _ w1 l1 rfl⟩⟩
end
end PZ

namespace PZ
open PySem PySem.Spec PyProof.Rows L2
section
variable {X : Cx} {Γ : Gm} {α β γ δ : Type} {R : Fz α} {S : Fz β} {T : Fz γ} {U : Fz δ} {e : Expr} {pos : Pos}

/-! tests -/
theorem t_val {c : Bool} (h : PE X e (tE X.K Γ rBool c)) (he : ∀ whole, isTrue e X.env whole = (do let v ← whole; standAt e.pos; holding [v] (truthy v)) := by intro _; rfl) : PT X e (tT X.K Γ c) :=
  PT.imp (pt_val h he) fun σ H Q ⟨b, w, hw, ok, k⟩ => ⟨b, w, hw, ok, fun v w' l q => ⟨c, q, k w' l⟩⟩
theorem t_not {c : Bool} (h : PT X e (tT X.K Γ c)) : PT X (.UnaryOp .Not e pos) (tT X.K Γ (!c)) :=
  PT.imp (pt_not h) fun σ H Q ⟨b, w, hw, ok, k⟩ => ⟨b, w, hw, ok, fun w' l => k w' l⟩
theorem w_and1 {c : Bool} (h : PT X e (tT X.K Γ c)) : PW X (.BoolOp .And [e] pos) (tT X.K Γ c) := pw_and1 h
theorem w_or1 {c : Bool} (h : PT X e (tT X.K Γ c)) : PW X (.BoolOp .Or [e] pos) (tT X.K Γ c) := pw_or1 h
theorem w_and {a b : Expr} {rest : List Expr} {c d : Bool} (ha : PT X a (tT X.K Γ c)) (hb : c = true → PW X (.BoolOp .And (b :: rest) pos) (tT X.K Γ d)) : PW X (.BoolOp .And (a :: b :: rest) pos) (tT X.K Γ (c && d)) := by
  cases c with
  | true => exact PW.imp (pw_and ha (hb rfl)) fun σ H Q ⟨b0, w, hw, ok, k⟩ => ⟨b0, w, hw, ok, fun w' l => iteT (⟨b0, w', rfl, ok.mono l, fun w2 l2 => k w2 (l.trans l2)⟩)⟩
  | false =>
    have : PW X (.BoolOp .And (b :: rest) pos) (fun _ _ _ => False) := ⟨fun _ _ _ _ _ _ _ h => h.elim⟩
    exact PW.imp (pw_and ha this) fun σ H Q ⟨b0, w, hw, ok, k⟩ => ⟨b0, w, hw, ok, fun w' l => iteF (k w' l)⟩
theorem w_or {a b : Expr} {rest : List Expr} {c d : Bool} (ha : PT X a (tT X.K Γ c)) (hb : c = false → PW X (.BoolOp .Or (b :: rest) pos) (tT X.K Γ d)) : PW X (.BoolOp .Or (a :: b :: rest) pos) (tT X.K Γ (c || d)) := by
  cases c with
  | false => exact PW.imp (pw_or ha (hb rfl)) fun σ H Q ⟨b0, w, hw, ok, k⟩ => ⟨b0, w, hw, ok, fun w' l => iteF (⟨b0, w', rfl, ok.mono l, fun w2 l2 => k w2 (l.trans l2)⟩)⟩
  | true =>
    have : PW X (.BoolOp .Or (b :: rest) pos) (fun _ _ _ => False) := ⟨fun _ _ _ _ _ _ _ h => h.elim⟩
    exact PW.imp (pw_or ha this) fun σ H Q ⟨b0, w, hw, ok, k⟩ => ⟨b0, w, hw, ok, fun w' l => iteT (k w' l)⟩
/-! as values, bools -/
theorem e_not {c : Bool} (h : PE X e (tE X.K Γ rBool c)) : PE X (.UnaryOp .Not e pos) (tE X.K Γ rBool (!c)) :=
  PE.imp (pe_not h) fun σ H Q ⟨b, w, hw, ok, k⟩ => ⟨b, w, hw, ok, fun v w' l q => ⟨c, q, k _ w' l rfl⟩⟩
theorem e_one {op : BoolOp} {x : α} (h : PE X e (tE X.K Γ R x)) : PE X (.BoolOp op [e] pos) (tE X.K Γ R x) := pe_one h
theorem e_and {a b : Expr} {rest : List Expr} {c d : Bool} (ha : PE X a (tE X.K Γ rBool c)) (hb : c = true → PE X (.BoolOp .And (b :: rest) pos) (tE X.K Γ rBool d)) : PE X (.BoolOp .And (a :: b :: rest) pos) (tE X.K Γ rBool (c && d)) := by
  cases c with
  | true => exact PE.imp (pe_and ha (hb rfl)) fun σ H Q ⟨b0, w, hw, ok, k⟩ => ⟨b0, w, hw, ok, fun v w' l q => ⟨true, q, iteT ⟨b0, w', rfl, ok.mono l, fun v w2 l2 q => k v w2 (l.trans l2) q⟩⟩⟩
  | false =>
    have : PE X (.BoolOp .And (b :: rest) pos) (fun _ _ _ => False) := ⟨fun _ _ _ _ _ _ h => h.elim⟩
    exact PE.imp (pe_and ha this) fun σ H Q ⟨b0, w, hw, ok, k⟩ => ⟨b0, w, hw, ok, fun v w' l q => ⟨false, q, iteF (k _ w' l rfl)⟩⟩
theorem e_or {a b : Expr} {rest : List Expr} {c d : Bool} (ha : PE X a (tE X.K Γ rBool c)) (hb : c = false → PE X (.BoolOp .Or (b :: rest) pos) (tE X.K Γ rBool d)) : PE X (.BoolOp .Or (a :: b :: rest) pos) (tE X.K Γ rBool (c || d)) := by
  cases c with
  | false => exact PE.imp (pe_or ha (hb rfl)) fun σ H Q ⟨b0, w, hw, ok, k⟩ => ⟨b0, w, hw, ok, fun v w' l q => ⟨false, q, iteF ⟨b0, w', rfl, ok.mono l, fun v w2 l2 q => k v w2 (l.trans l2) q⟩⟩⟩
  | true =>
    have : PE X (.BoolOp .Or (b :: rest) pos) (fun _ _ _ => False) := ⟨fun _ _ _ _ _ _ h => h.elim⟩
    exact PE.imp (pe_or ha this) fun σ H Q ⟨b0, w, hw, ok, k⟩ => ⟨b0, w, hw, ok, fun v w' l q => ⟨true, q, iteT (k _ w' l rfl)⟩⟩
/-- x if c else y -/
theorem e_if {c a b : Expr} {t : Bool} {x y : α} (hc : PT X c (tT X.K Γ t)) (ha : t = true → PE X a (tE X.K Γ R x)) (hb : t = false → PE X b (tE X.K Γ R y)) : PE X (.IfExp c a b pos) (tE X.K Γ R (if t then x else y)) := by
  cases t with
  | true =>
    have : PE X b (fun _ _ _ => False) := ⟨fun _ _ _ _ _ _ h => h.elim⟩
    exact PE.imp (pe_ifExp hc (ha rfl) this) fun σ H Q ⟨b0, w, hw, ok, k⟩ => ⟨b0, w, hw, ok, fun w' l => iteT (⟨b0, w', rfl, ok.mono l, fun v w2 l2 q => k v w2 (l.trans l2) q⟩)⟩
  | false =>
    have : PE X a (fun _ _ _ => False) := ⟨fun _ _ _ _ _ _ h => h.elim⟩
    exact PE.imp (pe_ifExp hc this (hb rfl)) fun σ H Q ⟨b0, w, hw, ok, k⟩ => ⟨b0, w, hw, ok, fun w' l => iteF (⟨b0, w', rfl, ok.mono l, fun v w2 l2 q => k v w2 (l.trans l2) q⟩)⟩

/-! comparisons of ints -/
theorem e_cmpI {a b : Expr} {op : CmpOp} {p : Int → Int → Bool} {i j : Int} (ho : OpR X (compareOp op) (rI0 fun i j => .bl (p i j))) (ha : PE X a (tE X.K Γ rInt i)) (hb : PE X b (tE X.K Γ rInt j)) (hm : behindInMarks op b = false) :
    PE X (.Compare a [op] [b] pos) (tE X.K Γ rBool (p i j)) :=
  e_op2 (ta := tE X.K Γ rInt i) (tb := tE X.K Γ rInt j) (t := tE X.K Γ rInt i) (a := a) (b := b) (pe_cmpR ho ha hb hm) fun w u w1 v w2 Q l1 l2 p1 p2 k => ⟨i, j, p1, p2, k _ w2 (l1.trans l2) rfl⟩
theorem e_lt {a b : Expr} {i j : Int} (ha : PE X a (tE X.K Γ rInt i)) (hb : PE X b (tE X.K Γ rInt j)) : PE X (.Compare a [.Lt] [b] pos) (tE X.K Γ rBool (decide (i < j))) := e_cmpI (p := fun i j => decide (i < j)) op_lt ha hb (nomark _)
theorem e_le {a b : Expr} {i j : Int} (ha : PE X a (tE X.K Γ rInt i)) (hb : PE X b (tE X.K Γ rInt j)) : PE X (.Compare a [.LtE] [b] pos) (tE X.K Γ rBool (decide (i ≤ j))) := e_cmpI (p := fun i j => decide (i ≤ j)) op_le ha hb (nomark _)
theorem e_gt {a b : Expr} {i j : Int} (ha : PE X a (tE X.K Γ rInt i)) (hb : PE X b (tE X.K Γ rInt j)) : PE X (.Compare a [.Gt] [b] pos) (tE X.K Γ rBool (decide (j < i))) := e_cmpI (p := fun i j => decide (j < i)) op_gt ha hb (nomark _)
theorem e_ge {a b : Expr} {i j : Int} (ha : PE X a (tE X.K Γ rInt i)) (hb : PE X b (tE X.K Γ rInt j)) : PE X (.Compare a [.GtE] [b] pos) (tE X.K Γ rBool (decide (j ≤ i))) := e_cmpI (p := fun i j => decide (j ≤ i)) op_ge ha hb (nomark _)
/-- what is compared by == as a value is -/
structure Scal {α : Type} (R : Fz α) [DecidableEq α] : Prop where
  eq : ∀ {K F v u x y}, R.r K F v x → R.r K F u y → scal v u = true ∧ decide (v = u) = decide (x = y)
theorem scal_int : Scal rInt := ⟨fun {K F v u x y} h k => by cases h; cases k; exact ⟨rfl, by simp⟩⟩
theorem scal_str : Scal rStr := ⟨fun {K F v u x y} h k => by cases h; cases k; exact ⟨rfl, by simp⟩⟩
theorem scal_bool : Scal rBool := ⟨fun {K F v u x y} h k => by cases h; cases k; exact ⟨rfl, by simp⟩⟩
theorem e_eqS [DecidableEq α] {a b : Expr} {x y : α} (s : Scal R) (ha : PE X a (tE X.K Γ R x)) (hb : PE X b (tE X.K Γ R y)) : PE X (.Compare a [.Eq] [b] pos) (tE X.K Γ rBool (decide (x = y))) :=
  e_op2 (ta := tE X.K Γ R x) (tb := tE X.K Γ R y) (t := tE X.K Γ R x) (a := a) (b := b) (pe_cmpR op_eq ha hb (nomark _)) fun w u w1 v w2 Q l1 l2 p1 p2 k => by
    obtain ⟨h1, h2⟩ := s.eq (R.mono l2.f p1) p2
    exact ⟨h1, k _ w2 (l1.trans l2) (by rw [h2]; rfl)⟩
theorem e_neS [DecidableEq α] {a b : Expr} {x y : α} (s : Scal R) (ha : PE X a (tE X.K Γ R x)) (hb : PE X b (tE X.K Γ R y)) : PE X (.Compare a [.NotEq] [b] pos) (tE X.K Γ rBool (!decide (x = y))) :=
  e_op2 (ta := tE X.K Γ R x) (tb := tE X.K Γ R y) (t := tE X.K Γ R x) (a := a) (b := b) (pe_cmpR op_ne ha hb (nomark _)) fun w u w1 v w2 Q l1 l2 p1 p2 k => by
    obtain ⟨h1, h2⟩ := s.eq (R.mono l2.f p1) p2
    exact ⟨h1, k _ w2 (l1.trans l2) (by rw [h2]; rfl)⟩

/-! arguments -/
theorem a_nil : PA X [] (tA X.K Γ []) := PA.imp pa_nil fun σ H Q ⟨b, w, hw, ok, k⟩ => by
  show Q [] H
  rw [← hw]; exact k [] w (Le.refl w) .nil
/-- an argument is what it says as long as worlds grow -/
structure Keeps (a : Arg) : Prop where
  mono : ∀ {K w w' v}, Le w w' → a K w v → a K w' v
theorem keeps_aF {x : α} : Keeps (aF R x) := ⟨fun l h => R.mono l.f h⟩
def aL {α : Type} (R : Fz α) (xs : List α) : Arg := fun K w v => LsB K R xs v w
def aB {α : Type} (R : Fz α) (xs : List α) : Arg := fun K w v => SqB K R xs v w
theorem keeps_aL {xs : List α} : Keeps (aL R xs) := ⟨fun l ⟨p, vs, e, h, n, q⟩ => ⟨p, vs, e, l.h _ _ h, n, Paired.mp q fun _ _ h => R.mono l.f h⟩⟩
theorem keeps_aB {xs : List α} : Keeps (aB R xs) := ⟨fun l ⟨p, vs, e, h, n, q⟩ => ⟨p, vs, e, h.elim (fun h => .inl (l.h _ _ h)) (fun h => .inr (sqT_mono l.h h)), n, Paired.mp q fun _ _ h => R.mono l.f h⟩⟩
theorem a_consG {es : List Expr} {a : Arg} {as : List Arg} (ka : Keeps a) (he : PE X e (tX X.K Γ fun _ v w' => a X.K w' v)) (h : PA X es (tA X.K Γ as)) (hs : starEach (e :: es) X.env = (false, eval e X.env) :: starEach es X.env := by rfl) : PA X (e :: es) (tA X.K Γ (a :: as)) :=
  PA.imp (pa_cons he h hs) fun σ H Q ⟨b, w, hw, ok, k⟩ => ⟨b, w, hw, ok, fun v w' l q => ⟨b, w', rfl, ok.mono l, fun vs w2 l2 qs => k _ w2 (l.trans l2) (.cons (ka.mono l2 q) qs)⟩⟩
theorem a_cons {es : List Expr} {x : α} {as : List Arg} (he : PE X e (tE X.K Γ R x)) (h : PA X es (tA X.K Γ as)) (hs : starEach (e :: es) X.env = (false, eval e X.env) :: starEach es X.env := by rfl) : PA X (e :: es) (tA X.K Γ (aF R x :: as)) :=
  a_consG keeps_aF he h hs
/-- arguments of one kind -/
def tH {α : Type} (K : PySem.W.Frag) (Γ : Gm) (R : Fz α) (xs : List α) : TA := fun σ H Q => ∃ b w, w.H = H ∧ EnvOk K b w σ Γ ∧ ∀ vs w', Le w w' → Paired (R.r K w'.F) vs xs → Q vs w'.H
theorem h_nil : PA X [] (tH X.K Γ R []) := PA.imp pa_nil fun σ H Q ⟨b, w, hw, ok, k⟩ => by
  show Q [] H
  rw [← hw]; exact k [] w (Le.refl w) .nil
theorem h_cons {es : List Expr} {x : α} {xs : List α} (he : PE X e (tE X.K Γ R x)) (h : PA X es (tH X.K Γ R xs)) (hs : starEach (e :: es) X.env = (false, eval e X.env) :: starEach es X.env := by rfl) : PA X (e :: es) (tH X.K Γ R (x :: xs)) :=
  PA.imp (pa_cons he h hs) fun σ H Q ⟨b, w, hw, ok, k⟩ => ⟨b, w, hw, ok, fun v w' l q => ⟨b, w', rfl, ok.mono l, fun vs w2 l2 qs => k _ w2 (l.trans l2) (.cons (R.mono l2.f q) qs)⟩⟩
theorem paired_len {α β : Type} {F : α → β → Prop} : ∀ {l₁ : List α} {l₂ : List β}, Paired F l₁ l₂ → l₁.length = l₂.length
  | _, _, .nil => rfl
  | _, _, .cons _ t => congrArg (· + 1) (paired_len t)

/-! displays -/
theorem e_tupH {es : List Expr} {xs : List α} {k : Nat} (h : PA X es (tH X.K Γ R xs)) (hz : xs.length ≤ 1000 := by first | exact Nat.zero_le _ | decide | (simp; done)) : PE X (.Tuple es k pos) (tE X.K Γ (rTup R) xs) :=
  PE.imp (pe_tup h) fun σ H Q ⟨b, w, hw, ok, k⟩ => ⟨b, w, hw, ok, fun vs w' l q => by
    have hz' : vs.length ≤ sizeLine := by rw [paired_len q]; exact Nat.le_of_lt (small1000 hz)
    refine ⟨hz', fun p hp => ?_⟩
    refine k _ (w'.newF p (.tup vs) hp) (l.trans (w'.le_newF p _ hp)) ⟨p, vs, rfl, SqT.of upd_same, hz', Paired.mp q fun _ _ h => R.mono (w'.le_newF p (.tup vs) hp).f h⟩⟩
theorem e_lstH {es : List Expr} {xs : List α} (h : PA X es (tH X.K Γ R xs)) (hz : xs.length ≤ 1000 := by first | exact Nat.zero_le _ | decide | (simp; done)) : PE X (.List es pos) (tN X.K Γ R xs) :=
  PE.imp (pe_lst h) fun σ H Q ⟨b, w, hw, ok, k⟩ => ⟨b, w, hw, ok, fun vs w' l q => by
    have hz' : vs.length ≤ sizeLine := by rw [paired_len q]; exact Nat.le_of_lt (small1000 hz)
    refine ⟨hz', fun p hp => ?_⟩
    have l2 := w'.le_newM p (.lst vs) hp
    refine k _ (w'.newM p (.lst vs) hp) (l.trans l2) ⟨p, vs, rfl, none_back l.h hp, none_back w'.sub hp, upd_same, hz', Paired.mp q fun _ _ h => R.mono l2.f h⟩⟩
theorem e_pr {a b : Expr} {x : α} {y : β} {k : Nat} (h : PA X [a, b] (tA X.K Γ [aF R x, aF S y])) : PE X (.Tuple [a, b] k pos) (tE X.K Γ (rPr R S) (x, y)) :=
  PE.imp (pe_tup h) fun σ H Q ⟨b, w, hw, ok, k⟩ => ⟨b, w, hw, ok, fun vs w' l q => by
    cases q with
    | @cons u _ us _ q1 q => cases q with
      | @cons z _ us _ q2 q => cases q with
        | nil =>
          refine ⟨by show 2 ≤ sizeLine; decide, fun p hp => ?_⟩
          have l2 := w'.le_newF p (.tup [u, z]) hp
          exact k _ _ (l.trans l2) ⟨p, _, _, rfl, SqT.of upd_same, R.mono l2.f q1, S.mono l2.f q2⟩⟩
theorem e_t3 {a b c : Expr} {x : α} {y : β} {z : γ} {k : Nat} (h : PA X [a, b, c] (tA X.K Γ [aF R x, aF S y, aF T z])) : PE X (.Tuple [a, b, c] k pos) (tE X.K Γ (rT3 R S T) (x, y, z)) :=
  PE.imp (pe_tup h) fun σ H Q ⟨b, w, hw, ok, k⟩ => ⟨b, w, hw, ok, fun vs w' l q => by
    cases q with
    | @cons u1 _ us _ q1 q => cases q with
      | @cons u2 _ us _ q2 q => cases q with
        | @cons u3 _ us _ q3 q => cases q with
          | nil =>
            refine ⟨by show 3 ≤ sizeLine; decide, fun p hp => ?_⟩
            have l2 := w'.le_newF p (.tup [u1, u2, u3]) hp
            exact k _ _ (l.trans l2) ⟨p, _, _, _, rfl, SqT.of upd_same, R.mono l2.f q1, S.mono l2.f q2, T.mono l2.f q3⟩⟩
theorem e_t4 {a b c d : Expr} {x : α} {y : β} {z : γ} {u : δ} {k : Nat} (h : PA X [a, b, c, d] (tA X.K Γ [aF R x, aF S y, aF T z, aF U u])) : PE X (.Tuple [a, b, c, d] k pos) (tE X.K Γ (rT4 R S T U) (x, y, z, u)) :=
  PE.imp (pe_tup h) fun σ H Q ⟨b, w, hw, ok, k⟩ => ⟨b, w, hw, ok, fun vs w' l q => by
    cases q with
    | @cons u1 _ us _ q1 q => cases q with
      | @cons u2 _ us _ q2 q => cases q with
        | @cons u3 _ us _ q3 q => cases q with
          | @cons u4 _ us _ q4 q => cases q with
            | nil =>
              refine ⟨by show 4 ≤ sizeLine; decide, fun p hp => ?_⟩
              have l2 := w'.le_newF p (.tup [u1, u2, u3, u4]) hp
              exact k _ _ (l.trans l2) ⟨p, _, _, _, _, rfl, SqT.of upd_same, R.mono l2.f q1, S.mono l2.f q2, T.mono l2.f q3, U.mono l2.f q4⟩⟩

/-! items -/
def ix {α : Type} [Inhabited α] (xs : List α) (i : Int) : α := (atI xs i).getD default
theorem ixN_some {n : Nat} {i : Int} (h : -(n : Int) ≤ i ∧ i < n) : ∃ j, ixN n i = some j ∧ j < n := by
  unfold ixN
  by_cases h0 : 0 ≤ i
  · rw [if_pos h0, if_pos h.2]; exact ⟨_, rfl, by omega⟩
  · rw [if_neg h0, if_pos h.1]; exact ⟨_, rfl, by omega⟩
theorem atI_ix {α : Type} [Inhabited α] {xs : List α} {i : Int} (h : -(xs.length : Int) ≤ i ∧ i < xs.length) : atI xs i = some (ix xs i) := by
  obtain ⟨j, e, hj⟩ := ixN_some h
  unfold ix atI
  rw [e]; simp [hj]
theorem atI_paired {F : V → α → Prop} {vs : List V} {xs : List α} {i : Int} {x : α} (q : Paired F vs xs) (h : atI xs i = some x) : ∃ v, atI vs i = some v ∧ F v x := by
  unfold atI at h ⊢
  rw [paired_len q]
  cases e : ixN xs.length i with
  | none => rw [e] at h; cases h
  | some j =>
    rw [e] at h
    have h : xs[j]? = some x := h
    obtain ⟨hj, e2⟩ := List.getElem?_eq_some_iff.mp h
    obtain ⟨v, e3, f⟩ := Paired.at j hj q
    exact ⟨v, e3, by rw [← e2]; exact f⟩
theorem e_ixG {a b : Expr} {xs : List α} {i : Int} {x : α} (ha : PE X a (tB X.K Γ R xs)) (hb : PE X b (tE X.K Γ rInt i)) (h : atI xs i = some x) (hs : PlainIx b := by exact fun _ _ => rfl) : PE X (.Subscript a b pos) (tE X.K Γ R x) :=
  e_op2 (ta := tB X.K Γ R xs) (tb := tE X.K Γ rInt i) (t := tE X.K Γ R x) (a := a) (b := b) (pe_ix (ix_list.or ix_tup) ha hb hs) fun w u w1 v w2 Q l1 l2 ⟨p, vs, e, p1, n, q⟩ p2 k => by
    obtain ⟨z, ez, fz⟩ := atI_paired q h
    subst e
    rcases p1 with p1 | p1
    · exact .inl ⟨p, vs, i, z, rfl, p2, SqL.of (l2.h _ _ p1), ez, k z w2 (l1.trans l2) (R.mono l2.f fz)⟩
    · exact .inr ⟨p, vs, i, z, rfl, p2, sqT_mono l2.h p1, ez, k z w2 (l1.trans l2) (R.mono l2.f fz)⟩
theorem e_ix [Inhabited α] {a b : Expr} {xs : List α} {i : Int} (ha : PE X a (tB X.K Γ R xs)) (hb : PE X b (tE X.K Γ rInt i)) (h : -(xs.length : Int) ≤ i ∧ i < xs.length) (hs : PlainIx b := by exact fun _ _ => rfl) : PE X (.Subscript a b pos) (tE X.K Γ R (ix xs i)) :=
  e_ixG ha hb (atI_ix h) hs
theorem e_scr {a b : Expr} {xs : List Int} {i : Int} (ha : PE X a (tE X.K Γ rScr xs)) (hb : PE X b (tE X.K Γ rInt i)) (h : -(xs.length : Int) ≤ i ∧ i < xs.length) (hs : PlainIx b := by exact fun _ _ => rfl) : PE X (.Subscript a b pos) (tE X.K Γ rInt (ix xs i)) :=
  e_op2 (ta := tE X.K Γ rScr xs) (tb := tE X.K Γ rInt i) (t := tE X.K Γ rScr xs) (a := a) (b := b) (pe_ix ix_list ha hb hs) fun w u w1 v w2 Q l1 l2 ⟨p, e, q, n⟩ p2 k => by
    subst e
    refine ⟨p, xs.map V.int, i, .int (ix xs i), rfl, p2, sqL_mono (l2.f.trans w2.sub) q, ?_, k _ w2 (l1.trans l2) rfl⟩
    unfold atI
    obtain ⟨j, e, hj⟩ := ixN_some h
    have := atI_ix h
    unfold atI at this
    rw [e] at this
    rw [List.length_map, e]
    show (xs.map V.int)[j]? = _
    rw [List.getElem?_map]
    have : xs[j]? = some (ix xs i) := this
    rw [this]; rfl
/-- an item of a tuple of two, three, four -/
theorem e_p0 {a b : Expr} {x : α × β} {i : Int} (ha : PE X a (tE X.K Γ (rPr R S) x)) (hb : PE X b (tE X.K Γ rInt i)) (h : i = 0 ∨ i = -2) (hs : PlainIx b := by exact fun _ _ => rfl) : PE X (.Subscript a b pos) (tE X.K Γ R x.1) :=
  e_op2 (ta := tE X.K Γ (rPr R S) x) (tb := tE X.K Γ rInt i) (t := tE X.K Γ rInt i) (a := a) (b := b) (pe_ix ix_tup ha hb hs) fun w u w1 v w2 Q l1 l2 ⟨p, y, z, e, q, q1, q2⟩ p2 k => by
    rcases h with rfl | rfl <;> exact ⟨p, [y, z], _, y, e, p2, sqT_mono (l2.f.trans w2.sub) q, rfl, k _ w2 (l1.trans l2) (R.mono l2.f q1)⟩
theorem e_p1 {a b : Expr} {x : α × β} {i : Int} (ha : PE X a (tE X.K Γ (rPr R S) x)) (hb : PE X b (tE X.K Γ rInt i)) (h : i = 1 ∨ i = -1) (hs : PlainIx b := by exact fun _ _ => rfl) : PE X (.Subscript a b pos) (tE X.K Γ S x.2) :=
  e_op2 (ta := tE X.K Γ (rPr R S) x) (tb := tE X.K Γ rInt i) (t := tE X.K Γ rInt i) (a := a) (b := b) (pe_ix ix_tup ha hb hs) fun w u w1 v w2 Q l1 l2 ⟨p, y, z, e, q, q1, q2⟩ p2 k => by
    rcases h with rfl | rfl <;> exact ⟨p, [y, z], _, z, e, p2, sqT_mono (l2.f.trans w2.sub) q, rfl, k _ w2 (l1.trans l2) (S.mono l2.f q2)⟩
end
end PZ

namespace PZ
open PySem PySem.Spec PyProof.Rows L2

/-! what is walked -/
structure ItOk (K : PySem.W.Frag) {α : Type} (R : Fz α) (xs : List α) (J : It) (st : Wd → Prop) : Prop where
  go : ∀ w, st w → ∀ i, i < xs.length → J.go i w.H
  yld : ∀ w, st w → ∀ i, (h : i < xs.length) → ∀ v H', J.yld i w.H v H' → ∃ w', w'.H = H' ∧ Le w w' ∧ R.r K w'.F v xs[i]
  stop : ∀ w, st w → ∀ i, xs.length ≤ i → J.stop i w.H
  le : ∀ w w', st w → Le w w' → st w'
/-- for a comprehension -/
def tI {α : Type} (K : PySem.W.Frag) (Γ : Gm) (R : Fz α) (xs : List α) : TI := fun σ H Rk => ∃ b w, w.H = H ∧ EnvOk K b w σ Γ ∧ ∀ J st w', Le w w' → ItOk K R xs J st → st w' → xs.length ≤ sizeLine → Rk J w'.H
/-- for a loop -/
def tIF {α : Type} (K : PySem.W.Frag) (Γ : Gm) (R : Fz α) (xs : List α) : TI := fun σ H Rk => ∃ b w, w.H = H ∧ EnvOk K b w σ Γ ∧ ∀ J st w', Le w w' → ItOk K R xs J st → st w' → (∀ w2 w3, st w2 → Same w2.F w3.F → st w3) → Rk J w'.H
section
variable {X : Cx} {Γ : Gm} {α β γ δ ρ : Type} {R : Fz α} {S : Fz β} {T : Fz γ} {U : Fz δ} {Q : Fz ρ} {e tg : Expr} {pos : Pos}
theorem i_of {xs : List α} (h : PI X tg e (tIF X.K Γ R xs)) (hz : xs.length ≤ sizeLine) : PI X tg e (tI X.K Γ R xs) :=
  PI.imp h fun σ H Rk ⟨b, w, hw, ok, k⟩ => ⟨b, w, hw, ok, fun J st w' l io s _ => k J st w' l io s hz⟩

theorem itl_ok {K : PySem.W.Frag} {a : Addr} {vs : List V} {xs : List α} {st : Wd → Prop} (hst : ∀ w, st w → SqL K w.H a vs ∧ Paired (R.r K w.F) vs xs) (hle : ∀ w w', st w → Le w w' → st w') : ItOk K R xs (Itl K a) st where
  go := fun w s i hi => by
    obtain ⟨h, p⟩ := hst w s
    obtain ⟨v, e, _⟩ := Paired.at i hi p
    exact ⟨vs, v, h, e⟩
  yld := fun w s i hi v H' y => by
    obtain ⟨h, p⟩ := hst w s
    obtain ⟨e, y⟩ := y
    obtain ⟨u, e2, r⟩ := Paired.at i hi p
    have := (y vs h).symm.trans e2
    exact ⟨w, e.symm, Le.refl w, by rw [Option.some.inj this]; exact r⟩
  stop := fun w s i hi => by
    obtain ⟨h, p⟩ := hst w s
    exact ⟨vs, h, by rw [paired_len p]; exact hi⟩
  le := hle
theorem itt_ok {K : PySem.W.Frag} {a : Addr} {vs : List V} {xs : List α} {st : Wd → Prop} (hst : ∀ w, st w → SqT K w.H a vs ∧ Paired (R.r K w.F) vs xs) (hle : ∀ w w', st w → Le w w' → st w') : ItOk K R xs (Itt K a) st where
  go := fun w s i hi => by
    obtain ⟨h, p⟩ := hst w s
    obtain ⟨v, e, _⟩ := Paired.at i hi p
    exact ⟨vs, v, h, e⟩
  yld := fun w s i hi v H' y => by
    obtain ⟨h, p⟩ := hst w s
    obtain ⟨e, y⟩ := y
    obtain ⟨u, e2, r⟩ := Paired.at i hi p
    have := (y vs h).symm.trans e2
    exact ⟨w, e.symm, Le.refl w, by rw [Option.some.inj this]; exact r⟩
  stop := fun w s i hi => by
    obtain ⟨h, p⟩ := hst w s
    exact ⟨vs, h, by rw [paired_len p]; exact hi⟩
  le := hle
/-- a frozen list -/
theorem f_lst {xs : List α} (h : PE X e (tE X.K Γ (rLst R) xs)) : PI X tg e (tIF X.K Γ R xs) :=
  PI.imp (pi_list h) fun σ H Rk ⟨b, w, hw, ok, k⟩ => ⟨b, w, hw, ok, fun v w' l ⟨a, vs, e, h1, h2, h3⟩ =>
    ⟨a, e, ⟨vs, SqL.of (w'.sub _ _ h1)⟩, k _ (fun w2 => w2.F a = some (.lst vs) ∧ Paired (R.r X.K w2.F) vs xs) w' l
      (itl_ok (fun w2 ⟨q1, q2⟩ => ⟨SqL.of (w2.sub _ _ q1), q2⟩) fun w2 w3 ⟨q1, q2⟩ l => ⟨l.f _ _ q1, Paired.mp q2 fun _ _ h => R.mono l.f h⟩) ⟨h1, h3⟩ fun w2 w3 ⟨q1, q2⟩ s => ⟨s _ _ q1, Paired.mp q2 fun _ _ h => R.mono s h⟩⟩⟩
theorem f_tup {xs : List α} (h : PE X e (tE X.K Γ (rTup R) xs)) : PI X tg e (tIF X.K Γ R xs) :=
  PI.imp (pi_tup h) fun σ H Rk ⟨b, w, hw, ok, k⟩ => ⟨b, w, hw, ok, fun v w' l ⟨a, vs, e, h1, h2, h3⟩ =>
    ⟨a, e, ⟨vs, sqT_mono w'.sub h1⟩, k _ (fun w2 => SqT X.K w2.F a vs ∧ Paired (R.r X.K w2.F) vs xs) w' l
      (itt_ok (fun w2 ⟨q1, q2⟩ => ⟨sqT_mono w2.sub q1, q2⟩) fun w2 w3 ⟨q1, q2⟩ l => ⟨sqT_mono l.f q1, Paired.mp q2 fun _ _ h => R.mono l.f h⟩) ⟨h1, h3⟩ fun w2 w3 ⟨q1, q2⟩ s => ⟨sqT_mono s q1, Paired.mp q2 fun _ _ h => R.mono s h⟩⟩⟩
/-- a list that stands now -/
theorem i_lst {xs : List α} (h : PE X e (tL X.K Γ R xs)) : PI X tg e (tI X.K Γ R xs) :=
  PI.imp (pi_list h) fun σ H Rk ⟨b, w, hw, ok, k⟩ => ⟨b, w, hw, ok, fun v w' l ⟨a, vs, e, h1, h2, h3⟩ =>
    ⟨a, e, ⟨vs, SqL.of h1⟩, k _ (fun w2 => w2.H a = some (.lst vs) ∧ Paired (R.r X.K w2.F) vs xs) w' l
      (itl_ok (fun w2 ⟨q1, q2⟩ => ⟨SqL.of q1, q2⟩) fun w2 w3 ⟨q1, q2⟩ l => ⟨l.h _ _ q1, Paired.mp q2 fun _ _ h => R.mono l.f h⟩) ⟨h1, h3⟩ (by rw [← paired_len h3]; exact h2)⟩⟩
theorem i_tup {xs : List α} (h : PE X e (tE X.K Γ (rTup R) xs)) : PI X tg e (tI X.K Γ R xs) :=
  PI.imp (pi_tup h) fun σ H Rk ⟨b, w, hw, ok, k⟩ => ⟨b, w, hw, ok, fun v w' l ⟨a, vs, e, h1, h2, h3⟩ =>
    ⟨a, e, ⟨vs, sqT_mono w'.sub h1⟩, k _ (fun w2 => SqT X.K w2.F a vs ∧ Paired (R.r X.K w2.F) vs xs) w' l
      (itt_ok (fun w2 ⟨q1, q2⟩ => ⟨sqT_mono w2.sub q1, q2⟩) fun w2 w3 ⟨q1, q2⟩ l => ⟨sqT_mono l.f q1, Paired.mp q2 fun _ _ h => R.mono l.f h⟩) ⟨h1, h3⟩ (by rw [← paired_len h3]; exact h2)⟩⟩
/-- ranges -/
def rg (a b : Int) : List Int := (List.range (b - a).toNat).map fun (i : Nat) => a + (i : Int)
theorem rg_length (a b : Int) : (rg a b).length = (b - a).toNat := by simp [rg]
theorem rg_get {a b : Int} {i : Nat} (h : i < (rg a b).length) : (rg a b)[i] = a + (i : Int) := by simp [rg]
theorem itr_ok {K : PySem.W.Frag} {a b : Int} {st : Wd → Prop} (hle : ∀ w w', st w → Le w w' → st w') : ItOk K rInt (rg a b) (Itr a (b - a).toNat) st where
  go := fun w s i hi => by rw [rg_length] at hi; exact hi
  yld := fun w s i hi v H' ⟨e, y⟩ => ⟨w, e.symm, Le.refl w, by rw [rg_get]; exact y⟩
  stop := fun w s i hi => by rw [rg_length] at hi; exact hi
  le := hle
theorem args1 {K : PySem.W.Frag} {w : Wd} {vs : List V} {a : Arg} (h : ArgsOk K w vs [a]) : ∃ v, vs = [v] ∧ a K w v := by
  cases h with
  | cons h t => cases t; exact ⟨_, rfl, h⟩
theorem args2 {K : PySem.W.Frag} {w : Wd} {vs : List V} {a b : Arg} (h : ArgsOk K w vs [a, b]) : ∃ u v, vs = [u, v] ∧ a K w u ∧ b K w v := by
  cases h with
  | cons h t => obtain ⟨v, rfl, q⟩ := args1 t; exact ⟨_, v, rfl, h, q⟩
theorem args3 {K : PySem.W.Frag} {w : Wd} {vs : List V} {a b c : Arg} (h : ArgsOk K w vs [a, b, c]) : ∃ u v z, vs = [u, v, z] ∧ a K w u ∧ b K w v ∧ c K w z := by
  cases h with
  | cons h t => obtain ⟨v, z, rfl, q1, q2⟩ := args2 t; exact ⟨_, v, z, rfl, h, q1, q2⟩
theorem f_rg1 {a : Expr} {p : Pos} {j : Int} (hg : Gl X "range") (hm : X.mg "range" = none) (ha : PA X [a] (tA X.K Γ [aF rInt j])) (h : -(2 ^ 62) ≤ j ∧ j < 2 ^ 62) (hs : starEach [a] X.env = [(false, eval a X.env)] := by rfl) : PI X tg (.Call (.Name "range" p) [a] [] pos) (tIF X.K Γ rInt (rg 0 j)) :=
  PI.imp (pi_range1 hg hm ha hs) fun σ H Rk ⟨b, w, hw, ok, k⟩ => ⟨b, w, hw, ok, fun vs w' l ea => by
    obtain ⟨v, rfl, e⟩ := args1 ea
    have e : v = .int j := e
    subst e
    refine ⟨j, rfl, h.1, h.2, ?_⟩
    have := k (Itr 0 (j - 0).toNat) (fun _ => True) w' l (itr_ok fun _ _ _ _ => trivial) trivial fun _ _ _ _ => trivial
    rwa [Int.sub_zero] at this⟩
theorem f_rg2 {a c : Expr} {p : Pos} {i j : Int} (hg : Gl X "range") (hm : X.mg "range" = none) (ha : PA X [a, c] (tA X.K Γ [aF rInt i, aF rInt j])) (h : (-(2 ^ 62) ≤ i ∧ i < 2 ^ 62) ∧ -(2 ^ 62) ≤ j ∧ j < 2 ^ 62) (hs : starEach [a, c] X.env = [(false, eval a X.env), (false, eval c X.env)] := by rfl) (hs2 : starEach [c] X.env = [(false, eval c X.env)] := by rfl) :
    PI X tg (.Call (.Name "range" p) [a, c] [] pos) (tIF X.K Γ rInt (rg i j)) :=
  PI.imp (pi_range2 hg hm ha hs hs2) fun σ H Rk ⟨b, w, hw, ok, k⟩ => ⟨b, w, hw, ok, fun vs w' l ea => by
    obtain ⟨v, u, rfl, e, e2⟩ := args2 ea
    have e : v = .int i := e
    have e2 : u = .int j := e2
    subst e e2
    exact ⟨i, j, rfl, ⟨h.1.1, h.1.2, h.2⟩, k (Itr i (j - i).toNat) (fun _ => True) w' l (itr_ok fun _ _ _ _ => trivial) trivial fun _ _ _ _ => trivial⟩⟩
/-- a range downwards -/
def rgd (a b : Int) : List Int := (List.range (a - b).toNat).map fun (i : Nat) => a - (i : Int)
theorem rgd_length (a b : Int) : (rgd a b).length = (a - b).toNat := by simp [rgd]
theorem f_rgd {a c d : Expr} {p : Pos} {i j m : Int} (hg : Gl X "range") (hm : X.mg "range" = none) (ha : PA X [a, c, d] (tA X.K Γ [aF rInt i, aF rInt j, aF rInt m])) (hm1 : m = -1) (h : (-(2 ^ 62) ≤ i ∧ i < 2 ^ 62) ∧ -(2 ^ 62) ≤ j ∧ j < 2 ^ 62)
    (hs : X.mg "range" = none → PA X [a, c, d] (tA X.K Γ [aF rInt i, aF rInt j, aF rInt m]) → PI X tg (.Call (.Name "range" p) [a, c, d] [] pos) (iRng3 (tA X.K Γ [aF rInt i, aF rInt j, aF rInt m])) := by exact fun z1 z => pi_range3 (by rfl) z1 z) :
    PI X tg (.Call (.Name "range" p) [a, c, d] [] pos) (tIF X.K Γ rInt (rgd i j)) :=
  PI.imp (hs hm ha) fun σ H Rk ⟨b, w, hw, ok, k⟩ => ⟨b, w, hw, ok, fun vs w' l ea => by
    obtain ⟨v, u, z, rfl, e, e2, e3⟩ := args3 ea
    have e : v = .int i := e
    have e2 : u = .int j := e2
    have e3 : z = .int m := e3
    subst e e2 e3 hm1
    have : ItOk X.K rInt (rgd i j) (Itc i (-1) (i - j).toNat) (fun _ => True) := by
      refine ⟨fun w s n hn => ?_, fun w s n hn v H' ⟨e, y⟩ => ⟨w, e.symm, Le.refl w, ?_⟩, fun w s n hn => ?_, fun _ _ _ _ => trivial⟩
      · rw [rgd_length] at hn; exact hn
      · simp only [rgd, List.getElem_map, List.getElem_range]
        rw [y]; show V.int _ = V.int _; congr 1; omega
      · rw [rgd_length] at hn; exact hn
    exact ⟨i, j, -1, (i - j).toNat, rfl, RgC.neg h.1.1 h.1.2 h.2.1 h.2.2, k _ (fun _ => True) w' l this trivial fun _ _ _ _ => trivial⟩⟩

/-! targets -/
def tG {α : Type} (K : PySem.W.Frag) (R : Fz α) (asg : Gm → α → Gm) (sl : List Nat) : TG := fun v σ H Q => ∃ b w Γ x, w.H = H ∧ EnvOk K b w σ Γ ∧ R.r K w.F v x ∧
  ∀ σ', (∀ vs : List Nat, (∀ i ∈ sl, i ∈ vs) → L2.wipe σ' vs = L2.wipe σ vs) → EnvOk K b w σ' (asg Γ x) → Q σ' w.H
theorem wipe_set {σ : L2.St} {i : Nat} {s : Option V} : ∀ {vs : List Nat}, i ∈ vs → L2.wipe (σ.set i s) vs = L2.wipe σ vs
  | v :: vs, h => by
    unfold L2.wipe
    by_cases hi : i ∈ vs
    · rw [wipe_set hi]
    · have e : i = v := (List.mem_cons.mp h).resolve_right hi
      subst e
      have : ∀ vs : List Nat, L2.wipe (σ.set i s) vs = (L2.wipe σ vs).set i s ∨ L2.wipe (σ.set i s) vs = L2.wipe σ vs := by
        intro vs
        induction vs with
        | nil => exact .inl rfl
        | cons v vs ih =>
          unfold L2.wipe
          by_cases e : v = i
          · subst e
            rcases ih with ih | ih
            · rw [ih, List.set_set]; exact .inr rfl
            · rw [ih]; exact .inr rfl
          · rcases ih with ih | ih
            · rw [ih, List.set_comm _ _ (Ne.symm e)]; exact .inl rfl
            · rw [ih]; exact .inr rfl
      rcases this vs with e | e
      · rw [e, List.set_set]
      · rw [e]
def as1 {α : Type} (i : Nat) (R : Fz α) : Gm → α → Gm := fun Γ x => Γ.set i (some (fz R x))
theorem g_name {i : Nat} {x : Str} (hg : PG X (.Name x pos) (gName i)) : PG X (.Name x pos) (tG X.K R (as1 i R) [i]) :=
  PG.imp hg fun v σ H Q ⟨b, w, Γ, x, hw, ok, r, k⟩ => by
    show Q (σ.set i (some v)) H
    rw [← hw]
    exact k _ (fun vs hv => wipe_set (hv i (by simp))) (ok.set r)
def as2 {α β : Type} (f : Gm → α → Gm) (g : Gm → β → Gm) : Gm → α × β → Gm := fun Γ x => g (f Γ x.1) x.2
theorem g_pr {a c : Expr} {k : Nat} {f : Gm → α → Gm} {g : Gm → β → Gm} {s1 s2 : List Nat} (hc : X.calm = true) (ha : PG X a (tG X.K R f s1)) (hb : PG X c (tG X.K S g s2))
    (hx : PG X a (tG X.K R f s1) → PG X c (tG X.K S g s2) → PGs X [a, c] (gCons (tG X.K R f s1) (gCons (tG X.K S g s2) gNil)) := by exact fun z1 z2 => pgs_cons z1 (pgs_cons z2 pgs_nil))
    (hn : (assignEach [a, c] X.env).length = 2 := by rfl) (hst : (assignEach [a, c] X.env).findIdx? (·.1) = none := by rfl) : PG X (.Tuple [a, c] k pos) (tG X.K (rPr R S) (as2 f g) (s1 ++ s2)) :=
  PG.imp (pg_tup hc (hx ha hb) hn hst) fun v σ H Q ⟨b, w, Γ, x, hw, ok, ⟨p, u, z, e, q, r1, r2⟩, k⟩ => by
    subst hw
    refine ⟨p, [u, z], e, sqT_mono w.sub q, rfl, u, [z], rfl, b, w, Γ, x.1, rfl, ok, r1, fun σ1 h1 ok1 => ⟨z, [], rfl, b, w, _, x.2, rfl, ok1, r2, fun σ2 h2 ok2 => ⟨rfl, k σ2 (fun vs hv => ?_) ok2⟩⟩⟩
    rw [h2 vs fun i hi => hv i (List.mem_append_right _ hi), h1 vs fun i hi => hv i (List.mem_append_left _ hi)]
def as3 {α β γ : Type} (f : Gm → α → Gm) (g : Gm → β → Gm) (h : Gm → γ → Gm) : Gm → α × β × γ → Gm := fun Γ x => h (g (f Γ x.1) x.2.1) x.2.2
theorem g_t3 {a c d : Expr} {k : Nat} {f : Gm → α → Gm} {g : Gm → β → Gm} {g3 : Gm → γ → Gm} {s1 s2 s3 : List Nat} (hc : X.calm = true) (ha : PG X a (tG X.K R f s1)) (hb : PG X c (tG X.K S g s2)) (hd : PG X d (tG X.K T g3 s3))
    (hx : PG X a (tG X.K R f s1) → PG X c (tG X.K S g s2) → PG X d (tG X.K T g3 s3) → PGs X [a, c, d] (gCons (tG X.K R f s1) (gCons (tG X.K S g s2) (gCons (tG X.K T g3 s3) gNil))) := by exact fun z1 z2 z3 => pgs_cons z1 (pgs_cons z2 (pgs_cons z3 pgs_nil)))
    (hn : (assignEach [a, c, d] X.env).length = 3 := by rfl) (hst : (assignEach [a, c, d] X.env).findIdx? (·.1) = none := by rfl) : PG X (.Tuple [a, c, d] k pos) (tG X.K (rT3 R S T) (as3 f g g3) (s1 ++ s2 ++ s3)) :=
  PG.imp (pg_tup hc (hx ha hb hd) hn hst) fun v σ H Q ⟨b, w, Γ, x, hw, ok, ⟨p, u, z, y, e, q, r1, r2, r3⟩, k⟩ => by
    subst hw
    refine ⟨p, [u, z, y], e, sqT_mono w.sub q, rfl, u, [z, y], rfl, b, w, Γ, x.1, rfl, ok, r1, fun σ1 h1 ok1 => ⟨z, [y], rfl, b, w, _, x.2.1, rfl, ok1, r2, fun σ2 h2 ok2 => ⟨y, [], rfl, b, w, _, x.2.2, rfl, ok2, r3, fun σ3 h3 ok3 => ⟨rfl, k σ3 (fun vs hv => ?_) ok3⟩⟩⟩⟩
    rw [h3 vs fun i hi => hv i (by simp [hi]), h2 vs fun i hi => hv i (by simp [hi]), h1 vs fun i hi => hv i (by simp [hi])]
def as4 {α β γ δ : Type} (f : Gm → α → Gm) (g : Gm → β → Gm) (h : Gm → γ → Gm) (j : Gm → δ → Gm) : Gm → α × β × γ × δ → Gm := fun Γ x => j (h (g (f Γ x.1) x.2.1) x.2.2.1) x.2.2.2
theorem g_t4 {a c d a4 : Expr} {k : Nat} {f : Gm → α → Gm} {g : Gm → β → Gm} {g3 : Gm → γ → Gm} {g4 : Gm → δ → Gm} {s1 s2 s3 s4 : List Nat} (hc : X.calm = true) (ha : PG X a (tG X.K R f s1)) (hb : PG X c (tG X.K S g s2)) (hd : PG X d (tG X.K T g3 s3)) (h4 : PG X a4 (tG X.K U g4 s4))
    (hx : PG X a (tG X.K R f s1) → PG X c (tG X.K S g s2) → PG X d (tG X.K T g3 s3) → PG X a4 (tG X.K U g4 s4) → PGs X [a, c, d, a4] (gCons (tG X.K R f s1) (gCons (tG X.K S g s2) (gCons (tG X.K T g3 s3) (gCons (tG X.K U g4 s4) gNil)))) := by exact fun z1 z2 z3 z4 => pgs_cons z1 (pgs_cons z2 (pgs_cons z3 (pgs_cons z4 pgs_nil))))
    (hn : (assignEach [a, c, d, a4] X.env).length = 4 := by rfl) (hst : (assignEach [a, c, d, a4] X.env).findIdx? (·.1) = none := by rfl) : PG X (.Tuple [a, c, d, a4] k pos) (tG X.K (rT4 R S T U) (as4 f g g3 g4) (s1 ++ s2 ++ s3 ++ s4)) :=
  PG.imp (pg_tup hc (hx ha hb hd h4) hn hst) fun v σ H Q ⟨b, w, Γ, x, hw, ok, ⟨p, u, z, y, t, e, q, r1, r2, r3, r4⟩, k⟩ => by
    subst hw
    refine ⟨p, [u, z, y, t], e, sqT_mono w.sub q, rfl, u, [z, y, t], rfl, b, w, Γ, x.1, rfl, ok, r1, fun σ1 h1 ok1 => ⟨z, [y, t], rfl, b, w, _, x.2.1, rfl, ok1, r2, fun σ2 h2 ok2 => ⟨y, [t], rfl, b, w, _, x.2.2.1, rfl, ok2, r3, fun σ3 h3 ok3 => ⟨t, [], rfl, b, w, _, x.2.2.2, rfl, ok3, r4, fun σ4 h4 ok4 => ⟨rfl, k σ4 (fun vs hv => ?_) ok4⟩⟩⟩⟩⟩
    rw [h4 vs fun i hi => hv i (by simp [hi]), h3 vs fun i hi => hv i (by simp [hi]), h2 vs fun i hi => hv i (by simp [hi]), h1 vs fun i hi => hv i (by simp [hi])]

/-! comprehensions -/
/-- the tests of a clause -/
structure CT (X : Cx) {ι : Type} (Γ : ι → Gm) (P : ι → Prop) (ifs : List Expr) (p : ι → Bool) : Prop where
  run : ∀ i, P i → PTs X ifs (tT X.K (Γ i) (p i))
theorem ct_nil {ι : Type} {Γ : ι → Gm} {P : ι → Prop} : CT X Γ P [] (fun _ => true) := ⟨fun i _ => ⟨fun pins s σ H Q I ⟨b, w, hw, ok, k⟩ => pts_nil.run pins s σ H Q I (by show Q true H; rw [← hw]; exact k w (Le.refl w))⟩⟩
theorem ct_one {ι : Type} {Γ : ι → Gm} {P : ι → Prop} {c : Expr} {p : ι → Bool} (h : ∀ i, P i → PT X c (tT X.K (Γ i) (p i))) : CT X Γ P [c] p := ⟨fun i hi => pts_one (h i hi)⟩
theorem take_succ_filter {p : α → Bool} {f : α → β} {xs : List α} {i : Nat} (h : i < xs.length) : ((xs.take (i + 1)).filter p).map f = ((xs.take i).filter p).map f ++ (if p xs[i] then [f xs[i]] else []) := by
  rw [List.take_succ_eq_append_getElem h, List.filter_append, List.map_append]
  cases hp : p xs[i] <;> simp [hp]
structure LcI (K : PySem.W.Frag) {β : Type} (S : Fz β) (w1 : Wd) (D : Addr) (ys : List β) (w : Wd) : Prop where
  le : Le w1 w
  f : w.F D = none
  h : ∃ acc, w.H D = some (.lst acc) ∧ Paired (S.r K w.F) acc ys
theorem lc_run {K : PySem.W.Frag} {xs : List α} {p : α → Bool} {f : α → β} {J : It} {st : Wd → Prop} {b w w1 : Wd} {σ : L2.St} {vs sl : List Nat} {asg : Gm → α → Gm} {Qv : VK}
    (ok : EnvOk K b w σ Γ) (l : Le w w1) (io : ItOk K R xs J st) (s1 : st w1) (hz : xs.length ≤ sizeLine) (hsl : ∀ i ∈ sl, i ∈ vs)
    (k : ∀ v w', Le w w' → NwB K S ((xs.filter p).map f) w v w' → Qv v w'.H) : ∀ D, w1.H D = none → ∃ W : Nat → Nat → Hp → Prop, (∃ m, W 0 m (upd w1.H D (.lst []))) ∧ ∀ i m H, W i m H →
      (J.stop i H ∧ Qv (.ref D) H) ∨ (J.go i H ∧ ∃ Nx : Hp → Prop, (∀ H', Nx H' → ∃ m', m' < m ∧ W (i + 1) m' H') ∧ ∀ x H', J.yld i H x H' → tG K R asg sl x (L2.wipe σ vs) H' fun σ2 H2 => L2.wipe σ2 vs = L2.wipe σ vs ∧ (∃ x : {x // x ∈ xs}, tT K (asg (wipeE Γ vs) x.1) (p x.1) σ2 H2 fun b H3 =>
        if b = true then (∃ y : {y // y ∈ xs ∧ p y = true}, tE K (asg (wipeE Γ vs) y.1) S (f y.1) σ2 H3 fun y H4 => ∃ acc, H4 D = some (.lst acc) ∧ acc.length < sizeLine ∧ Nx (upd H4 D (.lst (acc ++ [y])))) else Nx H3)) := by
  intro D hD
  have hF : w1.F D = none := none_back w1.sub hD
  refine ⟨fun i m H => m = xs.length - i ∧ i ≤ xs.length ∧ ∃ w2 : Wd, w2.H = H ∧ LcI K S w1 D (((xs.take i).filter p).map f) w2, ⟨xs.length, rfl, Nat.zero_le _, w1.newM D (.lst []) hD, rfl, ⟨w1.le_newM _ _ _, hF, [], upd_same, .nil⟩⟩, ?_⟩
  rintro i m H ⟨rfl, hi, w2, rfl, inv⟩
  have s2 : st w2 := io.le _ _ s1 inv.le
  by_cases hlt : i < xs.length
  · refine .inr ⟨io.go w2 s2 i hlt, fun H' => ∃ w3 : Wd, w3.H = H' ∧ LcI K S w1 D (((xs.take (i + 1)).filter p).map f) w3, fun H' ⟨w3, e, q⟩ => ⟨xs.length - (i + 1), by omega, rfl, hlt, w3, e, q⟩, fun v H' y => ?_⟩
    obtain ⟨w3, e3, l3, r3⟩ := io.yld w2 s2 i hlt v H' y
    subst e3
    obtain ⟨acc, hA, pA⟩ := inv.h
    have l13 : Le w1 w3 := inv.le.trans l3
    have okw : EnvOk K b w3 (L2.wipe σ vs) (wipeE Γ vs) := (ok.mono (l.trans l13)).wipe vs
    refine ⟨b, w3, wipeE Γ vs, xs[i], rfl, okw, r3, fun σ' hw ok' => ⟨?_, ⟨xs[i], List.getElem_mem hlt⟩, b, w3, rfl, ok', fun w4 l4 => ?_⟩⟩
    · rw [hw vs hsl]
      have : ∀ vs : List Nat, ∀ us, (∀ i ∈ us, i ∈ vs) → ∀ σ : L2.St, L2.wipe (L2.wipe σ us) vs = L2.wipe σ vs := by
        intro vs us
        induction us with
        | nil => intro _ σ; rfl
        | cons u us ih =>
          intro h σ
          show L2.wipe ((L2.wipe σ us).set u none) vs = _
          rw [wipe_set (h u (by simp))]
          exact ih (fun i hi => h i (by simp [hi])) σ
      exact this vs vs (fun _ h => h) σ
    · have l14 := l13.trans l4
      have hA4 : w4.H D = some (.lst acc) := l4.h _ _ (l3.h _ _ hA)
      have pA4 : Paired (S.r K w4.F) acc (((xs.take i).filter p).map f) := Paired.mp pA fun _ _ h => S.mono (l3.trans l4).f h
      have hF4 : w4.F D = none := (l3.trans l4).new D _ inv.f hA
      have lenA : acc.length ≤ i := by
        rw [paired_len pA4, List.length_map]
        exact Nat.le_trans (List.length_filter_le _ _) (by rw [List.length_take]; exact Nat.min_le_left _ _)
      cases hp : p xs[i] with
      | false =>
        show if false = true then _ else _
        refine iteF ⟨w4, rfl, l14, hF4, acc, hA4, ?_⟩
        rw [take_succ_filter hlt, hp]
        simpa using pA4
      | true =>
        show if true = true then _ else _
        refine iteT ⟨⟨xs[i], List.getElem_mem hlt, hp⟩, b, w4, rfl, ok'.mono l4, fun y w5 l5 r5 => ?_⟩
        have hA5 : w5.H D = some (.lst acc) := l5.h _ _ hA4
        refine ⟨acc, hA5, Nat.lt_of_lt_of_le (Nat.lt_of_le_of_lt lenA hlt) hz, w5.put D _ (l5.new D _ hF4 hA4), rfl, (l14.trans l5).put hD _, l5.new D _ hF4 hA4, acc ++ [y], upd_same, ?_⟩
        rw [take_succ_filter hlt, hp, if_pos rfl]
        exact Paired.app (Paired.mp pA4 fun _ _ h => S.mono l5.f h) (.cons r5 .nil)
  · have e : i = xs.length := by omega
    subst e
    obtain ⟨acc, hA, pA⟩ := inv.h
    rw [List.take_length] at pA
    refine .inl ⟨io.stop w2 s2 _ (Nat.le_refl _), k _ w2 (l.trans inv.le) ⟨D, acc, rfl, none_back l.h hD, inv.f, hA, ?_, pA⟩⟩
    rw [paired_len pA, List.length_map]
    exact Nat.le_trans (List.length_filter_le _ _) hz
/-- [elt for tg in iter if ..] -/
theorem e_lc {elt iter : Expr} {ifs : List Expr} {scope : Scope} {own : List (Str × Nat)} {xs : List α} {p : α → Bool} {f : α → β} {asg : Gm → α → Gm} {sl : List Nat} (hc : X.calm = true) (hN : X.N.Nodup) (hi : PI X tg iter (tI X.K Γ R xs)) (ok : BlkOk X.N X.env.scope scope own)
    (hsl : ∀ i ∈ sl, i ∈ own.map (·.2))
    (hg : ∀ (s : Shared) (H : Hp) (C : Addr) (cl : List (Str × Addr)) (fp : List Addr), PG (X.blk s H scope (compEnvC scope cl C X.env) fp) tg (tG X.K R asg sl))
    (ht : ∀ (s : Shared) (H : Hp) (C : Addr) (cl : List (Str × Addr)) (fp : List Addr), CT (X.blk s H scope (compEnvC scope cl C X.env) fp) (fun x => asg (wipeE Γ (own.map (·.2))) x) (fun x => x ∈ xs) ifs p)
    (he : ∀ x, x ∈ xs → p x = true → ∀ (s : Shared) (H : Hp) (C : Addr) (cl : List (Str × Addr)) (fp : List Addr), PE (X.blk s H scope (compEnvC scope cl C X.env) fp) elt (tE X.K (asg (wipeE Γ (own.map (·.2))) x) S (f x)))
    (hs : ∀ x, foldedSetIterable iter X.env x = pure x := by intro _; rfl) :
    PE X (.ListComp elt [⟨tg, iter, ifs, 0⟩] scope pos) (tN X.K Γ S ((xs.filter p).map f)) :=
  PE.imp (pe_lc hc hN hi ok hg (fun s H C cl fp => PTs.any fun x : {x // x ∈ xs} => (ht s H C cl fp).run x.1 x.2) (fun s H C cl fp => PE.any fun x : {y // y ∈ xs ∧ p y = true} => he x.1 x.2.1 x.2.2 s H C cl fp) hs)
    fun σ H Q ⟨b, w, hw, okE, k⟩ => ⟨b, w, hw, okE, fun J st w1 l io s1 hz => lc_run okE l io s1 hz hsl k⟩
/-- y = [elt for tg in iter if ..] on one line, y a local -/
theorem s_lc {i : Nat} {y : Str} {py spos : Pos} {elt iter : Expr} {ifs : List Expr} {scope : Scope} {own : List (Str × Nat)} {xs : List α} {p : α → Bool} {f : α → β} {asg : Gm → α → Gm} {sl : List Nat} (hc : X.calm = true) (hN : X.N.Nodup) (hy : X.N[i]? = some y) (hyl : X.env.scope.names.lookup y = some .local)
    (hsw : swapsWith (.ListComp elt [⟨tg, iter, ifs, 0⟩] scope pos) (some (.Name y py)) spos.line X.env = pure true) (hi : PI X tg iter (tI X.K Γ R xs)) (ok : BlkOk X.N X.env.scope scope own)
    (hsl : ∀ i ∈ sl, i ∈ own.map (·.2))
    (hg : ∀ (s : Shared) (H : Hp) (C : Addr) (cl : List (Str × Addr)) (fp : List Addr), PG (X.blk s H scope (compEnvC scope cl C X.env) fp) tg (tG X.K R asg sl))
    (ht : ∀ (s : Shared) (H : Hp) (C : Addr) (cl : List (Str × Addr)) (fp : List Addr), CT (X.blk s H scope (compEnvC scope cl C X.env) fp) (fun x => asg (wipeE Γ (own.map (·.2))) x) (fun x => x ∈ xs) ifs p)
    (he : ∀ x, x ∈ xs → p x = true → ∀ (s : Shared) (H : Hp) (C : Addr) (cl : List (Str × Addr)) (fp : List Addr), PE (X.blk s H scope (compEnvC scope cl C X.env) fp) elt (tE X.K (asg (wipeE Γ (own.map (·.2))) x) S (f x)))
    (hs : ∀ x, foldedSetIterable iter X.env x = pure x := by intro _; rfl) :
    PS X (.Assign [.Name y py] (.ListComp elt [⟨tg, iter, ifs, 0⟩] scope pos) spos) (tAsg (tN X.K Γ S ((xs.filter p).map f)) (gName i)) :=
  PS.imp (ps_setLc hc hN hy hyl hsw hi ok hg (fun s H C cl fp => PTs.any fun x : {x // x ∈ xs} => (ht s H C cl fp).run x.1 x.2) (fun s H C cl fp => PE.any fun x : {y // y ∈ xs ∧ p y = true} => he x.1 x.2.1 x.2.2 s H C cl fp) hs)
    fun D σ H ⟨b, w, hw, okE, k⟩ => ⟨b, w, hw, okE, fun J st w1 l io s1 hz => lc_run okE l io s1 hz hsl k⟩
end
end PZ
namespace PZ
open PySem PySem.Spec PyProof.Rows L2
section
variable {X : Cx} {Γ : Gm} {α β : Type} {R : Fz α} {S : Fz β} {tg : Expr} {pos : Pos}
theorem filter_tt (xs : List α) : xs.filter (fun _ => true) = xs := List.filter_eq_self.mpr fun _ _ => rfl
/-- [elt for tg in iter] -/
theorem e_lc0 {elt iter : Expr} {scope : Scope} {own : List (Str × Nat)} {xs : List α} {f : α → β} {asg : Gm → α → Gm} {sl : List Nat} (hc : X.calm = true) (hN : X.N.Nodup) (hi : PI X tg iter (tI X.K Γ R xs)) (ok : BlkOk X.N X.env.scope scope own)
    (hsl : ∀ i ∈ sl, i ∈ own.map (·.2))
    (hg : ∀ (s : Shared) (H : Hp) (C : Addr) (cl : List (Str × Addr)) (fp : List Addr), PG (X.blk s H scope (compEnvC scope cl C X.env) fp) tg (tG X.K R asg sl))
    (he : ∀ x, x ∈ xs → ∀ (s : Shared) (H : Hp) (C : Addr) (cl : List (Str × Addr)) (fp : List Addr), PE (X.blk s H scope (compEnvC scope cl C X.env) fp) elt (tE X.K (asg (wipeE Γ (own.map (·.2))) x) S (f x)))
    (hs : ∀ x, foldedSetIterable iter X.env x = pure x := by intro _; rfl) :
    PE X (.ListComp elt [⟨tg, iter, [], 0⟩] scope pos) (tN X.K Γ S (xs.map f)) := by
  have := e_lc (pos := pos) (p := fun _ => true) hc hN hi ok hsl hg (fun _ _ _ _ _ => ct_nil) (fun x hx _ => he x hx) hs
  rwa [filter_tt] at this
theorem s_lc0 {i : Nat} {y : Str} {py spos : Pos} {elt iter : Expr} {scope : Scope} {own : List (Str × Nat)} {xs : List α} {f : α → β} {asg : Gm → α → Gm} {sl : List Nat} (hc : X.calm = true) (hN : X.N.Nodup) (hy : X.N[i]? = some y) (hyl : X.env.scope.names.lookup y = some .local)
    (hsw : swapsWith (.ListComp elt [⟨tg, iter, [], 0⟩] scope pos) (some (.Name y py)) spos.line X.env = pure true) (hi : PI X tg iter (tI X.K Γ R xs)) (ok : BlkOk X.N X.env.scope scope own)
    (hsl : ∀ i ∈ sl, i ∈ own.map (·.2))
    (hg : ∀ (s : Shared) (H : Hp) (C : Addr) (cl : List (Str × Addr)) (fp : List Addr), PG (X.blk s H scope (compEnvC scope cl C X.env) fp) tg (tG X.K R asg sl))
    (he : ∀ x, x ∈ xs → ∀ (s : Shared) (H : Hp) (C : Addr) (cl : List (Str × Addr)) (fp : List Addr), PE (X.blk s H scope (compEnvC scope cl C X.env) fp) elt (tE X.K (asg (wipeE Γ (own.map (·.2))) x) S (f x)))
    (hs : ∀ x, foldedSetIterable iter X.env x = pure x := by intro _; rfl) :
    PS X (.Assign [.Name y py] (.ListComp elt [⟨tg, iter, [], 0⟩] scope pos) spos) (tAsg (tN X.K Γ S (xs.map f)) (gName i)) := by
  have := s_lc (p := fun _ => true) hc hN hy hyl hsw hi ok hsl hg (fun _ _ _ _ _ => ct_nil) (fun x hx _ => he x hx) hs
  rwa [filter_tt] at this
theorem mem_rg {a b x : Int} (h : x ∈ rg a b) : a ≤ x ∧ x < b := by
  obtain ⟨i, hi, e⟩ := List.mem_map.mp h
  have := List.mem_range.mp hi
  omega
theorem mem_rgd {a b x : Int} (h : x ∈ rgd a b) : b < x ∧ x ≤ a := by
  obtain ⟨i, hi, e⟩ := List.mem_map.mp h
  have := List.mem_range.mp hi
  omega
end
end PZ

namespace PZ
open PySem PySem.Spec PyProof.Rows L2

/-! outcomes of statements -/
inductive Ot where
  | nx (Γ : Gm)
  | rt {β : Type} (R : Fz β) (x : β)
  | bk (Γ : Gm)
  | ct (Γ : Gm)
def OtOk (K : PySem.W.Frag) (b : Wd) (D : Ends) : Ot → Prop
  | .nx Γ => ∀ σ w, EnvOk K b w σ Γ → D.nx σ w.H
  | .rt R x => ∀ v w, Le b w → R.r K w.F v x → D.rt v w.H
  | .bk Γ => ∀ σ w, EnvOk K b w σ Γ → D.bk σ w.H
  | .ct Γ => ∀ σ w, EnvOk K b w σ Γ → D.ct σ w.H
def tO (K : PySem.W.Frag) (Γ : Gm) (o : Ot) : TS := fun D σ H => ∃ b w, w.H = H ∧ EnvOk K b w σ Γ ∧ OtOk K b D o

section
variable {X : Cx} {Γ Γ' : Gm} {α β γ δ ρ : Type} {R : Fz α} {S : Fz β} {T : Fz γ} {U : Fz δ} {e tg : Expr} {pos : Pos} {st : Stmt} {rest : List Stmt} {o : Ot}

/-! builtins -/
theorem e_cb {x : Str} {p : Pos} {es : List Expr} {id : String} {r : List V → Hp → VK → Prop} {as : List Arg} {P : Wd → V → Wd → Prop} (hc : CallR X (.builtin id) r) (hg : Gl X x) (hm : X.mg x = none) (hv : bootBuiltins x = some (.builtin id)) (ha : PA X (e :: es) (tA X.K Γ as))
    (h : ∀ w vs w1 Q, Le w w1 → ArgsOk X.K w1 vs as → (∀ z w2, Le w w2 → P w z w2 → Q z w2.H) → r vs w1.H Q)
    (hn : x ≠ "__name__" := by decide) (hdb : (x == ("__debug__" : Str)) = false := by decide) (he : starEach (e :: es) X.env = (false, eval e X.env) :: starEach es X.env := by rfl) (hpl : (backTo pos (starEach es X.env)).any (·.1) = false := by rfl) :
    PE X (.Call (.Name x p) (e :: es) [] pos) (tX X.K Γ P) :=
  PE.imp (pe_callB hc hg hm hv ha hn hdb he hpl) fun σ H Q ⟨b, w, hw, ok, k⟩ => ⟨b, w, hw, ok, fun vs w1 l q => h w vs w1 Q l q k⟩
theorem e_ct {x : Str} {p : Pos} {es : List Expr} {id : String} {r : List V → Hp → VK → Prop} {as : List Arg} {P : Wd → V → Wd → Prop} (hc : CallR X (.type id) r) (hg : Gl X x) (hm : X.mg x = none) (hv : bootBuiltins x = some (.type id)) (ha : PA X (e :: es) (tA X.K Γ as))
    (h : ∀ w vs w1 Q, Le w w1 → ArgsOk X.K w1 vs as → (∀ z w2, Le w w2 → P w z w2 → Q z w2.H) → r vs w1.H Q)
    (hn : x ≠ "__name__" := by decide) (hdb : (x == ("__debug__" : Str)) = false := by decide) (he : starEach (e :: es) X.env = (false, eval e X.env) :: starEach es X.env := by rfl) (hpl : (backTo pos (starEach es X.env)).any (·.1) = false := by rfl) :
    PE X (.Call (.Name x p) (e :: es) [] pos) (tX X.K Γ P) :=
  PE.imp (pe_callTy hc hg hm hv ha hn hdb he hpl) fun σ H Q ⟨b, w, hw, ok, k⟩ => ⟨b, w, hw, ok, fun vs w1 l q => h w vs w1 Q l q k⟩
theorem a_B {es : List Expr} {xs : List α} {as : List Arg} (he : PE X e (tB X.K Γ R xs)) (h : PA X es (tA X.K Γ as)) (hs : starEach (e :: es) X.env = (false, eval e X.env) :: starEach es X.env := by rfl) : PA X (e :: es) (tA X.K Γ (aB R xs :: as)) := a_consG keeps_aB he h hs
theorem a_L {es : List Expr} {xs : List α} {as : List Arg} (he : PE X e (tL X.K Γ R xs)) (h : PA X es (tA X.K Γ as)) (hs : starEach (e :: es) X.env = (false, eval e X.env) :: starEach es X.env := by rfl) : PA X (e :: es) (tA X.K Γ (aL R xs :: as)) := a_consG keeps_aL he h hs
theorem paired_ints {K : PySem.W.Frag} {F : Hp} : ∀ {vs : List V} {ns : List Int}, Paired (rInt.r K F) vs ns → vs = ns.map V.int
  | _, _, .nil => rfl
  | _, _, .cons h t => by
    have h : _ = V.int _ := h
    rw [h, paired_ints t]; rfl
theorem paired_bools {K : PySem.W.Frag} {F : Hp} : ∀ {vs : List V} {ns : List Bool}, Paired (rBool.r K F) vs ns → vs = ns.map V.bl
  | _, _, .nil => rfl
  | _, _, .cons h t => by
    have h : _ = V.bl _ := h
    rw [h, paired_bools t]; rfl
theorem paired_strs {K : PySem.W.Frag} {F : Hp} : ∀ {vs : List V} {ns : List Str}, Paired (rStr.r K F) vs ns → vs = ns.map V.str
  | _, _, .nil => rfl
  | _, _, .cons h t => by
    have h : _ = V.str _ := h
    rw [h, paired_strs t]; rfl
theorem e_len {a : Expr} {p : Pos} {xs : List α} (hg : Gl X "len") (hm : X.mg "len" = none) (ha : PA X [a] (tA X.K Γ [aB R xs])) (he : starEach [a] X.env = (false, eval a X.env) :: starEach [] X.env := by rfl) (hpl : (backTo pos (starEach [] X.env)).any (·.1) = false := by rfl) : PE X (.Call (.Name "len" p) [a] [] pos) (tE X.K Γ rInt (xs.length : Int)) :=
  e_cb call_len_seq hg hm PySem.boot_len ha (fun w vs w1 Q l q k => by
    obtain ⟨v, rfl, ⟨a, us, rfl, h1, h2, h3⟩⟩ := args1 q
    refine ⟨a, us, rfl, h1.imp (fun h => SqL.of h) id, ?_⟩
    rw [paired_len h3]; exact k _ w1 l rfl) (he := he) (hpl := hpl)
theorem e_lenScr {a : Expr} {p : Pos} {xs : List Int} (hg : Gl X "len") (hm : X.mg "len" = none) (ha : PA X [a] (tA X.K Γ [aF rScr xs])) (he : starEach [a] X.env = (false, eval a X.env) :: starEach [] X.env := by rfl) (hpl : (backTo pos (starEach [] X.env)).any (·.1) = false := by rfl) : PE X (.Call (.Name "len" p) [a] [] pos) (tE X.K Γ rInt (xs.length : Int)) :=
  e_cb call_len_seq hg hm PySem.boot_len ha (fun w vs w1 Q l q k => by
    obtain ⟨v, rfl, ⟨a, rfl, h1, h2⟩⟩ := args1 q
    refine ⟨a, _, rfl, .inl (sqL_mono w1.sub h1), ?_⟩
    rw [List.length_map]; exact k _ w1 l rfl) (he := he) (hpl := hpl)
theorem e_sum {a : Expr} {p : Pos} {xs : List Int} (hcal : X.calm = true) (hg : Gl X "sum") (hm : X.mg "sum" = none) (ha : PA X [a] (tA X.K Γ [aL rInt xs])) (he : starEach [a] X.env = (false, eval a X.env) :: starEach [] X.env := by rfl) (hpl : (backTo pos (starEach [] X.env)).any (·.1) = false := by rfl) : PE X (.Call (.Name "sum" p) [a] [] pos) (tE X.K Γ rInt xs.sum) :=
  e_cb (cr_sum hcal) hg hm (by decide +kernel) ha (fun w vs w1 Q l q k => by
    obtain ⟨v, rfl, ⟨a, us, rfl, h1, h2, h3⟩⟩ := args1 q
    have := paired_ints h3
    subst this
    exact ⟨a, xs, rfl, SqL.of h1, k _ w1 l rfl⟩) (he := he) (hpl := hpl)
theorem e_all {a : Expr} {p : Pos} {xs : List Bool} (hcal : X.calm = true) (hg : Gl X "all") (hm : X.mg "all" = none) (ha : PA X [a] (tA X.K Γ [aL rBool xs])) (he : starEach [a] X.env = (false, eval a X.env) :: starEach [] X.env := by rfl) (hpl : (backTo pos (starEach [] X.env)).any (·.1) = false := by rfl) : PE X (.Call (.Name "all" p) [a] [] pos) (tE X.K Γ rBool (xs.all id)) :=
  e_cb (cr_all hcal) hg hm (by decide +kernel) ha (fun w vs w1 Q l q k => by
    obtain ⟨v, rfl, ⟨a, us, rfl, h1, h2, h3⟩⟩ := args1 q
    have := paired_bools h3
    subst this
    exact ⟨a, xs, rfl, SqL.of h1, k _ w1 l rfl⟩) (he := he) (hpl := hpl)
theorem e_any {a : Expr} {p : Pos} {xs : List Bool} (hcal : X.calm = true) (hg : Gl X "any") (hm : X.mg "any" = none) (ha : PA X [a] (tA X.K Γ [aL rBool xs])) (he : starEach [a] X.env = (false, eval a X.env) :: starEach [] X.env := by rfl) (hpl : (backTo pos (starEach [] X.env)).any (·.1) = false := by rfl) : PE X (.Call (.Name "any" p) [a] [] pos) (tE X.K Γ rBool (xs.any id)) :=
  e_cb (cr_any hcal) hg hm (by decide +kernel) ha (fun w vs w1 Q l q k => by
    obtain ⟨v, rfl, ⟨a, us, rfl, h1, h2, h3⟩⟩ := args1 q
    have := paired_bools h3
    subst this
    exact ⟨a, xs, rfl, SqL.of h1, k _ w1 l rfl⟩) (he := he) (hpl := hpl)
theorem e_intC {a : Expr} {p : Pos} {i : Int} (hg : Gl X "int") (hm : X.mg "int" = none) (ha : PA X [a] (tA X.K Γ [aF rInt i])) (he : starEach [a] X.env = (false, eval a X.env) :: starEach [] X.env := by rfl) (hpl : (backTo pos (starEach [] X.env)).any (·.1) = false := by rfl) : PE X (.Call (.Name "int" p) [a] [] pos) (tE X.K Γ rInt i) :=
  e_ct call_int1 hg hm (by decide +kernel) ha (fun w vs w1 Q l q k => by
    obtain ⟨v, rfl, q0⟩ := args1 q
    exact .inl ⟨i, by rw [show v = V.int i from q0], k _ w1 l rfl⟩) (he := he) (hpl := hpl)
theorem e_intB {a : Expr} {p : Pos} {i : Bool} (hg : Gl X "int") (hm : X.mg "int" = none) (ha : PA X [a] (tA X.K Γ [aF rBool i])) (he : starEach [a] X.env = (false, eval a X.env) :: starEach [] X.env := by rfl) (hpl : (backTo pos (starEach [] X.env)).any (·.1) = false := by rfl) : PE X (.Call (.Name "int" p) [a] [] pos) (tE X.K Γ rInt (if i then 1 else 0)) :=
  e_ct call_int1 hg hm (by decide +kernel) ha (fun w vs w1 Q l q k => by
    obtain ⟨v, rfl, q0⟩ := args1 q
    exact .inr ⟨i, by rw [show v = V.bl i from q0], k _ w1 l rfl⟩) (he := he) (hpl := hpl)
theorem e_abs {a : Expr} {p : Pos} {i : Int} (hg : Gl X "abs") (hm : X.mg "abs" = none) (ha : PA X [a] (tA X.K Γ [aF rInt i])) (he : starEach [a] X.env = (false, eval a X.env) :: starEach [] X.env := by rfl) (hpl : (backTo pos (starEach [] X.env)).any (·.1) = false := by rfl) : PE X (.Call (.Name "abs" p) [a] [] pos) (tE X.K Γ rInt (if i < 0 then -i else i)) :=
  e_cb call_abs hg hm (by decide +kernel) ha (fun w vs w1 Q l q k => by
    obtain ⟨v, rfl, q0⟩ := args1 q
    exact ⟨i, by rw [show v = V.int i from q0], k _ w1 l rfl⟩) (he := he) (hpl := hpl)
theorem e_max2 {a c : Expr} {p : Pos} {i j : Int} (hcal : X.calm = true) (hg : Gl X "max") (hm : X.mg "max" = none) (ha : PA X [a, c] (tA X.K Γ [aF rInt i, aF rInt j])) (he : starEach [a, c] X.env = (false, eval a X.env) :: starEach [c] X.env := by rfl) (hpl : (backTo pos (starEach [c] X.env)).any (·.1) = false := by rfl) : PE X (.Call (.Name "max" p) [a, c] [] pos) (tE X.K Γ rInt (max i j)) :=
  e_cb (call_max2 hcal) hg hm (by decide +kernel) ha (fun w vs w1 Q l q k => by
    obtain ⟨v, u, rfl, q1, q2⟩ := args2 q
    refine ⟨i, j, by rw [show v = V.int i from q1, show u = V.int j from q2], k _ w1 l ?_⟩
    show V.int _ = V.int _
    congr 1; split <;> omega) (he := he) (hpl := hpl)
theorem e_min2 {a c : Expr} {p : Pos} {i j : Int} (hcal : X.calm = true) (hg : Gl X "min") (hm : X.mg "min" = none) (ha : PA X [a, c] (tA X.K Γ [aF rInt i, aF rInt j])) (he : starEach [a, c] X.env = (false, eval a X.env) :: starEach [c] X.env := by rfl) (hpl : (backTo pos (starEach [c] X.env)).any (·.1) = false := by rfl) : PE X (.Call (.Name "min" p) [a, c] [] pos) (tE X.K Γ rInt (min i j)) :=
  e_cb (call_min2 hcal) hg hm (by decide +kernel) ha (fun w vs w1 Q l q k => by
    obtain ⟨v, u, rfl, q1, q2⟩ := args2 q
    refine ⟨i, j, by rw [show v = V.int i from q1, show u = V.int j from q2], k _ w1 l ?_⟩
    show V.int _ = V.int _
    congr 1; split <;> omega) (he := he) (hpl := hpl)
def maxI : List Int → Int
  | [] => 0
  | x :: xs => xs.foldl max x
def minI : List Int → Int
  | [] => 0
  | x :: xs => xs.foldl min x
theorem foldl_max_spec : ∀ (xs : List Int) (x : Int), (xs.foldl max x ∈ x :: xs) ∧ ∀ y ∈ x :: xs, y ≤ xs.foldl max x
  | [], x => ⟨by simp, by simp⟩
  | z :: xs, x => by
    obtain ⟨h1, h2⟩ := foldl_max_spec xs (max x z)
    refine ⟨?_, fun y hy => ?_⟩
    · show xs.foldl max (max x z) ∈ _
      rcases List.mem_cons.mp h1 with e | e
      · rw [e]; by_cases c : x ≤ z
        · rw [Int.max_eq_right c]; simp
        · rw [Int.max_eq_left (by omega)]; simp
      · simp [e]
    · show y ≤ xs.foldl max (max x z)
      have h0 := h2 (max x z) (by simp)
      rcases List.mem_cons.mp hy with e | e
      · omega
      · rcases List.mem_cons.mp e with e | e
        · omega
        · exact h2 y (by simp [e])
theorem foldl_min_spec : ∀ (xs : List Int) (x : Int), (xs.foldl min x ∈ x :: xs) ∧ ∀ y ∈ x :: xs, xs.foldl min x ≤ y
  | [], x => ⟨by simp, by simp⟩
  | z :: xs, x => by
    obtain ⟨h1, h2⟩ := foldl_min_spec xs (min x z)
    refine ⟨?_, fun y hy => ?_⟩
    · show xs.foldl min (min x z) ∈ _
      rcases List.mem_cons.mp h1 with e | e
      · rw [e]; by_cases c : x ≤ z
        · rw [Int.min_eq_left c]; simp
        · rw [Int.min_eq_right (by omega)]; simp
      · simp [e]
    · show xs.foldl min (min x z) ≤ y
      have h0 := h2 (min x z) (by simp)
      rcases List.mem_cons.mp hy with e | e
      · omega
      · rcases List.mem_cons.mp e with e | e
        · omega
        · exact h2 y (by simp [e])
theorem maxI_spec {xs : List Int} (h : xs ≠ []) : maxI xs ∈ xs ∧ ∀ y ∈ xs, y ≤ maxI xs := by
  cases xs with
  | nil => exact absurd rfl h
  | cons x xs => exact foldl_max_spec xs x
theorem minI_spec {xs : List Int} (h : xs ≠ []) : minI xs ∈ xs ∧ ∀ y ∈ xs, minI xs ≤ y := by
  cases xs with
  | nil => exact absurd rfl h
  | cons x xs => exact foldl_min_spec xs x
theorem e_maxL {a : Expr} {p : Pos} {xs : List Int} (hcal : X.calm = true) (hg : Gl X "max") (hm : X.mg "max" = none) (ha : PA X [a] (tA X.K Γ [aL rInt xs])) (hne : xs ≠ []) (he : starEach [a] X.env = (false, eval a X.env) :: starEach [] X.env := by rfl) (hpl : (backTo pos (starEach [] X.env)).any (·.1) = false := by rfl) : PE X (.Call (.Name "max" p) [a] [] pos) (tE X.K Γ rInt (maxI xs)) :=
  e_cb (cr_max hcal) hg hm (by decide +kernel) ha (fun w vs w1 Q l q k => by
    obtain ⟨v, rfl, ⟨a, us, rfl, h1, h2, h3⟩⟩ := args1 q
    have := paired_ints h3
    subst this
    refine ⟨a, xs, rfl, SqL.of h1, List.length_pos_iff.mpr hne, fun m m1 m2 => k _ w1 l ?_⟩
    obtain ⟨s1, s2⟩ := maxI_spec hne
    show V.int _ = V.int _
    have := m2 _ s1; have := s2 _ m1
    congr 1; omega) (he := he) (hpl := hpl)
theorem e_minL {a : Expr} {p : Pos} {xs : List Int} (hcal : X.calm = true) (hg : Gl X "min") (hm : X.mg "min" = none) (ha : PA X [a] (tA X.K Γ [aL rInt xs])) (hne : xs ≠ []) (he : starEach [a] X.env = (false, eval a X.env) :: starEach [] X.env := by rfl) (hpl : (backTo pos (starEach [] X.env)).any (·.1) = false := by rfl) : PE X (.Call (.Name "min" p) [a] [] pos) (tE X.K Γ rInt (minI xs)) :=
  e_cb (cr_min hcal) hg hm (by decide +kernel) ha (fun w vs w1 Q l q k => by
    obtain ⟨v, rfl, ⟨a, us, rfl, h1, h2, h3⟩⟩ := args1 q
    have := paired_ints h3
    subst this
    refine ⟨a, xs, rfl, SqL.of h1, List.length_pos_iff.mpr hne, fun m m1 m2 => k _ w1 l ?_⟩
    obtain ⟨s1, s2⟩ := minI_spec hne
    show V.int _ = V.int _
    have := m2 _ s1; have := s2 _ m1
    congr 1; omega) (he := he) (hpl := hpl)
/-- tuple(xs) of a list, of a tuple -/
theorem e_tupL {a : Expr} {p : Pos} {xs : List α} (hg : Gl X "tuple") (hm : X.mg "tuple" = none) (ha : PA X [a] (tA X.K Γ [aL R xs])) (he : starEach [a] X.env = (false, eval a X.env) :: starEach [] X.env := by rfl) (hpl : (backTo pos (starEach [] X.env)).any (·.1) = false := by rfl) : PE X (.Call (.Name "tuple" p) [a] [] pos) (tE X.K Γ (rTup R) xs) :=
  e_ct call_tuple_of hg hm (by decide +kernel) ha (fun w vs w1 Q l q k => by
    obtain ⟨v, rfl, ⟨a, us, rfl, h1, h2, h3⟩⟩ := args1 q
    refine ⟨a, us, rfl, .inl ⟨SqL.of h1, fun p hp => ?_⟩⟩
    have l2 := w1.le_newF p (.tup us) hp
    exact k _ _ (l.trans l2) ⟨p, us, rfl, SqT.of upd_same, h2, Paired.mp h3 fun _ _ h => R.mono l2.f h⟩) (he := he) (hpl := hpl)
theorem e_tupT {a : Expr} {p : Pos} {xs : List α} (hg : Gl X "tuple") (hm : X.mg "tuple" = none) (ha : PA X [a] (tA X.K Γ [aF (rTup R) xs])) (he : starEach [a] X.env = (false, eval a X.env) :: starEach [] X.env := by rfl) (hpl : (backTo pos (starEach [] X.env)).any (·.1) = false := by rfl) : PE X (.Call (.Name "tuple" p) [a] [] pos) (tE X.K Γ (rTup R) xs) :=
  e_ct call_tuple_of hg hm (by decide +kernel) ha (fun w vs w1 Q l q k => by
    obtain ⟨v, rfl, ⟨a, us, rfl, h1, h2, h3⟩⟩ := args1 q
    exact ⟨a, us, rfl, .inr ⟨sqT_mono w1.sub h1, k _ w1 l ⟨a, us, rfl, h1, h2, h3⟩⟩⟩) (he := he) (hpl := hpl)
theorem e_list {a : Expr} {p : Pos} {xs : List α} (hg : Gl X "list") (hm : X.mg "list" = none) (ha : PA X [a] (tA X.K Γ [aB R xs])) (he : starEach [a] X.env = (false, eval a X.env) :: starEach [] X.env := by rfl) (hpl : (backTo pos (starEach [] X.env)).any (·.1) = false := by rfl) : PE X (.Call (.Name "list" p) [a] [] pos) (tN X.K Γ R xs) :=
  e_ct call_list_of hg hm (by decide +kernel) ha (fun w vs w1 Q l q k => by
    obtain ⟨v, rfl, ⟨a, us, rfl, h1, h2, h3⟩⟩ := args1 q
    refine ⟨a, us, rfl, h1.imp (fun h => SqL.of h) id, fun p hp => ?_⟩
    have l2 := w1.le_newM p (.lst us) hp
    exact k _ _ (l.trans l2) ⟨p, us, rfl, none_back l.h hp, none_back w1.sub hp, upd_same, h2, Paired.mp h3 fun _ _ h => R.mono l2.f h⟩) (he := he) (hpl := hpl)

/-! lists put together -/
theorem e_catL {a b : Expr} {xs ys : List α} (ha : PE X a (tL X.K Γ R xs)) (hb : PE X b (tL X.K Γ R ys)) (hz : xs.length + ys.length ≤ sizeLine) : PE X (.BinOp a .Add b pos) (tN X.K Γ R (xs ++ ys)) :=
  e_op2 (ta := tL X.K Γ R xs) (tb := tL X.K Γ R ys) (t := tL X.K Γ R xs) (a := a) (b := b) (pe_op op_cat ha hb) fun w u w1 v w2 Q l1 l2 ⟨p, vs, e, h1, n1, q1⟩ ⟨q, us, e2, h2, n2, q2⟩ k => by
    subst e e2
    have z := paired_len q1
    have z2 := paired_len q2
    refine ⟨p, q, vs, us, rfl, rfl, l2.h _ _ h1, h2, by omega, fun r hr => ?_⟩
    have l3 := w2.le_newM r (.lst (vs ++ us)) hr
    refine k _ (w2.newM r _ hr) ((l1.trans l2).trans l3) ⟨r, vs ++ us, rfl, none_back (l1.trans l2).h hr, none_back w2.sub hr, upd_same, by rw [List.length_append]; omega, Paired.app (Paired.mp q1 fun _ _ h => R.mono (l2.trans l3).f h) (Paired.mp q2 fun _ _ h => R.mono l3.f h)⟩
end
section
variable {X : Cx} {Γ : Gm} {α : Type} {R : Fz α} {pos : Pos}
theorem e_rep {a b : Expr} {xs : List α} {n : Int} (ha : PE X a (tL X.K Γ R xs)) (hb : PE X b (tE X.K Γ rInt n)) (h : n ≤ 1000000) (hz : xs.length * n.toNat ≤ sizeLine) (h0 : -1000000 ≤ n) : PE X (.BinOp a .Mult b pos) (tN X.K Γ R (List.replicate n.toNat xs).flatten) :=
  e_op2 (ta := tL X.K Γ R xs) (tb := tE X.K Γ rInt n) (t := tL X.K Γ R xs) (a := a) (b := b) (pe_op op_rep ha hb) fun w u w1 v w2 Q l1 l2 ⟨p, vs, e, h1, n1, q1⟩ e2 k => by
    have e2 : v = .int n := e2
    subst e e2
    have z := paired_len q1
    refine ⟨p, n, vs, rfl, rfl, l2.h _ _ h1, by omega, by omega, by rw [z]; exact hz, fun r hr => ?_⟩
    have l3 := w2.le_newM r (.lst (List.replicate n.toNat vs).flatten) hr
    have rep : ∀ k : Nat, Paired (R.r X.K w1.F) (List.replicate k vs).flatten (List.replicate k xs).flatten := fun k => by
      induction k with
      | zero => exact .nil
      | succ k ih => rw [List.replicate_succ, List.replicate_succ]; exact Paired.app q1 ih
    refine k _ (w2.newM r _ hr) ((l1.trans l2).trans l3) ⟨r, _, rfl, none_back (l1.trans l2).h hr, none_back w2.sub hr, upd_same, ?_, Paired.mp (rep n.toNat) fun _ _ h => R.mono (l2.trans l3).f h⟩
    rw [paired_len (rep n.toNat), List.length_flatten, List.map_replicate, List.sum_replicate_nat, Nat.mul_comm]
    exact hz
end
end PZ

namespace PZ
open PySem PySem.Spec PyProof.Rows L2

def GSub (Γ Γ' : Gm) : Prop := Γ'.length = Γ.length ∧ ∀ (i : Nat) (c : Cell), Γ'[i]? = some (some c) → Γ[i]? = some (some c)
theorem GSub.refl (Γ : Gm) : GSub Γ Γ := ⟨rfl, fun _ _ h => h⟩
theorem sub_nil : GSub [] [] := GSub.refl _
theorem sub_keep {c : Option Cell} {Γ Γ' : Gm} (h : GSub Γ Γ') : GSub (c :: Γ) (c :: Γ') := ⟨by simp [h.1], fun i d e => by
  cases i with
  | zero => exact e
  | succ i => exact h.2 i d e⟩
theorem sub_skip {c : Option Cell} {Γ Γ' : Gm} (h : GSub Γ Γ') : GSub (c :: Γ) (none :: Γ') := ⟨by simp [h.1], fun i d e => by
  cases i with
  | zero => cases e
  | succ i => exact h.2 i d e⟩
theorem EnvOk.gsub {K : PySem.W.Frag} {b w : Wd} {σ : L2.St} {Γ Γ' : Gm} (h : EnvOk K b w σ Γ) (s : GSub Γ Γ') : EnvOk K b w σ Γ' := h.sub s.1 s.2

/-- the same environment over a younger base: what is frozen now stays so -/
def Wd.base (b w : Wd) (h : Le b w) : Wd :=
  ⟨w.F, fun a => match b.H a with | some o => some o | none => w.F a, fun a o e => by
    show (match b.H a with | some o => some o | none => w.F a) = some o
    cases q : b.H a with
    | none => exact e
    | some u => have := h.h a u q; rw [w.sub a o e] at this; exact this.symm⟩
theorem Wd.base_le (b w : Wd) (h : Le b w) : Le (b.base w h) w := by
  refine ⟨Same.refl _, fun a o e => ?_, fun a o e q => e⟩
  have e : (match b.H a with | some o => some o | none => w.F a) = some o := e
  cases q : b.H a with
  | none => rw [q] at e; exact w.sub a o e
  | some u => rw [q] at e; cases e; exact h.h a _ q
theorem Wd.of_base {b w w' : Wd} (h : Le b w) (k : Le (b.base w h) w') : Le b w' := by
  refine ⟨h.f.trans k.f, fun a o e => k.h a o ?_, fun a o e q => k.new a o (h.new a o e q) ?_⟩
  · show (match b.H a with | some o => some o | none => w.F a) = some o
    rw [e]
  · show (match b.H a with | some o => some o | none => w.F a) = some o
    rw [q]
theorem EnvOk.rebase {K : PySem.W.Frag} {b w : Wd} {σ : L2.St} {Γ : Gm} (h : EnvOk K b w σ Γ) : EnvOk K (b.base w h.base) w σ Γ := by
  obtain ⟨A, k⟩ := id h
  refine ⟨A, k.cells, k.sep, fun i a ha => ?_, Wd.base_le _ _ _, k.len⟩
  obtain ⟨h1, h2, h3⟩ := k.mine i a ha
  refine ⟨h1, h2, ?_⟩
  show (match b.H a with | some o => some o | none => w.F a) = none
  rw [h3]; exact h1
theorem EnvOk.unbase {K : PySem.W.Frag} {b w w' : Wd} {σ : L2.St} {Γ : Gm} {h : Le b w} (k : EnvOk K (b.base w h) w' σ Γ) : EnvOk K b w' σ Γ ∧ Same w.F w'.F := by
  obtain ⟨A, k⟩ := k
  refine ⟨⟨A, k.cells, k.sep, fun i a ha => ?_, Wd.of_base h k.base, k.len⟩, k.base.f⟩
  obtain ⟨h1, h2, h3⟩ := k.mine i a ha
  refine ⟨h1, h2, ?_⟩
  have h3 : (match b.H a with | some o => some o | none => w.F a) = none := h3
  cases q : b.H a with
  | none => rfl
  | some u => rw [q] at h3; cases h3

section
variable {X : Cx} {Γ Γ' : Gm} {α β γ δ ρ : Type} {R : Fz α} {S : Fz β} {T : Fz γ} {U : Fz δ} {e tg : Expr} {pos : Pos} {st : Stmt} {rest : List Stmt} {o : Ot}

theorem q_sub (h : PSs X rest (tO X.K Γ' o)) (s : GSub Γ Γ') : PSs X rest (tO X.K Γ o) := PSs.imp h fun D σ H ⟨b, w, hw, ok, k⟩ => ⟨b, w, hw, ok.gsub s, k⟩
theorem q_nil (s : GSub Γ Γ') : PSs X [] (tO X.K Γ (.nx Γ')) := PSs.imp pss_nil fun D σ H ⟨b, w, hw, ok, k⟩ => by
  show D.nx σ H
  rw [← hw]; exact k σ w (ok.gsub s)
theorem q_seq {Γ1 : Gm} (h : PS X st (tO X.K Γ (.nx Γ1))) (hr : PSs X rest (tO X.K Γ1 o)) : PSs X (st :: rest) (tO X.K Γ o) :=
  PSs.imp (pss_cons h hr) fun D σ H ⟨b, w, hw, ok, k⟩ => ⟨b, w, hw, ok, fun σ' w' ok' => ⟨b, w', rfl, ok', k⟩⟩
/-- a statement that does not end normally -/
theorem q_fin (h : PS X st (tO X.K Γ o)) (ho : ∀ Γ, o ≠ .nx Γ) : PSs X (st :: rest) (tO X.K Γ o) :=
  PSs.imp (pss_cons h pss_never) fun D σ H ⟨b, w, hw, ok, k⟩ => ⟨b, w, hw, ok, by
    cases o with
    | nx Γ => exact absurd rfl (ho Γ)
    | rt R x => exact k
    | bk Γ => exact k
    | ct Γ => exact k⟩
theorem q_one (h : PS X st (tO X.K Γ o)) : PSs X [st] (tO X.K Γ o) := pss_one h
theorem q_ret {x : α} (h : PE X e (tE X.K Γ R x)) : PSs X (.Return (some e) pos :: rest) (tO X.K Γ (.rt R x)) :=
  q_fin (PS.imp (ps_ret h) fun D σ H ⟨b, w, hw, ok, k⟩ => ⟨b, w, hw, ok, fun v w' l q => k v w' (ok.base.trans l) q⟩) fun _ h => nomatch h
theorem q_brk (s : GSub Γ Γ') : PSs X (.Break pos :: rest) (tO X.K Γ (.bk Γ')) :=
  q_fin (PS.imp ps_break fun D σ H ⟨b, w, hw, ok, k⟩ => by
    show D.bk σ H
    rw [← hw]; exact k σ w (ok.gsub s)) fun _ h => nomatch h
/-- name = e -/
theorem q_set {i : Nat} {x : α} (h : PS X st (tAsg (tE X.K Γ R x) (gName i))) (hr : PSs X rest (tO X.K (Γ.set i (some (fz R x))) o)) : PSs X (st :: rest) (tO X.K Γ o) :=
  PSs.imp (pss_cons h hr) fun D σ H ⟨b, w, hw, ok, k⟩ => ⟨b, w, hw, ok, fun v w' l q => ⟨b, w', rfl, (ok.mono l).set q, k⟩⟩
/-- name = a new list that will change -/
theorem q_setO {i : Nat} {xs : List α} (h : PS X st (tAsg (tN X.K Γ R xs) (gName i))) (hr : PSs X rest (tO X.K (Γ.set i (some (own R xs))) o)) : PSs X (st :: rest) (tO X.K Γ o) :=
  PSs.imp (pss_cons h hr) fun D σ H ⟨b, w, hw, ok, k⟩ => ⟨b, w, hw, ok, fun v w' l ⟨p, vs, e, h1, h2, h3, h4, h5⟩ => by
    subst e
    exact ⟨b, w', rfl, ok.setOwn l h1 h2 h3 ⟨p, vs, rfl, rfl, h3, h4, h5⟩, k⟩⟩
theorem s_fz {i : Nat} {xs : List α} (h : PS X st (tAsg (tN X.K Γ R xs) (gName i))) : PS X st (tAsg (tE X.K Γ (rLst R) xs) (gName i)) :=
  PS.imp h fun D σ H ⟨b, w, hw, ok, k⟩ => ⟨b, w, hw, ok, fun v w' l ⟨p, vs, e, h1, h2, h3, h4, h5⟩ => by
    exact k v (w'.frz p _ h3) (l.frz h1 h3) ⟨p, vs, e, upd_same, h4, Paired.mp h5 fun _ _ q => R.mono (same_new h2) q⟩⟩
/-- a target of any form -/
theorem q_asg {asg : Gm → α → Gm} {sl : List Nat} {x : α} (h : PS X st (tAsg (tE X.K Γ R x) (tG X.K R asg sl))) (hr : PSs X rest (tO X.K (asg Γ x) o)) : PSs X (st :: rest) (tO X.K Γ o) :=
  PSs.imp (pss_cons h hr) fun D σ H ⟨b, w, hw, ok, k⟩ => ⟨b, w, hw, ok, fun v w' l q => ⟨b, w', Γ, x, rfl, ok.mono l, q, fun σ' _ ok' => ⟨b, w', rfl, ok', k⟩⟩⟩
/-- a, b = x, y : two plain local names -/
theorem q_par {i j : Nat} {ta : TA} {x : α} {y : β} (hij : i ≠ j) (h : PS X st (tPar i j (tA X.K Γ [aF R x, aF S y]))) (hr : PSs X rest (tO X.K ((Γ.set i (some (fz R x))).set j (some (fz S y))) o)) : PSs X (st :: rest) (tO X.K Γ o) :=
  PSs.imp (pss_cons h hr) fun D σ H ⟨b, w, hw, ok, k⟩ => ⟨b, w, hw, ok, fun vs w' l q => by
    obtain ⟨u, v, rfl, q1, q2⟩ := args2 q
    exact ⟨u, v, rfl, b, w', rfl, ((ok.mono l).set q1).set q2, k⟩⟩
theorem ite_b {c : Bool} {A B : Prop} (h1 : c = true → A) (h2 : c = false → B) : if c = true then A else B := by
  cases c with
  | true => exact iteT (h1 rfl)
  | false => exact iteF (h2 rfl)
/-- if: both ways to one outcome -/
theorem s_if {c : Expr} {A B : List Stmt} {t : Bool} (hc : PT X c (tT X.K Γ t)) (ha : t = true → PSs X A (tO X.K Γ o)) (hb : t = false → PSs X B (tO X.K Γ o)) : PS X (.If c A B pos) (tO X.K Γ o) := by
  cases t with
  | true => exact PS.imp (ps_if hc (ha rfl) pss_never) fun D σ H ⟨b, w, hw, ok, k⟩ => ⟨b, w, hw, ok, fun w' l => iteT ⟨b, w', rfl, ok.mono l, k⟩⟩
  | false => exact PS.imp (ps_if hc pss_never (hb rfl)) fun D σ H ⟨b, w, hw, ok, k⟩ => ⟨b, w, hw, ok, fun w' l => iteF ⟨b, w', rfl, ok.mono l, k⟩⟩
/-- if ..: (leaves) else: (leaves) or the rest -/
theorem q_if {c : Expr} {A B : List Stmt} {t : Bool} (hc : PT X c (tT X.K Γ t)) (ha : t = true → PSs X (.If c A B pos :: rest) (tO X.K Γ o)) (hb : t = false → PSs X (.If c A B pos :: rest) (tO X.K Γ o)) : PSs X (.If c A B pos :: rest) (tO X.K Γ o) := by
  cases t with
  | true => exact ha rfl
  | false => exact hb rfl
/-- the test is true, the branch leaves -/
theorem q_ifT {c : Expr} {A B : List Stmt} (hc : PT X c (tT X.K Γ true)) (ha : PSs X A (tO X.K Γ o)) (ho : ∀ Γ, o ≠ .nx Γ) : PSs X (.If c A B pos :: rest) (tO X.K Γ o) :=
  q_fin (s_if hc (fun _ => ha) fun h => nomatch h) ho
/-- the test is true, the branch goes on -/
theorem q_ifTn {c : Expr} {A B : List Stmt} {Γ1 : Gm} (hc : PT X c (tT X.K Γ true)) (ha : PSs X A (tO X.K Γ (.nx Γ1))) (hr : PSs X rest (tO X.K Γ1 o)) : PSs X (.If c A B pos :: rest) (tO X.K Γ o) :=
  q_seq (s_if hc (fun _ => ha) fun h => nomatch h) hr
theorem q_ifF {c : Expr} {A B : List Stmt} (hc : PT X c (tT X.K Γ false)) (hb : PSs X B (tO X.K Γ o)) (ho : ∀ Γ, o ≠ .nx Γ) : PSs X (.If c A B pos :: rest) (tO X.K Γ o) :=
  q_fin (s_if hc (fun h => nomatch h) fun _ => hb) ho
theorem q_ifFn {c : Expr} {A B : List Stmt} {Γ1 : Gm} (hc : PT X c (tT X.K Γ false)) (hb : PSs X B (tO X.K Γ (.nx Γ1))) (hr : PSs X rest (tO X.K Γ1 o)) : PSs X (.If c A B pos :: rest) (tO X.K Γ o) :=
  q_seq (s_if hc (fun h => nomatch h) fun _ => hb) hr
/-- if c: (return x)  .. the rest -/
theorem q_ifR {c : Expr} {A : List Stmt} {t : Bool} {r r' : ρ} {Q : Fz ρ} (hc : PT X c (tT X.K Γ t)) (ha : t = true → PSs X A (tO X.K Γ (.rt Q r))) (hr : t = false → PSs X rest (tO X.K Γ (.rt Q r'))) : PSs X (.If c A [] pos :: rest) (tO X.K Γ (.rt Q (if t then r else r'))) := by
  cases t with
  | true => exact q_ifT hc (ha rfl) fun _ h => nomatch h
  | false => exact q_ifFn hc (q_nil (GSub.refl _)) (hr rfl)
/-- if c: .. else: .., both going on -/
theorem q_ifN {c : Expr} {A B : List Stmt} {t : Bool} {Γ1 : Gm} (hc : PT X c (tT X.K Γ t)) (ha : t = true → PSs X A (tO X.K Γ (.nx Γ1))) (hb : t = false → PSs X B (tO X.K Γ (.nx Γ1))) (hr : PSs X rest (tO X.K Γ1 o)) : PSs X (.If c A B pos :: rest) (tO X.K Γ o) :=
  q_seq (s_if hc ha hb) hr
/-- a way that goes nowhere else: the test is false here -/
theorem q_skip {c : Expr} {A : List Stmt} {t : Bool} (hc : PT X c (tT X.K Γ t)) (ht : t = false) (hr : PSs X rest (tO X.K Γ o)) : PSs X (.If c A [] pos :: rest) (tO X.K Γ o) := by
  subst ht
  exact q_ifFn hc (q_nil (GSub.refl _)) hr

/-! lists that change -/
theorem own_get {K : PySem.W.Frag} {b w : Wd} {σ : L2.St} {i : Nat} {c : Cell} {A : Nat → Addr → Prop} (h : EnvA K b w σ Γ A) (e : Γ[i]? = some (some c)) : ∃ v, σ[i]? = some (some v) ∧ c.P K w (A i) v := h.cells i c e
/-- the cell at i is changed in the heap alone -/
theorem EnvA.put {K : PySem.W.Frag} {b w : Wd} {σ : L2.St} {i : Nat} {c : Cell} {A : Nat → Addr → Prop} {p : Addr} {u : HO} (h : EnvA K b w σ Γ A) (hA : A i p) (hF : w.F p = none)
    (hc : ∀ v, σ[i]? = some (some v) → c.P K (w.put p u hF) (A i) v) (hi : ∃ v, σ[i]? = some (some v)) : EnvA K b (w.put p u hF) σ (Γ.set i (some c)) A where
  cells := fun j d e => by
    by_cases hj : i = j
    · subst hj
      by_cases hl : i < Γ.length
      · rw [List.getElem?_set_self hl] at e
        cases e
        obtain ⟨v, hv⟩ := hi
        exact ⟨v, hv, hc v hv⟩
      · rw [List.getElem?_eq_none (by simpa using hl)] at e; cases e
    · rw [List.getElem?_set_ne hj] at e
      obtain ⟨v, e1, q⟩ := h.cells j d e
      refine ⟨v, e1, d.loc (w := w) (w' := w.put p u hF) (Same.refl _) (fun a ha => ?_) q⟩
      show upd w.H p u a = w.H a
      exact upd_ne fun z => hj (h.sep i j p hA (z ▸ ha))
  sep := h.sep
  mine := fun j a ha => by
    obtain ⟨h1, ⟨o, ho⟩, h3⟩ := h.mine j a ha
    refine ⟨h1, ?_, h3⟩
    by_cases z : a = p
    · subst z; exact ⟨u, upd_same⟩
    · exact ⟨o, by show upd w.H p u a = some o; rw [upd_ne z]; exact ho⟩
  base := ⟨h.base.f, same_mut h.base.h (h.mine i p hA).2.2, fun a o e q => h.base.new a o e q⟩
  len := by simp [h.len]
/-- x.append(e) -/
theorem s_app {i : Nat} {xs : List α} {x : α} {y : Str} {py apos cpos : Pos} (hi : Γ[i]? = some (some (own R xs)))
    (h : PS X st (tDrop (tBM X.K "list" rAppend (tVar i) (tCons (tE X.K Γ R x) tNil)))) (hz : xs.length < sizeLine) : PS X st (tO X.K Γ (.nx (Γ.set i (some (own R (xs ++ [x])))))) :=
  PS.imp h fun D σ H ⟨b, w, hw, ⟨A, ok⟩, k⟩ => by
    obtain ⟨v, e1, p, vs, rfl, hA, h3, h4, h5⟩ := ok.cells i _ hi
    subst hw
    refine ⟨.ref p, e1, Or.inl ⟨rfl, vs, SqL.of h3⟩, b, w, rfl, ⟨A, ok⟩, fun v w' l q => ?_⟩
    have h3' := l.h _ _ h3
    have ok' := ok.mono l
    have hF := (ok'.mine i p hA).1
    have hl : vs.length < sizeLine := by rw [paired_len h5]; exact hz
    refine ⟨p, vs, v, rfl, rfl, h3', hl, ?_⟩
    refine k σ (w'.put p (.lst (vs ++ [v])) hF) ⟨A, ok'.put hA hF (fun z hz' => ?_) ⟨_, e1⟩⟩
    rw [e1] at hz'; cases hz'
    exact ⟨p, vs ++ [v], rfl, hA, upd_same, by simp; omega, Paired.app (Paired.mp h5 fun _ _ h => R.mono l.f h) (.cons q .nil)⟩
/-- x[j] = e, x a list of its own -/
theorem s_setI {i : Nat} {xs : List α} {x : α} {j : Int} {n : Nat} {to ti : Expr} (hi : Γ[i]? = some (some (own R xs)))
    (h : PS X st (tAsg (tE X.K Γ R x) (gSub (tVar i) (tE X.K Γ rInt j) rSetL))) (hj : ixN xs.length j = some n) : PS X st (tO X.K Γ (.nx (Γ.set i (some (own R (xs.set n x)))))) :=
  PS.imp h fun D σ H ⟨b, w, hw, ⟨A, ok⟩, k⟩ => by
    subst hw
    refine ⟨b, w, rfl, ⟨A, ok⟩, fun u w1 l1 q1 => ?_⟩
    have ok1 := ok.mono l1
    obtain ⟨v, e1, p, vs, rfl, hA, h3, h4, h5⟩ := ok1.cells i _ hi
    refine ⟨.ref p, e1, b, w1, rfl, ⟨A, ok1⟩, fun z w2 l2 q2 => ?_⟩
    have h3' := l2.h _ _ h3
    have ok' := ok1.mono l2
    have hF := (ok'.mine i p hA).1
    refine ⟨p, vs, j, n, rfl, q2, h3', by rw [paired_len h5]; exact hj, ?_⟩
    refine k σ (w2.put p (.lst (vs.set n u)) hF) ⟨A, ok'.put hA hF (fun z hz' => ?_) ⟨_, e1⟩⟩
    rw [e1] at hz'; cases hz'
    have ps : ∀ {vs : List V} {xs : List α} (n : Nat), Paired (R.r X.K w2.F) vs xs → Paired (R.r X.K w2.F) (vs.set n u) (xs.set n x) := by
      intro vs xs n h
      induction h generalizing n with
      | nil => exact .nil
      | cons r t ih =>
        cases n with
        | zero => exact .cons (R.mono l2.f q1) t
        | succ n => exact .cons r (ih n)
    exact ⟨p, _, rfl, hA, upd_same, by rw [List.length_set]; exact h4, ps n (Paired.mp h5 fun _ _ h => R.mono l2.f h)⟩
/-- an own list is frozen -/
theorem q_frz {i : Nat} {xs : List α} (hi : Γ[i]? = some (some (own R xs))) (hr : PSs X rest (tO X.K (Γ.set i (some (fz (rLst R) xs))) o)) : PSs X rest (tO X.K Γ o) :=
  PSs.imp hr fun D σ H ⟨b, w, hw, ⟨A, ok⟩, k⟩ => by
    obtain ⟨v, e1, p, vs, rfl, hA, h3, h4, h5⟩ := ok.cells i _ hi
    have hF := (ok.mine i p hA).1
    have hb := (ok.mine i p hA).2.2
    refine ⟨b, w.frz p _ h3, hw, ⟨fun j a => j ≠ i ∧ A j a, ⟨fun j d e => ?_, fun j k a ha hb => ok.sep j k a ha.2 hb.2, fun j a ha => ?_, ok.base.frz hb h3, by simp [ok.len]⟩⟩, k⟩
    · by_cases hj : i = j
      · subst hj
        by_cases hl : i < Γ.length
        · rw [List.getElem?_set_self hl] at e
          cases e
          exact ⟨.ref p, e1, p, vs, rfl, upd_same, h4, Paired.mp h5 fun _ _ h => R.mono (same_new hF) h⟩
        · rw [List.getElem?_eq_none (by simpa using hl)] at e; cases e
      · rw [List.getElem?_set_ne hj] at e
        obtain ⟨v, e2, q⟩ := ok.cells j d e
        refine ⟨v, e2, ?_⟩
        have : (fun a => j ≠ i ∧ A j a) = A j := by funext a; simp [Ne.symm hj]
        rw [this]
        exact d.loc (same_new hF) (fun _ _ => rfl) q
    · obtain ⟨h1, h2, h3'⟩ := ok.mine j a ha.2
      refine ⟨?_, h2, h3'⟩
      show upd w.F p _ a = none
      have ne : a ≠ p := fun z => by subst z; exact ha.1 (ok.sep j i a ha.2 hA)
      rw [upd_ne ne]; exact h1

/-! loops -/
/-- what a turn of a loop may come to -/
def Step {σ : Type} (G : σ → Gm) (good : σ → Prop) (Γb : Gm) (o : Ot) : Ot → Prop
  | .nx Γ => ∃ s, GSub Γ (G s) ∧ good s
  | .ct Γ => ∃ s, GSub Γ (G s) ∧ good s
  | .bk Γ => GSub Γ Γb
  | .rt R x => o = .rt R x
theorem q_forG {it : Expr} {body : List Stmt} {asg : Gm → α → Gm} {sl : List Nat} {xs : List α} {σ' : Type} (G : σ' → Gm) (Iv : Nat → σ' → Prop) (Γb : Gm) (ob : Nat → σ' → Ot) (s0 : σ')
    (hp : PassesOwn (model X.prog X.w) X.A X.env X.xe) (hc : X.calm = true) (hi : PI X tg it (tIF X.K Γ R xs)) (hg : PG X tg (tG X.K R asg sl)) (h0 : GSub Γ (G s0)) (i0 : Iv 0 s0)
    (hb : ∀ i (h : i < xs.length) s, Iv i s → PSs X body (tO X.K (asg (G s) xs[i]) (ob i s)))
    (hn : ∀ i (h : i < xs.length) s, Iv i s → Step G (Iv (i + 1)) Γb o (ob i s))
    (hr : ∀ s, Iv xs.length s → PSs X rest (tO X.K (G s) o)) (hrb : (∃ i s Γ, ob i s = .bk Γ) → PSs X rest (tO X.K Γb o))
    (hs : ∀ x, foldedSetIterable it X.env x = pure x := by intro _; rfl) : PSs X (.For tg it body [] pos :: rest) (tO X.K Γ o) := by
  have hbody : PSs X body (fun D σ H => ∃ z : {z : Nat × σ' // ∃ h : z.1 < xs.length, Iv z.1 z.2}, tO X.K (asg (G z.1.2) (xs[z.1.1]'z.2.1)) (ob z.1.1 z.1.2) D σ H) :=
    PSs.any fun z => hb z.1.1 z.2.1 z.1.2 z.2.2
  have hrest : PSs X rest (fun D σ H => (∃ s : {s // Iv xs.length s}, tO X.K (G s.1) o D σ H) ∨ ((∃ i s Γ, ob i s = .bk Γ) ∧ tO X.K Γb o D σ H)) := by
    refine ⟨fun pins s σ H D I h => ?_⟩
    rcases h with ⟨s, h⟩ | ⟨z, h⟩
    · exact (hr s.1 s.2).run pins _ σ H D I h
    · exact (hrb z).run pins _ σ H D I h
  refine PSs.imp (pss_cons (ps_for hp hc hi hg hbody hs) hrest) fun D σ H ⟨b, w, hw, ok, k⟩ => ?_
  refine ⟨b, w, hw, ok, fun J stp w1 l io s1 hst => ?_⟩
  refine ⟨fun i m σ H => m = xs.length - i ∧ i ≤ xs.length ∧ ∃ (w2 : Wd) (s : σ'), w2.H = H ∧ EnvOk X.K b w2 σ (G s) ∧ Iv i s ∧ stp w2, ⟨xs.length, rfl, Nat.zero_le _, w1, s0, rfl, (ok.mono l).gsub h0, i0, s1⟩, ?_⟩
  rintro i m σ H ⟨rfl, hi, w2, s, rfl, ok2, iv, s2⟩
  by_cases hlt : i < xs.length
  · refine .inr ⟨io.go w2 s2 i hlt, fun σ H => ∃ (w3 : Wd) (s : σ'), w3.H = H ∧ EnvOk X.K b w3 σ (G s) ∧ Iv (i + 1) s ∧ stp w3, fun σ H ⟨w3, s, e, q1, q2, q3⟩ => ⟨xs.length - (i + 1), by omega, rfl, hlt, w3, s, e, q1, q2, q3⟩, fun v H' y => ?_⟩
    obtain ⟨w3, e3, l3, r3⟩ := io.yld w2 s2 i hlt v H' y
    subst e3
    refine ⟨b, w3, G s, xs[i], rfl, ok2.mono l3, r3, fun σ' _ ok' => ⟨⟨(i, s), hlt, iv⟩, (b.base w3 ok'.base), w3, rfl, ok'.rebase, ?_⟩⟩
    have st3 : stp w3 := io.le _ _ s2 l3
    have hstep := hn i hlt s iv
    show OtOk X.K _ _ (ob i s)
    cases eo : ob i s with
    | nx Γ2 =>
      rw [eo] at hstep
      obtain ⟨s', g, iv'⟩ := hstep
      intro σ4 w4 ok4
      obtain ⟨ok5, sm⟩ := ok4.unbase
      exact ⟨w4, s', rfl, ok5.gsub g, iv', hst _ _ st3 sm⟩
    | ct Γ2 =>
      rw [eo] at hstep
      obtain ⟨s', g, iv'⟩ := hstep
      intro σ4 w4 ok4
      obtain ⟨ok5, sm⟩ := ok4.unbase
      exact ⟨w4, s', rfl, ok5.gsub g, iv', hst _ _ st3 sm⟩
    | bk Γ2 =>
      rw [eo] at hstep
      intro σ4 w4 ok4
      obtain ⟨ok5, sm⟩ := ok4.unbase
      exact .inr ⟨⟨i, s, Γ2, eo⟩, b, w4, rfl, ok5.gsub hstep, k⟩
    | rt R2 x2 =>
      rw [eo] at hstep
      have hstep : o = .rt R2 x2 := hstep
      subst hstep
      intro v4 w4 l4 q4
      exact k v4 w4 (Wd.of_base ok'.base l4) q4
  · have e : i = xs.length := by omega
    subst e
    exact .inl ⟨io.stop w2 s2 _ (Nat.le_refl _), .inl ⟨⟨s, iv⟩, b, w2, rfl, ok2, k⟩⟩
theorem foldl_take {σ' : Type} {g : σ' → α → σ'} {s0 : σ'} {xs : List α} {i : Nat} (h : i < xs.length) : (xs.take (i + 1)).foldl g s0 = g ((xs.take i).foldl g s0) xs[i] := by
  rw [List.take_succ_eq_append_getElem h, List.foldl_append]; rfl
/-- a loop that goes through, as a fold -/
theorem q_for {it : Expr} {body : List Stmt} {asg : Gm → α → Gm} {sl : List Nat} {xs : List α} {σ' : Type} (G : σ' → Gm) (g : σ' → α → σ') (s0 : σ')
    (hp : PassesOwn (model X.prog X.w) X.A X.env X.xe) (hc : X.calm = true) (hi : PI X tg it (tIF X.K Γ R xs)) (hg : PG X tg (tG X.K R asg sl)) (h0 : GSub Γ (G s0))
    (hb : ∀ pre x post, xs = pre ++ x :: post → PSs X body (tO X.K (asg (G (pre.foldl g s0)) x) (.nx (G (g (pre.foldl g s0) x)))))
    (hr : PSs X rest (tO X.K (G (xs.foldl g s0)) o))
    (hs : ∀ x, foldedSetIterable it X.env x = pure x := by intro _; rfl) : PSs X (.For tg it body [] pos :: rest) (tO X.K Γ o) := by
  refine q_forG G (fun i s => s = (xs.take i).foldl g s0) [] (fun i s => if h : i < xs.length then .nx (G (g s xs[i])) else .nx []) s0 hp hc hi hg h0 rfl (fun i h s e => ?_) (fun i h s e => ?_) (fun s e => ?_) (fun ⟨i, s, Γ, e⟩ => ?_) hs
  · subst e
    rw [dif_pos h]
    exact hb (xs.take i) xs[i] (xs.drop (i + 1)) (by rw [← List.drop_eq_getElem_cons h, List.take_append_drop])
  · rw [dif_pos h]
    exact ⟨_, GSub.refl _, by rw [foldl_take h, e]⟩
  · rw [e, List.take_length]; exact hr
  · split at e <;> cases e
/-- while -/
theorem q_while {c : Expr} {body : List Stmt} {σ' : Type} (G : σ' → Gm) (Iv : σ' → Prop) (μ : σ' → Nat) (cv : σ' → Bool) (Γb : Gm) (ob : σ' → Ot) (s0 : σ')
    (hp : PassesOwn (model X.prog X.w) X.A X.env X.xe) (h0 : GSub Γ (G s0)) (i0 : Iv s0) (hc : ∀ s, Iv s → PT X c (tT X.K (G s) (cv s)))
    (hb : ∀ s, Iv s → cv s = true → PSs X body (tO X.K (G s) (ob s))) (hn : ∀ s, Iv s → cv s = true → Step G (fun s' => Iv s' ∧ μ s' < μ s) Γb o (ob s))
    (hr : ∀ s, Iv s → cv s = false → PSs X rest (tO X.K (G s) o)) (hrb : (∃ s Γ, ob s = .bk Γ) → PSs X rest (tO X.K Γb o)) : PSs X (.While c body [] pos :: rest) (tO X.K Γ o) := by
  have hcond : PT X c (fun σ H Q => ∃ s : {s // Iv s}, tT X.K (G s.1) (cv s.1) σ H Q) := PT.any fun s => hc s.1 s.2
  have hbody : PSs X body (fun D σ H => ∃ s : {s // Iv s ∧ cv s = true}, tO X.K (G s.1) (ob s.1) D σ H) := PSs.any fun s => hb s.1 s.2.1 s.2.2
  have hrest : PSs X rest (fun D σ H => (∃ s : {s // Iv s ∧ cv s = false}, tO X.K (G s.1) o D σ H) ∨ ((∃ s Γ, ob s = .bk Γ) ∧ tO X.K Γb o D σ H)) := by
    refine ⟨fun pins s σ H D I h => ?_⟩
    rcases h with ⟨s, h⟩ | ⟨z, h⟩
    · exact (hr s.1 s.2.1 s.2.2).run pins _ σ H D I h
    · exact (hrb z).run pins _ σ H D I h
  refine PSs.imp (pss_cons (ps_while hp hcond hbody) hrest) fun D σ H ⟨b, w, hw, ok, k⟩ => ?_
  refine ⟨fun m σ H => ∃ (w2 : Wd) (s : σ'), w2.H = H ∧ EnvOk X.K b w2 σ (G s) ∧ Iv s ∧ m = μ s, ⟨_, w, s0, hw, ok.gsub h0, i0, rfl⟩, ?_⟩
  rintro m σ H ⟨w2, s, rfl, ok2, iv, rfl⟩
  refine ⟨⟨s, iv⟩, b, w2, rfl, ok2, fun w3 l3 => ite_b (fun e => ?_) fun e => ?_⟩
  · refine ⟨fun σ H => ∃ (w2 : Wd) (s' : σ'), w2.H = H ∧ EnvOk X.K b w2 σ (G s') ∧ Iv s' ∧ μ s' < μ s, fun σ H ⟨w2, s', e1, e2, e3, e4⟩ => ⟨μ s', e4, w2, s', e1, e2, e3, rfl⟩, ⟨s, iv, e⟩, b, w3, rfl, ok2.mono l3, ?_⟩
    have hstep := hn s iv e
    show OtOk X.K _ _ (ob s)
    cases eo : ob s with
    | nx Γ2 =>
      rw [eo] at hstep
      obtain ⟨s', g, iv', lt⟩ := hstep
      exact fun σ4 w4 ok4 => ⟨w4, s', rfl, ok4.gsub g, iv', lt⟩
    | ct Γ2 =>
      rw [eo] at hstep
      obtain ⟨s', g, iv', lt⟩ := hstep
      exact fun σ4 w4 ok4 => ⟨w4, s', rfl, ok4.gsub g, iv', lt⟩
    | bk Γ2 =>
      rw [eo] at hstep
      exact fun σ4 w4 ok4 => .inr ⟨⟨s, Γ2, eo⟩, b, w4, rfl, ok4.gsub hstep, k⟩
    | rt R2 x2 =>
      rw [eo] at hstep
      have hstep : o = .rt R2 x2 := hstep
      subst hstep
      exact k
  · exact .inl ⟨⟨s, iv, e⟩, b, w3, rfl, ok2.mono l3, k⟩
end

/-! defs -/
section
variable {P : Program} {W : World} {K : PySem.W.Frag} {mg : Str → Option Value} {base : Heap} {ρ : Type} {Rr : Fz ρ}
def spG {A : Type} (as : A → List Arg) (pre : A → Prop) (Rr : Fz ρ) (f : A → ρ) (K : PySem.W.Frag) : Sp := fun vs H Q _ => ∃ (a : A) (w : Wd), w.H = H ∧ ArgsOk K w vs (as a) ∧ pre a ∧ ∀ v w', Le w w' → Rr.r K w'.F v (f a) → Q v w'.H
/-- arguments as cells -/
inductive AC : List Arg → Gm → Prop where
  | nil : AC [] []
  | cons {α : Type} {R : Fz α} {x : α} {as : List Arg} {Γ : Gm} (h : AC as Γ) : AC (aF R x :: as) (some (fz R x) :: Γ)
theorem AC.cells {w : Wd} : ∀ {as : List Arg} {Γ : Gm} {vs : List V}, AC as Γ → ArgsOk K w vs as → vs.length = Γ.length ∧ ∀ (i : Nat) (c : Cell), Γ[i]? = some (some c) → ∃ v, vs[i]? = some v ∧ c.P K w (fun _ => False) v
  | _, _, _, .nil, .nil => ⟨rfl, fun i c e => by simp at e⟩
  | _, _, _, .cons h, .cons q t => by
    obtain ⟨h1, h2⟩ := AC.cells h t
    refine ⟨by simp [h1], fun i c e => ?_⟩
    cases i with
    | zero => cases e; exact ⟨_, rfl, q⟩
    | succ i => exact h2 i c e
theorem AC.env {w : Wd} {as : List Arg} {Γ : Gm} {vs : List V} (h : AC as Γ) (q : ArgsOk K w vs as) (N : List Str) : EnvOk K w w (L2.start N vs) (Γ ++ List.replicate (N.length - Γ.length) none) := by
  obtain ⟨h1, h2⟩ := h.cells q
  refine ⟨fun _ _ => False, ⟨fun i c e => ?_, fun _ _ _ z => z.elim, fun _ _ z => z.elim, Le.refl w, by simp [L2.start, h1]⟩⟩
  unfold L2.start
  by_cases hi : i < Γ.length
  · rw [List.getElem?_append_left hi] at e
    obtain ⟨v, e1, p⟩ := h2 i c e
    refine ⟨v, ?_, p⟩
    rw [List.getElem?_append_left (by simp [h1, hi]), List.getElem?_map, e1]; rfl
  · rw [List.getElem?_append_right (by omega)] at e
    rw [List.getElem?_replicate] at e
    split at e <;> cases e
abbrev Cf (P : Program) (W : World) (K : PySem.W.Frag) (mg : Str → Option Value) (base : Heap) (N : List Str) (qual : Str) (st : Stmt) (f : Addr) (cdv : Value) (A : Around) (outer : List Env) (s : Shared) (H : Hp) (E : XK) : Cx :=
  (cxOf CX0 P W K mg base N qual (defScope st) f cdv A outer s H E).nox
theorem fnG {A : Type} {as : A → List Arg} {pre : A → Prop} {f : A → ρ} {Γa : A → Gm} {x qual : Str} {st : Stmt} {fa : Addr} {fd : FuncData} {N ps : List Str} {k : Nat} (F : Fun K x qual st fa fd) (S : FnScope N ps (defScope st)) (hac : ∀ a, AC (as a) (Γa a)) (hlen : ∀ a, (Γa a).length = ps.length)
    (hbody : ∀ a, pre a → ∀ (cdv : Value) (Ar : Around) (outer : List Env) (s : Shared) (H : Hp) (E : XK), Room k (Ar.deeper (envOfC qual (defScope st) s.heap.objs.size fa cdv)) →
      PSs (Cf P W K mg base N qual st fa cdv Ar outer s H E) (defBody st) (tO K (Γa a ++ List.replicate (N.length - (Γa a).length) none) (.rt Rr (f a)))) :
    FnOk P W K mg base CX0 (k + 1) fa fd ps (spG as pre Rr f K) := by
  refine F.ok S (fun vs H Q E ⟨a, w, hw, ha, hp, hq⟩ => ?_) (fun cdv Ar outer s H vs Q E hr ⟨a, w, hw, ha, hp, hq⟩ => ?_)
  · rw [((hac a).cells ha).1, hlen]
  · refine ⟨_, hbody a hp cdv Ar outer s H E hr, w, w, hw, (hac a).env ha N, hq⟩
theorem e_callG {X : Cx} {Γ : Gm} {pos p : Pos} {x : Str} {e : Expr} {es : List Expr} {A : Type} {as : A → List Arg} {pre : A → Prop} {f : A → ρ} {k : Nat} {fa : Addr} {fd : FuncData} {ps : List Str} {y : ρ} (a : A) (F : FnOk X.prog X.w X.K X.mg X.base CX0 k fa fd ps (spG as pre Rr f X.K)) (hr : Room k X.A) (hg : Gl X x) (hm : X.mg x = some (.ref fa))
    (hk : PySem.W.keepIn X.K (.ref fa) = true) (hb : Binds X.K fd ps []) (ha : PA X (e :: es) (tA X.K Γ (as a))) (hp : pre a) (hy : f a = y)
    (h1 : (x == ("__debug__" : Str)) = false := by decide) (h2 : starEach (e :: es) X.env = (false, eval e X.env) :: starEach es X.env := by rfl) (h3 : (backTo pos (starEach es X.env)).any (·.1) = false := by rfl) :
    PE X (.Call (.Name x p) (e :: es) [] pos) (tE X.K Γ Rr y) := hy ▸
  PE.imp (pe_call F hr hg hm hk hb .nil pass0 ha h1 h2 h3) fun σ H Q ⟨b, w, hw, ok, k⟩ => ⟨b, w, hw, ok, fun vs w' l q => by
    show spG as pre Rr f X.K (vs ++ []) w'.H Q E0
    rw [List.append_nil]
    exact ⟨a, w', rfl, q, hp, fun v w2 l2 r => k v w2 (l.trans l2) r⟩⟩
end
end PZ

namespace PZ
open PySem PySem.Spec PyProof.Rows L2

/-! data of any form -/
inductive Dy where
  | non
  | bl (b : Bool)
  | int (i : Int)
  | str (s : Str)
  | tup (l : List Dy)
mutual
def Dy.r (K : PySem.W.Frag) (F : Hp) : V → Dy → Prop
  | v, .non => v = .non
  | v, .bl b => v = .bl b
  | v, .int i => v = .int i
  | v, .str s => v = .str s
  | v, .tup l => ∃ a vs, v = .ref a ∧ SqT K F a vs ∧ vs.length ≤ sizeLine ∧ Dy.rs K F vs l
def Dy.rs (K : PySem.W.Frag) (F : Hp) : List V → List Dy → Prop
  | vs, [] => vs = []
  | vs, d :: ds => ∃ u us, vs = u :: us ∧ Dy.r K F u d ∧ Dy.rs K F us ds
end
theorem Dy.rs_iff {K : PySem.W.Frag} {F : Hp} : ∀ {vs : List V} {ds : List Dy}, Dy.rs K F vs ds ↔ Paired (Dy.r K F) vs ds
  | vs, [] => by
    rw [Dy.rs]
    exact ⟨fun h => by subst h; exact .nil, fun h => by cases h; rfl⟩
  | vs, d :: ds => by
    rw [Dy.rs]
    exact ⟨fun ⟨u, us, e, h, k⟩ => by subst e; exact .cons h (Dy.rs_iff.mp k), fun h => by
      cases h with
      | cons h t => exact ⟨_, _, rfl, h, Dy.rs_iff.mpr t⟩⟩
mutual
theorem Dy.r_mono {K : PySem.W.Frag} {F F' : Hp} (s : Same F F') : ∀ (d : Dy) (v : V), Dy.r K F v d → Dy.r K F' v d
  | .non, v, h => by rw [Dy.r] at h ⊢; exact h
  | .bl b, v, h => by rw [Dy.r] at h ⊢; exact h
  | .int i, v, h => by rw [Dy.r] at h ⊢; exact h
  | .str x, v, h => by rw [Dy.r] at h ⊢; exact h
  | .tup l, v, h => by
    rw [Dy.r] at h ⊢
    obtain ⟨a, vs, e, q, n, p⟩ := h
    exact ⟨a, vs, e, sqT_mono s q, n, Dy.rs_mono s l vs p⟩
theorem Dy.rs_mono {K : PySem.W.Frag} {F F' : Hp} (s : Same F F') : ∀ (l : List Dy) (vs : List V), Dy.rs K F vs l → Dy.rs K F' vs l
  | [], vs, h => by rw [Dy.rs] at h ⊢; exact h
  | d :: ds, vs, h => by
    rw [Dy.rs] at h ⊢
    obtain ⟨u, us, e, h1, h2⟩ := h
    exact ⟨u, us, e, Dy.r_mono s d u h1, Dy.rs_mono s ds us h2⟩
end
def rDy : Fz Dy := ⟨Dy.r, fun s h => Dy.r_mono s _ _ h⟩
theorem rDy_tup {K : PySem.W.Frag} {F : Hp} {v : V} {l : List Dy} : rDy.r K F v (.tup l) ↔ (rTup rDy).r K F v l := by
  show Dy.r K F v (.tup l) ↔ _
  rw [Dy.r]
  exact ⟨fun ⟨a, vs, e, q, n, p⟩ => ⟨a, vs, e, q, n, Dy.rs_iff.mp p⟩, fun ⟨a, vs, e, q, n, p⟩ => ⟨a, vs, e, q, n, Dy.rs_iff.mpr p⟩⟩
/-- x of the kind R is the datum f x -/
structure DyOf {α : Type} (R : Fz α) (f : α → Dy) : Prop where
  r : ∀ {K F v x}, R.r K F v x → rDy.r K F v (f x)
theorem dy_int : DyOf rInt Dy.int := ⟨fun h => by show Dy.r _ _ _ _; rw [Dy.r]; exact h⟩
theorem dy_bool : DyOf rBool Dy.bl := ⟨fun h => by show Dy.r _ _ _ _; rw [Dy.r]; exact h⟩
theorem dy_str : DyOf rStr Dy.str := ⟨fun h => by show Dy.r _ _ _ _; rw [Dy.r]; exact h⟩
theorem dy_dy : DyOf rDy id := ⟨fun h => h⟩
def dyOpt {α : Type} (f : α → Dy) : Option α → Dy
  | none => .non
  | some x => f x
theorem dy_opt {α : Type} {R : Fz α} {f : α → Dy} (h : DyOf R f) : DyOf (rOpt R) (dyOpt f) := ⟨fun {K F v x} q => by
  rcases q with ⟨e, e2⟩ | ⟨y, e, q⟩
  · subst e2; show Dy.r K F v Dy.non; rw [Dy.r]; exact e
  · subst e; exact h.r q⟩
def dyTup {α : Type} (f : α → Dy) (xs : List α) : Dy := .tup (xs.map f)
theorem dy_tup {α : Type} {R : Fz α} {f : α → Dy} (h : DyOf R f) : DyOf (rTup R) (dyTup f) := ⟨fun {K F v x} ⟨a, vs, e, q, n, p⟩ => rDy_tup.mpr ⟨a, vs, e, q, n, by
  have : ∀ {vs : List V} {xs : List α}, Paired (R.r K F) vs xs → Paired (rDy.r K F) vs (xs.map f) := by
    intro vs xs p
    induction p with
    | nil => exact .nil
    | cons r t ih => exact .cons (h.r r) ih
  exact this p⟩⟩
def dyPr {α β : Type} (f : α → Dy) (g : β → Dy) (x : α × β) : Dy := .tup [f x.1, g x.2]
theorem dy_pr {α β : Type} {R : Fz α} {S : Fz β} {f : α → Dy} {g : β → Dy} (h : DyOf R f) (k : DyOf S g) : DyOf (rPr R S) (dyPr f g) := ⟨fun ⟨a, u, z, e, q, q1, q2⟩ => rDy_tup.mpr ⟨a, _, e, q, by show 2 ≤ sizeLine; decide, .cons (h.r q1) (.cons (k.r q2) .nil)⟩⟩
def dyT3 {α β γ : Type} (f : α → Dy) (g : β → Dy) (j : γ → Dy) (x : α × β × γ) : Dy := .tup [f x.1, g x.2.1, j x.2.2]
theorem dy_t3 {α β γ : Type} {R : Fz α} {S : Fz β} {T : Fz γ} {f : α → Dy} {g : β → Dy} {j : γ → Dy} (h : DyOf R f) (k : DyOf S g) (l : DyOf T j) : DyOf (rT3 R S T) (dyT3 f g j) := ⟨fun ⟨a, u, z, y, e, q, q1, q2, q3⟩ => rDy_tup.mpr ⟨a, _, e, q, by show 3 ≤ sizeLine; decide, .cons (h.r q1) (.cons (k.r q2) (.cons (l.r q3) .nil))⟩⟩
def dyT4 {α β γ δ : Type} (f : α → Dy) (g : β → Dy) (j : γ → Dy) (m : δ → Dy) (x : α × β × γ × δ) : Dy := .tup [f x.1, g x.2.1, j x.2.2.1, m x.2.2.2]
theorem dy_t4 {α β γ δ : Type} {R : Fz α} {S : Fz β} {T : Fz γ} {U : Fz δ} {f : α → Dy} {g : β → Dy} {j : γ → Dy} {m : δ → Dy} (h : DyOf R f) (k : DyOf S g) (l : DyOf T j) (o : DyOf U m) : DyOf (rT4 R S T U) (dyT4 f g j m) := ⟨fun ⟨a, u, z, y, t, e, q, q1, q2, q3, q4⟩ => rDy_tup.mpr ⟨a, _, e, q, by show 4 ≤ sizeLine; decide, .cons (h.r q1) (.cons (k.r q2) (.cons (l.r q3) (.cons (o.r q4) .nil)))⟩⟩
/-- as a datum -/
theorem e_dy {X : Cx} {Γ : Gm} {α : Type} {R : Fz α} {f : α → Dy} {e : Expr} {x : α} (d : DyOf R f) (h : PE X e (tE X.K Γ R x)) : PE X e (tE X.K Γ rDy (f x)) := tX.imp h fun _ _ _ _ q => d.r q

/-! the law's own comparison -/
def tyD : Dy → String
  | .non => "NoneType"
  | .bl _ => "bool"
  | .int _ => "int"
  | .str _ => "str"
  | .tup _ => "tuple"
theorem ty_of {K : PySem.W.Frag} {H : Hp} {v : V} {d : Dy} (h : rDy.r K H v d) : TyX K H v (.type (tyD d)) := by
  cases d with
  | non => cases (show v = .non by simpa [rDy, Dy.r] using h); exact .base .non
  | bl b => cases (show v = .bl b by simpa [rDy, Dy.r] using h); exact .base (.bl b)
  | int i => cases (show v = .int i by simpa [rDy, Dy.r] using h); exact .base (.int i)
  | str s => cases (show v = .str s by simpa [rDy, Dy.r] using h); exact .base (.str s)
  | tup l =>
    obtain ⟨a, vs, rfl, q, n, p⟩ := rDy_tup.mp h
    rcases q with (q | ⟨o, q⟩) | ⟨o, its, n, q, c, _⟩
    · exact .base (.tup q)
    · exact .fTuple q
    · exact .kTuple q c
def isD (t : String) (d : Dy) : Bool := (kitB (tyD d) t).getD false
section
variable {X : Cx} {Γ : Gm} {pos : Pos}
theorem kit_isD {t : String} (ht : ∀ s ∈ ["NoneType", "bool", "int", "str", "tuple"], (kitB s t).isSome = true) (d : Dy) : kitB (tyD d) t = some (isD t d) := by
  have : (kitB (tyD d) t).isSome = true := by
    apply ht
    cases d <;> simp [tyD]
  unfold isD
  cases e : kitB (tyD d) t with
  | none => rw [e] at this; cases this
  | some b => rfl
theorem e_isD {a b : Expr} {p : Pos} {t : String} {d : Dy} (hg : Gl X "isinstance") (hm : X.mg "isinstance" = none) (hb : PE X b (tC (.ty t))) (ha : PE X a (tE X.K Γ rDy d)) (ht : ∀ s ∈ ["NoneType", "bool", "int", "str", "tuple"], (kitB s t).isSome = true)
    (h1 : starEach [b] X.env = (false, eval b X.env) :: starEach [] X.env := by rfl) (h2 : starEach [a, b] X.env = (false, eval a X.env) :: starEach [b] X.env := by rfl) (hpl : (backTo pos (starEach [b] X.env)).any (·.1) = false := by rfl) : PE X (.Call (.Name "isinstance" p) [a, b] [] pos) (tE X.K Γ rBool (isD t d)) := by
  have hb' : PE X b (tX X.K Γ fun _ v w' => v = .ty t) := PE.imp hb fun σ H Q ⟨b, w, hw, ok, k⟩ => by
    show Q (.ty t) H
    rw [← hw]; exact k _ w (Le.refl w) rfl
  have ka : Keeps (fun _ _ v => v = V.ty t) := ⟨fun _ h => h⟩
  exact e_cb call_isi hg hm (by decide +kernel) (a_cons ha (a_consG ka hb' a_nil h1) h2) (fun w vs w1 Q l q k => by
    obtain ⟨u, v, rfl, q1, q2⟩ := args2 q
    have q2 : v = .ty t := q2
    subst q2
    exact ⟨u, .ty t, _, _, isD t d, rfl, .ty t, ty_of (rDy.mono w1.sub q1), kit_ty (kit_isD ht d), k _ w1 l rfl⟩) (he := h2) (hpl := hpl)
/-- is None of a datum -/
def isNonD : Dy → Bool
  | .non => true
  | _ => false
theorem e_isND {a : Expr} {j pos'} {d : Dy} (ha : PE X a (tE X.K Γ rDy d)) : PE X (.Compare a [.Is] [.Constant .none j pos'] pos) (tE X.K Γ rBool (isNonD d)) :=
  PE.imp (pe_cmp (pc_isN ha)) fun σ H Q ⟨b, w, hw, ok, k⟩ => ⟨b, w, hw, ok, fun v w' l q => k _ w' l (by
    have q : rDy.r _ _ v d := q
    show V.bl _ = V.bl _
    congr 1
    cases d with
    | non => cases (show v = .non by simpa [rDy, Dy.r] using q); rfl
    | bl b => cases (show v = .bl b by simpa [rDy, Dy.r] using q); rfl
    | int i => cases (show v = .int i by simpa [rDy, Dy.r] using q); rfl
    | str s => cases (show v = .str s by simpa [rDy, Dy.r] using q); rfl
    | tup l => obtain ⟨a, vs, rfl, _⟩ := rDy_tup.mp q; rfl)⟩
/-- is None, is not None of what may be none -/
theorem e_isN {α : Type} {R : Fz α} {a : Expr} {j pos'} {x : Option α} (hR : ∀ {K F y}, ¬ R.r K F .non y) (ha : PE X a (tE X.K Γ (rOpt R) x)) : PE X (.Compare a [.Is] [.Constant .none j pos'] pos) (tE X.K Γ rBool x.isNone) :=
  PE.imp (pe_cmp (pc_isN ha)) fun σ H Q ⟨b, w, hw, ok, k⟩ => ⟨b, w, hw, ok, fun v w' l q => k _ w' l (by
    show V.bl _ = V.bl _
    congr 1
    rcases q with ⟨e, e2⟩ | ⟨y, e, q⟩
    · subst e e2; rfl
    · subst e
      exact decide_eq_false fun z => by subst z; exact hR q)⟩
theorem e_isNN {α : Type} {R : Fz α} {a : Expr} {j pos'} {x : Option α} (hR : ∀ {K F y}, ¬ R.r K F .non y) (ha : PE X a (tE X.K Γ (rOpt R) x)) : PE X (.Compare a [.IsNot] [.Constant .none j pos'] pos) (tE X.K Γ rBool x.isSome) :=
  PE.imp (pe_cmp (pc_notN ha)) fun σ H Q ⟨b, w, hw, ok, k⟩ => ⟨b, w, hw, ok, fun v w' l q => k _ w' l (by
    show V.bl _ = V.bl _
    congr 1
    rcases q with ⟨e, e2⟩ | ⟨y, e, q⟩
    · subst e e2; rfl
    · subst e
      show (!decide (v = V.non)) = true
      rw [decide_eq_false fun z => by subst z; exact hR q]; rfl)⟩
theorem nn_int {K F y} : ¬ rInt.r K F .non y := fun h => by cases h
theorem nn_bool {K F y} : ¬ rBool.r K F .non y := fun h => by cases h
theorem nn_str {K F y} : ¬ rStr.r K F .non y := fun h => by cases h
theorem nn_tup {α : Type} {R : Fz α} {K F y} : ¬ (rTup R).r K F .non y := fun ⟨_, _, h, _⟩ => by cases h
theorem nn_lst {α : Type} {R : Fz α} {K F y} : ¬ (rLst R).r K F .non y := fun ⟨_, _, h, _⟩ => by cases h
theorem nn_pr {α β : Type} {R : Fz α} {S : Fz β} {K F y} : ¬ (rPr R S).r K F .non y := fun ⟨_, _, _, h, _⟩ => by cases h
theorem nn_t3 {α β γ : Type} {R : Fz α} {S : Fz β} {T : Fz γ} {K F y} : ¬ (rT3 R S T).r K F .non y := fun ⟨_, _, _, _, h, _⟩ => by cases h
theorem nn_t4 {α β γ δ : Type} {R : Fz α} {S : Fz β} {T : Fz γ} {U : Fz δ} {K F y} : ¬ (rT4 R S T U).r K F .non y := fun ⟨_, _, _, _, _, h, _⟩ => by cases h
/-- what is known not to be None -/
theorem e_get {α : Type} {R : Fz α} {e : Expr} {x : Option α} {y : α} (h : PE X e (tE X.K Γ (rOpt R) x)) (e1 : x = some y) : PE X e (tE X.K Γ R y) := tX.imp h fun _ v _ _ q => by
  subst e1
  rcases q with ⟨_, e2⟩ | ⟨z, e2, q⟩
  · cases e2
  · cases e2; exact q
/-- the same kind of thing said otherwise -/
theorem e_as {α : Type} {R : Fz α} {e : Expr} {x y : α} (h : PE X e (tE X.K Γ R x)) (e1 : x = y) : PE X e (tE X.K Γ R y) := e1 ▸ h
theorem t_as {e : Expr} {x y : Bool} (h : PT X e (tT X.K Γ x)) (e1 : x = y) : PT X e (tT X.K Γ y) := e1 ▸ h
mutual
/-- what the law's own comparison gives -/
def Dy.like : Dy → Dy → Bool
  | v, .non => match v with | .non => true | _ => false
  | v, .bl b => match v with | .bl c => decide (c = b) | _ => false
  | v, .int b => match v with | .int c => decide (c = b) | _ => false
  | v, .str b => match v with | .str c => decide (c = b) | _ => false
  | v, .tup l => match v with | .tup m => Dy.likes m l | _ => false
def Dy.likes : List Dy → List Dy → Bool
  | vs, [] => vs.isEmpty
  | vs, d :: ds => match vs with | [] => false | u :: us => Dy.like u d && Dy.likes us ds
end
mutual
theorem Dy.like_refl : ∀ d : Dy, Dy.like d d = true
  | .non => by rw [Dy.like]
  | .bl b => by rw [Dy.like]; simp
  | .int b => by rw [Dy.like]; simp
  | .str b => by rw [Dy.like]; simp
  | .tup l => by rw [Dy.like]; exact Dy.likes_refl l
theorem Dy.likes_refl : ∀ l : List Dy, Dy.likes l l = true
  | [] => by rw [Dy.likes]; rfl
  | d :: ds => by rw [Dy.likes]; simp [Dy.like_refl d, Dy.likes_refl ds]
end
theorem like_eq {d e : Dy} (h : d = e) : Dy.like d e = true := h ▸ Dy.like_refl d
mutual
def Dy.depth : Dy → Nat
  | .non => 0
  | .bl _ => 0
  | .int _ => 0
  | .str _ => 0
  | .tup l => Dy.depths l + 1
def Dy.depths : List Dy → Nat
  | [] => 0
  | d :: ds => max (Dy.depth d) (Dy.depths ds)
end
theorem Dy.depth_mem : ∀ {l : List Dy} {d : Dy}, d ∈ l → Dy.depth d ≤ Dy.depths l
  | e :: l, d, h => by
    rw [Dy.depths]
    rcases List.mem_cons.mp h with z | z
    · subst z; omega
    · have := Dy.depth_mem z; omega
theorem Dy.likes_len : ∀ {m l : List Dy}, m.length ≠ l.length → Dy.likes m l = false
  | [], [], h => absurd rfl h
  | _ :: _, [], h => by rw [Dy.likes]; rfl
  | [], _ :: _, h => by rw [Dy.likes]
  | u :: us, d :: ds, h => by
    rw [Dy.likes]
    have : us.length ≠ ds.length := fun z => h (by simp [z])
    simp [Dy.likes_len this]
theorem Dy.likes_all : ∀ {m l : List Dy}, m.length = l.length → Dy.likes m l = ((List.range l.length).map fun k => Dy.like (m.getD k .non) (l.getD k .non)).all id
  | [], [], _ => by rw [Dy.likes]; rfl
  | u :: us, d :: ds, h => by
    rw [Dy.likes]
    have h' : us.length = ds.length := by simpa using h
    have := Dy.likes_all h'
    simp only [this, List.length_cons]
    rw [List.range_succ_eq_map]
    simp only [List.map_cons, List.map_map, List.all_cons, id]
    rfl
instance : Inhabited Dy := ⟨.non⟩
end
end PZ

namespace PZ
open PySem PySem.Spec PyProof.Rows L2

/-! slices -/
def cut {α : Type} (xs : List α) (lo hi : Option Int) : List α := (xs.drop (HT.sIx xs.length 0 lo)).take (HT.sIx xs.length xs.length hi - HT.sIx xs.length 0 lo)
theorem cut_le {α : Type} (xs : List α) (lo hi : Option Int) : (cut xs lo hi).length ≤ xs.length := by
  unfold cut; simp; omega
theorem cut_take {α : Type} (xs : List α) {k : Int} (h : 0 ≤ k) : cut xs none (some k) = xs.take k.toNat := by
  unfold cut
  obtain ⟨n, rfl⟩ : ∃ n : Nat, k = (n : Int) := ⟨k.toNat, by omega⟩
  rw [HT.sIx_none, HT.sIx_nat, List.drop_zero, Nat.sub_zero, Int.toNat_natCast]
  by_cases c : n ≤ xs.length
  · rw [Nat.min_eq_left c]
  · rw [Nat.min_eq_right (by omega), List.take_of_length_le (Nat.le_refl _), List.take_of_length_le (by omega)]
theorem cut_drop {α : Type} (xs : List α) {k : Int} (h : 0 ≤ k) : cut xs (some k) none = xs.drop k.toNat := by
  unfold cut
  obtain ⟨n, rfl⟩ : ∃ n : Nat, k = (n : Int) := ⟨k.toNat, by omega⟩
  rw [HT.sIx_none, HT.sIx_nat, Int.toNat_natCast]
  by_cases c : n ≤ xs.length
  · rw [Nat.min_eq_left c, List.take_of_length_le (by simp)]
  · rw [Nat.min_eq_right (by omega), List.drop_of_length_le (Nat.le_refl _), List.drop_of_length_le (by omega)]; simp
theorem cut_mid {α : Type} (xs : List α) {j k : Int} (hj : 0 ≤ j) (h : 0 ≤ k) : cut xs (some j) (some k) = (xs.drop j.toNat).take (k.toNat - j.toNat) := by
  unfold cut
  obtain ⟨n, rfl⟩ : ∃ n : Nat, k = (n : Int) := ⟨k.toNat, by omega⟩
  obtain ⟨m, rfl⟩ : ∃ n : Nat, j = (n : Int) := ⟨j.toNat, by omega⟩
  rw [HT.sIx_nat, HT.sIx_nat, Int.toNat_natCast, Int.toNat_natCast]
  by_cases c : m ≤ xs.length
  · rw [Nat.min_eq_left c]
    by_cases d : n ≤ xs.length
    · rw [Nat.min_eq_left d]
    · rw [Nat.min_eq_right (by omega), List.take_of_length_le (by simp), List.take_of_length_le (by simp; omega)]
  · rw [Nat.min_eq_right (show xs.length ≤ m by omega), List.drop_of_length_le (Nat.le_refl _), List.drop_of_length_le (show xs.length ≤ m by omega)]; simp
theorem cut_paired {α β : Type} {F : α → β → Prop} {vs : List α} {xs : List β} (h : Paired F vs xs) (lo hi : Option Int) : Paired F (cut vs lo hi) (cut xs lo hi) := by
  unfold cut
  rw [paired_len h]
  have dr : ∀ (n : Nat) {vs : List α} {xs : List β}, Paired F vs xs → Paired F (vs.drop n) (xs.drop n) := by
    intro n
    induction n with
    | zero => intro vs xs h; simpa using h
    | succ n ih =>
      intro vs xs h
      cases h with
      | nil => exact .nil
      | cons r t => exact ih t
  have tk : ∀ (n : Nat) {vs : List α} {xs : List β}, Paired F vs xs → Paired F (vs.take n) (xs.take n) := by
    intro n
    induction n with
    | zero => intro vs xs h; exact .nil
    | succ n ih =>
      intro vs xs h
      cases h with
      | nil => exact .nil
      | cons r t => exact .cons r (ih t)
  exact tk _ (dr _ h)
def tP (K : PySem.W.Frag) (Γ : Gm) (o : Option Int) : TO := fun σ H Q => ∃ b w, w.H = H ∧ EnvOk K b w σ Γ ∧ ∀ w', Le w w' → Q o w'.H
section
variable {X : Cx} {Γ : Gm} {α β : Type} {R : Fz α} {S : Fz β} {pos : Pos} {e : Expr}
theorem PO.imp {o : Option Expr} {t t' : TO} (h : PO X o t) (f : ∀ σ H Q, t' σ H Q → t σ H Q) : PO X o t' := ⟨fun s σ H pins Q I q => h.run s σ H pins Q I (f _ _ _ q)⟩
theorem o_none : PO X none (tP X.K Γ none) := PO.imp po_none fun σ H Q ⟨b, w, hw, ok, k⟩ => by
  show Q none H
  rw [← hw]; exact k w (Le.refl w)
theorem o_some {i : Int} (h : PE X e (tE X.K Γ rInt i)) : PO X (some e) (tP X.K Γ (some i)) := PO.imp (po_some h) fun σ H Q ⟨b, w, hw, ok, k⟩ => ⟨b, w, hw, ok, fun v w' l q => ⟨i, q, k w' l⟩⟩
theorem e_cutL {lo hi : Option Expr} {p2 : Pos} {xs : List α} {i j : Option Int} (h : PE X e (tL X.K Γ R xs)) (hl : PO X lo (tP X.K Γ i)) (hh : PO X hi (tP X.K Γ j)) : PE X (.Subscript e (.Slice lo hi none p2) pos) (tN X.K Γ R (cut xs i j)) :=
  PE.imp (pe_slice sl_list h hl hh) fun σ H Q ⟨b, w, hw, ok, k⟩ => ⟨b, w, hw, ok, fun v w1 l1 ⟨a, vs, e, h1, h2, h3⟩ => ⟨b, w1, rfl, ok.mono l1, fun w2 l2 => ⟨b, w2, rfl, ok.mono (l1.trans l2), fun w3 l3 => by
    subst e
    refine ⟨a, vs, rfl, SqL.of ((l2.trans l3).h _ _ h1), fun p hp => ?_⟩
    have l4 := w3.le_newM p (.lst (cut vs i j)) hp
    have lw := (l1.trans l2).trans l3
    refine k (.ref p) (w3.newM p _ hp) (lw.trans l4) ⟨p, cut vs i j, rfl, none_back lw.h hp, none_back w3.sub hp, upd_same, Nat.le_trans (cut_le _ _ _) h2, cut_paired (Paired.mp h3 fun _ _ h => R.mono ((l2.trans l3).trans l4).f h) i j⟩⟩⟩⟩
theorem e_cutT {lo hi : Option Expr} {p2 : Pos} {xs : List α} {i j : Option Int} (h : PE X e (tE X.K Γ (rTup R) xs)) (hl : PO X lo (tP X.K Γ i)) (hh : PO X hi (tP X.K Γ j)) : PE X (.Subscript e (.Slice lo hi none p2) pos) (tE X.K Γ (rTup R) (cut xs i j)) :=
  PE.imp (pe_slice sl_tupA h hl hh) fun σ H Q ⟨b, w, hw, ok, k⟩ => ⟨b, w, hw, ok, fun v w1 l1 ⟨a, vs, e, h1, h2, h3⟩ => ⟨b, w1, rfl, ok.mono l1, fun w2 l2 => ⟨b, w2, rfl, ok.mono (l1.trans l2), fun w3 l3 => by
    subst e
    have lw := (l1.trans l2).trans l3
    have hF := (l2.trans l3).f
    refine ⟨a, vs, rfl, sqT_mono (hF.trans w3.sub) h1, fun hfull => ?_, fun _ p hp => ?_⟩
    · refine k (.ref a) w3 lw ⟨a, vs, rfl, sqT_mono hF h1, h2, ?_⟩
      have e1 : HT.sIx xs.length 0 i = 0 := by rw [← paired_len h3]; exact hfull.1
      have e2 : HT.sIx xs.length xs.length j = xs.length := by rw [← paired_len h3]; exact hfull.2
      unfold cut
      rw [e1, e2, List.drop_zero, Nat.sub_zero, List.take_length]
      exact Paired.mp h3 fun _ _ h => R.mono hF h
    · have l4 := w3.le_newF p (.tup (cut vs i j)) hp
      exact k (.ref p) (w3.newF p _ hp) (lw.trans l4) ⟨p, cut vs i j, rfl, SqT.of upd_same, Nat.le_trans (cut_le _ _ _) h2, cut_paired (Paired.mp h3 fun _ _ h => R.mono ((l2.trans l3).trans l4).f h) i j⟩⟩⟩⟩
/-- tuples put together -/
theorem e_catT {a b : Expr} {xs ys : List α} (ha : PE X a (tE X.K Γ (rTup R) xs)) (hb : PE X b (tE X.K Γ (rTup R) ys)) (hz : xs.length + ys.length ≤ sizeLine) : PE X (.BinOp a .Add b pos) (tE X.K Γ (rTup R) (xs ++ ys)) :=
  e_op2 (ta := tE X.K Γ (rTup R) xs) (tb := tE X.K Γ (rTup R) ys) (t := tE X.K Γ (rTup R) xs) (a := a) (b := b) (pe_op op_catA ha hb) fun w u w1 v w2 Q l1 l2 ⟨p, vs, e, h1, n1, q1⟩ ⟨q, us, e2, h2, n2, q2⟩ k => by
    subst e e2
    have z := paired_len q1
    have z2 := paired_len q2
    refine ⟨p, q, vs, us, rfl, rfl, sqT_mono (l2.f.trans w2.sub) h1, sqT_mono w2.sub h2, by omega, fun e => ?_, fun _ e => ?_, fun _ _ r hr => ?_⟩
    · have : xs = [] := List.eq_nil_of_length_eq_zero (by rw [← z, e]; rfl)
      subst this
      exact k _ w2 (l1.trans l2) ⟨q, us, rfl, h2, n2, q2⟩
    · have : ys = [] := List.eq_nil_of_length_eq_zero (by rw [← z2, e]; rfl)
      subst this
      rw [List.append_nil] at k
      exact k _ w2 (l1.trans l2) ⟨p, vs, rfl, sqT_mono l2.f h1, n1, Paired.mp q1 fun _ _ h => R.mono l2.f h⟩
    · have l3 := w2.le_newF r (.tup (vs ++ us)) hr
      refine k _ (w2.newF r _ hr) ((l1.trans l2).trans l3) ⟨r, vs ++ us, rfl, SqT.of upd_same, by rw [List.length_append]; omega, Paired.app (Paired.mp q1 fun _ _ h => R.mono (l2.trans l3).f h) (Paired.mp q2 fun _ _ h => R.mono l3.f h)⟩

/-! truth -/
theorem t_tru {a : Expr} {v : α} {c : Bool} (ha : PE X a (tE X.K Γ R v)) (h : ∀ (u : V) (w : Wd), R.r X.K w.F u v → TruV X.K u w.H c) (he : ∀ whole, isTrue a X.env whole = (do let v ← whole; standAt a.pos; holding [v] (truthy v)) := by intro _; rfl) : PT X a (tT X.K Γ c) :=
  PT.imp (pt_truth ha he) fun σ H Q ⟨b, w, hw, ok, k⟩ => ⟨b, w, hw, ok, fun u w' l q => ⟨c, h u w' q, k w' l⟩⟩
theorem t_lst {a : Expr} {xs : List α} (ha : PE X a (tL X.K Γ R xs)) (he : ∀ whole, isTrue a X.env whole = (do let v ← whole; standAt a.pos; holding [v] (truthy v)) := by intro _; rfl) : PT X a (tT X.K Γ (!xs.isEmpty)) :=
  PT.imp (pt_truth ha he) fun σ H Q ⟨b, w, hw, ok, k⟩ => ⟨b, w, hw, ok, fun u w' l ⟨p, vs, e, h1, h2, h3⟩ => ⟨!vs.isEmpty, by
    subst e
    exact .inl ⟨vs, SqL.of h1, rfl⟩, by
    have : (!vs.isEmpty) = !xs.isEmpty := by cases h3 <;> rfl
    rw [this]; exact k w' l⟩⟩
theorem t_tup {a : Expr} {xs : List α} (ha : PE X a (tE X.K Γ (rTup R) xs)) (he : ∀ whole, isTrue a X.env whole = (do let v ← whole; standAt a.pos; holding [v] (truthy v)) := by intro _; rfl) : PT X a (tT X.K Γ (!xs.isEmpty)) :=
  t_tru ha (fun u w ⟨p, vs, e, h1, h2, h3⟩ => by
    subst e
    refine .inr (.inl ⟨vs, sqT_mono w.sub h1, ?_⟩)
    cases h3 <;> rfl) he
theorem t_int {a : Expr} {i : Int} (ha : PE X a (tE X.K Γ rInt i)) (he : ∀ whole, isTrue a X.env whole = (do let v ← whole; standAt a.pos; holding [v] (truthy v)) := by intro _; rfl) : PT X a (tT X.K Γ (i != 0)) :=
  t_tru ha (fun u w h => by cases (show u = V.int i from h); rfl) he

/-! in, of flat things -/
structure Flat {α : Type} (R : Fz α) [DecidableEq α] : Prop where
  flat : ∀ {K F v x}, R.r K F v x → flatV v = true
  eq : ∀ {K F v u x y}, R.r K F v x → R.r K F u y → eqV v u = decide (x = y)
theorem flat_int : Flat rInt := ⟨fun h => by cases h; rfl, fun h k => by cases h; cases k; simp [eqV, Bool.beq_eq_decide_eq]⟩
theorem flat_str : Flat rStr := ⟨fun h => by cases h; rfl, fun {K F v u x y} h k => by
  cases h; cases k
  show (x == y) = decide (x = y)
  by_cases e : x = y
  · subst e; simp
  · rw [decide_eq_false e]; simpa using e⟩
theorem inV_dec [DecidableEq α] {K : PySem.W.Frag} {F : Hp} (f : Flat R) {v : V} {y : α} (hv : R.r K F v y) : ∀ {vs : List V} {xs : List α}, Paired (R.r K F) vs xs → vs.all flatV = true ∧ inV v vs = decide (y ∈ xs)
  | _, _, .nil => ⟨rfl, by simp [inV]⟩
  | _, _, .cons (b := x) r t => by
    obtain ⟨h1, h2⟩ := inV_dec f hv t
    refine ⟨by simp [f.flat r, h1], ?_⟩
    unfold inV at h2 ⊢
    rw [List.any_cons, h2, f.eq r hv]
    by_cases e : x = y
    · rw [decide_eq_true e, decide_eq_true (show y ∈ x :: _ from e ▸ List.mem_cons_self)]; rfl
    · rw [decide_eq_false e, Bool.false_or]
      exact decide_eq_decide.mpr ⟨List.mem_cons_of_mem _, fun h => (List.mem_cons.mp h).resolve_left (Ne.symm e)⟩
theorem e_in [DecidableEq α] {a b : Expr} {y : α} {xs : List α} (f : Flat R) (ha : PE X a (tE X.K Γ R y)) (hb : PE X b (tB X.K Γ R xs)) (hm : behindInMarks .In b = false := by rfl) : PE X (.Compare a [.In] [b] pos) (tE X.K Γ rBool (decide (y ∈ xs))) :=
  e_op2 (ta := tE X.K Γ R y) (tb := tB X.K Γ R xs) (t := tE X.K Γ R y) (a := a) (b := b) (pe_cmpR op_in_seq ha hb hm) fun w u w1 v w2 Q l1 l2 q1 ⟨p, vs, e, h1, h2, h3⟩ k => by
    subst e
    obtain ⟨z1, z2⟩ := inV_dec f (R.mono l2.f q1) h3
    refine ⟨p, vs, rfl, h1.imp (fun h => SqL.of h) id, f.flat q1, z1, ?_⟩
    exact k _ w2 (l1.trans l2) (by rw [z2]; rfl)
theorem e_nin [DecidableEq α] {a b : Expr} {y : α} {xs : List α} (f : Flat R) (ha : PE X a (tE X.K Γ R y)) (hb : PE X b (tB X.K Γ R xs)) (hm : behindInMarks .NotIn b = false := by rfl) : PE X (.Compare a [.NotIn] [b] pos) (tE X.K Γ rBool (!decide (y ∈ xs))) :=
  e_op2 (ta := tE X.K Γ R y) (tb := tB X.K Γ R xs) (t := tE X.K Γ R y) (a := a) (b := b) (pe_cmpR op_notIn_seq ha hb hm) fun w u w1 v w2 Q l1 l2 q1 ⟨p, vs, e, h1, h2, h3⟩ k => by
    subst e
    obtain ⟨z1, z2⟩ := inV_dec f (R.mono l2.f q1) h3
    refine ⟨p, vs, rfl, h1.imp (fun h => SqL.of h) id, f.flat q1, z1, ?_⟩
    exact k _ w2 (l1.trans l2) (by rw [z2]; rfl)

/-! sorted ints -/
def sortI (xs : List Int) : List Int := xs.mergeSort (fun a b => decide (a ≤ b))
theorem sortI_perm (xs : List Int) : (sortI xs).Perm xs := List.mergeSort_perm _ _
theorem sortI_sorted (xs : List Int) : (sortI xs).Pairwise (· ≤ ·) := by
  have := List.pairwise_mergeSort (le := fun a b : Int => decide (a ≤ b)) (fun a b c => by simp; omega) (fun a b => by simp; omega) xs
  exact this.imp fun h => by simpa using h
theorem perm_sorted_eq : ∀ {l m : List Int}, l.Perm m → l.Pairwise (· ≤ ·) → m.Pairwise (· ≤ ·) → l = m := by
  intro l m h h1 h2
  exact h.eq_of_pairwise (fun a b _ _ hab hba => Int.le_antisymm hab hba) h1 h2
theorem sortI_of {l m : List Int} (h : l.Perm m) (h1 : l.Pairwise (· ≤ ·)) : l = sortI m := perm_sorted_eq (h.trans (sortI_perm m).symm) h1 (sortI_sorted m)
theorem e_sortI {a : Expr} {p : Pos} {xs : List Int} (hg : Gl X "sorted") (hm : X.mg "sorted" = none) (ha : PA X [a] (tA X.K Γ [aL rInt xs])) (he : starEach [a] X.env = (false, eval a X.env) :: starEach [] X.env := by rfl) (hpl : (backTo pos (starEach [] X.env)).any (·.1) = false := by rfl) : PE X (.Call (.Name "sorted" p) [a] [] pos) (tN X.K Γ rInt (sortI xs)) :=
  e_cb cr_sortedI hg hm (by decide +kernel) ha (fun w vs w1 Q l q k => by
    obtain ⟨v, rfl, ⟨a, us, rfl, h1, h2, h3⟩⟩ := args1 q
    have := paired_ints h3
    subst this
    refine ⟨a, xs, rfl, SqL.of h1, fun ns' p pm srt hp => ?_⟩
    have e := sortI_of pm srt
    subst e
    have l2 := w1.le_newM p (.lst ((sortI xs).map V.int)) hp
    refine k _ (w1.newM p _ hp) (l.trans l2) ⟨p, _, rfl, none_back l.h hp, none_back w1.sub hp, upd_same, ?_, Paired_ints _⟩
    rw [List.length_map, (sortI_perm xs).length_eq]
    simpa using h2) (he := he) (hpl := hpl)
where Paired_ints {K : PySem.W.Frag} {F : Hp} : ∀ xs : List Int, Paired (rInt.r K F) (xs.map V.int) xs
  | [] => .nil
  | x :: xs => .cons rfl (Paired_ints xs)
end
end PZ

namespace PZ
open PySem PySem.Spec PyProof.Rows L2

/-! enumerate(tuple) -/
section
open PySem.AutoSeq1 (wpAny_loadPart')
theorem meets_enumerate_new1 {v : Value} {o : Obj} {H : Heap → Prop} (B : Begins v o H) :
    Meets (Builtin.«enumerate.__new__» ⟨[.type "enumerate", v], []⟩) (fun _ R s => H s.heap ∧
      R (.ok (.ret (.ref (s.heap.push o).objs.size))) { s with heap := (s.heap.push o).push { cls := .type "enumerate", data := .fields #[.none, .bool false, .ref s.heap.objs.size, rawInt 0, .none, .none] } }) :=
  .of_wp fun prog w A R s h => by
    obtain ⟨hp, g, d, tk, os⟩ := s; obtain ⟨h1, h⟩ := h
    have hsub := sub_enumerate
    have q1 : ∀ {A' : Around} {E : Value → Shared → Prop} {Q : Value → Shared → Prop}, Q (.ref hp.objs.size) ⟨hp.push o, g, d, tk, os⟩ → wpAny (model prog w) A' (pyIter v) Q E ⟨hp, g, d, tk, os⟩ :=
      fun q => B.iter prog w _ _ ⟨hp, g, d, tk, os⟩ _ h1 q
    wp_walk using q1
    refine wpAny_stack_any fun st => wpAny_pure ?_
    split
    · rename_i c _ _ _ _ _
      cases (c == Value.type "enumerate")
      · wp_walk using q1
        exact ⟨_, rfl, h⟩
      · wp_walk using q1
        exact ⟨_, rfl, h⟩
    · wp_walk using q1
      exact ⟨_, rfl, h⟩
theorem enum_begins1 {prog : Program} {w : World} {A : Around} {E : Value → Shared → Prop} {s : Shared} {v : Value} {o : Obj} {H : Heap → Prop} {Q : Value → Shared → Prop} (B : Begins v o H) (h1 : H s.heap)
    (h : ∀ h', IsEnum h' (s.heap.objs.size + 1) s.heap.objs.size 0 .none → h'.get? s.heap.objs.size = some o → h'.objs.size = s.heap.objs.size + 2 →
      (∀ b o, s.heap.get? b = some o → h'.get? b = some o) → Q (.ref (s.heap.objs.size + 1)) { s with heap := h' }) :
    wpAny (model prog w) A (call (.type "enumerate") [v]) Q E s := by
  refine callType_new F.called_enumerate (by decide) (F.typeCall_enumerate_1 _) (F.newCall_enumerate_1 _) (fun obj => F.args_object_init_2 obj _) F.entry_enumerate_new
    (meets_enumerate_new1 B) ⟨h1, ?_⟩
  have hz : (s.heap.push o).objs.size = s.heap.objs.size + 1 := Heap.size_push ..
  show _ ∧ _
  rw [hz]
  have he : IsEnum ((s.heap.push o).push { cls := .type "enumerate", data := .fields #[.none, .bool false, .ref s.heap.objs.size, rawInt 0, .none, .none] }) (s.heap.objs.size + 1) s.heap.objs.size 0 .none := by
    have := Heap.get?_push_size (s.heap.push o) (o := { cls := .type "enumerate", data := .fields #[.none, .bool false, .ref s.heap.objs.size, rawInt 0, .none, .none] }) rfl
    rw [hz] at this; exact this
  refine ⟨⟨_, he, rfl⟩, h _ he (Heap.get?_push_of_some _ (Heap.get?_push_size _ B.free)) (by rw [Heap.size_push, hz]) fun b o x => Heap.get?_push_of_some _ (Heap.get?_push_of_some _ x)⟩
theorem pyNext_enumT_end {prog : Program} {w : World} {A : Around} {E : Value → Shared → Prop} {s : Shared} {e it l : Addr} {i : Int} {j : Nat} {items : Array Value} {old : Value} {Q : Option Value → Shared → Prop} (hh : A.in1.handled = none)
    (he : IsEnum s.heap e it i old) (hit : s.heap.IsTupleIter it l j) (hl : s.heap.IsTuple l items) (hx : items[j]? = none)
    (hQ : ∀ h', Heap.ExtBut it s.heap h' → Q none { s with heap := h' }) : wpAny (model prog w) A (pyNext (.ref e)) Q E s := by
  have hT : s.TypeIs (.ref e) "enumerate" := ⟨_, he, rfl⟩
  unfold pyNext
  refine wpAny_bind (wpAny_attempt (wpAny_callSpecial?_slot (name := Str.ofString "__next__") hT F.slot_enumerate_next
    (wpAny_call_entry F.slot_enumerate_next hT F.entry_enumerate_next ?_ (F.args_enumerate_next_1 _))))
  show wpAny _ _ (field (.ref e) 2 >>= _) _ _ _
  refine wpAny_bind (wpAny_field he rfl (x := .ref it) rfl ?_)
  refine wpAny_bind (wpAny_nextOf_tuple_end hh hit hl hx fun h' x he' hx' => ?_)
  obtain ⟨o, ho, hc⟩ := hx'
  refine wpAny_bind (wpAny_isInstance (T := "StopIteration") (b := true) ⟨o, ho, hc⟩ isSubtype_stop ?_)
  exact wpAny_pure (hQ _ he')
end

def IteT (K : PySem.W.Frag) (a : Addr) : It :=
  ⟨fun i H => ∃ (xs : List V) (x : V), SqT K H a xs ∧ xs[i]? = some x, fun i H v H' => ∃ T x, v = .ref T ∧ H T = none ∧ H' = upd H T (.tup [.int (i : Nat), x]) ∧ ∀ xs, SqT K H a xs → xs[i]? = some x, fun i H => ∃ xs : List V, SqT K H a xs ∧ xs.length ≤ i⟩
theorem turn_enumT {P : Program} {w : World} {K : PySem.W.Frag} {elts : List Expr} {kk : Nat} {tpos : Pos} (a e it : Addr) :
    Turn P w K (.Tuple elts kk tpos) (IteT K a) [e, it] e (fun i h => (∃ old, IsEnum h e it ((i : Nat) : Int) old) ∧ h.IsTupleIter it a i ∧ e ≠ it) where
  mem := by simp
  obj := fun i h st b hb => by
    obtain ⟨⟨old, he⟩, ⟨o, ho, hc, hd⟩, _⟩ := st
    have e' : b = e ∨ b = it := by simpa using hb
    rcases e' with z | z
    · rw [z]; exact ⟨_, he, fun v q => nomatch q⟩
    · rw [z]; exact ⟨o, ho, fun v q => by rw [hd] at q; cases q⟩
  keep := fun i h h' st k => let ⟨⟨old, he⟩, hi, hne⟩ := st; ⟨⟨old, k e (by simp) _ he⟩, hi.at fun o q => k it (by simp) o q, hne⟩
  item := by
    intro X hP hw hK hc i pins s σ H E I hf st hg
    subst hP hw hK
    obtain ⟨⟨old, he⟩, hit, hne⟩ := st
    obtain ⟨xs, x, hq, hx⟩ := hg
    obtain ⟨its, rv, p, hz⟩ := I.tuple hq
    obtain ⟨u, hu, ru⟩ := rv.get hx
    have hel : e < s.heap.objs.size := Heap.lt_size he
    have hil : it < s.heap.objs.size := by obtain ⟨_, q, _⟩ := hit; exact Heap.lt_size q
    have hal : a < s.heap.objs.size := p.lt
    have hh : X.A.in1.handled = none := I.ok.hd hc
    have hta : a ≠ it := fun z => by
      obtain ⟨o1, q1, c1, _⟩ := hit
      obtain ⟨o2, q2, c2, _⟩ := p
      rw [z, q1] at q2
      cases q2
      rw [c1] at c2
      exact absurd (Value.type.inj c2) (by decide)
    have hea : e ≠ a := fun z => by
      obtain ⟨o2, q2, c2, _⟩ := p
      have he' := he
      unfold IsEnum at he'
      rw [z, q2] at he'
      cases he'
      exact absurd (Value.type.inj c2) (by decide)
    have D := Draws.tuple (prog := X.prog) (w := X.w) hh it a hta its.toArray
    have W := WalksT.enumFrom (prog := X.prog) (w := X.w) (A := X.A) 0 D e hne (by simp [hne, hea]) (by simp)
    have hlt : i < its.toArray.size := by
      have := (List.getElem?_eq_some_iff.mp hu).1
      simpa using this
    have e0 : (0 : Int) + (i : Int) = (i : Int) := Int.zero_add _
    have st0 : (∃ old, IsEnum s.heap e it (0 + (i : Int)) old) ∧ (s.heap.IsTupleIter it a i ∧ s.heap.IsTuple a its.toArray) := ⟨⟨old, by rw [e0]; exact he⟩, hit, p⟩
    refine W.item i s _ _ hlt st0 fun T vals h' tk hP hT hTup hMid hk => ?_
    refine ⟨_, rfl, W.go elts kk tpos i T _ _ _ hMid fun h'' st' hk' => ?_⟩
    obtain ⟨t, x0, hx0, hv⟩ := hP
    have hxu : x0 = u := by
      have h1 : its.toArray[i]? = some x0 := hx0
      have h2 : its.toArray[i]? = some u := by simpa using hu
      rw [h1] at h2; exact Option.some.inj h2
    subst hxu
    have hTn : T ∉ [e, it] := W.apart i T _ hMid
    have new : ObjOk X.prog X.w (upd H T (.tup [.int (i : Nat), x])) h'' T (.tup [.int (i : Nat), x]) := by
      obtain ⟨oT, hoT, hcT, nT, hdT⟩ := id hTup
      refine ⟨by show 2 ≤ sizeLine; decide, [.int i t, x0], .cons ⟨_, rfl⟩ (.cons ru .nil), oT, hk' T _ hTn hoT, hcT, nT, ?_⟩
      rw [hdT, hv, e0]
    have I1 : Inv X pins σ (upd H T (.tup [.int (i : Nat), x])) { s with heap := h'', toks := tk } :=
      I.turnedNew (ch := [e, it]) (fun b ob hb q => hk' b ob hb (hk b ob hb q)) hf hT new
    obtain ⟨⟨old', he'⟩, hit', _⟩ := st'
    refine ⟨.ref T, _, I1, rfl, ⟨T, x, rfl, I.hok.fresh hT, rfl, fun ys hy => by rw [I.tuple_inj hy hq]; exact hx⟩, ⟨⟨old', ?_⟩, hit', hne⟩, fun b hb => ?_⟩
    · have e1 : (0 : Int) + ((i + 1 : Nat) : Int) = ((i + 1 : Nat) : Int) := Int.zero_add _
      rw [← e1]; exact he'
    · have hb' : b < s.heap.objs.size := by
        have e' : b = e ∨ b = it := by simpa using hb
        rcases e' with z | z
        · rw [z]; exact hel
        · rw [z]; exact hil
      rw [upd_ne (Nat.ne_of_lt (Nat.lt_of_lt_of_le hb' hT))]
      exact (hf b hb).1
  done := by
    intro X hP hw hK hc i pins s σ H E I hf st hg
    subst hP hw hK
    obtain ⟨⟨old, he⟩, hit, hne⟩ := st
    obtain ⟨xs, hq, hx⟩ := hg
    obtain ⟨its, rv, p, hz⟩ := I.tuple hq
    have hh : X.A.in1.handled = none := I.ok.hd hc
    have hta : a ≠ it := fun z => by
      obtain ⟨o1, q1, c1, _⟩ := hit
      obtain ⟨o2, q2, c2, _⟩ := p
      rw [z, q1] at q2
      cases q2
      rw [c1] at c2
      exact absurd (Value.type.inj c2) (by decide)
    have hl := rv.length
    exact pyNext_enumT_end hh he hit p (by simp; omega) fun h' hk => ⟨rfl, I.turnedL (t' := s.toks) (ch := [e, it]) (fun b o hb q => hk b o (fun z => hb (by simp [z])) q) hf⟩
  self := fun A i s Q E st h => let ⟨⟨_, he⟩, _⟩ := st; wpAny_pyIter_enum he h
def iEnumT (K : PySem.W.Frag) (ta : TA) : TI := fun σ H R => ta σ H fun vs H1 => ∃ a xs, vs = [.ref a] ∧ SqT K H1 a xs ∧ R (IteT K a) H1
theorem pi_enumT {X : Cx} {e : Expr} {ta : TA} {p pos tpos : Pos} {elts : List Expr} {kk : Nat} (hg : Gl X "enumerate") (hm : X.mg "enumerate" = none) (ha : PA X [e] ta) (hs : starEach [e] X.env = [(false, eval e X.env)] := by rfl) :
    PI X (.Tuple elts kk tpos) (.Call (.Name "enumerate" p) [e] [] pos) (iEnumT X.K ta) := by
  refine ⟨fun pins s σ H R I h => ?_⟩
  refine Call_ (ld_blt I hg hm boot_enumerate (PyProof.Rows.callWith_type1 (thn (ha.run pos pins s σ H _ I h) fun us s1 ⟨vs, H1, I1, r1, q1⟩ => ?_) hs rfl))
  obtain ⟨a, xs, ex, hq, q⟩ := q1
  subst ex
  cases r1 with
  | cons r rr =>
    cases rr
    cases r
    obtain ⟨its, rv, p', hz⟩ := I1.tuple hq
    refine enum_begins1 (begins_tuple a its.toArray) p' fun h' he hit hsz hk => wpAny_pyIter_enum he ?_
    have I2 : Inv X pins σ H1 { s1 with heap := h' } := I1.kept (t' := s1.toks) hk
    refine ⟨s1.heap.objs.size + 1, [s1.heap.objs.size + 1, s1.heap.objs.size], _, _, H1, rfl, I2, turn_enumT a (s1.heap.objs.size + 1) s1.heap.objs.size, ⟨⟨.none, he⟩, ⟨_, hit, rfl, rfl⟩, Nat.succ_ne_self _⟩, fun b hb => ?_, q⟩
    have e' : b = s1.heap.objs.size + 1 ∨ b = s1.heap.objs.size := by simpa using hb
    have hle : s1.heap.objs.size ≤ b := by
      rcases e' with z | z
      · rw [z]; exact Nat.le_add_right _ _
      · rw [z]; exact Nat.le_refl _
    exact I1.fpOk hle (I1.hok.fresh hle)
/-- the places told -/
def enu {α : Type} (xs : List α) : List (Int × α) := xs.zipIdx.map fun p => ((p.2 : Int), p.1)
theorem enu_length {α : Type} (xs : List α) : (enu xs).length = xs.length := by simp [enu]
theorem enu_get {α : Type} {xs : List α} {i : Nat} (h : i < (enu xs).length) (h' : i < xs.length) : (enu xs)[i] = ((i : Int), xs[i]) := by simp [enu]
section
variable {X : Cx} {Γ : Gm} {α β : Type} {R : Fz α} {S : Fz β} {pos : Pos} {e : Expr} {tpos : Pos} {elts : List Expr} {kk : Nat}
theorem new_pair {K : PySem.W.Frag} {w : Wd} {T : Addr} {u v : V} {x : α} {y : β} (hT : w.H T = none) (hu : R.r K w.F u x) (hv : S.r K w.F v y) : ∃ w', w'.H = upd w.H T (.tup [u, v]) ∧ Le w w' ∧ (rPr R S).r K w'.F (.ref T) (x, y) := by
  have l := w.le_newF T (.tup [u, v]) hT
  exact ⟨w.newF T _ hT, rfl, l, T, u, v, rfl, SqT.of upd_same, R.mono l.f hu, S.mono l.f hv⟩
theorem f_enumT {a : Expr} {p : Pos} {xs : List α} (hg : Gl X "enumerate") (hm : X.mg "enumerate" = none) (ha : PA X [a] (tA X.K Γ [aF (rTup R) xs])) (hs : starEach [a] X.env = [(false, eval a X.env)] := by rfl) : PI X (.Tuple elts kk tpos) (.Call (.Name "enumerate" p) [a] [] pos) (tIF X.K Γ (rPr rInt R) (enu xs)) :=
  PI.imp (pi_enumT hg hm ha hs) fun σ H Rk ⟨b, w, hw, ok, k⟩ => ⟨b, w, hw, ok, fun vs w' l q => by
    obtain ⟨v, rfl, ⟨a, us, rfl, h1, h2, h3⟩⟩ := args1 q
    refine ⟨a, us, rfl, sqT_mono w'.sub h1, k _ (fun w2 => SqT X.K w2.F a us ∧ Paired (R.r X.K w2.F) us xs) w' l ⟨fun w2 ⟨q1, q2⟩ i hi => ?_, fun w2 ⟨q1, q2⟩ i hi v H' y => ?_, fun w2 ⟨q1, q2⟩ i hi => ?_, fun w2 w3 ⟨q1, q2⟩ l => ⟨sqT_mono l.f q1, Paired.mp q2 fun _ _ h => R.mono l.f h⟩⟩ ⟨h1, h3⟩ fun w2 w3 ⟨q1, q2⟩ s => ⟨sqT_mono s q1, Paired.mp q2 fun _ _ h => R.mono s h⟩⟩
    · rw [enu_length] at hi
      obtain ⟨v, e, _⟩ := Paired.at i hi q2
      exact ⟨us, v, sqT_mono w2.sub q1, e⟩
    · have hi' : i < xs.length := by rwa [enu_length] at hi
      obtain ⟨T, x, rfl, hT, rfl, hx⟩ := y
      obtain ⟨v, e, r⟩ := Paired.at i hi' q2
      have := (hx us (sqT_mono w2.sub q1)).symm.trans e
      cases this
      rw [enu_get hi hi']
      exact new_pair (R := rInt) hT rfl r
    · rw [enu_length] at hi
      exact ⟨us, sqT_mono w2.sub q1, by rw [paired_len q2]; exact hi⟩⟩
theorem f_enumL {a : Expr} {p : Pos} {xs : List α} (hg : Gl X "enumerate") (hm : X.mg "enumerate" = none) (ha : PA X [a] (tA X.K Γ [aF (rLst R) xs])) (hs : starEach [a] X.env = [(false, eval a X.env)] := by rfl) : PI X (.Tuple elts kk tpos) (.Call (.Name "enumerate" p) [a] [] pos) (tIF X.K Γ (rPr rInt R) (enu xs)) :=
  PI.imp (pi_enum hg hm ha hs) fun σ H Rk ⟨b, w, hw, ok, k⟩ => ⟨b, w, hw, ok, fun vs w' l q => by
    obtain ⟨v, rfl, ⟨a, us, rfl, h1, h2, h3⟩⟩ := args1 q
    refine ⟨a, us, rfl, SqL.of (w'.sub _ _ h1), k _ (fun w2 => w2.F a = some (.lst us) ∧ Paired (R.r X.K w2.F) us xs) w' l ⟨fun w2 ⟨q1, q2⟩ i hi => ?_, fun w2 ⟨q1, q2⟩ i hi v H' y => ?_, fun w2 ⟨q1, q2⟩ i hi => ?_, fun w2 w3 ⟨q1, q2⟩ l => ⟨l.f _ _ q1, Paired.mp q2 fun _ _ h => R.mono l.f h⟩⟩ ⟨h1, h3⟩ fun w2 w3 ⟨q1, q2⟩ s => ⟨s _ _ q1, Paired.mp q2 fun _ _ h => R.mono s h⟩⟩
    · rw [enu_length] at hi
      obtain ⟨v, e, _⟩ := Paired.at i hi q2
      exact ⟨us, v, SqL.of (w2.sub _ _ q1), e⟩
    · have hi' : i < xs.length := by rwa [enu_length] at hi
      obtain ⟨T, x, rfl, hT, rfl, hx⟩ := y
      obtain ⟨v, e, r⟩ := Paired.at i hi' q2
      have := (hx us (SqL.of (w2.sub _ _ q1))).symm.trans e
      cases this
      rw [enu_get hi hi']
      exact new_pair (R := rInt) hT rfl r
    · rw [enu_length] at hi
      exact ⟨us, SqL.of (w2.sub _ _ q1), by rw [paired_len q2]; exact hi⟩⟩
/-- within a comprehension: a list that stands now -/
theorem i_enumL {a : Expr} {p : Pos} {xs : List α} (hg : Gl X "enumerate") (hm : X.mg "enumerate" = none) (ha : PA X [a] (tA X.K Γ [aL R xs])) (hs : starEach [a] X.env = [(false, eval a X.env)] := by rfl) : PI X (.Tuple elts kk tpos) (.Call (.Name "enumerate" p) [a] [] pos) (tI X.K Γ (rPr rInt R) (enu xs)) :=
  PI.imp (pi_enum hg hm ha hs) fun σ H Rk ⟨b, w, hw, ok, k⟩ => ⟨b, w, hw, ok, fun vs w' l q => by
    obtain ⟨v, rfl, ⟨a, us, rfl, h1, h2, h3⟩⟩ := args1 q
    refine ⟨a, us, rfl, SqL.of h1, k _ (fun w2 => w2.H a = some (.lst us) ∧ Paired (R.r X.K w2.F) us xs) w' l ⟨fun w2 ⟨q1, q2⟩ i hi => ?_, fun w2 ⟨q1, q2⟩ i hi v H' y => ?_, fun w2 ⟨q1, q2⟩ i hi => ?_, fun w2 w3 ⟨q1, q2⟩ l => ⟨l.h _ _ q1, Paired.mp q2 fun _ _ h => R.mono l.f h⟩⟩ ⟨h1, h3⟩ (by rw [enu_length, ← paired_len h3]; exact h2)⟩
    · rw [enu_length] at hi
      obtain ⟨v, e, _⟩ := Paired.at i hi q2
      exact ⟨us, v, SqL.of q1, e⟩
    · have hi' : i < xs.length := by rwa [enu_length] at hi
      obtain ⟨T, x, rfl, hT, rfl, hx⟩ := y
      obtain ⟨v, e, r⟩ := Paired.at i hi' q2
      have := (hx us (SqL.of q1)).symm.trans e
      cases this
      rw [enu_get hi hi']
      exact new_pair (R := rInt) hT rfl r
    · rw [enu_length] at hi
      exact ⟨us, SqL.of q1, by rw [paired_len q2]; exact hi⟩⟩
end
end PZ

namespace PZ
open PySem PySem.Spec PyProof.Rows L2
open PySem.W (alike alikeAll dataLt dataLe EachIs minD maxD AlikeAll)

/-! data, compared and put in order -/
structure Enc {α : Type} [DecidableEq α] (R : Fz α) (enc : α → PyData) (n : Nat) : Prop where
  dp : ∀ {K F v x}, R.r K F v x → Dp K F v (enc x)
  inj : ∀ x y, PyData.eqv (enc x) (enc y) = decide (x = y)
  plain : ∀ x, (enc x).plain = true
  dep : ∀ x, (enc x).depth ≤ n
theorem Enc.eq {α : Type} [DecidableEq α] {R : Fz α} {enc : α → PyData} {n : Nat} (h : Enc R enc n) {x y : α} (e : enc x = enc y) : x = y := by
  have h1 := h.inj x y
  rw [← e, h.inj x x] at h1
  simpa using h1.symm
def Ordd {α : Type} (enc : α → PyData) : Prop := ∀ x y, alike (enc x) (enc y) = true
def Shap {α : Type} (enc : α → PyData) : Prop := (∀ x, ∃ h t, enc x = .tuple (h :: t)) ∨ ∀ x, enc x ≠ .none ∧ ∀ l, enc x ≠ .tuple l
theorem enc_int : Enc rInt PyData.int 0 := ⟨fun h => by cases h; exact .int _, fun x y => by rw [PyData.eqv]; exact Bool.beq_eq_decide_eq _ _, fun _ => by rw [PyData.plain], fun _ => by rw [PyData.depth]; exact Nat.le_refl _⟩
theorem enc_str : Enc rStr PyData.str 0 := ⟨fun h => by cases h; exact .str _, fun x y => by rw [PyData.eqv]; by_cases e : x = y <;> simp [e], fun _ => by rw [PyData.plain], fun _ => by rw [PyData.depth]; exact Nat.le_refl _⟩
theorem enc_bool : Enc rBool PyData.bool 0 := ⟨fun h => by cases h; exact .bl _, fun x y => by rw [PyData.eqv]; exact Bool.beq_eq_decide_eq _ _, fun _ => by rw [PyData.plain], fun _ => by rw [PyData.depth]; exact Nat.le_refl _⟩
theorem ord_int : Ordd PyData.int := fun _ _ => by rw [alike]
theorem ord_str : Ordd PyData.str := fun _ _ => by rw [alike]
theorem ord_bool : Ordd PyData.bool := fun _ _ => by rw [alike]
theorem shp_int : Shap PyData.int := .inr fun _ => ⟨(fun z => nomatch z), (fun _ z => nomatch z)⟩
theorem shp_str : Shap PyData.str := .inr fun _ => ⟨(fun z => nomatch z), (fun _ z => nomatch z)⟩
def encTup {α : Type} (f : α → PyData) (xs : List α) : PyData := .tuple (xs.map f)
def encLst {α : Type} (f : α → PyData) (xs : List α) : PyData := .list (xs.map f)
section
variable {α β γ δ : Type} [DecidableEq α] [DecidableEq β] [DecidableEq γ] [DecidableEq δ] {R : Fz α} {S : Fz β} {T : Fz γ} {U : Fz δ} {f : α → PyData} {g : β → PyData} {j : γ → PyData} {m : δ → PyData} {n k l o : Nat}
theorem Enc.all (h : Enc R f n) {K : PySem.W.Frag} {F : Hp} : ∀ {vs : List V} {xs : List α}, Paired (R.r K F) vs xs → DpAll K F vs (xs.map f)
  | _, _, .nil => .nil
  | _, _, .cons r t => .cons (h.dp r) (Enc.all h t)
theorem Enc.injs (h : Enc R f n) : ∀ xs ys : List α, PyData.eqvAll (xs.map f) (ys.map f) = decide (xs = ys)
  | [], [] => by simp [PyData.eqvAll]
  | [], _ :: _ => by simp [PyData.eqvAll]
  | _ :: _, [] => by simp [PyData.eqvAll]
  | x :: xs, y :: ys => by
    rw [List.map_cons, List.map_cons, PyData.eqvAll, h.inj, h.injs xs ys]
    by_cases e1 : x = y <;> by_cases e2 : xs = ys <;> simp [e1, e2]
theorem Enc.plains (h : Enc R f n) : ∀ xs : List α, PyData.plainAll (xs.map f) = true
  | [] => by simp [PyData.plainAll]
  | x :: xs => by rw [List.map_cons, PyData.plainAll, h.plain, h.plains xs]; rfl
theorem Enc.deps (h : Enc R f n) : ∀ xs : List α, PyData.depthAll (xs.map f) ≤ n
  | [] => by simp [PyData.depthAll]
  | x :: xs => by rw [List.map_cons, PyData.depthAll]; exact Nat.max_le.mpr ⟨h.dep x, h.deps xs⟩
theorem enc_tup (h : Enc R f n) : Enc (rTup R) (encTup f) (n + 1) :=
  ⟨fun ⟨a, vs, e, q, _, p⟩ => by subst e; exact .tup q (h.all p), fun x y => by unfold encTup; rw [PyData.eqv]; exact h.injs x y, fun x => by unfold encTup; rw [PyData.plain]; exact h.plains x, fun x => by unfold encTup; rw [PyData.depth]; exact Nat.succ_le_succ (h.deps x)⟩
theorem enc_lst (h : Enc R f n) : Enc (rLst R) (encLst f) (n + 1) :=
  ⟨fun ⟨a, vs, e, q, _, p⟩ => by subst e; exact .lst (SqL.of q) (h.all p), fun x y => by unfold encLst; rw [PyData.eqv]; exact h.injs x y, fun x => by unfold encLst; rw [PyData.plain]; exact h.plains x, fun x => by unfold encLst; rw [PyData.depth]; exact Nat.succ_le_succ (h.deps x)⟩
theorem ord_all (h : Ordd f) : ∀ xs ys : List α, alikeAll (xs.map f) (ys.map f) = true
  | [], _ => by simp [alikeAll]
  | _ :: _, [] => by simp [alikeAll]
  | x :: xs, y :: ys => by rw [List.map_cons, List.map_cons, alikeAll, h x y, ord_all h xs ys]; rfl
theorem ord_tup (h : Ordd f) : Ordd (encTup f) := fun x y => by unfold encTup; rw [alike]; exact ord_all h x y
theorem ord_lst (h : Ordd f) : Ordd (encLst f) := fun x y => by unfold encLst; rw [alike]; exact ord_all h x y
theorem shp_lst : Shap (encLst f) := .inr fun _ => ⟨(fun z => nomatch z), (fun _ z => nomatch z)⟩
def encPr (f : α → PyData) (g : β → PyData) (x : α × β) : PyData := .tuple [f x.1, g x.2]
theorem enc_pr (h : Enc R f n) (h2 : Enc S g k) : Enc (rPr R S) (encPr f g) (max n k + 1) :=
  ⟨fun ⟨a, u, z, e, q, q1, q2⟩ => by subst e; exact .tup q (.cons (h.dp q1) (.cons (h2.dp q2) .nil)), fun x y => by
    unfold encPr; rw [PyData.eqv, PyData.eqvAll, PyData.eqvAll, PyData.eqvAll, h.inj, h2.inj]
    obtain ⟨x1, x2⟩ := x; obtain ⟨y1, y2⟩ := y
    by_cases e1 : x1 = y1 <;> by_cases e2 : x2 = y2 <;> simp [e1, e2], fun x => by unfold encPr; simp [PyData.plain, PyData.plainAll, h.plain, h2.plain], fun x => by
    unfold encPr; rw [PyData.depth, PyData.depthAll, PyData.depthAll, PyData.depthAll]
    have := h.dep x.1; have := h2.dep x.2; omega⟩
theorem ord_pr (h : Ordd f) (h2 : Ordd g) : Ordd (encPr f g) := fun x y => by unfold encPr; rw [alike, alikeAll, alikeAll, alikeAll, h, h2]; rfl
theorem shp_pr : Shap (encPr f g) := .inl fun x => ⟨_, _, rfl⟩
def encT3 (f : α → PyData) (g : β → PyData) (j : γ → PyData) (x : α × β × γ) : PyData := .tuple [f x.1, g x.2.1, j x.2.2]
theorem enc_t3 (h : Enc R f n) (h2 : Enc S g k) (h3 : Enc T j l) : Enc (rT3 R S T) (encT3 f g j) (max n (max k l) + 1) :=
  ⟨fun ⟨a, u, z, y, e, q, q1, q2, q3⟩ => by subst e; exact .tup q (.cons (h.dp q1) (.cons (h2.dp q2) (.cons (h3.dp q3) .nil))), fun x y => by
    unfold encT3; rw [PyData.eqv, PyData.eqvAll, PyData.eqvAll, PyData.eqvAll, PyData.eqvAll, h.inj, h2.inj, h3.inj]
    obtain ⟨x1, x2, x3⟩ := x; obtain ⟨y1, y2, y3⟩ := y
    by_cases e1 : x1 = y1 <;> by_cases e2 : x2 = y2 <;> by_cases e3 : x3 = y3 <;> simp [e1, e2, e3], fun x => by unfold encT3; simp [PyData.plain, PyData.plainAll, h.plain, h2.plain, h3.plain], fun x => by
    unfold encT3; rw [PyData.depth, PyData.depthAll, PyData.depthAll, PyData.depthAll, PyData.depthAll]
    have := h.dep x.1; have := h2.dep x.2.1; have := h3.dep x.2.2; omega⟩
theorem ord_t3 (h : Ordd f) (h2 : Ordd g) (h3 : Ordd j) : Ordd (encT3 f g j) := fun x y => by unfold encT3; rw [alike, alikeAll, alikeAll, alikeAll, alikeAll, h, h2, h3]; rfl
theorem shp_t3 : Shap (encT3 f g j) := .inl fun x => ⟨_, _, rfl⟩
def encT4 (f : α → PyData) (g : β → PyData) (j : γ → PyData) (m : δ → PyData) (x : α × β × γ × δ) : PyData := .tuple [f x.1, g x.2.1, j x.2.2.1, m x.2.2.2]
theorem enc_t4 (h : Enc R f n) (h2 : Enc S g k) (h3 : Enc T j l) (h4 : Enc U m o) : Enc (rT4 R S T U) (encT4 f g j m) (max n (max k (max l o)) + 1) :=
  ⟨fun ⟨a, u, z, y, t, e, q, q1, q2, q3, q4⟩ => by subst e; exact .tup q (.cons (h.dp q1) (.cons (h2.dp q2) (.cons (h3.dp q3) (.cons (h4.dp q4) .nil)))), fun x y => by
    unfold encT4; rw [PyData.eqv, PyData.eqvAll, PyData.eqvAll, PyData.eqvAll, PyData.eqvAll, PyData.eqvAll, h.inj, h2.inj, h3.inj, h4.inj]
    obtain ⟨x1, x2, x3, x4⟩ := x; obtain ⟨y1, y2, y3, y4⟩ := y
    by_cases e1 : x1 = y1 <;> by_cases e2 : x2 = y2 <;> by_cases e3 : x3 = y3 <;> by_cases e4 : x4 = y4 <;> simp [e1, e2, e3, e4], fun x => by unfold encT4; simp [PyData.plain, PyData.plainAll, h.plain, h2.plain, h3.plain, h4.plain], fun x => by
    unfold encT4; rw [PyData.depth, PyData.depthAll, PyData.depthAll, PyData.depthAll, PyData.depthAll, PyData.depthAll]
    have := h.dep x.1; have := h2.dep x.2.1; have := h3.dep x.2.2.1; have := h4.dep x.2.2.2; omega⟩
theorem ord_t4 (h : Ordd f) (h2 : Ordd g) (h3 : Ordd j) (h4 : Ordd m) : Ordd (encT4 f g j m) := fun x y => by unfold encT4; rw [alike, alikeAll, alikeAll, alikeAll, alikeAll, alikeAll, h, h2, h3, h4]; rfl
theorem shp_t4 : Shap (encT4 f g j m) := .inl fun x => ⟨_, _, rfl⟩
def encOpt (f : α → PyData) : Option α → PyData
  | none => .none
  | some x => f x
theorem enc_opt (h : Enc R f n) (hn : ∀ x, PyData.eqv .none (f x) = false ∧ PyData.eqv (f x) .none = false) : Enc (rOpt R) (encOpt f) n :=
  ⟨fun q => by
    rcases q with ⟨e, e2⟩ | ⟨y, e, q⟩
    · subst e e2; exact .non
    · subst e; exact h.dp q, fun x y => by
    cases x <;> cases y
    · simp [encOpt, PyData.eqv]
    · simp [encOpt, (hn _).1]
    · simp [encOpt, (hn _).2]
    · simp [encOpt, h.inj], fun x => by
    cases x
    · simp [encOpt, PyData.plain]
    · exact h.plain _, fun x => by
    cases x
    · simp [encOpt, PyData.depth]
    · exact h.dep _⟩
end
/-- the values sorted -/
def sortD {α : Type} (enc : α → PyData) (xs : List α) : List α := xs.mergeSort (dataLe false enc)
def minB {α : Type} [Inhabited α] (enc : α → PyData) : List α → α
  | [] => default
  | x :: xs => xs.foldl (fun a y => if dataLt (enc y) (enc a) then y else a) x
def maxB {α : Type} [Inhabited α] (enc : α → PyData) : List α → α
  | [] => default
  | x :: xs => xs.foldl (fun a y => if dataLt (enc a) (enc y) then y else a) x
theorem minB_enc {α : Type} (enc : α → PyData) : ∀ (xs : List α) (x : α), minD (enc x) (xs.map enc) = enc (xs.foldl (fun a y => if dataLt (enc y) (enc a) then y else a) x)
  | [], x => rfl
  | y :: xs, x => by
    show (xs.map enc).foldl _ (if dataLt (enc y) (enc x) then enc y else enc x) = _
    rw [List.foldl_cons, ← minB_enc enc xs]
    unfold minD
    split <;> rfl
theorem maxB_enc {α : Type} (enc : α → PyData) : ∀ (xs : List α) (x : α), maxD (enc x) (xs.map enc) = enc (xs.foldl (fun a y => if dataLt (enc a) (enc y) then y else a) x)
  | [], x => rfl
  | y :: xs, x => by
    show (xs.map enc).foldl _ (if dataLt (enc x) (enc y) then enc y else enc x) = _
    rw [List.foldl_cons, ← maxB_enc enc xs]
    unfold maxD
    split <;> rfl
section
variable {X : Cx} {Γ : Gm} {α β : Type} [DecidableEq α] {R : Fz α} {f : α → PyData} {n : Nat} {pos : Pos} {e : Expr}
variable {pins : List (Addr × Obj)} {σ : L2.St} {H : Hp} {s : Shared}
theorem Dp_mono {K : PySem.W.Frag} {F F' : Hp} (s : Same F F') : ∀ (d : PyData) (v : V), Dp K F v d → Dp K F' v d := by
  intro d v h
  induction h using Dp.rec (motive_2 := fun vs ds _ => DpAll K F' vs ds) with
  | non => exact .non
  | bl b => exact .bl b
  | int i => exact .int i
  | str x => exact .str x
  | lst q _ ih => exact .lst (sqL_mono s q) ih
  | tup q _ ih => exact .tup (sqT_mono s q) ih
  | nil => exact .nil
  | cons _ _ h1 h2 => exact .cons h1 h2
theorem Enc.reads (h : Enc R f n) {w : Wd} {v : V} {u : Value} {x : α} (I : Inv X pins σ w.H s) (q : R.r X.K w.F v x) (r : RelV v u) : ∃ as, Reads s.heap u (f x) as := Dp.reads I _ _ _ (Dp_mono w.sub _ _ (h.dp q)) r
theorem eachIs_of {F : V → α → Prop} {G : Value → α → Prop} : ∀ {vs : List V} {us : List Value} {xs : List α}, Paired F vs xs → Vals vs us → (∀ v u x, F v x → RelV v u → G u x) → EachIs G us xs
  | _, _, _, .nil, .nil, _ => .nil
  | _, _, _, .cons r t, .cons r2 t2, h => .cons (h _ _ _ r r2) (eachIs_of t t2 h)
/-- data that stands now -/
def DB (K : PySem.W.Frag) (d : PyData) (v : V) (w : Wd) : Prop := Dp K w.H v d
theorem op_eqP {d d' : PyData} (hd : d.plain = true) (hd' : d'.plain = true) (hu : X.A.units + min d.depth d'.depth < cLine) : OpR X (compareOp .Eq) (fun x y H Q => Dp X.K H x d ∧ Dp X.K H y d' ∧ Q (.bl (PyData.eqv d d')) H) := by
  intro pins s σ H x y v u Q I rx ry ⟨h1, h2, q⟩
  obtain ⟨as, r1⟩ := Dp.reads I _ x v h1 rx
  obtain ⟨bs, r2⟩ := Dp.reads I _ y u h2 ry
  exact SeqAt.eq_plain r1 r2 hd hd' hu ⟨.bl _, H, I, rfl, q⟩
theorem op_neP {d d' : PyData} (hd : d.plain = true) (hd' : d'.plain = true) (hu : X.A.units + min d.depth d'.depth < cLine) : OpR X (compareOp .NotEq) (fun x y H Q => Dp X.K H x d ∧ Dp X.K H y d' ∧ Q (.bl (!PyData.eqv d d')) H) := by
  intro pins s σ H x y v u Q I rx ry ⟨h1, h2, q⟩
  obtain ⟨as, r1⟩ := Dp.reads I _ x v h1 rx
  obtain ⟨bs, r2⟩ := Dp.reads I _ y u h2 ry
  exact SeqAt.ne_plain r1 r2 hd hd' hu ⟨.bl _, H, I, rfl, q⟩
theorem e_eqD {a b : Expr} {x y : α} {k : Nat} (h : Enc R f n) (hr : Room k X.A) (ha : PE X a (tE X.K Γ R x)) (hb : PE X b (tE X.K Γ R y)) (hn : n ≤ 30 := by decide) : PE X (.Compare a [.Eq] [b] pos) (tE X.K Γ rBool (decide (x = y))) :=
  e_op2 (ta := tE X.K Γ R x) (tb := tE X.K Γ R y) (t := tE X.K Γ R x) (a := a) (b := b) (pe_cmpR (op_eqP (h.plain x) (h.plain y) (by have := h.dep x; have := hr.units; omega)) ha hb (nomark _)) fun w u w1 v w2 Q l1 l2 p1 p2 k =>
    ⟨Dp_mono (l2.f.trans w2.sub) _ _ (h.dp p1), Dp_mono w2.sub _ _ (h.dp p2), k _ w2 (l1.trans l2) (by rw [h.inj]; rfl)⟩
theorem e_neD {a b : Expr} {x y : α} {k : Nat} (h : Enc R f n) (hr : Room k X.A) (ha : PE X a (tE X.K Γ R x)) (hb : PE X b (tE X.K Γ R y)) (hn : n ≤ 30 := by decide) : PE X (.Compare a [.NotEq] [b] pos) (tE X.K Γ rBool (!decide (x = y))) :=
  e_op2 (ta := tE X.K Γ R x) (tb := tE X.K Γ R y) (t := tE X.K Γ R x) (a := a) (b := b) (pe_cmpR (op_neP (h.plain x) (h.plain y) (by have := h.dep x; have := hr.units; omega)) ha hb (nomark _)) fun w u w1 v w2 Q l1 l2 p1 p2 k =>
    ⟨Dp_mono (l2.f.trans w2.sub) _ _ (h.dp p1), Dp_mono w2.sub _ _ (h.dp p2), k _ w2 (l1.trans l2) (by rw [h.inj]; rfl)⟩
/-- lists compared where they stand now -/
theorem LsB_dp (h : Enc R f n) {K : PySem.W.Frag} {w : Wd} {v : V} {xs : List α} (q : LsB K R xs v w) : Dp K w.H v (encLst f xs) := by
  obtain ⟨a, vs, e, h1, h2, h3⟩ := q
  subst e
  have : DpAll K w.H vs (xs.map f) := h.all (F := w.H) (Paired.mp h3 fun _ _ z => R.mono w.sub z)
  exact .lst (SqL.of h1) this
theorem LsB_le {K : PySem.W.Frag} {w w' : Wd} {v : V} {xs : List α} (l : Le w w') (q : LsB K R xs v w) : LsB K R xs v w' := (keeps_aL (R := R) (xs := xs)).mono l q
theorem SqB_le {K : PySem.W.Frag} {w w' : Wd} {v : V} {xs : List α} (l : Le w w') (q : SqB K R xs v w) : SqB K R xs v w' := (keeps_aB (R := R) (xs := xs)).mono l q
theorem e_eqL {a b : Expr} {xs ys : List α} {k : Nat} (h : Enc R f n) (hr : Room k X.A) (ha : PE X a (tL X.K Γ R xs)) (hb : PE X b (tL X.K Γ R ys)) (hn : n ≤ 30 := by decide) : PE X (.Compare a [.Eq] [b] pos) (tE X.K Γ rBool (decide (xs = ys))) :=
  e_op2 (ta := tL X.K Γ R xs) (tb := tL X.K Γ R ys) (t := tL X.K Γ R xs) (a := a) (b := b) (pe_cmpR (op_eqP ((enc_lst h).plain xs) ((enc_lst h).plain ys) (by have := (enc_lst h).dep xs; have := hr.units; omega)) ha hb (nomark _)) fun w u w1 v w2 Q l1 l2 p1 p2 k =>
    ⟨LsB_dp h (LsB_le l2 p1), LsB_dp h p2, k _ w2 (l1.trans l2) (by rw [(enc_lst h).inj]; rfl)⟩
theorem e_neL {a b : Expr} {xs ys : List α} {k : Nat} (h : Enc R f n) (hr : Room k X.A) (ha : PE X a (tL X.K Γ R xs)) (hb : PE X b (tL X.K Γ R ys)) (hn : n ≤ 30 := by decide) : PE X (.Compare a [.NotEq] [b] pos) (tE X.K Γ rBool (!decide (xs = ys))) :=
  e_op2 (ta := tL X.K Γ R xs) (tb := tL X.K Γ R ys) (t := tL X.K Γ R xs) (a := a) (b := b) (pe_cmpR (op_neP ((enc_lst h).plain xs) ((enc_lst h).plain ys) (by have := (enc_lst h).dep xs; have := hr.units; omega)) ha hb (nomark _)) fun w u w1 v w2 Q l1 l2 p1 p2 k =>
    ⟨LsB_dp h (LsB_le l2 p1), LsB_dp h p2, k _ w2 (l1.trans l2) (by rw [(enc_lst h).inj]; rfl)⟩
/-- in a list or tuple of data -/
theorem SqB_dp (h : Enc R f n) {K : PySem.W.Frag} {w : Wd} {v : V} {xs : List α} (q : SqB K R xs v w) : Dp K w.H v (encLst f xs) ∨ Dp K w.H v (encTup f xs) := by
  obtain ⟨a, vs, e, h1, h2, h3⟩ := q
  subst e
  have : DpAll K w.H vs (xs.map f) := h.all (F := w.H) (Paired.mp h3 fun _ _ z => R.mono w.sub z)
  rcases h1 with h1 | h1
  · exact .inl (.lst (SqL.of h1) this)
  · exact .inr (.tup h1 this)
theorem any_eqv (h : Enc R f n) (y : α) : ∀ xs : List α, ((xs.map f).any fun z => PyData.eqv z (f y)) = decide (y ∈ xs)
  | [] => by simp
  | x :: xs => by
    rw [List.map_cons, List.any_cons, h.inj, any_eqv h y xs]
    by_cases e : x = y
    · subst e; simp
    · by_cases e2 : y ∈ xs <;> simp [e, Ne.symm e, e2]
theorem op_inP {d : PyData} {ds : List PyData} (neg : Bool) (hd : d.plain = true) (hds : PyData.plainAll ds = true) (hu : X.A.units + 1 + min (PyData.depthAll ds) d.depth < cLine) :
    OpR X (compareOp (if neg then .NotIn else .In)) (fun x y H Q => Dp X.K H x d ∧ (Dp X.K H y (.list ds) ∨ Dp X.K H y (.tuple ds)) ∧ Q (.bl (if neg then !(ds.any fun z => PyData.eqv z d) else ds.any fun z => PyData.eqv z d)) H) := by
  intro pins s σ H x y v u Q I rx ry ⟨h1, h2, q⟩
  obtain ⟨as, r1⟩ := Dp.reads I _ x v h1 rx
  rcases h2 with h2 | h2
  · obtain ⟨bs, r2⟩ := Dp.reads I _ y u h2 ry
    cases neg with
    | false => exact SeqAt.in_list_data r2 r1 hds hd hu ⟨.bl _, H, I, rfl, q⟩
    | true => exact SeqAt.notIn_list_data r2 r1 hds hd hu ⟨.bl _, H, I, rfl, q⟩
  · obtain ⟨bs, r2⟩ := Dp.reads I _ y u h2 ry
    cases neg with
    | false => exact SeqAt.in_tuple_data r2 r1 hds hd hu ⟨.bl _, H, I, rfl, q⟩
    | true => exact SeqAt.notIn_tuple_data r2 r1 hds hd hu ⟨.bl _, H, I, rfl, q⟩
theorem e_inD {a b : Expr} {y : α} {xs : List α} {k : Nat} (h : Enc R f n) (hr : Room k X.A) (ha : PE X a (tE X.K Γ R y)) (hb : PE X b (tB X.K Γ R xs)) (hn : n ≤ 30 := by decide) (hm : behindInMarks .In b = false := by rfl) : PE X (.Compare a [.In] [b] pos) (tE X.K Γ rBool (decide (y ∈ xs))) :=
  e_op2 (ta := tE X.K Γ R y) (tb := tB X.K Γ R xs) (t := tE X.K Γ R y) (a := a) (b := b) (pe_cmpR (op := .In) (op_inP false (h.plain y) (h.plains xs) (by have := h.dep y; have := hr.units; omega)) ha hb hm) fun w u w1 v w2 Q l1 l2 p1 p2 k =>
    ⟨Dp_mono (l2.f.trans w2.sub) _ _ (h.dp p1), SqB_dp h p2, k _ w2 (l1.trans l2) (by rw [any_eqv h]; rfl)⟩
theorem e_ninD {a b : Expr} {y : α} {xs : List α} {k : Nat} (h : Enc R f n) (hr : Room k X.A) (ha : PE X a (tE X.K Γ R y)) (hb : PE X b (tB X.K Γ R xs)) (hn : n ≤ 30 := by decide) (hm : behindInMarks .NotIn b = false := by rfl) : PE X (.Compare a [.NotIn] [b] pos) (tE X.K Γ rBool (!decide (y ∈ xs))) :=
  e_op2 (ta := tE X.K Γ R y) (tb := tB X.K Γ R xs) (t := tE X.K Γ R y) (a := a) (b := b) (pe_cmpR (op := .NotIn) (op_inP true (h.plain y) (h.plains xs) (by have := h.dep y; have := hr.units; omega)) ha hb hm) fun w u w1 v w2 Q l1 l2 p1 p2 k =>
    ⟨Dp_mono (l2.f.trans w2.sub) _ _ (h.dp p1), SqB_dp h p2, k _ w2 (l1.trans l2) (by rw [any_eqv h]; rfl)⟩
/-- < and so on of data -/
theorem op_ltP {d d' : PyData} (hal : alike d d' = true) (hd : d ≠ .none) (hu : X.A.units + min d.depth d'.depth < cLine) : OpR X (compareOp .Lt) (fun x y H Q => Dp X.K H x d ∧ Dp X.K H y d' ∧ Q (.bl (dataLt d d')) H) := by
  intro pins s σ H x y v u Q I rx ry ⟨h1, h2, q⟩
  obtain ⟨as, r1⟩ := Dp.reads I _ x v h1 rx
  obtain ⟨bs, r2⟩ := Dp.reads I _ y u h2 ry
  exact PySem.W.lt_data r1 r2 hal hd hu ⟨.bl _, H, I, rfl, q⟩
theorem op_gtP {d d' : PyData} (hal : alike d d' = true) (hd : d ≠ .none) (hu : X.A.units + min d.depth d'.depth < cLine) : OpR X (compareOp .Gt) (fun x y H Q => Dp X.K H x d ∧ Dp X.K H y d' ∧ Q (.bl (dataLt d' d)) H) := by
  intro pins s σ H x y v u Q I rx ry ⟨h1, h2, q⟩
  obtain ⟨as, r1⟩ := Dp.reads I _ x v h1 rx
  obtain ⟨bs, r2⟩ := Dp.reads I _ y u h2 ry
  exact PySem.W.gt_data r1 r2 hal hd hu ⟨.bl _, H, I, rfl, q⟩
theorem op_leP {d d' : PyData} (hal : alike d d' = true) (hd : d ≠ .none) (hu : X.A.units + min d.depth d'.depth < cLine) : OpR X (compareOp .LtE) (fun x y H Q => Dp X.K H x d ∧ Dp X.K H y d' ∧ Q (.bl (!dataLt d' d)) H) := by
  intro pins s σ H x y v u Q I rx ry ⟨h1, h2, q⟩
  obtain ⟨as, r1⟩ := Dp.reads I _ x v h1 rx
  obtain ⟨bs, r2⟩ := Dp.reads I _ y u h2 ry
  exact PySem.W.le_data r1 r2 hal hd hu ⟨.bl _, H, I, rfl, q⟩
theorem op_geP {d d' : PyData} (hal : alike d d' = true) (hd : d ≠ .none) (hu : X.A.units + min d.depth d'.depth < cLine) : OpR X (compareOp .GtE) (fun x y H Q => Dp X.K H x d ∧ Dp X.K H y d' ∧ Q (.bl (!dataLt d d')) H) := by
  intro pins s σ H x y v u Q I rx ry ⟨h1, h2, q⟩
  obtain ⟨as, r1⟩ := Dp.reads I _ x v h1 rx
  obtain ⟨bs, r2⟩ := Dp.reads I _ y u h2 ry
  exact PySem.W.ge_data r1 r2 hal hd hu ⟨.bl _, H, I, rfl, q⟩
theorem nn_shp (sh : Shap f) (x : α) : f x ≠ .none := by
  rcases sh with h | h
  · obtain ⟨a, b, e⟩ := h x; rw [e]; exact fun z => nomatch z
  · exact (h x).1
theorem e_cmpD {a b : Expr} {op : CmpOp} {x y : α} {c : Bool} (h : Enc R f n) (ho : OpR X (compareOp op) (fun u v H Q => Dp X.K H u (f x) ∧ Dp X.K H v (f y) ∧ Q (.bl c) H)) (ha : PE X a (tE X.K Γ R x)) (hb : PE X b (tE X.K Γ R y)) (hm : behindInMarks op b = false) : PE X (.Compare a [op] [b] pos) (tE X.K Γ rBool c) :=
  e_op2 (ta := tE X.K Γ R x) (tb := tE X.K Γ R y) (t := tE X.K Γ R x) (a := a) (b := b) (pe_cmpR ho ha hb hm) fun w u w1 v w2 Q l1 l2 p1 p2 k =>
    ⟨Dp_mono (l2.f.trans w2.sub) _ _ (h.dp p1), Dp_mono w2.sub _ _ (h.dp p2), k _ w2 (l1.trans l2) rfl⟩
theorem e_ltD {a b : Expr} {x y : α} {k : Nat} (h : Enc R f n) (o : Ordd f) (nn : ∀ x, f x ≠ .none) (hr : Room k X.A) (ha : PE X a (tE X.K Γ R x)) (hb : PE X b (tE X.K Γ R y)) (hn : n ≤ 30 := by decide) : PE X (.Compare a [.Lt] [b] pos) (tE X.K Γ rBool (dataLt (f x) (f y))) :=
  e_cmpD h (op_ltP (o x y) (nn x) (by have := h.dep x; have := hr.units; omega)) ha hb (nomark _)
theorem e_gtD {a b : Expr} {x y : α} {k : Nat} (h : Enc R f n) (o : Ordd f) (nn : ∀ x, f x ≠ .none) (hr : Room k X.A) (ha : PE X a (tE X.K Γ R x)) (hb : PE X b (tE X.K Γ R y)) (hn : n ≤ 30 := by decide) : PE X (.Compare a [.Gt] [b] pos) (tE X.K Γ rBool (dataLt (f y) (f x))) :=
  e_cmpD h (op_gtP (o x y) (nn x) (by have := h.dep x; have := hr.units; omega)) ha hb (nomark _)
theorem e_leD {a b : Expr} {x y : α} {k : Nat} (h : Enc R f n) (o : Ordd f) (nn : ∀ x, f x ≠ .none) (hr : Room k X.A) (ha : PE X a (tE X.K Γ R x)) (hb : PE X b (tE X.K Γ R y)) (hn : n ≤ 30 := by decide) : PE X (.Compare a [.LtE] [b] pos) (tE X.K Γ rBool (!dataLt (f y) (f x))) :=
  e_cmpD h (op_leP (o x y) (nn x) (by have := h.dep x; have := hr.units; omega)) ha hb (nomark _)
theorem e_geD {a b : Expr} {x y : α} {k : Nat} (h : Enc R f n) (o : Ordd f) (nn : ∀ x, f x ≠ .none) (hr : Room k X.A) (ha : PE X a (tE X.K Γ R x)) (hb : PE X b (tE X.K Γ R y)) (hn : n ≤ 30 := by decide) : PE X (.Compare a [.GtE] [b] pos) (tE X.K Γ rBool (!dataLt (f x) (f y))) :=
  e_cmpD h (op_geP (o x y) (nn x) (by have := h.dep x; have := hr.units; omega)) ha hb (nomark _)
/-! sorted -/
theorem vals_of_each {w : Wd} {K : PySem.W.Frag} : ∀ {out : List Value} {ys : List α}, EachIs (fun u y => ∃ v, RelV v u ∧ R.r K w.F v y) out ys → ∃ vs, Vals vs out ∧ Paired (R.r K w.F) vs ys
  | _, _, .nil => ⟨[], .nil, .nil⟩
  | _, _, .cons ⟨v, r, q⟩ t => by
    obtain ⟨vs, h1, h2⟩ := vals_of_each t
    exact ⟨v :: vs, .cons r h1, .cons q h2⟩
def rSortD (X : Cx) {α : Type} [DecidableEq α] (R : Fz α) (f : α → PyData) (rev : Bool) (xs : List α) : List V → Hp → VK → Prop := fun vs H Q => ∃ w : Wd, w.H = H ∧ ∃ v, vs = [v] ∧ LsB X.K R xs v w ∧ ∀ p us, w.H p = none → us.length ≤ sizeLine → Paired (R.r X.K w.F) us (xs.mergeSort (dataLe rev f)) → Q (.ref p) (upd w.H p (.lst us))
theorem sort_end {xs : List α} {rev : Bool} {pins : List (Addr × Obj)} {σ : L2.St} {w : Wd} {s : Shared} {Q : VK} {its : List Value} {out : List Value} (I : Inv X pins σ w.H s) (hl : out.length = xs.length) (hz : xs.length ≤ sizeLine)
    (he : EachIs (fun u y => ∃ v, RelV v u ∧ R.r X.K w.F v y) out (xs.mergeSort (dataLe rev f))) (q : ∀ p us, w.H p = none → us.length ≤ sizeLine → Paired (R.r X.K w.F) us (xs.mergeSort (dataLe rev f)) → Q (.ref p) (upd w.H p (.lst us))) :
    EP X pins σ Q (.ref (s.heap.objs.size + 1)) { s with heap := sortedAll s.heap its out.toArray } := by
  obtain ⟨vs, h1, h2⟩ := vals_of_each he
  obtain ⟨ep, he'⟩ := PyProof.Rows.sortedAll_at s.heap its out.toArray
  have hlen : vs.length ≤ sizeLine := by rw [Vals.length h1, hl]; exact hz
  have new : ObjOk X.prog X.w (upd w.H (s.heap.objs.size + 1) (.lst vs)) (sortedAll s.heap its out.toArray) (s.heap.objs.size + 1) (.lst vs) := ⟨hlen, out, ep, h1, he'⟩
  exact ⟨.ref _, upd w.H (s.heap.objs.size + 1) (.lst vs), I.laid (t' := s.toks) (fun _ _ => PyProof.Rows.sortedAll_old) (Nat.le_succ _) new, rfl, q _ _ (I.hok.fresh (Nat.le_succ _)) hlen h2⟩
theorem cr_sortD {xs : List α} {k : Nat} (h : Enc R f n) (o : Ordd f) (sh : Shap f) (hr : Room k X.A) (hn : n ≤ 30) : CallR X (.builtin "sorted") (rSortD X R f false xs) := by
  intro pins s σ H vs us Q I r ⟨w, hw, v, e, ⟨a, as, e2, h1, h2, h3⟩, q⟩
  subst hw e e2
  obtain ⟨its, rv, hl, hz⟩ := I.list (SqL.of h1)
  rw [Vals.ref1 r]
  have er : EachIs (fun u b => ∃ as, Reads s.heap u (f b) as) its xs := eachIs_of h3 rv fun v u x hx hu => h.reads I hx hu
  have ev : EachIs (fun u b => ∃ v, RelV v u ∧ R.r X.K w.F v b) its xs := eachIs_of h3 rv fun v u x hx hu => ⟨v, hu, hx⟩
  have hk : PySem.W.Sortable (xs.map f) := by
    rcases sh with sh | sh
    · exact .tuples sh
    · exact .others sh
  have hxl : xs.length ≤ sizeLine := by rw [← paired_len h3]; exact h2
  exact PySem.W.sorted_data hl.isList ev er (PySem.W.AllAlike.of o) hk hxl (fun b _ => by have := h.dep b; have := hr.units; omega) fun out ho he => sort_end I ho hxl he q
theorem e_sortD {a : Expr} {p : Pos} {xs : List α} {k : Nat} (h : Enc R f n) (o : Ordd f) (sh : Shap f) (hr : Room k X.A) (hg : Gl X "sorted") (hm : X.mg "sorted" = none) (ha : PA X [a] (tA X.K Γ [aL R xs])) (hn : n ≤ 30 := by decide) (he : starEach [a] X.env = (false, eval a X.env) :: starEach [] X.env := by rfl) (hpl : (backTo pos (starEach [] X.env)).any (·.1) = false := by rfl) : PE X (.Call (.Name "sorted" p) [a] [] pos) (tN X.K Γ R (sortD f xs)) :=
  e_cb (cr_sortD h o sh hr hn) hg hm (by decide +kernel) ha (fun w vs w1 Q l q k => by
    obtain ⟨v, rfl, q1⟩ := args1 q
    refine ⟨w1, rfl, v, rfl, q1, fun p us hp hz hq => ?_⟩
    have l2 := w1.le_newM p (.lst us) hp
    exact k _ (w1.newM p _ hp) (l.trans l2) ⟨p, us, rfl, none_back l.h hp, none_back w1.sub hp, upd_same, hz, Paired.mp hq fun _ _ h => R.mono l2.f h⟩) (he := he) (hpl := hpl)
/-! min, max of a list -/
theorem alikeAll_of (o : Ordd f) (nn : ∀ x, f x ≠ .none) (xs : List α) : AlikeAll (xs.map f) := ⟨fun d hd d' hd' => by
  obtain ⟨x, _, rfl⟩ := List.mem_map.mp hd
  obtain ⟨y, _, rfl⟩ := List.mem_map.mp hd'
  exact o x y, fun d hd => by
  obtain ⟨x, _, rfl⟩ := List.mem_map.mp hd
  exact nn x⟩
theorem Enc.readsAll (h : Enc R f n) {w : Wd} (I : Inv X pins σ w.H s) : ∀ {vs : List V} {us : List Value} {xs : List α}, Paired (R.r X.K w.F) vs xs → Vals vs us → ∃ as, ReadsAll s.heap us (xs.map f) as
  | _, _, _, .nil, .nil => ⟨_, .nil⟩
  | _, _, _, .cons r t, .cons r2 t2 => by
    obtain ⟨as, q1⟩ := h.reads I r r2
    obtain ⟨bs, q2⟩ := Enc.readsAll h I t t2
    exact ⟨_, .cons q1 q2⟩
/-- the picked item stands for the picked datum -/
theorem picked (h : Enc R f n) {w : Wd} (I : Inv X pins σ w.H s) {vs : List V} {us : List Value} {xs : List α} (p : Paired (R.r X.K w.F) vs xs) (r : Vals vs us) {i : Nat} {u : Value} (hu : us[i]? = some u) {h' : Heap} (hk : ∀ b o, s.heap.get? b = some o → h'.get? b = some o) {y : α} {bs : List Addr} (hr : Reads h' u (f y) bs) :
    ∃ v, RelV v u ∧ R.r X.K w.F v y := by
  obtain ⟨hi, e⟩ := List.getElem?_eq_some_iff.mp hu
  have hi2 : i < xs.length := by rw [← paired_len p, Vals.length r]; exact hi
  obtain ⟨v, ev, q⟩ := Paired.at i hi2 p
  obtain ⟨u', eu, rv⟩ := Vals.get r ev
  rw [hu] at eu; cases eu
  obtain ⟨as, q2⟩ := h.reads I q rv
  have := SeqAt.plain_unique _ _ _ _ _ (h.plain _) (PyProof.Rows.Reads.keeps hk q2) hr
  have := h.eq this
  exact ⟨v, rv, this ▸ q⟩
def rPick (X : Cx) {α : Type} (R : Fz α) (xs : List α) (y : α) : List V → Hp → VK → Prop := fun vs H Q => ∃ w : Wd, w.H = H ∧ ∃ v, vs = [v] ∧ LsB X.K R xs v w ∧ ∀ u, R.r X.K w.F u y → Q u w.H
theorem cr_minD {x : α} {xs : List α} {k : Nat} (hc : X.calm = true) (h : Enc R f n) (o : Ordd f) (nn : ∀ x, f x ≠ .none) (hr : Room k X.A) (hn : n ≤ 30) : CallR X (.builtin "min") (rPick X R (x :: xs) (xs.foldl (fun a y => if dataLt (f y) (f a) then y else a) x)) := by
  intro pins s σ H vs us Q I r ⟨w, hw, v, e, ⟨a, as, e2, h1, h2, h3⟩, q⟩
  subst hw e e2
  obtain ⟨its, rv, hl, hz⟩ := I.list (SqL.of h1)
  rw [Vals.ref1 r]
  obtain ⟨bs, ra⟩ := h.readsAll I h3 rv
  refine PySem.W.min_list_data (vs := its.toArray) (I.ok.hd hc) hl.isList (by simpa using ra) (by simpa using alikeAll_of o nn (x :: xs)) (by have h4 := h.deps (x :: xs); have := hr.units; rw [List.map_cons] at h4; omega) fun i u h' tk cs hi hrd hk => ?_
  rw [minB_enc] at hrd
  obtain ⟨v, rv', qv⟩ := picked h I h3 rv (by simpa using hi) hk hrd
  exact ⟨v, w.H, I.kept (t' := tk) hk, rv', q v qv⟩
theorem cr_maxD {x : α} {xs : List α} {k : Nat} (hc : X.calm = true) (h : Enc R f n) (o : Ordd f) (nn : ∀ x, f x ≠ .none) (hr : Room k X.A) (hn : n ≤ 30) : CallR X (.builtin "max") (rPick X R (x :: xs) (xs.foldl (fun a y => if dataLt (f a) (f y) then y else a) x)) := by
  intro pins s σ H vs us Q I r ⟨w, hw, v, e, ⟨a, as, e2, h1, h2, h3⟩, q⟩
  subst hw e e2
  obtain ⟨its, rv, hl, hz⟩ := I.list (SqL.of h1)
  rw [Vals.ref1 r]
  obtain ⟨bs, ra⟩ := h.readsAll I h3 rv
  refine PySem.W.max_list_data (vs := its.toArray) (I.ok.hd hc) hl.isList (by simpa using ra) (by simpa using alikeAll_of o nn (x :: xs)) (by have h4 := h.deps (x :: xs); have := hr.units; rw [List.map_cons] at h4; omega) fun i u h' tk cs hi hrd hk => ?_
  rw [maxB_enc] at hrd
  obtain ⟨v, rv', qv⟩ := picked h I h3 rv (by simpa using hi) hk hrd
  exact ⟨v, w.H, I.kept (t' := tk) hk, rv', q v qv⟩
theorem e_minD [Inhabited α] {a : Expr} {p : Pos} {xs : List α} {k : Nat} (hc : X.calm = true) (h : Enc R f n) (o : Ordd f) (nn : ∀ x, f x ≠ .none) (hr : Room k X.A) (hg : Gl X "min") (hm : X.mg "min" = none) (ha : PA X [a] (tA X.K Γ [aL R xs])) (hne : xs ≠ []) (hn : n ≤ 30 := by decide) (he : starEach [a] X.env = (false, eval a X.env) :: starEach [] X.env := by rfl) (hpl : (backTo pos (starEach [] X.env)).any (·.1) = false := by rfl) : PE X (.Call (.Name "min" p) [a] [] pos) (tE X.K Γ R (minB f xs)) := by
  cases xs with
  | nil => exact absurd rfl hne
  | cons x xs =>
    exact e_cb (cr_minD hc h o nn hr hn) hg hm (by decide +kernel) ha (fun w vs w1 Q l q k => by
      obtain ⟨v, rfl, q1⟩ := args1 q
      exact ⟨w1, rfl, v, rfl, q1, fun u hu => k u w1 l hu⟩) (he := he) (hpl := hpl)
theorem e_maxD [Inhabited α] {a : Expr} {p : Pos} {xs : List α} {k : Nat} (hc : X.calm = true) (h : Enc R f n) (o : Ordd f) (nn : ∀ x, f x ≠ .none) (hr : Room k X.A) (hg : Gl X "max") (hm : X.mg "max" = none) (ha : PA X [a] (tA X.K Γ [aL R xs])) (hne : xs ≠ []) (hn : n ≤ 30 := by decide) (he : starEach [a] X.env = (false, eval a X.env) :: starEach [] X.env := by rfl) (hpl : (backTo pos (starEach [] X.env)).any (·.1) = false := by rfl) : PE X (.Call (.Name "max" p) [a] [] pos) (tE X.K Γ R (maxB f xs)) := by
  cases xs with
  | nil => exact absurd rfl hne
  | cons x xs =>
    exact e_cb (cr_maxD hc h o nn hr hn) hg hm (by decide +kernel) ha (fun w vs w1 Q l q k => by
      obtain ⟨v, rfl, q1⟩ := args1 q
      exact ⟨w1, rfl, v, rfl, q1, fun u hu => k u w1 l hu⟩) (he := he) (hpl := hpl)
end
end PZ

namespace PZ
open PySem PySem.Spec PyProof.Rows L2
section
variable {X : Cx} {Γ : Gm} {α β γ δ ρ : Type} {R : Fz α} {S : Fz β} {T : Fz γ} {U : Fz δ} {e tg : Expr} {pos : Pos} {st : Stmt} {rest : List Stmt} {o : Ot}
theorem q_setG {i : Nat} {v : α} (Γ' : α → Gm) (h : PS X st (tAsg (tE X.K Γ R v) (gName i))) (hΓ : ∀ x, Γ.set i (some (fz R x)) = Γ' x) (hr : ∀ x, x = v → PSs X rest (tO X.K (Γ' x) o)) : PSs X (st :: rest) (tO X.K Γ o) :=
  q_set h (hΓ v ▸ hr v rfl)
theorem q_setOG {i : Nat} {v : List α} (Γ' : List α → Gm) (h : PS X st (tAsg (tN X.K Γ R v) (gName i))) (hΓ : ∀ x, Γ.set i (some (own R x)) = Γ' x) (hr : ∀ x, x = v → PSs X rest (tO X.K (Γ' x) o)) : PSs X (st :: rest) (tO X.K Γ o) :=
  q_setO h (hΓ v ▸ hr v rfl)
theorem q_frzG {i : Nat} {xs : List α} (Γ' : Gm) (hi : Γ[i]? = some (some (own R xs))) (hΓ : Γ.set i (some (fz (rLst R) xs)) = Γ') (hr : PSs X rest (tO X.K Γ' o)) : PSs X rest (tO X.K Γ o) := q_frz hi (hΓ ▸ hr)
theorem q_parG {i j : Nat} {x : α} {y : β} (Γ' : α → β → Gm) (hij : i ≠ j) (h : PS X st (tPar i j (tA X.K Γ [aF R x, aF S y]))) (hΓ : ∀ x y, (Γ.set i (some (fz R x))).set j (some (fz S y)) = Γ' x y) (hr : ∀ a b, a = x → b = y → PSs X rest (tO X.K (Γ' a b) o)) : PSs X (st :: rest) (tO X.K Γ o) :=
  q_par (ta := fun _ _ _ => True) hij h (hΓ x y ▸ hr x y rfl rfl)
/-- a, b = x, y where b is a new list of its own -/
theorem q_parO {i j : Nat} {x : α} {ys : List β} (Γ' : α → List β → Gm) (hij : i ≠ j) {a b : Expr} (h : PA X [a, b] (tCons (tE X.K Γ R x) (tCons (tN X.K Γ S ys) tNil)) → PS X st (tPar i j (tCons (tE X.K Γ R x) (tCons (tN X.K Γ S ys) tNil)))) (ha : PA X [a, b] (tCons (tE X.K Γ R x) (tCons (tN X.K Γ S ys) tNil)))
    (hΓ : ∀ x y, (Γ.set i (some (fz R x))).set j (some (own S y)) = Γ' x y) (hr : ∀ u v, u = x → v = ys → PSs X rest (tO X.K (Γ' u v) o)) : PSs X (st :: rest) (tO X.K Γ o) :=
  PSs.imp (pss_cons (h ha) (hΓ x ys ▸ hr x ys rfl rfl)) fun D σ H ⟨b, w, hw, ok, k⟩ => ⟨b, w, hw, ok, fun u w1 l1 q1 => ⟨b, w1, rfl, ok.mono l1, fun v w2 l2 ⟨p, vs, e, h1, h2, h3, h4, h5⟩ => by
    subst e
    exact ⟨u, .ref p, rfl, b, w2, rfl, ((ok.mono l1).set (i := i) q1).setOwn l2 h1 h2 h3 ⟨p, vs, rfl, rfl, h3, h4, h5⟩, k⟩⟩⟩
theorem q_seqG {Γ1 : Gm} (Γ' : Gm) (h : PS X st (tO X.K Γ (.nx Γ1))) (hΓ : Γ1 = Γ') (hr : PSs X rest (tO X.K Γ' o)) : PSs X (st :: rest) (tO X.K Γ o) := q_seq h (hΓ ▸ hr)
/-- x op= e of ints -/
theorem q_augG {i : Nat} {f : Int → Int → Int} {x y : Int} (Γ' : Int → Gm) (hi : Γ[i]? = some (some (fz rInt x))) (h : PS X st (tAug i (tE X.K Γ rInt y) (ipI f))) (hΓ : ∀ z, Γ.set i (some (fz rInt z)) = Γ' z) (hr : ∀ z, z = f x y → PSs X rest (tO X.K (Γ' z) o)) : PSs X (st :: rest) (tO X.K Γ o) :=
  PSs.imp (pss_cons h (hΓ (f x y) ▸ hr _ rfl)) fun D σ H ⟨b, w, hw, ok, k⟩ => by
    obtain ⟨v, e1, q⟩ := ok.get hi
    refine ⟨v, e1, b, w, hw, ok, fun u w' l q2 => ⟨x, y, q, q2, b, w', rfl, (ok.mono l).set rfl, k⟩⟩
/-- if .. else .., both going on to one environment -/
theorem q_ifB {c : Expr} {A B : List Stmt} {t : Bool} (Γ1 : Bool → Gm) (hc : PT X c (tT X.K Γ t)) (ha : t = true → PSs X A (tO X.K Γ (.nx (Γ1 true)))) (hb : t = false → PSs X B (tO X.K Γ (.nx (Γ1 false)))) (hr : PSs X rest (tO X.K (Γ1 t) o)) : PSs X (.If c A B pos :: rest) (tO X.K Γ o) := by
  cases t with
  | true => exact q_ifTn hc (ha rfl) hr
  | false => exact q_ifFn hc (hb rfl) hr
/-- both ways leave -/
theorem q_ifRR {c : Expr} {A B : List Stmt} {t : Bool} {r r' : ρ} {Q : Fz ρ} (hc : PT X c (tT X.K Γ t)) (ha : t = true → PSs X A (tO X.K Γ (.rt Q r))) (hb : t = false → PSs X B (tO X.K Γ (.rt Q r'))) : PSs X (.If c A B pos :: rest) (tO X.K Γ (.rt Q (if t then r else r'))) := by
  cases t with
  | true => exact q_ifT hc (ha rfl) fun _ h => nomatch h
  | false => exact q_ifF hc (hb rfl) fun _ h => nomatch h
theorem q_retT {c : Bool} (h : PE X e (tE X.K Γ rBool c)) (ht : c = true) : PSs X (.Return (some e) pos :: rest) (tO X.K Γ (.rt rBool true)) := by
  subst ht; exact q_ret h
/-- a loop that leaves with a value, breaks, or goes on -/
inductive Stp (ρ σ : Type) where
  | go (s : σ)
  | ret (r : ρ)
  | brk (s : σ)
def runL {ρ σ α : Type} (g : σ → α → Stp ρ σ) : σ → List α → Sum ρ σ
  | s, [] => .inr s
  | s, x :: xs => match g s x with
    | .go s' => runL g s' xs
    | .ret r => .inl r
    | .brk s' => .inr s'
theorem q_forR {it : Expr} {body : List Stmt} {asg : Gm → α → Gm} {sl : List Nat} {xs : List α} {σ' : Type} {Q : Fz ρ} (G : σ' → Gm) (g : σ' → α → Stp ρ σ') (s0 : σ') (k : σ' → ρ)
    (hp : PassesOwn (model X.prog X.w) X.A X.env X.xe) (hc : X.calm = true) (hi : PI X tg it (tIF X.K Γ R xs)) (hg : PG X tg (tG X.K R asg sl)) (h0 : GSub Γ (G s0))
    (hnb : ∀ s x s', g s x ≠ .brk s')
    (hb : ∀ pre x post s, xs = pre ++ x :: post → runL g s0 pre = .inr s → PSs X body (tO X.K (asg (G s) x) (match g s x with | .go s' => .nx (G s') | .ret r => .rt Q r | .brk s' => .nx (G s'))))
    (hr : ∀ s, runL g s0 xs = .inr s → PSs X rest (tO X.K (G s) (.rt Q (k s))))
    (hs : ∀ x, foldedSetIterable it X.env x = pure x := by intro _; rfl) : PSs X (.For tg it body [] pos :: rest) (tO X.K Γ (.rt Q (match runL g s0 xs with | .inl r => r | .inr s => k s))) := by
  have app : ∀ (pre post : List α) (s : σ'), runL g s (pre ++ post) = match runL g s pre with | .inl r => .inl r | .inr s' => runL g s' post := by
    intro pre
    induction pre with
    | nil => intro post s; rfl
    | cons x pre ih =>
      intro post s
      show (match g s x with | .go s' => runL g s' (pre ++ post) | .ret r => .inl r | .brk s' => .inr s') = match (match g s x with | .go s' => runL g s' pre | .ret r => .inl r | .brk s' => .inr s') with | .inl r => .inl r | .inr s' => runL g s' post
      cases e : g s x with
      | go s' => exact ih post s'
      | ret r => rfl
      | brk s' => exact absurd e (hnb s x s')
  have pre_of : ∀ i (h : i < xs.length), xs = xs.take i ++ xs[i] :: xs.drop (i + 1) := fun i h => by rw [← List.drop_eq_getElem_cons h, List.take_append_drop]
  refine q_forG G (fun i s => runL g s0 (xs.take i) = .inr s) [] (fun i s => if h : i < xs.length then (match g s xs[i] with | .go s' => .nx (G s') | .ret r => .rt Q r | .brk s' => .nx (G s')) else .nx []) s0 hp hc hi hg h0 rfl (fun i h s e => ?_) (fun i h s e => ?_) (fun s e => ?_) (fun ⟨i, s, Γ, e⟩ => ?_) hs
  · rw [dif_pos h]
    exact hb _ _ _ s (pre_of i h) e
  · rw [dif_pos h]
    have st : runL g s0 (xs.take (i + 1)) = match g s xs[i] with | .go s' => .inr s' | .ret r => .inl r | .brk s' => .inr s' := by
      rw [List.take_succ_eq_append_getElem h, app, e]
      show (match g s xs[i] with | .go s' => runL g s' [] | .ret r => .inl r | .brk s' => .inr s') = _
      cases g s xs[i] <;> rfl
    cases eg : g s xs[i] with
    | go s' => exact ⟨s', GSub.refl _, by rw [st, eg]⟩
    | brk s' => exact absurd eg (hnb _ _ _)
    | ret r =>
      rw [eg] at st
      have : runL g s0 xs = .inl r := by
        rw [← List.take_append_drop (i + 1) xs, app, st]
      show Ot.rt Q _ = Ot.rt Q r
      rw [this]
  · rw [List.take_length] at e
    have := hr s e
    rw [e]
    exact this
  · exfalso
    split at e
    · split at e <;> cases e
    · cases e
end
end PZ

namespace PZ
open PySem PySem.Spec PyProof.Rows L2
section
variable {X : Cx} {Γ : Gm} {α β γ δ : Type} {R : Fz α} {S : Fz β} {T : Fz γ} {U : Fz δ} {e : Expr} {pos : Pos}
theorem isTrue_of_cmp {M : Model} {A : Around} {env : Env} {E : Value → Shared → Prop} {s : Shared} {l r : Expr} {op : CmpOp} {pos : Pos} {whole : Sem Value} {Q : Value → Shared → Prop} {Q' : Bool → Shared → Prop}
    (h : wpAny M A (eval (.Compare l [op] [r] pos) env) Q E s) (k : ∀ v s, Q v s → wpAny M A (truthy v) Q' E s) : wpAny M A (PySem.isTrue (.Compare l [op] [r] pos) env whole) Q' E s := fun Γ p hΓ => by
  have h := h Γ p hΓ
  simp only [eval_Compare1, isTrue_Compare1, Sem.wp_bind', Sem.wp_holding, Sem.wp_cmd_standAt, Sem.wp_operate] at h ⊢
  exact Sem.wp_mono M Γ _ (fun a p₁ s₁ h₁ => Sem.wp_mono M Γ _ (fun b _ s₂ h₂ => Sem.wp_mono M Γ _ (fun c p₃ s₃ h₃ => k _ _ h₃ Γ p₃ hΓ)
    (fun _ _ _ h' => h') _ _ h₂) (fun _ _ _ h' => h') _ _ h₁) (fun _ _ _ h' => h') _ _ h
theorem t_cmp {a b : Expr} {op : CmpOp} {c : Bool} (h : PE X (.Compare a [op] [b] pos) (tE X.K Γ rBool c)) : PT X (.Compare a [op] [b] pos) (tT X.K Γ c) := by
  refine ⟨fun pins s σ H Q I ⟨b, w, hw, ok, k⟩ => ?_⟩
  refine isTrue_of_cmp (h.run pins s σ H (fun v H1 => ∃ w', H1 = w'.H ∧ Le w w' ∧ v = .bl c) I ⟨b, w, hw, ok, fun v w' l q => ⟨w', rfl, l, q⟩⟩) fun v s1 ⟨x, H1, I1, r1, w', e1, l, e2⟩ => ?_
  subst e2 e1
  cases r1
  exact wpAny_truthy_bool ⟨_, I1, k w' l⟩
theorem xs_mem {pre post xs : List α} {x : α} (h : xs = pre ++ x :: post) : x ∈ xs := by rw [h]; simp
theorem ixN_nn {n : Nat} {i : Int} (h : 0 ≤ i ∧ i < n) : ixN n i = some i.toNat := by
  unfold ixN
  rw [if_pos h.1, if_pos h.2]
theorem mod_ix {n : Nat} {i : Int} (h : (0 : Int) < n) : -(n : Int) ≤ i % n ∧ i % n < n := ⟨Int.le_trans (by omega) (Int.emod_nonneg _ (by omega)), Int.emod_lt_of_pos _ h⟩
/-- what a frozen name holds stands somewhere -/
theorem q_known {sts : List Stmt} {o : Ot} {i : Nat} {x : α} (h : Γ[i]? = some (some (fz R x))) (f : (∃ F v, R.r X.K F v x) → PSs X sts (tO X.K Γ o)) : PSs X sts (tO X.K Γ o) := by
  refine ⟨fun pins s σ H D I q => ?_⟩
  obtain ⟨b, w, hw, ok, k⟩ := q
  obtain ⟨v, e, r⟩ := ok.get h
  exact (f ⟨_, v, r⟩).run pins s σ H D I ⟨b, w, hw, ok, k⟩
theorem sz_tup {K : PySem.W.Frag} {xs : List α} (h : ∃ F v, (rTup R).r K F v xs) : xs.length ≤ sizeLine := by
  obtain ⟨F, v, a, vs, _, _, n, p⟩ := h
  rw [← paired_len p]; exact n
theorem sz_lst {K : PySem.W.Frag} {xs : List α} (h : ∃ F v, (rLst R).r K F v xs) : xs.length ≤ sizeLine := by
  obtain ⟨F, v, a, vs, _, _, n, p⟩ := h
  rw [← paired_len p]; exact n
theorem sz_dy {K : PySem.W.Frag} {xs : List Dy} (h : ∃ F v, rDy.r K F v (.tup xs)) : xs.length ≤ sizeLine := by
  obtain ⟨F, v, h⟩ := h
  exact sz_tup (R := rDy) ⟨F, v, rDy_tup.mp h⟩
theorem foldl_len {σ : Type} (m : σ → Nat) (c : Nat) {g : σ → α → σ} (h : ∀ s x, m (g s x) ≤ m s + c) : ∀ (xs : List α) (s : σ), m (xs.foldl g s) ≤ m s + c * xs.length
  | [], s => by simp
  | x :: xs, s => by
    have := foldl_len m c h xs (g s x)
    have h2 := h s x
    simp only [List.foldl_cons, List.length_cons, Nat.mul_succ]
    omega
theorem foldl_inv {σ : Type} (I : σ → Prop) {g : σ → α → σ} {xs : List α} (h : ∀ s x, x ∈ xs → I s → I (g s x)) {s : σ} (h0 : I s) : I (xs.foldl g s) := by
  induction xs generalizing s with
  | nil => exact h0
  | cons x xs ih => exact ih (fun s y hy => h s y (List.mem_cons_of_mem _ hy)) (h s x List.mem_cons_self h0)
theorem foldl_invP {σ : Type} (I : σ → Prop) {g : σ → α → σ} {xs pre post : List α} {x : α} (e : xs = pre ++ x :: post) (h : ∀ s x, x ∈ xs → I s → I (g s x)) {s : σ} (h0 : I s) : I (pre.foldl g s) :=
  foldl_inv I (fun s y hy => h s y (by rw [e]; simp [hy])) h0
theorem mem_enu [Inhabited α] {xs : List α} {x : Int × α} (h : x ∈ enu xs) : (0 ≤ x.1 ∧ x.1 < xs.length) ∧ x.2 = ix xs x.1 ∧ x.2 ∈ xs := by
  obtain ⟨⟨a, i⟩, hp, rfl⟩ := List.mem_map.mp h
  have hp2 := List.mem_zipIdx' hp
  have e : ix xs (i : Int) = xs[i]'hp2.1 := by
    unfold ix atI
    rw [ixN_nn ⟨by omega, by omega⟩]
    show (xs[(i : Int).toNat]?).getD default = _
    simp [hp2.1]
  refine ⟨⟨by simp, by simpa using hp2.1⟩, ?_, ?_⟩
  · show a = ix xs (i : Int)
    rw [e]; exact hp2.2
  · show a ∈ xs
    rw [hp2.2]; exact List.getElem_mem _
theorem all_app {p : α → Prop} {xs ys : List α} (h : ∀ t ∈ xs, p t) (k : ∀ t ∈ ys, p t) : ∀ t ∈ xs ++ ys, p t := fun t ht => (List.mem_append.mp ht).elim (h t) (k t)
theorem all_one {p : α → Prop} {x : α} (h : p x) : ∀ t ∈ [x], p t := fun t ht => by rw [List.mem_singleton.mp ht]; exact h
theorem all_nil {p : α → Prop} : ∀ t ∈ ([] : List α), p t := fun t ht => by cases ht
theorem all_filter {p : α → Prop} {q : α → Bool} {xs : List α} (h : ∀ t ∈ xs, p t) : ∀ t ∈ xs.filter q, p t := fun t ht => h t (List.mem_filter.mp ht).1
theorem all_filterm {p : α → Prop} {q : α → Bool} {xs : List α} (h : ∀ t ∈ xs, p t) : ∀ t ∈ (xs.filter q).map fun x => x, p t := fun t ht => by rw [List.map_id'] at ht; exact h t (List.mem_filter.mp ht).1
end
section
variable {X : Cx} {Γ : Gm} {α β γ δ : Type} {R : Fz α} {S : Fz β} {T : Fz γ} {U : Fz δ} {st : Stmt} {rest : List Stmt} {o : Ot}
theorem q_asgG2 {asg : Gm → α × β → Gm} {sl : List Nat} {x : α × β} (Γ' : α → β → Gm) (h : PS X st (tAsg (tE X.K Γ (rPr R S) x) (tG X.K (rPr R S) asg sl))) (hΓ : ∀ a b, asg Γ (a, b) = Γ' a b) (hr : ∀ a b, a = x.1 → b = x.2 → PSs X rest (tO X.K (Γ' a b) o)) : PSs X (st :: rest) (tO X.K Γ o) :=
  q_asg h (hΓ x.1 x.2 ▸ hr x.1 x.2 rfl rfl)
theorem q_asgG3 {asg : Gm → α × β × γ → Gm} {sl : List Nat} {x : α × β × γ} (Γ' : α → β → γ → Gm) (h : PS X st (tAsg (tE X.K Γ (rT3 R S T) x) (tG X.K (rT3 R S T) asg sl))) (hΓ : ∀ a b c, asg Γ (a, b, c) = Γ' a b c) (hr : ∀ a b c, a = x.1 → b = x.2.1 → c = x.2.2 → PSs X rest (tO X.K (Γ' a b c) o)) : PSs X (st :: rest) (tO X.K Γ o) :=
  q_asg h (hΓ x.1 x.2.1 x.2.2 ▸ hr x.1 x.2.1 x.2.2 rfl rfl rfl)
theorem q_asgG4 {asg : Gm → α × β × γ × δ → Gm} {sl : List Nat} {x : α × β × γ × δ} (Γ' : α → β → γ → δ → Gm) (h : PS X st (tAsg (tE X.K Γ (rT4 R S T U) x) (tG X.K (rT4 R S T U) asg sl))) (hΓ : ∀ a b c d, asg Γ (a, b, c, d) = Γ' a b c d) (hr : ∀ a b c d, a = x.1 → b = x.2.1 → c = x.2.2.1 → d = x.2.2.2 → PSs X rest (tO X.K (Γ' a b c d) o)) : PSs X (st :: rest) (tO X.K Γ o) :=
  q_asg h (hΓ x.1 x.2.1 x.2.2.1 x.2.2.2 ▸ hr x.1 x.2.1 x.2.2.1 x.2.2.2 rfl rfl rfl rfl)
end
/-! depth of data -/
def DyD {α : Type} (f : α → Dy) (n : Nat) : Prop := ∀ x, (f x).depth ≤ n
section
variable {α β γ δ : Type} {f : α → Dy} {g : β → Dy} {h : γ → Dy} {j : δ → Dy} {n m k l : Nat}
theorem dd_int : DyD Dy.int 0 := fun x => by rw [Dy.depth]; exact Nat.le_refl _
theorem dd_bool : DyD Dy.bl 0 := fun x => by rw [Dy.depth]; exact Nat.le_refl _
theorem dd_str : DyD Dy.str 0 := fun x => by rw [Dy.depth]; exact Nat.le_refl _
theorem depths_le : ∀ {l : List Dy}, (∀ d ∈ l, d.depth ≤ n) → Dy.depths l ≤ n
  | [], _ => by rw [Dy.depths]; exact Nat.zero_le _
  | d :: l, h => by
    rw [Dy.depths]
    exact Nat.max_le.mpr ⟨h d (by simp), depths_le fun e he => h e (by simp [he])⟩
theorem dd_tup (h : DyD f n) : DyD (dyTup f) (n + 1) := fun x => by
  unfold dyTup
  rw [Dy.depth]
  refine Nat.succ_le_succ (depths_le fun d hd => ?_)
  obtain ⟨y, _, rfl⟩ := List.mem_map.mp hd
  exact h y
theorem dd_opt (h : DyD f n) : DyD (dyOpt f) n := fun x => by
  cases x with
  | none => show Dy.depth .non ≤ n; rw [Dy.depth]; exact Nat.zero_le _
  | some y => exact h y
theorem dd_list {ds : List Dy} (h : ∀ d ∈ ds, d.depth ≤ n) : (Dy.tup ds).depth ≤ n + 1 := by
  rw [Dy.depth]; exact Nat.succ_le_succ (depths_le h)
theorem dd_pr (hf : DyD f n) (hg : DyD g m) : DyD (dyPr f g) (max n m + 1) := fun x => dd_list fun d hd => by
  have a := hf x.1; have b := hg x.2
  simp only [List.mem_cons, List.not_mem_nil, or_false] at hd
  rcases hd with rfl | rfl <;> omega
theorem dd_t3 (hf : DyD f n) (hg : DyD g m) (hh : DyD h k) : DyD (dyT3 f g h) (max n (max m k) + 1) := fun x => dd_list fun d hd => by
  have a := hf x.1; have b := hg x.2.1; have c := hh x.2.2
  simp only [List.mem_cons, List.not_mem_nil, or_false] at hd
  rcases hd with rfl | rfl | rfl <;> omega
theorem dd_t4 (hf : DyD f n) (hg : DyD g m) (hh : DyD h k) (hj : DyD j l) : DyD (dyT4 f g h j) (max n (max m (max k l)) + 1) := fun x => dd_list fun d hd => by
  have a := hf x.1; have b := hg x.2.1; have c := hh x.2.2.1; have e := hj x.2.2.2
  simp only [List.mem_cons, List.not_mem_nil, or_false] at hd
  rcases hd with rfl | rfl | rfl | rfl <;> omega
end
/-- what a law is called with -/
theorem law_sp {K : PySem.W.Frag} {H : Hp} {a : Addr} {ns : List Int} (hl : ns.length ≤ 63) (hS : SqL K H a (ns.map V.int)) : spG (A := List Int) (fun x => [aF rScr x]) (fun _ => True) rBool (fun _ => true) K [.ref a] H (fun v _ => v = .bl true) (fun _ _ _ => False) :=
  ⟨ns, ⟨H, H, Same.refl _⟩, rfl, .cons ⟨a, rfl, hS, Nat.le_of_lt (small1000 (by omega))⟩ .nil, trivial, fun _ _ _ q => q⟩
end PZ

namespace PZ
open PySem PySem.Spec PyProof.Rows L2
/-! all sets of a row of indexes -/
def setStep (found : List (List Int)) (index : Int) : List (List Int) := (([[]] ++ (found.map fun row => [index] ++ row)) ++ ((found.filter fun row => !row.isEmpty).map fun row => row))
theorem setStep_eq (x : Int) (T : List (List Int)) (hT : ∀ r ∈ T, r ≠ []) : setStep ([] :: T) x = [] :: ([x] :: T.map (x :: ·) ++ T) := by
  have e1 : ((([] : List Int) :: T).filter fun row => !row.isEmpty) = T := by
    rw [List.filter_cons_of_neg (by simp)]
    exact List.filter_eq_self.mpr fun r hr => by
      have := hT r hr
      cases r <;> simp_all
  unfold setStep
  rw [e1]
  simp
def setT : List Int → List (List Int)
  | [] => []
  | x :: xs => ([x] :: (setT xs).map (x :: ·)) ++ setT xs
/-- all sets, by indexes from the first one on -/
def setsOf (xs : List Int) : List (List Int) := [] :: setT xs
theorem setT_ne : ∀ {xs : List Int} {r : List Int}, r ∈ setT xs → r ≠ []
  | [], r, h => by cases h
  | x :: xs, r, h => by
    rw [setT, List.mem_append, List.mem_cons, List.mem_map] at h
    rcases h with (h | ⟨t, _, h⟩) | h
    · subst h; simp
    · subst h; simp
    · exact setT_ne h
theorem foldl_setStep (L : List Int) : L.foldl setStep [[]] = setsOf L.reverse := by
  have : ∀ (L M : List Int), L.foldl setStep (setsOf M) = setsOf (L.reverse ++ M) := by
    intro L
    induction L with
    | nil => intro M; rfl
    | cons x L ih =>
      intro M
      rw [List.foldl_cons]
      have e : setStep (setsOf M) x = setsOf (x :: M) := by
        unfold setsOf
        rw [setStep_eq x _ fun r hr => setT_ne hr]; rfl
      rw [e, ih]; simp
  have h := this L []
  rw [List.append_nil] at h
  exact h
theorem mem_setT : ∀ {xs r : List Int}, r ∈ setT xs ↔ r.Sublist xs ∧ r ≠ []
  | [], r => by
    rw [setT]
    constructor
    · intro h; cases h
    · rintro ⟨h, k⟩; exact absurd (List.sublist_nil.mp h) k
  | x :: xs, r => by
    rw [setT, List.mem_append, List.mem_cons, List.mem_map]
    constructor
    · rintro ((h | ⟨t, ht, h⟩) | h)
      · subst h; exact ⟨List.Sublist.cons_cons x (List.nil_sublist _), by simp⟩
      · subst h; exact ⟨(mem_setT.mp ht).1.cons_cons x, by simp⟩
      · exact ⟨(mem_setT.mp h).1.cons x, (mem_setT.mp h).2⟩
    · rintro ⟨h, k⟩
      cases h with
      | cons _ h => exact .inr (mem_setT.mpr ⟨h, k⟩)
      | @cons_cons t _ _ h =>
        by_cases e : t = []
        · subst e; exact .inl (.inl rfl)
        · exact .inl (.inr ⟨t, mem_setT.mpr ⟨h, e⟩, rfl⟩)
theorem mem_setsOf {xs r : List Int} : r ∈ setsOf xs ↔ r.Sublist xs := by
  unfold setsOf
  rw [List.mem_cons, mem_setT]
  constructor
  · rintro (h | h)
    · subst h; exact List.nil_sublist _
    · exact h.1
  · intro h
    by_cases e : r = []
    · exact .inl e
    · exact .inr ⟨h, e⟩
theorem setsOf_len (xs : List Int) : (setsOf xs).length = 2 ^ xs.length := by
  induction xs with
  | nil => rfl
  | cons x xs ih =>
    have e : (setsOf (x :: xs)).length = 2 * (setsOf xs).length := by
      show (setT (x :: xs)).length + 1 = 2 * ((setT xs).length + 1)
      rw [setT]; simp; omega
    rw [e, ih, List.length_cons, Nat.pow_succ]; omega
/-- counting over all sets -/
theorem setsOf_count (p : List Int → Bool) (x : Int) (xs : List Int) : (setsOf (x :: xs)).countP p = (setsOf xs).countP (fun r => p (x :: r)) + (setsOf xs).countP p := by
  unfold setsOf
  rw [setT]
  simp only [List.countP_cons, List.countP_append, List.countP_map]
  have : (p ∘ fun x_1 => x :: x_1) = fun r => p (x :: r) := rfl
  rw [this]; omega
theorem rgd_rev (n : Int) : (rgd (n - 1) (-1)).reverse = rg 0 n := by
  apply List.ext_getElem
  · simp [rgd_length, rg_length]
  · intro i h1 h2
    rw [List.getElem_reverse]
    simp only [rgd, rg, List.getElem_map, List.getElem_range, List.length_map, List.length_range]
    simp only [List.length_reverse, rgd_length] at h1
    omega
theorem setS_inv (L : List Int) : (L.foldl setStep [[]]).length + 1 ≤ 2 ^ (L.length + 1) ∧ ∀ row ∈ L.foldl setStep [[]], row.length ≤ L.length := by
  rw [foldl_setStep]
  refine ⟨?_, fun r hr => ?_⟩
  · rw [setsOf_len, List.length_reverse, Nat.pow_succ]
    have := Nat.two_pow_pos L.length
    omega
  · have := (mem_setsOf.mp hr).length_le
    simpa using this

/-! order of data -/
open PySem.W
structure SO {α : Type} (enc : α → PyData) : Prop where
  trans : ∀ x y z, dataLt (enc x) (enc y) = true → dataLt (enc y) (enc z) = true → dataLt (enc x) (enc z) = true
  tri : ∀ x y, dataLt (enc x) (enc y) = false → dataLt (enc y) (enc x) = false → x = y
theorem lt_irr (d : PyData) : dataLt d d = false := lex_irrefl _
theorem so_int : SO PyData.int := ⟨fun x y z => by simp only [dataLt_int, decide_eq_true_eq]; omega, fun x y => by simp only [dataLt_int, decide_eq_false_iff_not]; omega⟩
section
variable {α β γ δ : Type} [DecidableEq α] [DecidableEq β] [DecidableEq γ] [DecidableEq δ] {f : α → PyData} {g : β → PyData} {h : γ → PyData} {R : Fz α} {S : Fz β} {T : Fz γ} {n m k : Nat}
theorem SO.asym (o : SO f) {x y : α} (h : dataLt (f x) (f y) = true) : dataLt (f y) (f x) = false := by
  cases e : dataLt (f y) (f x) with
  | false => rfl
  | true =>
    have := o.trans x y x h e
    rw [lt_irr] at this; cases this
theorem SO.ntrans (o : SO f) {x y z : α} (h1 : dataLt (f y) (f x) = false) (h2 : dataLt (f z) (f y) = false) : dataLt (f z) (f x) = false := by
  cases e : dataLt (f z) (f x) with
  | false => rfl
  | true =>
    cases e2 : dataLt (f x) (f y) with
    | true => rw [o.trans z x y e e2] at h2; cases h2
    | false =>
      have := o.tri x y e2 h1
      subst this
      rw [e] at h2; cases h2
/-- the less of two pairs -/
theorem lt_pr (ef : Enc R f n) (eg : Enc S g m) (of : Ordd f) (og : Ordd g) (x y : α × β) : dataLt (encPr f g x) (encPr f g y) = if x.1 = y.1 then dataLt (g x.2) (g y.2) else dataLt (f x.1) (f y.1) := by
  unfold encPr
  rw [dataLt_pair (of _ _) (og _ _), ef.inj, eg.inj]
  simp only [decide_eq_true_eq]
  by_cases h1 : x.1 = y.1
  · rw [if_pos h1, if_pos h1]
    by_cases h2 : x.2 = y.2
    · rw [if_pos h2, h2, lt_irr]
    · rw [if_neg h2]
  · rw [if_neg h1, if_neg h1]
theorem so_lex {α β γ : Type} [DecidableEq α] {f : α → PyData} {g : β → PyData} {e : γ → PyData} {p : γ → α} {q : γ → β} (o : SO f) (o2 : SO g) (hpq : ∀ x y, p x = p y → q x = q y → x = y)
    (hl : ∀ x y, dataLt (e x) (e y) = if p x = p y then dataLt (g (q x)) (g (q y)) else dataLt (f (p x)) (f (p y))) : SO e := by
  refine ⟨fun x y z h1 h2 => ?_, fun x y h1 h2 => ?_⟩
  · rw [hl] at h1 h2 ⊢
    by_cases e1 : p x = p y
    · rw [if_pos e1] at h1
      by_cases e2 : p y = p z
      · rw [if_pos e2] at h2
        rw [if_pos (e1.trans e2)]
        exact o2.trans _ _ _ h1 h2
      · rw [if_neg e2] at h2
        rw [if_neg (by rw [e1]; exact e2), e1]; exact h2
    · rw [if_neg e1] at h1
      by_cases e2 : p y = p z
      · rw [if_pos e2] at h2
        rw [if_neg (by rw [← e2]; exact e1), ← e2]; exact h1
      · rw [if_neg e2] at h2
        have h3 := o.trans _ _ _ h1 h2
        by_cases e3 : p x = p z
        · rw [e3, lt_irr] at h3; cases h3
        · rw [if_neg e3]; exact h3
  · rw [hl] at h1 h2
    by_cases e1 : p x = p y
    · rw [if_pos e1] at h1
      rw [if_pos e1.symm] at h2
      exact hpq _ _ e1 (o2.tri _ _ h1 h2)
    · rw [if_neg e1] at h1
      rw [if_neg (Ne.symm e1)] at h2
      exact absurd (o.tri _ _ h1 h2) e1
theorem so_pr (ef : Enc R f n) (eg : Enc S g m) (of : Ordd f) (og : Ordd g) (o : SO f) (o2 : SO g) : SO (encPr f g) :=
  so_lex (p := fun x : α × β => x.1) (q := fun x : α × β => x.2) o o2 (fun x y h1 h2 => Prod.ext h1 h2) (lt_pr ef eg of og)
theorem lt_t3 (ef : Enc R f n) (eg : Enc S g m) (eh : Enc T h k) (of : Ordd f) (og : Ordd g) (oh : Ordd h) (x y : α × β × γ) : dataLt (encT3 f g h x) (encT3 f g h y) = if x.1 = y.1 then dataLt (encPr g h x.2) (encPr g h y.2) else dataLt (f x.1) (f y.1) := by
  unfold encT3
  rw [dataLt_tuple, dataLt_cons (of _ _), ef.inj]
  simp only [decide_eq_true_eq]
  by_cases h1 : x.1 = y.1
  · rw [if_pos h1, if_pos h1]
    unfold encPr
    rw [dataLt_tuple]
  · rw [if_neg h1, if_neg h1]
theorem so_t3 (ef : Enc R f n) (eg : Enc S g m) (eh : Enc T h k) (of : Ordd f) (og : Ordd g) (oh : Ordd h) (o : SO f) (o2 : SO g) (o3 : SO h) : SO (encT3 f g h) :=
  so_lex (p := fun x : α × β × γ => x.1) (q := fun x : α × β × γ => x.2) o (so_pr eg eh og oh o2 o3) (fun x y h1 h2 => Prod.ext h1 h2) (lt_t3 ef eg eh of og oh)
/-- the less of two rows -/
def lexB (f : α → PyData) : List α → List α → Bool
  | [], [] => false
  | [], _ :: _ => true
  | _ :: _, [] => false
  | x :: xs, y :: ys => if x = y then lexB f xs ys else dataLt (f x) (f y)
theorem lt_row (ef : Enc R f n) (of : Ordd f) : ∀ xs ys : List α, rowLt (xs.map f) (ys.map f) = lexB f xs ys
  | [], [] => lex_irrefl _
  | [], y :: ys => by
    show PyProof.Rows.lexLt itemOrd (keyToksAll []) (keyToksAll (f y :: ys.map f)) = true
    simp only [keyToksAll]
    rfl
  | x :: xs, [] => by
    show PyProof.Rows.lexLt itemOrd (keyToksAll (f x :: xs.map f)) (keyToksAll []) = false
    simp only [keyToksAll]
    rfl
  | x :: xs, y :: ys => by
    show PyProof.Rows.lexLt itemOrd (keyToksAll (f x :: xs.map f)) (keyToksAll (f y :: ys.map f)) = _
    rw [dataLt_cons (of _ _), ef.inj, lexB]
    simp only [decide_eq_true_eq]
    rw [show PyProof.Rows.lexLt itemOrd (keyToksAll (xs.map f)) (keyToksAll (ys.map f)) = lexB f xs ys from lt_row ef of xs ys]
theorem lt_tup (ef : Enc R f n) (of : Ordd f) (xs ys : List α) : dataLt (encTup f xs) (encTup f ys) = lexB f xs ys := by
  unfold encTup
  rw [dataLt_tuple]
  exact lt_row ef of xs ys
theorem lexB_trans (o : SO f) : ∀ x y z : List α, lexB f x y = true → lexB f y z = true → lexB f x z = true
  | [], [], _, h, _ => by cases h
  | [], _ :: _, [], _, h => by cases h
  | [], _ :: _, _ :: _, _, _ => rfl
  | _ :: _, [], _, h, _ => by cases h
  | _ :: _, _ :: _, [], _, h => by cases h
  | x :: xs, y :: ys, z :: zs, h1, h2 => by
    rw [lexB] at h1 h2 ⊢
    by_cases e1 : x = y
    · subst e1
      rw [if_pos rfl] at h1
      by_cases e2 : x = z
      · subst e2
        rw [if_pos rfl] at h2 ⊢
        exact lexB_trans o _ _ _ h1 h2
      · rw [if_neg e2] at h2 ⊢; exact h2
    · rw [if_neg e1] at h1
      by_cases e2 : y = z
      · subst e2
        rw [if_neg e1]; exact h1
      · rw [if_neg e2] at h2
        have h3 := o.trans _ _ _ h1 h2
        by_cases e3 : x = z
        · subst e3; rw [lt_irr] at h3; cases h3
        · rw [if_neg e3]; exact h3
theorem lexB_tri (o : SO f) : ∀ x y : List α, lexB f x y = false → lexB f y x = false → x = y
  | [], [], _, _ => rfl
  | [], _ :: _, h, _ => by cases h
  | _ :: _, [], _, h => by cases h
  | x :: xs, y :: ys, h1, h2 => by
    rw [lexB] at h1 h2
    by_cases e1 : x = y
    · subst e1
      rw [if_pos rfl] at h1 h2
      rw [lexB_tri o _ _ h1 h2]
    · rw [if_neg e1] at h1
      rw [if_neg (Ne.symm e1)] at h2
      exact absurd (o.tri _ _ h1 h2) e1
theorem so_tup (ef : Enc R f n) (of : Ordd f) (o : SO f) : SO (encTup f) :=
  ⟨fun x y z => by rw [lt_tup ef of, lt_tup ef of, lt_tup ef of]; exact lexB_trans o x y z, fun x y => by rw [lt_tup ef of, lt_tup ef of]; exact lexB_tri o x y⟩
/-! sorted -/
def nlt (f : α → PyData) (x y : α) : Prop := dataLt (f y) (f x) = false
theorem sortD_perm (xs : List α) : (sortD f xs).Perm xs := List.mergeSort_perm _ _
theorem sortD_length (xs : List α) : (sortD f xs).length = xs.length := (sortD_perm xs).length_eq
theorem mem_sortD {xs : List α} {x : α} : x ∈ sortD f xs ↔ x ∈ xs := (sortD_perm xs).mem_iff
theorem sortI_length (xs : List Int) : (sortI xs).length = xs.length := (sortI_perm xs).length_eq
theorem mem_sortI {xs : List Int} {x : Int} : x ∈ sortI xs ↔ x ∈ xs := (sortI_perm xs).mem_iff
theorem sortD_sorted (o : SO f) (xs : List α) : (sortD f xs).Pairwise (nlt f) := by
  have := List.pairwise_mergeSort (le := dataLe false f) (fun a b c => by
    rw [dataLe_eq]
    simp only [cond_false, Bool.not_eq_true']
    exact fun h1 h2 => o.ntrans h1 h2) (fun a b => by
    rw [dataLe_eq]
    simp only [cond_false, Bool.or_eq_true, Bool.not_eq_true']
    cases e : dataLt (f b) (f a) with
    | false => exact .inl rfl
    | true => exact .inr (o.asym e)) xs
  exact this.imp fun {a b} h => by
    rw [dataLe_eq] at h
    simpa [nlt] using h
theorem sorted_uniq (o : SO f) {xs ys : List α} (p : xs.Perm ys) (hx : xs.Pairwise (nlt f)) (hy : ys.Pairwise (nlt f)) : xs = ys :=
  List.Perm.eq_of_pairwise (le := nlt f) (fun a b _ _ h1 h2 => o.tri _ _ h2 h1) hx hy p
theorem sortD_eq (o : SO f) {xs ys : List α} (p : xs.Perm ys) (hy : ys.Pairwise (nlt f)) : sortD f xs = ys := sorted_uniq o ((sortD_perm xs).trans p) (sortD_sorted o xs) hy
theorem sortD_congr (o : SO f) {xs ys : List α} (p : xs.Perm ys) : sortD f xs = sortD f ys := sortD_eq o (p.trans (sortD_perm ys).symm) (sortD_sorted o ys)
theorem sortD_filter (o : SO f) (p : α → Bool) (xs : List α) : sortD f (xs.filter p) = (sortD f xs).filter p := sortD_eq o ((sortD_perm xs).symm.filter p) ((sortD_sorted o xs).filter p)
theorem sortI_uniq {xs ys : List Int} (p : xs.Perm ys) (hy : ys.Pairwise (· ≤ ·)) : sortI xs = ys :=
  List.Perm.eq_of_pairwise (le := (· ≤ ·)) (fun a b _ _ h1 h2 => by omega) (sortI_sorted xs) hy ((sortI_perm xs).trans p)
theorem sortI_congr {xs ys : List Int} (p : xs.Perm ys) : sortI xs = sortI ys := sortI_uniq (p.trans (sortI_perm ys).symm) (sortI_sorted ys)
end
theorem lt_ii (x y : Int × Int) : dataLt (encPr PyData.int PyData.int x) (encPr PyData.int PyData.int y) = decide (x.1 < y.1 ∨ (x.1 = y.1 ∧ x.2 < y.2)) := dataLt_ii _ _ _ _
theorem so_ii : SO (encPr PyData.int PyData.int) := so_pr enc_int enc_int ord_int ord_int so_int so_int
/-! items -/
section
variable {α β : Type} [Inhabited α] [Inhabited β]
theorem ix_get {xs : List α} {k : Int} (h : 0 ≤ k ∧ k < xs.length) : ix xs k = xs[k.toNat]'(by omega) := by
  unfold ix atI
  rw [ixN_nn h]
  show (xs[k.toNat]?).getD default = _
  simp [show k.toNat < xs.length by omega]
theorem ix_nat {xs : List α} {i : Nat} (h : i < xs.length) : ix xs (i : Int) = xs[i] := by
  rw [ix_get ⟨by omega, by omega⟩]; simp
theorem ix_neg {xs : List α} {k : Int} (h : -(xs.length : Int) ≤ k ∧ k < 0) : ix xs k = ix xs (k + xs.length) := by
  unfold ix atI ixN
  rw [if_neg (by omega), if_pos h.1, if_pos (by omega), if_pos (by omega)]
theorem ix_map {f : β → α} {xs : List β} {k : Int} (h : 0 ≤ k ∧ k < xs.length) : ix (xs.map f) k = f (ix xs k) := by
  rw [ix_get (by simpa using h), ix_get h, List.getElem_map]
theorem ix_rg {a b k : Int} (h : 0 ≤ k ∧ k < b - a) : ix (rg a b) k = a + k := by
  have e := rg_length a b
  rw [ix_get (by omega), rg_get]; omega
theorem ix_map_rg {f : Int → α} {n k : Int} (h : 0 ≤ k ∧ k < n) : ix ((rg 0 n).map f) k = f k := by
  rw [ix_map (by rw [rg_length]; omega), ix_rg (by omega)]; congr 1; omega
theorem enu_eq {xs : List α} : enu xs = (rg 0 xs.length).map fun k => (k, ix xs k) := by
  apply List.ext_getElem
  · simp [enu_length, rg_length]
  · intro i h1 h2
    have hi : i < xs.length := by rw [enu_length] at h1; exact h1
    rw [enu_get h1 hi, List.getElem_map, rg_get]
    have e : ix xs (0 + (i : Int)) = xs[i] := by
      rw [show (0 + (i : Int)) = (i : Int) by omega, ix_nat hi]
    rw [e]; simp
theorem map_ix {xs : List α} : (rg 0 xs.length).map (ix xs) = xs := by
  apply List.ext_getElem
  · simp [rg_length]
  · intro i h1 h2
    rw [List.getElem_map, rg_get, show (0 + (i : Int)) = (i : Int) by omega, ix_nat h2]
theorem ext_ix {xs ys : List α} (hl : xs.length = ys.length) (h : ∀ k : Int, 0 ≤ k → k < xs.length → ix xs k = ix ys k) : xs = ys := by
  apply List.ext_getElem hl
  intro i h1 h2
  have := h i (by omega) (by omega)
  rwa [ix_nat h1, ix_nat h2] at this
theorem mem_iff_ix {xs : List α} {x : α} : x ∈ xs ↔ ∃ k : Int, 0 ≤ k ∧ k < xs.length ∧ ix xs k = x := by
  constructor
  · intro h
    obtain ⟨i, hi, e⟩ := List.getElem_of_mem h
    exact ⟨i, by omega, by omega, by rw [ix_nat hi]; exact e⟩
  · rintro ⟨k, h1, h2, rfl⟩
    rw [ix_get ⟨h1, h2⟩]; exact List.getElem_mem _
end
theorem rg_nodup (a b : Int) : (rg a b).Nodup := by
  unfold rg
  rw [List.nodup_iff_pairwise_ne, List.pairwise_map]
  exact List.nodup_range.imp fun h e => h (by omega)
theorem rg_sorted (a b : Int) : (rg a b).Pairwise (· < ·) := by
  unfold rg
  rw [List.pairwise_map]
  exact List.pairwise_lt_range.imp fun h => by omega
theorem mem_rg_iff {a b x : Int} : x ∈ rg a b ↔ a ≤ x ∧ x < b := by
  refine ⟨mem_rg, fun ⟨h1, h2⟩ => ?_⟩
  unfold rg
  exact List.mem_map.mpr ⟨(x - a).toNat, List.mem_range.mpr (by omega), by omega⟩
end PZ

namespace K13
open PySem PySem.Spec PyProof.Rows L2 PZ
def topS (i : Nat) : Stmt := PySem.Challenge.pw_lentkept_k13_whole_things_by_kinds.main.body.getD i (.Pass ⟨0, 0, 0, 0⟩)
abbrev s_all_sets : Stmt := topS 1
abbrev N_all_sets : List Str := ["n", "found", "index", "row"]
theorem sc_all_sets : FnScope N_all_sets ["n"] (defScope s_all_sets) := ⟨rfl, rfl, rfl, by decide +kernel, rfl, by decide +kernel, by decide +kernel⟩
abbrev s_may_have : Stmt := topS 3
abbrev N_may_have : List Str := ["kinds", "most", "chosen", "kind", "count", "thing"]
theorem sc_may_have : FnScope N_may_have ["kinds", "most", "chosen"] (defScope s_may_have) := ⟨rfl, rfl, rfl, by decide +kernel, rfl, by decide +kernel, by decide +kernel⟩
abbrev s_taken_by_worth : Stmt := topS 4
abbrev N_taken_by_worth : List Str := ["kinds", "most", "worths", "m", "found", "worth", "thing"]
theorem sc_taken_by_worth : FnScope N_taken_by_worth ["kinds", "most", "worths", "m"] (defScope s_taken_by_worth) := ⟨rfl, rfl, rfl, by decide +kernel, rfl, by decide +kernel, by decide +kernel⟩
abbrev s_best_set : Stmt := topS 5
abbrev N_best_set : List Str := ["kinds", "most", "worths"]
theorem sc_best_set : FnScope N_best_set ["kinds", "most", "worths"] (defScope s_best_set) := ⟨rfl, rfl, rfl, by decide +kernel, rfl, by decide +kernel, by decide +kernel⟩
abbrev s_best_of_most : Stmt := topS 6
abbrev N_best_of_most : List Str := ["kinds", "most", "worths", "m"]
theorem sc_best_of_most : FnScope N_best_of_most ["kinds", "most", "worths", "m"] (defScope s_best_of_most) := ⟨rfl, rfl, rfl, by decide +kernel, rfl, by decide +kernel, by decide +kernel⟩
abbrev s_all_may : Stmt := topS 7
abbrev N_all_may : List Str := ["kinds", "most", "chosen"]
theorem sc_all_may : FnScope N_all_may ["kinds", "most"] (defScope s_all_may) := ⟨rfl, rfl, rfl, by decide +kernel, rfl, by decide +kernel, by decide +kernel⟩
abbrev s_swapped_in : Stmt := topS 8
abbrev N_swapped_in : List Str := ["kinds", "most", "chosen", "thing", "found", "other", "one"]
theorem sc_swapped_in : FnScope N_swapped_in ["kinds", "most", "chosen", "thing"] (defScope s_swapped_in) := ⟨rfl, rfl, rfl, by decide +kernel, rfl, by decide +kernel, by decide +kernel⟩
abbrev s__law_mixed : Stmt := topS 10
abbrev N__law_mixed : List Str := ["script", "k", "cell", "first", "second", "third"]
theorem sc__law_mixed : FnScope N__law_mixed ["script", "k"] (defScope s__law_mixed) := ⟨rfl, rfl, rfl, by decide +kernel, rfl, by decide +kernel, by decide +kernel⟩
abbrev s__law_row : Stmt := topS 11
abbrev N__law_row : List Str := ["script", "many", "big", "row", "k"]
theorem sc__law_row : FnScope N__law_row ["script", "many"] (defScope s__law_row) := ⟨rfl, rfl, rfl, by decide +kernel, rfl, by decide +kernel, by decide +kernel⟩
abbrev s__law_is_int : Stmt := topS 12
abbrev N__law_is_int : List Str := ["value"]
theorem sc__law_is_int : FnScope N__law_is_int ["value"] (defScope s__law_is_int) := ⟨rfl, rfl, rfl, by decide +kernel, rfl, by decide +kernel, by decide +kernel⟩
abbrev s__law_like : Stmt := topS 13
abbrev N__law_like : List Str := ["value", "due", "k"]
theorem sc__law_like : FnScope N__law_like ["value", "due"] (defScope s__law_like) := ⟨rfl, rfl, rfl, by decide +kernel, rfl, by decide +kernel, by decide +kernel⟩
abbrev s__law_ways : Stmt := topS 14
abbrev N__law_ways : List Str := ["many", "most", "row", "turn", "k"]
theorem sc__law_ways : FnScope N__law_ways ["many", "most"] (defScope s__law_ways) := ⟨rfl, rfl, rfl, by decide +kernel, rfl, by decide +kernel, by decide +kernel⟩
abbrev s_law : Stmt := topS 15
abbrev N_law : List Str := ["script", "row", "n", "most", "kind", "taken", "m", "drawn", "counts", "chosen", "k", "thing", "kinds", "worths", "ways", "own", "one", "same", "due", "j"]
theorem sc_law : FnScope N_law ["script"] (defScope s_law) := ⟨rfl, rfl, rfl, by decide +kernel, rfl, by decide +kernel, by decide +kernel⟩
structure Tx (K : PySem.W.Frag) (mg : Str → Option Value) where
  a_all_sets : Addr
  d_all_sets : FuncData
  f_all_sets : Fun K "all_sets" "all_sets" s_all_sets a_all_sets d_all_sets
  m_all_sets : mg "all_sets" = some (.ref a_all_sets)
  b_all_sets : Binds K d_all_sets ["n"] []
  a_may_have : Addr
  d_may_have : FuncData
  f_may_have : Fun K "may_have" "may_have" s_may_have a_may_have d_may_have
  m_may_have : mg "may_have" = some (.ref a_may_have)
  b_may_have : Binds K d_may_have ["kinds", "most", "chosen"] []
  a_taken_by_worth : Addr
  d_taken_by_worth : FuncData
  f_taken_by_worth : Fun K "taken_by_worth" "taken_by_worth" s_taken_by_worth a_taken_by_worth d_taken_by_worth
  m_taken_by_worth : mg "taken_by_worth" = some (.ref a_taken_by_worth)
  b_taken_by_worth : Binds K d_taken_by_worth ["kinds", "most", "worths", "m"] []
  a_best_set : Addr
  d_best_set : FuncData
  f_best_set : Fun K "best_set" "best_set" s_best_set a_best_set d_best_set
  m_best_set : mg "best_set" = some (.ref a_best_set)
  b_best_set : Binds K d_best_set ["kinds", "most", "worths"] []
  a_best_of_most : Addr
  d_best_of_most : FuncData
  f_best_of_most : Fun K "best_of_most" "best_of_most" s_best_of_most a_best_of_most d_best_of_most
  m_best_of_most : mg "best_of_most" = some (.ref a_best_of_most)
  b_best_of_most : Binds K d_best_of_most ["kinds", "most", "worths", "m"] []
  a_all_may : Addr
  d_all_may : FuncData
  f_all_may : Fun K "all_may" "all_may" s_all_may a_all_may d_all_may
  m_all_may : mg "all_may" = some (.ref a_all_may)
  b_all_may : Binds K d_all_may ["kinds", "most"] []
  a_swapped_in : Addr
  d_swapped_in : FuncData
  f_swapped_in : Fun K "swapped_in" "swapped_in" s_swapped_in a_swapped_in d_swapped_in
  m_swapped_in : mg "swapped_in" = some (.ref a_swapped_in)
  b_swapped_in : Binds K d_swapped_in ["kinds", "most", "chosen", "thing"] []
  a__law_mixed : Addr
  d__law_mixed : FuncData
  f__law_mixed : Fun K "_law_mixed" "_law_mixed" s__law_mixed a__law_mixed d__law_mixed
  m__law_mixed : mg "_law_mixed" = some (.ref a__law_mixed)
  b__law_mixed : Binds K d__law_mixed ["script", "k"] []
  a__law_row : Addr
  d__law_row : FuncData
  f__law_row : Fun K "_law_row" "_law_row" s__law_row a__law_row d__law_row
  m__law_row : mg "_law_row" = some (.ref a__law_row)
  b__law_row : Binds K d__law_row ["script", "many"] []
  a__law_is_int : Addr
  d__law_is_int : FuncData
  f__law_is_int : Fun K "_law_is_int" "_law_is_int" s__law_is_int a__law_is_int d__law_is_int
  m__law_is_int : mg "_law_is_int" = some (.ref a__law_is_int)
  b__law_is_int : Binds K d__law_is_int ["value"] []
  a__law_like : Addr
  d__law_like : FuncData
  f__law_like : Fun K "_law_like" "_law_like" s__law_like a__law_like d__law_like
  m__law_like : mg "_law_like" = some (.ref a__law_like)
  b__law_like : Binds K d__law_like ["value", "due"] []
  a__law_ways : Addr
  d__law_ways : FuncData
  f__law_ways : Fun K "_law_ways" "_law_ways" s__law_ways a__law_ways d__law_ways
  m__law_ways : mg "_law_ways" = some (.ref a__law_ways)
  b__law_ways : Binds K d__law_ways ["many", "most"] []
  a_law : Addr
  d_law : FuncData
  f_law : Fun K "law" "law" s_law a_law d_law
  m_law : mg "law" = some (.ref a_law)
  b_law : Binds K d_law ["script"] []
  z_len : mg "len" = none
  z_int : mg "int" = none
  z_range : mg "range" = none
  z_isinstance : mg "isinstance" = none
  z_bool : mg "bool" = none
  z_tuple : mg "tuple" = none
  z_str : mg "str" = none
  z_all : mg "all" = none
  z_enumerate : mg "enumerate" = none
  z_sorted : mg "sorted" = none
  z_sum : mg "sum" = none
variable {P : Program} {W : World} {K : PySem.W.Frag} {mg : Str → Option Value} {base : Heap}
def f_law_mixed (script_ : (List Int)) (k_ : Int) : Int :=
  let cell_ : Int := (0 : Int); let cell_3 : Int := (if (decide ((0 : Int) < (script_.length : Int))) then (let cell_2 : Int := (ix script_ (k_ % (script_.length : Int))); cell_2) else (cell_)); let first_ : Int := ((((cell_3 * (48271 : Int)) + (k_ * (69621 : Int))) + (8191 : Int)) % (2147483647 : Int)); let second_ : Int := ((((first_ * first_) + (first_ / (7 : Int))) + (k_ * (16807 : Int))) % (2147483629 : Int)); let third_ : Int := ((((second_ * second_) + (second_ / (11 : Int))) + (40692 : Int)) % (2147483563 : Int)); ((third_ / (5 : Int)) % (1000003 : Int))
def pre_f_law_mixed (a_ : (List Int) × Int) : Prop := match a_ with | (script_, k_) => 0 ≤ k_ ∧ k_ < 100000
set_option maxHeartbeats 4000000 in
theorem ok_f_law_mixed (T : Tx K mg) : FnOk P W K mg base CX0 1 T.a__law_mixed T.d__law_mixed ["script", "k"] (spG (A := (List Int) × Int) (fun a_ => [aF rScr a_.1, aF rInt a_.2]) pre_f_law_mixed rInt (fun (a_ : (List Int) × Int) => f_law_mixed a_.1 a_.2) K) := by
  have sc := sc__law_mixed
  refine fnG T.f__law_mixed sc (Γa := fun a_ => [some (fz rScr a_.1), some (fz rInt a_.2)]) (fun _ => (.cons (.cons .nil))) (fun _ => rfl) (fun a_ hpre cdv Ar outer s H E hr => ?_)
  obtain ⟨script_, k_⟩ := a_
  have hpre : 0 ≤ k_ ∧ k_ < 100000 := hpre
  show PSs _ _ (tO _ [(some (fz rScr script_)), (some (fz rInt k_)), none, none, none, none] (.rt rInt (f_law_mixed script_ k_)))
  unfold f_law_mixed
  refine q_setG (i := 2) (Γ' := fun cell_ => [(some (fz rScr script_)), (some (fz rInt k_)), (some (fz rInt cell_)), none, none, none]) (ps_set sc.nd rfl (.inl rfl) e_int) (fun _ => rfl) (fun cell_ e_cell_ => ?_)
  refine q_ifB (fun tt_ => [(some (fz rScr script_)), (some (fz rInt k_)), (some (fz rInt (if tt_ then (let cell_2 : Int := (ix script_ (k_ % (script_.length : Int))); cell_2) else (cell_)))), none, none, none]) (t_cmp (e_gt (e_lenScr (by rfl) T.z_len (a_cons (e_var (pv 0) rfl) a_nil)) e_int)) (fun hc_30 => ?_) (fun hc_30 => ?_) ?_
  · skip
    refine q_setG (i := 2) (Γ' := fun cell_3 => [(some (fz rScr script_)), (some (fz rInt k_)), (some (fz rInt cell_3)), none, none, none]) (ps_set sc.nd rfl (.inl rfl) (e_scr (e_var (pv 0) rfl) (e_mod (e_var (pv 1) rfl) (e_lenScr (by rfl) T.z_len (a_cons (e_var (pv 0) rfl) a_nil)) (by first | omega | assumption | trivial | (simp only [decide_eq_true_eq, decide_eq_false_iff_not, Bool.and_eq_true, Bool.or_eq_true, Bool.not_eq_true', Bool.not_eq_false', Bool.and_eq_false_iff, Bool.or_eq_false_iff] at *; omega))) (by exact mod_ix (by simpa using hc_30)))) (fun _ => rfl) (fun cell_3 e_cell_3 => ?_)
    subst e_cell_3
    exact q_nil (sub_keep (sub_keep (sub_keep (sub_keep (sub_keep (sub_keep sub_nil))))))
  · skip
    exact q_nil (sub_keep (sub_keep (sub_keep (sub_keep (sub_keep (sub_keep sub_nil))))))
  generalize e_cell_4 : (if (decide ((0 : Int) < (script_.length : Int))) then (let cell_2 : Int := (ix script_ (k_ % (script_.length : Int))); cell_2) else (cell_)) = cell_4
  refine q_setG (i := 3) (Γ' := fun first_ => [(some (fz rScr script_)), (some (fz rInt k_)), (some (fz rInt cell_4)), (some (fz rInt first_)), none, none]) (ps_set sc.nd rfl (.inl rfl) (e_mod (e_intC (by rfl) T.z_int (a_cons (e_add (e_add (e_mul (e_var (pv 2) rfl) e_int (by first | (left; omega) | (right; omega))) (e_mul (e_var (pv 1) rfl) e_int (by first | (left; omega) | (right; omega)))) e_int) a_nil)) e_int (by first | omega | assumption | trivial | (simp only [decide_eq_true_eq, decide_eq_false_iff_not, Bool.and_eq_true, Bool.or_eq_true, Bool.not_eq_true', Bool.not_eq_false', Bool.and_eq_false_iff, Bool.or_eq_false_iff] at *; omega)))) (fun _ => rfl) (fun first_ e_first_ => ?_)
  refine q_setG (i := 4) (Γ' := fun second_ => [(some (fz rScr script_)), (some (fz rInt k_)), (some (fz rInt cell_4)), (some (fz rInt first_)), (some (fz rInt second_)), none]) (ps_set sc.nd rfl (.inl rfl) (e_mod (e_intC (by rfl) T.z_int (a_cons (e_add (e_add (e_mul (e_var (pv 3) rfl) (e_var (pv 3) rfl) (by first | (left; omega) | (right; omega))) (e_fdiv (e_var (pv 3) rfl) e_int (by constructor <;> omega))) (e_mul (e_var (pv 1) rfl) e_int (by first | (left; omega) | (right; omega)))) a_nil)) e_int (by first | omega | assumption | trivial | (simp only [decide_eq_true_eq, decide_eq_false_iff_not, Bool.and_eq_true, Bool.or_eq_true, Bool.not_eq_true', Bool.not_eq_false', Bool.and_eq_false_iff, Bool.or_eq_false_iff] at *; omega)))) (fun _ => rfl) (fun second_ e_second_ => ?_)
  refine q_setG (i := 5) (Γ' := fun third_ => [(some (fz rScr script_)), (some (fz rInt k_)), (some (fz rInt cell_4)), (some (fz rInt first_)), (some (fz rInt second_)), (some (fz rInt third_))]) (ps_set sc.nd rfl (.inl rfl) (e_mod (e_intC (by rfl) T.z_int (a_cons (e_add (e_add (e_mul (e_var (pv 4) rfl) (e_var (pv 4) rfl) (by first | (left; omega) | (right; omega))) (e_fdiv (e_var (pv 4) rfl) e_int (by constructor <;> omega))) e_int) a_nil)) e_int (by first | omega | assumption | trivial | (simp only [decide_eq_true_eq, decide_eq_false_iff_not, Bool.and_eq_true, Bool.or_eq_true, Bool.not_eq_true', Bool.not_eq_false', Bool.and_eq_false_iff, Bool.or_eq_false_iff] at *; omega)))) (fun _ => rfl) (fun third_ e_third_ => ?_)
  subst e_third_
  subst e_second_
  subst e_first_
  subst e_cell_4
  subst e_cell_
  exact q_ret (e_mod (e_fdiv (e_var (pv 5) rfl) e_int (by constructor <;> omega)) e_int (by first | omega | assumption | trivial | (simp only [decide_eq_true_eq, decide_eq_false_iff_not, Bool.and_eq_true, Bool.or_eq_true, Bool.not_eq_true', Bool.not_eq_false', Bool.and_eq_false_iff, Bool.or_eq_false_iff] at *; omega)))
def f_law_row_l41 (script_ : (List Int)) (s_ : Int × (List Int)) (x_ : Int) : Int × (List Int) :=
  let row_4 : (List Int) := (if (decide ((0 : Int) < s_.1)) then (let row_2 : (List Int) := (s_.2 ++ [(s_.1 % (1000 : Int))]); let big_4 : Int := (s_.1 / (1000 : Int)); row_2) else (let row_3 : (List Int) := (s_.2 ++ [(f_law_mixed script_ x_)]); row_3)); let big_6 : Int := (if (decide ((0 : Int) < s_.1)) then (let row_5 : (List Int) := (s_.2 ++ [(s_.1 % (1000 : Int))]); let big_5 : Int := (s_.1 / (1000 : Int)); big_5) else (let row_6 : (List Int) := (s_.2 ++ [(f_law_mixed script_ x_)]); s_.1)); (big_6, row_4)
def f_law_row (script_ : (List Int)) (many_ : Int) : (List Int) :=
  let big_ : Int := (0 : Int); let big_3 : Int := (if ((decide ((0 : Int) < (script_.length : Int))) && (decide (((10 : Int) ^ (18 : Int).toNat) ≤ (ix script_ (0 : Int))))) then (let big_2 : Int := (ix script_ (0 : Int)); big_2) else (big_)); let row_ : (List Int) := ([] : (List Int)); let st_ : Int × (List Int) := (rg 0 many_).foldl (f_law_row_l41 script_) (big_3, row_); st_.2
theorem mixed_nn (script : List Int) (k : Int) : 0 ≤ f_law_mixed script k := by
  unfold f_law_mixed
  dsimp only
  exact Int.emod_nonneg _ (by decide)
theorem row_len (script : List Int) (many : Int) : (f_law_row script many).length = many.toNat ∧ ∀ x ∈ f_law_row script many, 0 ≤ x := by
  have one : ∀ (s : Int × List Int) (x : Int), ∃ v, 0 ≤ v ∧ (f_law_row_l41 script s x).2 = s.2 ++ [v] := by
    intro s x
    unfold f_law_row_l41
    dsimp only
    split
    · exact ⟨_, Int.emod_nonneg _ (by decide), rfl⟩
    · exact ⟨_, mixed_nn _ _, rfl⟩
  have step : ∀ (L : List Int) (s : Int × List Int), (∀ x ∈ s.2, 0 ≤ x) → (L.foldl (f_law_row_l41 script) s).2.length = s.2.length + L.length ∧ ∀ x ∈ (L.foldl (f_law_row_l41 script) s).2, 0 ≤ x := by
    intro L
    induction L with
    | nil => intro s h; exact ⟨rfl, h⟩
    | cons y L ih =>
      intro s h
      obtain ⟨v, hv, e⟩ := one s y
      have := ih (f_law_row_l41 script s y) (by rw [e]; exact all_app h (all_one hv))
      rw [List.foldl_cons]
      refine ⟨?_, this.2⟩
      rw [this.1, e]; simp; omega
  unfold f_law_row
  dsimp only
  have := step (rg 0 many) (if (decide ((0 : Int) < (script.length : Int)) && decide ((10 : Int) ^ (18 : Int).toNat ≤ ix script 0)) = true then ix script 0 else 0, []) (by simp)
  exact ⟨by rw [this.1, rg_length]; simp, this.2⟩
def pre_f_law_row (a_ : (List Int) × Int) : Prop := match a_ with | (script_, many_) => 0 ≤ many_ ∧ many_ < 100000
set_option maxHeartbeats 4000000 in
theorem ok_f_law_row (T : Tx K mg) : FnOk P W K mg base CX0 2 T.a__law_row T.d__law_row ["script", "many"] (spG (A := (List Int) × Int) (fun a_ => [aF rScr a_.1, aF rInt a_.2]) pre_f_law_row (rLst rInt) (fun (a_ : (List Int) × Int) => f_law_row a_.1 a_.2) K) := by
  have sc := sc__law_row
  refine fnG T.f__law_row sc (Γa := fun a_ => [some (fz rScr a_.1), some (fz rInt a_.2)]) (fun _ => (.cons (.cons .nil))) (fun _ => rfl) (fun a_ hpre cdv Ar outer s H E hr => ?_)
  obtain ⟨script_, many_⟩ := a_
  have hpre : 0 ≤ many_ ∧ many_ < 100000 := hpre
  show PSs _ _ (tO _ [(some (fz rScr script_)), (some (fz rInt many_)), none, none, none] (.rt (rLst rInt) (f_law_row script_ many_)))
  unfold f_law_row
  refine q_setG (i := 2) (Γ' := fun big_ => [(some (fz rScr script_)), (some (fz rInt many_)), (some (fz rInt big_)), none, none]) (ps_set sc.nd rfl (.inl rfl) e_int) (fun _ => rfl) (fun big_ e_big_ => ?_)
  refine q_ifB (fun tt_ => [(some (fz rScr script_)), (some (fz rInt many_)), (some (fz rInt (if tt_ then (let big_2 : Int := (ix script_ (0 : Int)); big_2) else (big_)))), none, none]) (PW.pt (w_and (t_cmp (e_gt (e_lenScr (by rfl) T.z_len (a_cons (e_var (pv 0) rfl) a_nil)) e_int)) (fun hc_ => (w_and1 (t_cmp (e_ge (e_scr (e_var (pv 0) rfl) e_int (by first | omega | assumption | trivial | (simp only [decide_eq_true_eq, decide_eq_false_iff_not, Bool.and_eq_true, Bool.or_eq_true, Bool.not_eq_true', Bool.not_eq_false', Bool.and_eq_false_iff, Bool.or_eq_false_iff] at *; omega))) (e_pow e_int e_int (by refine ⟨by omega, by omega, by omega⟩)))))))) (fun hc_38 => ?_) (fun hc_38 => ?_) ?_
  · skip
    refine q_setG (i := 2) (Γ' := fun big_3 => [(some (fz rScr script_)), (some (fz rInt many_)), (some (fz rInt big_3)), none, none]) (ps_set sc.nd rfl (.inl rfl) (e_scr (e_var (pv 0) rfl) e_int (by first | omega | assumption | trivial | (simp only [decide_eq_true_eq, decide_eq_false_iff_not, Bool.and_eq_true, Bool.or_eq_true, Bool.not_eq_true', Bool.not_eq_false', Bool.and_eq_false_iff, Bool.or_eq_false_iff] at *; omega)))) (fun _ => rfl) (fun big_3 e_big_3 => ?_)
    subst e_big_3
    exact q_nil (sub_keep (sub_keep (sub_keep (sub_keep (sub_keep sub_nil)))))
  · skip
    exact q_nil (sub_keep (sub_keep (sub_keep (sub_keep (sub_keep sub_nil)))))
  generalize e_big_4 : (if ((decide ((0 : Int) < (script_.length : Int))) && (decide (((10 : Int) ^ (18 : Int).toNat) ≤ (ix script_ (0 : Int))))) then (let big_2 : Int := (ix script_ (0 : Int)); big_2) else (big_)) = big_4
  refine q_setOG (i := 3) (Γ' := fun row_ => [(some (fz rScr script_)), (some (fz rInt many_)), (some (fz rInt big_4)), (some (own rInt row_)), none]) (ps_set sc.nd rfl (.inl rfl) (e_lstH (R := rInt) h_nil)) (fun _ => rfl) (fun row_ e_row_ => ?_)
  have hln_row_ := congrArg List.length e_row_
  try simp only [List.length_cons, List.length_nil, List.length_map, rg_length, rgd_length, List.length_append] at hln_row_
  refine q_for (R := rInt) (xs := (rg 0 many_)) (σ' := Int × (List Int)) (G := fun st_ => [(some (fz rScr script_)), (some (fz rInt many_)), (some (fz rInt st_.1)), (some (own rInt st_.2)), none]) (g := (f_law_row_l41 script_)) (s0 := (big_4, row_)) PassesOwn.never rfl (f_rg1 (by rfl) T.z_range (a_cons (e_var (pv 1) rfl) a_nil) (by first | omega | assumption | trivial | (simp only [decide_eq_true_eq, decide_eq_false_iff_not, Bool.and_eq_true, Bool.or_eq_true, Bool.not_eq_true', Bool.not_eq_false', Bool.and_eq_false_iff, Bool.or_eq_false_iff] at *; omega))) (g_name (R := rInt) (i := 4) (pg_name sc.nd rfl (by first | exact .inl rfl | exact .inr rfl))) (sub_keep (sub_keep (sub_keep (sub_keep (sub_keep sub_nil))))) (fun pre_41 k_ post_41 hx_41 => ?_) ?_
  · skip
    generalize hs_41 : List.foldl (f_law_row_l41 script_) (big_4, row_) pre_41 = st_
    have hlen_row_41 : (st_.2).length ≤ (row_).length + 2 * (pre_41).length := by rw [← hs_41]; exact foldl_len (fun s_ : Int × (List Int) => (s_.2).length) 2 (fun s_ x_ => by unfold f_law_row_l41; dsimp only; (repeat' split) <;> (try simp only [List.length_append, List.length_cons, List.length_nil, List.length_set]) <;> omega) _ _
    have hxl_41 := congrArg List.length hx_41
    simp only [List.length_append, List.length_cons, List.length_nil, List.length_map, List.length_set, List.length_reverse, rg_length, rgd_length, enu_length, sortD_length, sortI_length] at hxl_41
    obtain ⟨big_41, row_41⟩ := st_
    dsimp only at hlen_row_41
    have hm_41 := mem_rg (xs_mem hx_41)
    show PSs _ _ (tO _ [(some (fz rScr script_)), (some (fz rInt many_)), (some (fz rInt big_41)), (some (own rInt row_41)), (some (fz rInt k_))] _)
    refine q_ifB (fun tt_ => [(some (fz rScr script_)), (some (fz rInt many_)), (some (fz rInt (if tt_ then (let row_4 : (List Int) := (row_41 ++ [(big_41 % (1000 : Int))]); let big_6 : Int := (big_41 / (1000 : Int)); big_6) else (let row_5 : (List Int) := (row_41 ++ [(f_law_mixed script_ k_)]); big_41)))), (some (own rInt (if tt_ then (let row_2 : (List Int) := (row_41 ++ [(big_41 % (1000 : Int))]); let big_5 : Int := (big_41 / (1000 : Int)); row_2) else (let row_3 : (List Int) := (row_41 ++ [(f_law_mixed script_ k_)]); row_3)))), (some (fz rInt k_))]) (t_cmp (e_gt (e_var (pv 2) rfl) e_int)) (fun hc_42 => ?_) (fun hc_42 => ?_) ?_
    · skip
      refine q_seqG ([(some (fz rScr script_)), (some (fz rInt many_)), (some (fz rInt big_41)), (some (own rInt (row_41 ++ [(big_41 % (1000 : Int))]))), (some (fz rInt k_))]) (s_app (i := 3) (x := (big_41 % (1000 : Int))) (y := "row") (py := ⟨0, 0, 0, 0⟩) (apos := ⟨0, 0, 0, 0⟩) (cpos := ⟨0, 0, 0, 0⟩) rfl (ps_expr (pe_bm PySem.F.plainAttrs_list PySem.F.slot_list_append PySem.F.type_list_append mt_append (pv 3) (pa_cons (e_mod (e_intC (by rfl) T.z_int (a_cons (e_var (pv 2) rfl) a_nil)) e_int (by first | omega | assumption | trivial | (simp only [decide_eq_true_eq, decide_eq_false_iff_not, Bool.and_eq_true, Bool.or_eq_true, Bool.not_eq_true', Bool.not_eq_false', Bool.and_eq_false_iff, Bool.or_eq_false_iff] at *; omega))) pa_nil))) (by first | (simp only [sizeLine_eq]; omega) | (simp only [List.length_append, List.length_cons, List.length_nil, List.length_map, List.length_set, List.length_reverse, rg_length, rgd_length, enu_length, sortD_length, sortI_length, sizeLine_eq] at *; omega))) rfl ?_
      generalize e_row_6 : (row_41 ++ [(big_41 % (1000 : Int))]) = row_6
      refine q_setG (i := 2) (Γ' := fun big_7 => [(some (fz rScr script_)), (some (fz rInt many_)), (some (fz rInt big_7)), (some (own rInt row_6)), (some (fz rInt k_))]) (ps_set sc.nd rfl (.inl rfl) (e_fdiv (e_var (pv 2) rfl) e_int (by constructor <;> omega))) (fun _ => rfl) (fun big_7 e_big_7 => ?_)
      subst e_big_7
      subst e_row_6
      exact q_nil (sub_keep (sub_keep (sub_keep (sub_keep (sub_keep sub_nil)))))
    · skip
      refine q_seqG ([(some (fz rScr script_)), (some (fz rInt many_)), (some (fz rInt big_41)), (some (own rInt (row_41 ++ [(f_law_mixed script_ k_)]))), (some (fz rInt k_))]) (s_app (i := 3) (x := (f_law_mixed script_ k_)) (y := "row") (py := ⟨0, 0, 0, 0⟩) (apos := ⟨0, 0, 0, 0⟩) (cpos := ⟨0, 0, 0, 0⟩) rfl (ps_expr (pe_bm PySem.F.plainAttrs_list PySem.F.slot_list_append PySem.F.type_list_append mt_append (pv 3) (pa_cons (e_callG (x := "_law_mixed") (y := (f_law_mixed script_ k_)) (script_, k_) ((ok_f_law_mixed (P := P) (W := W) (base := base) T).mono (by decide)) hr (by rfl) T.m__law_mixed T.f__law_mixed.kp T.b__law_mixed (a_cons (e_var (pv 0) rfl) (a_cons (e_var (pv 4) rfl) a_nil)) (by simp only [pre_f_law_mixed]; first | omega | assumption | trivial | (simp only [decide_eq_true_eq, decide_eq_false_iff_not, Bool.and_eq_true, Bool.or_eq_true, Bool.not_eq_true', Bool.not_eq_false', Bool.and_eq_false_iff, Bool.or_eq_false_iff] at *; omega)) rfl) pa_nil))) (by first | (simp only [sizeLine_eq]; omega) | (simp only [List.length_append, List.length_cons, List.length_nil, List.length_map, List.length_set, List.length_reverse, rg_length, rgd_length, enu_length, sortD_length, sortI_length, sizeLine_eq] at *; omega))) rfl ?_
      generalize e_row_7 : (row_41 ++ [(f_law_mixed script_ k_)]) = row_7
      subst e_row_7
      exact q_nil (sub_keep (sub_keep (sub_keep (sub_keep (sub_keep sub_nil)))))
    generalize e_row_8 : (if (decide ((0 : Int) < big_41)) then (let row_2 : (List Int) := (row_41 ++ [(big_41 % (1000 : Int))]); let big_5 : Int := (big_41 / (1000 : Int)); row_2) else (let row_3 : (List Int) := (row_41 ++ [(f_law_mixed script_ k_)]); row_3)) = row_8
    generalize e_big_8 : (if (decide ((0 : Int) < big_41)) then (let row_4 : (List Int) := (row_41 ++ [(big_41 % (1000 : Int))]); let big_6 : Int := (big_41 / (1000 : Int)); big_6) else (let row_5 : (List Int) := (row_41 ++ [(f_law_mixed script_ k_)]); big_41)) = big_8
    subst e_big_8
    subst e_row_8
    exact q_nil (sub_keep (sub_keep (sub_keep (sub_keep (sub_skip sub_nil)))))
  · skip
    generalize e_st_2 : List.foldl (f_law_row_l41 script_) (big_4, row_) (rg 0 many_) = st_2
    have hlen_row_41 : (st_2.2).length ≤ (row_).length + 2 * ((rg 0 many_)).length := by rw [← e_st_2]; exact foldl_len (fun s_ : Int × (List Int) => (s_.2).length) 2 (fun s_ x_ => by unfold f_law_row_l41; dsimp only; (repeat' split) <;> (try simp only [List.length_append, List.length_cons, List.length_nil, List.length_set]) <;> omega) _ _
    try simp only [List.length_append, List.length_cons, List.length_nil, List.length_map, List.length_set, List.length_reverse, rg_length, rgd_length, enu_length, sortD_length, sortI_length] at hlen_row_41
    show PSs _ _ (tO _ [(some (fz rScr script_)), (some (fz rInt many_)), (some (fz rInt st_2.1)), (some (own rInt st_2.2)), none] _)
    refine q_frzG (i := 3) ([(some (fz rScr script_)), (some (fz rInt many_)), (some (fz rInt st_2.1)), (some (fz (rLst rInt) st_2.2)), none]) rfl rfl ?_
    subst e_st_2
    subst e_row_
    subst e_big_4
    subst e_big_
    exact q_ret (e_var (pv 3) rfl)
def f_law_is_int (value_ : Dy) : Bool :=
  ((isD "int" value_) && (!(isD "bool" value_)))
def pre_f_law_is_int (a_ : Dy) : Prop := match a_ with | value_ => True
set_option maxHeartbeats 4000000 in
theorem ok_f_law_is_int (T : Tx K mg) : FnOk P W K mg base CX0 1 T.a__law_is_int T.d__law_is_int ["value"] (spG (A := Dy) (fun a_ => [aF rDy a_]) pre_f_law_is_int rBool (fun (a_ : Dy) => f_law_is_int a_) K) := by
  have sc := sc__law_is_int
  refine fnG T.f__law_is_int sc (Γa := fun a_ => [some (fz rDy a_)]) (fun _ => (.cons .nil)) (fun _ => rfl) (fun value_ hpre cdv Ar outer s H E hr => ?_)
  show PSs _ _ (tO _ [(some (fz rDy value_))] (.rt rBool (f_law_is_int value_)))
  unfold f_law_is_int
  exact q_ret (e_and (e_isD (t := "int") (by rfl) T.z_isinstance (pe_bltn (by rfl) T.z_int (by decide +kernel) rfl) (e_var (pv 0) rfl) (by decide +kernel)) (fun hc_ => (e_one (e_not (e_isD (t := "bool") (by rfl) T.z_isinstance (pe_bltn (by rfl) T.z_bool (by decide +kernel) rfl) (e_var (pv 0) rfl) (by decide +kernel))))))

def f_law_like (value_ due_ : Dy) : Bool := Dy.like value_ due_
section
variable {X : Cx} {Γ : Gm} {e : Expr}
theorem e_dyI {x : Int} (h : PE X e (tE X.K Γ rDy (.int x))) : PE X e (tE X.K Γ rInt x) := tX.imp h fun _ v _ _ q => by show v = _; simpa [rDy, Dy.r] using q
theorem e_dyB {x : Bool} (h : PE X e (tE X.K Γ rDy (.bl x))) : PE X e (tE X.K Γ rBool x) := tX.imp h fun _ v _ _ q => by show v = _; simpa [rDy, Dy.r] using q
theorem e_dyS {x : Str} (h : PE X e (tE X.K Γ rDy (.str x))) : PE X e (tE X.K Γ rStr x) := tX.imp h fun _ v _ _ q => by show v = _; simpa [rDy, Dy.r] using q
theorem e_dyT {x : List Dy} (h : PE X e (tE X.K Γ rDy (.tup x))) : PE X e (tE X.K Γ (rTup rDy) x) := tX.imp h fun _ v _ _ q => rDy_tup.mp q
end
theorem like_ix {m l : List Dy} (h : m.length = l.length) : ((rg 0 (l.length : Int)).map fun k => Dy.like (ix m k) (ix l k)).all id = Dy.likes m l := by
  rw [Dy.likes_all h]
  unfold rg
  rw [List.map_map]
  simp only [Int.sub_zero, Int.toNat_natCast]
  congr 1
  refine List.map_congr_left fun k hk => ?_
  have hk : k < l.length := List.mem_range.mp hk
  have g : ∀ (z : List Dy), k < z.length → ix z (0 + (k : Int)) = z.getD k .non := fun z hz => by
    have := atI_ix (xs := z) (i := 0 + (k : Int)) ⟨by omega, by omega⟩
    unfold atI ixN at this
    rw [if_pos (by omega), if_pos (by omega)] at this
    have : z[(0 + (k : Int)).toNat]? = some (ix z (0 + k)) := this
    rw [show (0 + (k : Int)).toNat = k by omega] at this
    rw [List.getD_eq_getElem?_getD, this]; rfl
  simp only [Function.comp]
  rw [g m (by omega), g l hk]
theorem ix_mem {α : Type} [Inhabited α] {xs : List α} {i : Int} (h : -(xs.length : Int) ≤ i ∧ i < xs.length) : ix xs i ∈ xs := by
  have := atI_ix h
  unfold atI at this
  cases e : ixN xs.length i with
  | none => rw [e] at this; cases this
  | some j =>
    rw [e] at this
    have this : xs[j]? = some (ix xs i) := this
    exact List.mem_of_getElem? this
abbrev spLike (n : Nat) (K : PySem.W.Frag) : Sp := spG (A := Dy × Dy) (fun a_ => [aF rDy a_.1, aF rDy a_.2]) (fun a => a.2.depth ≤ n) rBool (fun a => f_law_like a.1 a.2) K
set_option maxHeartbeats 4000000 in
theorem like_step (T : Tx K mg) (n : Nat) (ih : ∀ m, n = m + 1 → FnOk P W K mg base CX0 (m + 2) T.a__law_like T.d__law_like ["value", "due"] (spLike m K)) : FnOk P W K mg base CX0 (n + 2) T.a__law_like T.d__law_like ["value", "due"] (spLike n K) := by
  have sc := sc__law_like
  refine fnG T.f__law_like sc (Γa := fun a_ => [some (fz rDy a_.1), some (fz rDy a_.2)]) (fun _ => .cons (.cons .nil)) (fun _ => rfl) (fun a_ hpre cdv Ar outer s H E hr => ?_)
  obtain ⟨v, d⟩ := a_
  have hpre : d.depth ≤ n := hpre
  show PSs _ _ (tO _ [some (fz rDy v), some (fz rDy d), none] (.rt rBool (Dy.like v d)))
  cases d with
  | non =>
    refine q_ifT (t_as (t_cmp (e_isND (e_var (pv 1) rfl))) (by rfl)) ?_ (by rintro _ ⟨⟩)
    exact q_ret (e_as (e_isND (e_var (pv 0) rfl)) (by cases v <;> simp [Dy.like, isNonD]))
  | bl b =>
    refine q_skip (t_cmp (e_isND (e_var (pv 1) rfl))) rfl ?_
    refine q_ifT (t_as (t_val (e_isD (t := "bool") (by rfl) T.z_isinstance (pe_bltn (by rfl) T.z_bool (by decide +kernel) rfl) (e_var (pv 1) rfl) (by decide +kernel))) (by rfl)) ?_ (by rintro _ ⟨⟩)
    cases v with
    | bl c => exact q_ret (e_as (e_and (e_isD (t := "bool") (by rfl) T.z_isinstance (pe_bltn (by rfl) T.z_bool (by decide +kernel) rfl) (e_var (pv 0) rfl) (by decide +kernel)) (fun _ => e_one (e_eqS scal_bool (e_dyB (e_var (pv 0) rfl)) (e_dyB (e_var (pv 1) rfl))))) (by rw [Dy.like]; rfl))
    | _ => exact q_ret (e_as (e_and (d := false) (e_isD (t := "bool") (by rfl) T.z_isinstance (pe_bltn (by rfl) T.z_bool (by decide +kernel) rfl) (e_var (pv 0) rfl) (by decide +kernel)) (fun h => by exact absurd (show false = true from h) (by decide))) (by simp [Dy.like]))
  | int b =>
    refine q_skip (t_cmp (e_isND (e_var (pv 1) rfl))) rfl ?_
    refine q_skip (t_as (t_val (e_isD (t := "bool") (by rfl) T.z_isinstance (pe_bltn (by rfl) T.z_bool (by decide +kernel) rfl) (e_var (pv 1) rfl) (by decide +kernel))) (y := false) (by rfl)) rfl ?_
    refine q_skip (t_as (t_val (e_isD (t := "tuple") (by rfl) T.z_isinstance (pe_bltn (by rfl) T.z_tuple (by decide +kernel) rfl) (e_var (pv 1) rfl) (by decide +kernel))) (y := false) (by rfl)) rfl ?_
    refine q_skip (t_as (t_val (e_isD (t := "str") (by rfl) T.z_isinstance (pe_bltn (by rfl) T.z_str (by decide +kernel) rfl) (e_var (pv 1) rfl) (by decide +kernel))) (y := false) (by rfl)) rfl ?_
    have F := ok_f_law_is_int (P := P) (W := W) (base := base) T
    cases v with
    | int c => exact q_ret (e_as (e_and (e_callG (x := "_law_is_int") (.int c) (F.mono (by omega)) hr (by rfl) T.m__law_is_int T.f__law_is_int.kp T.b__law_is_int (a_cons (e_var (pv 0) rfl) a_nil) (by trivial) rfl) (fun _ => e_one (e_eqS scal_int (e_dyI (e_var (pv 0) rfl)) (e_dyI (e_var (pv 1) rfl))))) (by rw [Dy.like]; rfl))
    | non => exact q_ret (e_as (e_and (d := false) (e_callG (x := "_law_is_int") Dy.non (F.mono (by omega)) hr (by rfl) T.m__law_is_int T.f__law_is_int.kp T.b__law_is_int (a_cons (e_var (pv 0) rfl) a_nil) (by trivial) rfl) (fun h => by exact absurd (show false = true from h) (by decide))) (by simp [Dy.like]))
    | bl c => exact q_ret (e_as (e_and (d := false) (e_callG (x := "_law_is_int") (.bl c) (F.mono (by omega)) hr (by rfl) T.m__law_is_int T.f__law_is_int.kp T.b__law_is_int (a_cons (e_var (pv 0) rfl) a_nil) (by trivial) rfl) (fun h => by exact absurd (show false = true from h) (by decide))) (by simp [Dy.like]))
    | str c => exact q_ret (e_as (e_and (d := false) (e_callG (x := "_law_is_int") (.str c) (F.mono (by omega)) hr (by rfl) T.m__law_is_int T.f__law_is_int.kp T.b__law_is_int (a_cons (e_var (pv 0) rfl) a_nil) (by trivial) rfl) (fun h => by exact absurd (show false = true from h) (by decide))) (by simp [Dy.like]))
    | tup c => exact q_ret (e_as (e_and (d := false) (e_callG (x := "_law_is_int") (.tup c) (F.mono (by omega)) hr (by rfl) T.m__law_is_int T.f__law_is_int.kp T.b__law_is_int (a_cons (e_var (pv 0) rfl) a_nil) (by trivial) rfl) (fun h => by exact absurd (show false = true from h) (by decide))) (by simp [Dy.like]))
  | str b =>
    refine q_skip (t_cmp (e_isND (e_var (pv 1) rfl))) rfl ?_
    refine q_skip (t_as (t_val (e_isD (t := "bool") (by rfl) T.z_isinstance (pe_bltn (by rfl) T.z_bool (by decide +kernel) rfl) (e_var (pv 1) rfl) (by decide +kernel))) (y := false) (by rfl)) rfl ?_
    refine q_skip (t_as (t_val (e_isD (t := "tuple") (by rfl) T.z_isinstance (pe_bltn (by rfl) T.z_tuple (by decide +kernel) rfl) (e_var (pv 1) rfl) (by decide +kernel))) (y := false) (by rfl)) rfl ?_
    refine q_ifT (t_as (t_val (e_isD (t := "str") (by rfl) T.z_isinstance (pe_bltn (by rfl) T.z_str (by decide +kernel) rfl) (e_var (pv 1) rfl) (by decide +kernel))) (by rfl)) ?_ (by rintro _ ⟨⟩)
    cases v with
    | str c => exact q_ret (e_as (e_and (e_isD (t := "str") (by rfl) T.z_isinstance (pe_bltn (by rfl) T.z_str (by decide +kernel) rfl) (e_var (pv 0) rfl) (by decide +kernel)) (fun _ => e_one (e_eqS scal_str (e_dyS (e_var (pv 0) rfl)) (e_dyS (e_var (pv 1) rfl))))) (by rw [Dy.like]; rfl))
    | _ => exact q_ret (e_as (e_and (d := false) (e_isD (t := "str") (by rfl) T.z_isinstance (pe_bltn (by rfl) T.z_str (by decide +kernel) rfl) (e_var (pv 0) rfl) (by decide +kernel)) (fun h => by exact absurd (show false = true from h) (by decide))) (by simp [Dy.like]))
  | tup l =>
    rw [Dy.depth] at hpre
    obtain ⟨m, rfl⟩ : ∃ m, n = m + 1 := ⟨n - 1, by omega⟩
    have F := ih m rfl
    refine q_known (i := 1) (R := rDy) (x := .tup l) rfl (fun hz => ?_)
    have hz := sz_dy hz
    refine q_skip (t_cmp (e_isND (e_var (pv 1) rfl))) rfl ?_
    refine q_skip (t_as (t_val (e_isD (t := "bool") (by rfl) T.z_isinstance (pe_bltn (by rfl) T.z_bool (by decide +kernel) rfl) (e_var (pv 1) rfl) (by decide +kernel))) (y := false) (by rfl)) rfl ?_
    refine q_ifT (t_as (t_val (e_isD (t := "tuple") (by rfl) T.z_isinstance (pe_bltn (by rfl) T.z_tuple (by decide +kernel) rfl) (e_var (pv 1) rfl) (by decide +kernel))) (by rfl)) ?_ (by rintro _ ⟨⟩)
    have no : ∀ v : Dy, isD "tuple" v = false → Dy.like v (.tup l) = false := fun v h => by
      cases v <;> first | (simp [Dy.like]; done) | exact absurd (show true = false from h) (by decide)
    by_cases hv : isD "tuple" v = true
    · obtain ⟨l', rfl⟩ : ∃ l', v = .tup l' := by
        cases v with
        | tup l' => exact ⟨l', rfl⟩
        | _ => exact Bool.noConfusion (show false = true from hv)
      have e1 : Dy.like (.tup l') (.tup l) = Dy.likes l' l := by rw [Dy.like]
      by_cases hl : l'.length = l.length
      · refine q_skip (PW.pt (w_or (t_not (t_val (e_isD (t := "tuple") (by rfl) T.z_isinstance (pe_bltn (by rfl) T.z_tuple (by decide +kernel) rfl) (e_var (pv 0) rfl) (by decide +kernel)))) (fun _ => w_or1 (t_cmp (e_neS scal_int (e_len (R := rDy) (by rfl) T.z_len (a_B (e_BT (e_dyT (e_var (pv 0) rfl))) a_nil)) (e_len (R := rDy) (by rfl) T.z_len (a_B (e_BT (e_dyT (e_var (pv 1) rfl))) a_nil))))))) (by rw [hl, hv]; simp) ?_
        refine q_ret (e_as (e_all rfl (by rfl) T.z_all (a_L (e_LN (e_lc0 (R := rInt) (S := rBool) (own := [("k", 2)]) (xs := rg 0 (l.length : Int)) (f := fun k => Dy.like (ix l' k) (ix l k)) rfl sc.nd (i_of (f_rg1 (by rfl) T.z_range (a_cons (e_len (R := rDy) (by rfl) T.z_len (a_B (e_BT (e_dyT (e_var (pv 1) rfl))) a_nil)) a_nil) ?b1) ?b2) (blkOk_by (N := N__law_like) (sc := defScope s__law_like) (by decide +kernel)) (by decide) (fun _ _ _ _ _ => g_name (R := rInt) (i := 2) (pg_name sc.nd rfl (by first | exact .inl rfl | exact .inr rfl))) (fun k hk _ _ _ _ _ => ?el))) a_nil)) ?fin)
        case b1 => exact ⟨by omega, by rw [sizeLine_eq] at hz; omega⟩
        case b2 => rw [rg_length]; omega
        case el =>
          have hk2 := mem_rg hk
          exact e_callG (x := "_law_like") (ix l' k, ix l k) F hr (by rfl) T.m__law_like T.f__law_like.kp T.b__law_like (a_cons (e_ix (e_BT (e_dyT (e_var (pv 0) rfl))) (e_var (pv 2) rfl) (by omega)) (a_cons (e_ix (e_BT (e_dyT (e_var (pv 1) rfl))) (e_var (pv 2) rfl) (by omega)) a_nil)) (Nat.le_trans (Dy.depth_mem (ix_mem (by omega))) (by omega)) rfl
        case fin => rw [e1, ← like_ix hl]
      · refine q_ifT (t_as (PW.pt (w_or (t_not (t_val (e_isD (t := "tuple") (by rfl) T.z_isinstance (pe_bltn (by rfl) T.z_tuple (by decide +kernel) rfl) (e_var (pv 0) rfl) (by decide +kernel)))) (fun _ => w_or1 (t_cmp (e_neS scal_int (e_len (R := rDy) (by rfl) T.z_len (a_B (e_BT (e_dyT (e_var (pv 0) rfl))) a_nil)) (e_len (R := rDy) (by rfl) T.z_len (a_B (e_BT (e_dyT (e_var (pv 1) rfl))) a_nil))))))) (by
            rw [hv, decide_eq_false (by omega)]; rfl)) ?_ (by rintro _ ⟨⟩)
        exact q_ret (e_as e_bool (by rw [e1, Dy.likes_len hl]))
    · have hv : isD "tuple" v = false := by simpa using hv
      refine q_ifT (t_as (PW.pt (w_or (d := true) (t_not (t_val (e_isD (t := "tuple") (by rfl) T.z_isinstance (pe_bltn (by rfl) T.z_tuple (by decide +kernel) rfl) (e_var (pv 0) rfl) (by decide +kernel)))) (fun h => by rw [hv] at h; cases h))) (by rw [hv]; rfl)) ?_ (by rintro _ ⟨⟩)
      exact q_ret (e_as e_bool (by rw [no v hv]))
set_option maxHeartbeats 4000000 in
theorem ok_law_like_n (T : Tx K mg) : ∀ n : Nat, FnOk P W K mg base CX0 (n + 2) T.a__law_like T.d__law_like ["value", "due"] (spLike n K) := by
  intro n
  induction n with
  | zero => exact like_step T 0 (fun _ h => by cases h)
  | succ n ih => exact like_step T (n + 1) (fun m h => by cases h; exact ih)
theorem ok_f_law_like (T : Tx K mg) : FnOk P W K mg base CX0 8 T.a__law_like T.d__law_like ["value", "due"] (spLike 6 K) := ok_law_like_n T 6

def f_all_sets_l4  (s_ : (List (List Int))) (x_ : Int) : (List (List Int)) :=
  let found_2 : (List (List Int)) := ((([([] : (List Int))] : (List (List Int))) ++ (s_.map fun row_ => ([x_] ++ row_))) ++ ((s_.filter fun row_2 => (!row_2.isEmpty)).map fun row_2 => row_2)); found_2
def f_all_sets (n_ : Int) : (List (List Int)) :=
  let found_ : (List (List Int)) := ([([] : (List Int))] : (List (List Int))); let st_ : (List (List Int)) := (rgd (n_ - (1 : Int)) (-(1 : Int))).foldl (f_all_sets_l4) found_; st_
def pre_f_all_sets (a_ : Int) : Prop := match a_ with | n_ => 0 ≤ n_ ∧ n_ ≤ 14
set_option maxHeartbeats 4000000 in
theorem ok_f_all_sets (T : Tx K mg) : FnOk P W K mg base CX0 1 T.a_all_sets T.d_all_sets ["n"] (spG (A := Int) (fun a_ => [aF rInt a_]) pre_f_all_sets (rLst (rTup rInt)) (fun (a_ : Int) => f_all_sets a_) K) := by
  have sc := sc_all_sets
  refine fnG T.f_all_sets sc (Γa := fun a_ => [some (fz rInt a_)]) (fun _ => (.cons .nil)) (fun _ => rfl) (fun n_ hpre cdv Ar outer s H E hr => ?_)
  have hpre : 0 ≤ n_ ∧ n_ ≤ 14 := hpre
  show PSs _ _ (tO _ [(some (fz rInt n_)), none, none, none] (.rt (rLst (rTup rInt)) (f_all_sets n_)))
  unfold f_all_sets
  refine q_setG (i := 1) (Γ' := fun found_ => [(some (fz rInt n_)), (some (fz (rLst (rTup rInt)) found_)), none, none]) (ps_set sc.nd rfl (.inl rfl) (e_fz (e_lstH (R := (rTup rInt)) (h_cons (e_tupH (R := rInt) h_nil) h_nil)))) (fun _ => rfl) (fun found_ e_found_ => ?_)
  refine q_for (R := rInt) (xs := (rgd (n_ - (1 : Int)) (-(1 : Int)))) (σ' := (List (List Int))) (G := fun st_ => [(some (fz rInt n_)), (some (fz (rLst (rTup rInt)) st_)), none, none]) (g := (f_all_sets_l4)) (s0 := found_) PassesOwn.never rfl (f_rgd (by rfl) T.z_range (a_cons (e_sub (e_var (pv 0) rfl) e_int) (a_cons (e_neg e_int) (a_cons (e_neg e_int) a_nil))) rfl (by first | omega | assumption | trivial | (simp only [decide_eq_true_eq, decide_eq_false_iff_not, Bool.and_eq_true, Bool.or_eq_true, Bool.not_eq_true', Bool.not_eq_false', Bool.and_eq_false_iff, Bool.or_eq_false_iff] at *; omega))) (g_name (R := rInt) (i := 2) (pg_name sc.nd rfl (by first | exact .inl rfl | exact .inr rfl))) (sub_keep (sub_keep (sub_keep (sub_keep sub_nil)))) (fun pre_4 index_ post_4 hx_4 => ?_) ?_
  · skip
    generalize hs_4 : List.foldl (f_all_sets_l4) found_ pre_4 = st_
    have hxl_4 := congrArg List.length hx_4
    simp only [List.length_append, List.length_cons, List.length_nil, List.length_map, List.length_set, List.length_reverse, rg_length, rgd_length, enu_length, sortD_length, sortI_length] at hxl_4
    have hm_4 := mem_rgd (xs_mem hx_4)
    show PSs _ _ (tO _ [(some (fz rInt n_)), (some (fz (rLst (rTup rInt)) st_)), (some (fz rInt index_)), none] _)
    have hinv : st_.length + 1 ≤ 2 ^ (pre_4.length + 1) ∧ ∀ row ∈ st_, row.length ≤ pre_4.length := by rw [← hs_4, e_found_]; exact setS_inv pre_4
    have hpw : 2 ^ (pre_4.length + 1) ≤ 2 ^ 15 := Nat.pow_le_pow_right (by omega) (by omega)
    have hfl := List.length_filter_le (fun row_ : List Int => !row_.isEmpty) st_
    have hi2 := hinv.1
    refine q_setG (i := 1) (Γ' := fun found_2 => [(some (fz rInt n_)), (some (fz (rLst (rTup rInt)) found_2)), (some (fz rInt index_)), none]) (ps_set sc.nd rfl (.inl rfl) (e_fz (e_catL (e_LN (e_catL (e_LN (e_lstH (R := (rTup rInt)) (h_cons (e_tupH (R := rInt) h_nil) h_nil))) (e_LN (e_lc0 (R := (rTup rInt)) (S := (rTup rInt)) (own := [("row", 3)]) (xs := st_) (f := fun row_ => ([index_] ++ row_)) rfl sc.nd (i_lst (e_LE (e_var (pv 1) rfl))) (blkOk_by (N := N_all_sets) (sc := defScope s_all_sets) (by decide +kernel)) (by decide) (fun _ _ _ _ _ => (g_name (R := (rTup rInt)) (i := 3) (pg_name sc.nd rfl (by first | exact .inl rfl | exact .inr rfl)))) (fun row_ hrow_ _ _ _ _ _ => have hrow_3 := hinv.2 row_ hrow_; (e_catT (e_tupH (R := rInt) (h_cons (e_var (pv 2) rfl) h_nil)) (e_var (pv 3) rfl) (by first | (simp only [List.length_append, List.length_cons, List.length_nil, List.length_map, List.length_set, List.length_reverse, rg_length, rgd_length, enu_length, sortD_length, sortI_length, sizeLine_eq]; omega) | (simp only [List.length_append, List.length_cons, List.length_nil, List.length_map, List.length_set, List.length_reverse, rg_length, rgd_length, enu_length, sortD_length, sortI_length, sizeLine_eq]; refine Nat.le_trans (Nat.add_le_add_right (List.length_filter_le _ _) _) ?_; omega) | (simp only [List.length_append, List.length_cons, List.length_nil, List.length_map, List.length_set, List.length_reverse, rg_length, rgd_length, enu_length, sortD_length, sortI_length, sizeLine_eq] at *; omega)))))) (by first | (simp only [List.length_append, List.length_cons, List.length_nil, List.length_map, List.length_set, List.length_reverse, rg_length, rgd_length, enu_length, sortD_length, sortI_length, sizeLine_eq]; omega) | (simp only [List.length_append, List.length_cons, List.length_nil, List.length_map, List.length_set, List.length_reverse, rg_length, rgd_length, enu_length, sortD_length, sortI_length, sizeLine_eq]; refine Nat.le_trans (Nat.add_le_add_right (List.length_filter_le _ _) _) ?_; omega) | (simp only [List.length_append, List.length_cons, List.length_nil, List.length_map, List.length_set, List.length_reverse, rg_length, rgd_length, enu_length, sortD_length, sortI_length, sizeLine_eq] at *; omega)))) (e_LN (e_lc (R := (rTup rInt)) (S := (rTup rInt)) (own := [("row", 3)]) (xs := st_) (p := fun row_2 => (!row_2.isEmpty)) (f := fun row_2 => row_2) rfl sc.nd (i_lst (e_LE (e_var (pv 1) rfl))) (blkOk_by (N := N_all_sets) (sc := defScope s_all_sets) (by decide +kernel)) (by decide) (fun _ _ _ _ _ => (g_name (R := (rTup rInt)) (i := 3) (pg_name sc.nd rfl (by first | exact .inl rfl | exact .inr rfl)))) (fun _ _ _ _ _ => ct_one fun row_2 hrow_2 => have hrow_23 := hinv.2 row_2 hrow_2; (t_tup (e_var (pv 3) rfl))) (fun row_2 hrow_2 hrow_2p _ _ _ _ _ => have hrow_23 := hinv.2 row_2 hrow_2; (e_var (pv 3) rfl)))) (by first | (simp only [List.length_append, List.length_cons, List.length_nil, List.length_map, List.length_set, List.length_reverse, rg_length, rgd_length, enu_length, sortD_length, sortI_length, sizeLine_eq]; omega) | (simp only [List.length_append, List.length_cons, List.length_nil, List.length_map, List.length_set, List.length_reverse, rg_length, rgd_length, enu_length, sortD_length, sortI_length, sizeLine_eq]; refine Nat.le_trans (Nat.add_le_add_right (List.length_filter_le _ _) _) ?_; omega) | (simp only [List.length_append, List.length_cons, List.length_nil, List.length_map, List.length_set, List.length_reverse, rg_length, rgd_length, enu_length, sortD_length, sortI_length, sizeLine_eq] at *; omega))))) (fun _ => rfl) (fun found_2 e_found_2 => ?_)
    subst e_found_2
    exact q_nil (sub_keep (sub_keep (sub_skip (sub_keep sub_nil))))
  · skip
    generalize e_st_2 : List.foldl (f_all_sets_l4) found_ (rgd (n_ - (1 : Int)) (-(1 : Int))) = st_2
    show PSs _ _ (tO _ [(some (fz rInt n_)), (some (fz (rLst (rTup rInt)) st_2)), none, none] _)
    subst e_st_2
    subst e_found_
    exact q_ret (e_var (pv 1) rfl)
def f_may_have (kinds_ : (List Int)) (most_ : (List Int)) (chosen_ : (List Int)) : Bool :=
  (((enu most_).map fun p_ => (decide ((((chosen_.filter fun thing_ => (decide ((ix kinds_ thing_) = p_.1))).map fun thing_ => (1 : Int)).length : Int) ≤ p_.2))).all id)
def pre_f_may_have (a_ : (List Int) × (List Int) × (List Int)) : Prop := match a_ with | (kinds_, most_, chosen_) => (∀ t_ ∈ chosen_, 0 ≤ t_ ∧ t_ < (kinds_.length : Int))
set_option maxHeartbeats 4000000 in
theorem ok_f_may_have (T : Tx K mg) : FnOk P W K mg base CX0 1 T.a_may_have T.d_may_have ["kinds", "most", "chosen"] (spG (A := (List Int) × (List Int) × (List Int)) (fun a_ => [aF (rTup rInt) a_.1, aF (rTup rInt) a_.2.1, aF (rTup rInt) a_.2.2]) pre_f_may_have rBool (fun (a_ : (List Int) × (List Int) × (List Int)) => f_may_have a_.1 a_.2.1 a_.2.2) K) := by
  have sc := sc_may_have
  refine fnG T.f_may_have sc (Γa := fun a_ => [some (fz (rTup rInt) a_.1), some (fz (rTup rInt) a_.2.1), some (fz (rTup rInt) a_.2.2)]) (fun _ => (.cons (.cons (.cons .nil)))) (fun _ => rfl) (fun a_ hpre cdv Ar outer s H E hr => ?_)
  obtain ⟨kinds_, most_, chosen_⟩ := a_
  have hpre : (∀ t_ ∈ chosen_, 0 ≤ t_ ∧ t_ < (kinds_.length : Int)) := hpre
  show PSs _ _ (tO _ [(some (fz (rTup rInt) kinds_)), (some (fz (rTup rInt) most_)), (some (fz (rTup rInt) chosen_)), none, none, none] (.rt rBool (f_may_have kinds_ most_ chosen_)))
  refine q_known (i := 0) (R := (rTup rInt)) (x := kinds_) rfl (fun hz_kinds => ?_)
  have hz_kinds := sz_tup hz_kinds
  rw [sizeLine_eq] at hz_kinds
  refine q_known (i := 1) (R := (rTup rInt)) (x := most_) rfl (fun hz_most => ?_)
  have hz_most := sz_tup hz_most
  rw [sizeLine_eq] at hz_most
  refine q_known (i := 2) (R := (rTup rInt)) (x := chosen_) rfl (fun hz_chosen => ?_)
  have hz_chosen := sz_tup hz_chosen
  rw [sizeLine_eq] at hz_chosen
  unfold f_may_have
  exact q_ret (e_all rfl (by rfl) T.z_all (a_L (e_LN (e_lc0 (R := (rPr rInt rInt)) (S := rBool) (own := [("kind", 3), ("count", 4)]) (xs := (enu most_)) (f := fun p_ => (decide ((((chosen_.filter fun thing_ => (decide ((ix kinds_ thing_) = p_.1))).map fun thing_ => (1 : Int)).length : Int) ≤ p_.2))) rfl sc.nd (i_of (f_enumT (by rfl) T.z_enumerate (a_cons (e_var (pv 1) rfl) a_nil)) (by simp only [enu_length, sizeLine_eq]; omega)) (blkOk_by (N := N_may_have) (sc := defScope s_may_have) (by decide +kernel)) (by decide) (fun _ _ _ _ _ => (g_pr rfl (g_name (R := rInt) (i := 3) (pg_name sc.nd rfl (by first | exact .inl rfl | exact .inr rfl))) (g_name (R := rInt) (i := 4) (pg_name sc.nd rfl (by first | exact .inl rfl | exact .inr rfl))))) (fun p_ hp_ _ _ _ _ _ => have hp_2 := mem_enu hp_; (e_le (e_len (R := rInt) (by rfl) T.z_len (a_B (e_BN (e_lc (R := rInt) (S := rInt) (own := [("thing", 5)]) (xs := chosen_) (p := fun thing_ => (decide ((ix kinds_ thing_) = p_.1))) (f := fun thing_ => (1 : Int)) rfl sc.nd (i_tup (e_var (pv 2) rfl)) (blkOk_by (by rfl)) (by decide) (fun _ _ _ _ _ => (g_name (R := rInt) (i := 5) (pg_name sc.nd rfl (by first | exact .inl rfl | exact .inr rfl)))) (fun _ _ _ _ _ => ct_one fun thing_ hthing_ => have hthing_3 := hpre thing_ hthing_; (t_cmp (e_eqS scal_int (e_ix (e_BT (e_var (pv 0) rfl)) (e_var (pv 5) rfl) (by first | omega | assumption | trivial | (simp only [decide_eq_true_eq, decide_eq_false_iff_not, Bool.and_eq_true, Bool.or_eq_true, Bool.not_eq_true', Bool.not_eq_false', Bool.and_eq_false_iff, Bool.or_eq_false_iff] at *; omega))) (e_var (pv 3) rfl)))) (fun thing_ hthing_ hthing_p _ _ _ _ _ => have hthing_3 := hpre thing_ hthing_; e_int))) a_nil)) (e_var (pv 4) rfl))))) a_nil))
def f_may_have_at_l (kinds_ : (List Int)) (most_ : (List Int)) (chosen_ : (List Int)) : Bool :=
  (((enu most_).map fun p_ => (decide ((((chosen_.filter fun thing_ => (decide ((ix kinds_ thing_) = p_.1))).map fun thing_ => (1 : Int)).length : Int) ≤ p_.2))).all id)
def pre_f_may_have_at_l (a_ : (List Int) × (List Int) × (List Int)) : Prop := match a_ with | (kinds_, most_, chosen_) => (∀ t_ ∈ chosen_, 0 ≤ t_ ∧ t_ < (kinds_.length : Int))
set_option maxHeartbeats 4000000 in
theorem ok_f_may_have_at_l (T : Tx K mg) : FnOk P W K mg base CX0 1 T.a_may_have T.d_may_have ["kinds", "most", "chosen"] (spG (A := (List Int) × (List Int) × (List Int)) (fun a_ => [aF (rTup rInt) a_.1, aF (rTup rInt) a_.2.1, aF (rLst rInt) a_.2.2]) pre_f_may_have_at_l rBool (fun (a_ : (List Int) × (List Int) × (List Int)) => f_may_have_at_l a_.1 a_.2.1 a_.2.2) K) := by
  have sc := sc_may_have
  refine fnG T.f_may_have sc (Γa := fun a_ => [some (fz (rTup rInt) a_.1), some (fz (rTup rInt) a_.2.1), some (fz (rLst rInt) a_.2.2)]) (fun _ => (.cons (.cons (.cons .nil)))) (fun _ => rfl) (fun a_ hpre cdv Ar outer s H E hr => ?_)
  obtain ⟨kinds_, most_, chosen_⟩ := a_
  have hpre : (∀ t_ ∈ chosen_, 0 ≤ t_ ∧ t_ < (kinds_.length : Int)) := hpre
  show PSs _ _ (tO _ [(some (fz (rTup rInt) kinds_)), (some (fz (rTup rInt) most_)), (some (fz (rLst rInt) chosen_)), none, none, none] (.rt rBool (f_may_have_at_l kinds_ most_ chosen_)))
  refine q_known (i := 0) (R := (rTup rInt)) (x := kinds_) rfl (fun hz_kinds => ?_)
  have hz_kinds := sz_tup hz_kinds
  rw [sizeLine_eq] at hz_kinds
  refine q_known (i := 1) (R := (rTup rInt)) (x := most_) rfl (fun hz_most => ?_)
  have hz_most := sz_tup hz_most
  rw [sizeLine_eq] at hz_most
  refine q_known (i := 2) (R := (rLst rInt)) (x := chosen_) rfl (fun hz_chosen => ?_)
  have hz_chosen := sz_lst hz_chosen
  rw [sizeLine_eq] at hz_chosen
  unfold f_may_have_at_l
  exact q_ret (e_all rfl (by rfl) T.z_all (a_L (e_LN (e_lc0 (R := (rPr rInt rInt)) (S := rBool) (own := [("kind", 3), ("count", 4)]) (xs := (enu most_)) (f := fun p_ => (decide ((((chosen_.filter fun thing_ => (decide ((ix kinds_ thing_) = p_.1))).map fun thing_ => (1 : Int)).length : Int) ≤ p_.2))) rfl sc.nd (i_of (f_enumT (by rfl) T.z_enumerate (a_cons (e_var (pv 1) rfl) a_nil)) (by simp only [enu_length, sizeLine_eq]; omega)) (blkOk_by (N := N_may_have) (sc := defScope s_may_have) (by decide +kernel)) (by decide) (fun _ _ _ _ _ => (g_pr rfl (g_name (R := rInt) (i := 3) (pg_name sc.nd rfl (by first | exact .inl rfl | exact .inr rfl))) (g_name (R := rInt) (i := 4) (pg_name sc.nd rfl (by first | exact .inl rfl | exact .inr rfl))))) (fun p_ hp_ _ _ _ _ _ => have hp_2 := mem_enu hp_; (e_le (e_len (R := rInt) (by rfl) T.z_len (a_B (e_BN (e_lc (R := rInt) (S := rInt) (own := [("thing", 5)]) (xs := chosen_) (p := fun thing_ => (decide ((ix kinds_ thing_) = p_.1))) (f := fun thing_ => (1 : Int)) rfl sc.nd (i_lst (e_LE (e_var (pv 2) rfl))) (blkOk_by (by rfl)) (by decide) (fun _ _ _ _ _ => (g_name (R := rInt) (i := 5) (pg_name sc.nd rfl (by first | exact .inl rfl | exact .inr rfl)))) (fun _ _ _ _ _ => ct_one fun thing_ hthing_ => have hthing_3 := hpre thing_ hthing_; (t_cmp (e_eqS scal_int (e_ix (e_BT (e_var (pv 0) rfl)) (e_var (pv 5) rfl) (by first | omega | assumption | trivial | (simp only [decide_eq_true_eq, decide_eq_false_iff_not, Bool.and_eq_true, Bool.or_eq_true, Bool.not_eq_true', Bool.not_eq_false', Bool.and_eq_false_iff, Bool.or_eq_false_iff] at *; omega))) (e_var (pv 3) rfl)))) (fun thing_ hthing_ hthing_p _ _ _ _ _ => have hthing_3 := hpre thing_ hthing_; e_int))) a_nil)) (e_var (pv 4) rfl))))) a_nil))
def f_taken_by_worth_l12 (m_ : Int) (kinds_ : (List Int)) (most_ : (List Int)) (s_ : (List Int)) (x_ : (Int × Int)) : (List Int) :=
  let found_3 : (List Int) := (if ((decide ((s_.length : Int) < m_)) && (f_may_have_at_l kinds_ most_ (s_ ++ ([x_.2] : (List Int))))) then (let found_2 : (List Int) := (s_ ++ [x_.2]); found_2) else (s_)); found_3
def f_taken_by_worth (kinds_ : (List Int)) (most_ : (List Int)) (worths_ : (List Int)) (m_ : Int) : (List Int) :=
  let found_ : (List Int) := ([] : (List Int)); let st_ : (List Int) := (sortD (encPr PyData.int PyData.int) ((enu worths_).map fun p_2 => ((-p_2.2), p_2.1))).foldl (f_taken_by_worth_l12 m_ kinds_ most_) found_; (sortI st_)
abbrev byWorth (worths : List Int) : List (Int × Int) := sortD (encPr PyData.int PyData.int) ((enu worths).map fun p => (-p.2, p.1))
theorem byWorth_mem {worths : List Int} {x : Int × Int} (h : x ∈ byWorth worths) : 0 ≤ x.2 ∧ x.2 < worths.length ∧ x.1 = -ix worths x.2 := by
  obtain ⟨p, hp, rfl⟩ := List.mem_map.mp (mem_sortD.mp h)
  have := mem_enu hp
  exact ⟨this.1.1, this.1.2, by rw [← this.2.1]⟩
theorem tbw_inv {kinds most worths : List Int} {m : Int} {pre post : List (Int × Int)} {x : Int × Int} (e : byWorth worths = pre ++ x :: post) : ∀ t ∈ pre.foldl (f_taken_by_worth_l12 m kinds most) [], 0 ≤ t ∧ t < worths.length := by
  refine foldl_invP (fun s => ∀ t ∈ s, 0 ≤ t ∧ t < (worths.length : Int)) e (fun s y hy hs => ?_) (by simp)
  unfold f_taken_by_worth_l12
  dsimp only
  split
  · intro t ht
    rcases List.mem_append.mp ht with h | h
    · exact hs t h
    · have := byWorth_mem hy
      rw [List.mem_singleton.mp h]; exact ⟨this.1, this.2.1⟩
  · exact hs
def pre_f_taken_by_worth (a_ : (List Int) × (List Int) × (List Int) × Int) : Prop := match a_ with | (kinds_, most_, worths_, m_) => worths_.length = kinds_.length ∧ kinds_.length ≤ 100
set_option maxHeartbeats 4000000 in
theorem ok_f_taken_by_worth (T : Tx K mg) : FnOk P W K mg base CX0 2 T.a_taken_by_worth T.d_taken_by_worth ["kinds", "most", "worths", "m"] (spG (A := (List Int) × (List Int) × (List Int) × Int) (fun a_ => [aF (rTup rInt) a_.1, aF (rTup rInt) a_.2.1, aF (rTup rInt) a_.2.2.1, aF rInt a_.2.2.2]) pre_f_taken_by_worth (rTup rInt) (fun (a_ : (List Int) × (List Int) × (List Int) × Int) => f_taken_by_worth a_.1 a_.2.1 a_.2.2.1 a_.2.2.2) K) := by
  have sc := sc_taken_by_worth
  refine fnG T.f_taken_by_worth sc (Γa := fun a_ => [some (fz (rTup rInt) a_.1), some (fz (rTup rInt) a_.2.1), some (fz (rTup rInt) a_.2.2.1), some (fz rInt a_.2.2.2)]) (fun _ => (.cons (.cons (.cons (.cons .nil))))) (fun _ => rfl) (fun a_ hpre cdv Ar outer s H E hr => ?_)
  obtain ⟨kinds_, most_, worths_, m_⟩ := a_
  have hpre : worths_.length = kinds_.length ∧ kinds_.length ≤ 100 := hpre
  show PSs _ _ (tO _ [(some (fz (rTup rInt) kinds_)), (some (fz (rTup rInt) most_)), (some (fz (rTup rInt) worths_)), (some (fz rInt m_)), none, none, none] (.rt (rTup rInt) (f_taken_by_worth kinds_ most_ worths_ m_)))
  refine q_known (i := 0) (R := (rTup rInt)) (x := kinds_) rfl (fun hz_kinds => ?_)
  have hz_kinds := sz_tup hz_kinds
  rw [sizeLine_eq] at hz_kinds
  refine q_known (i := 1) (R := (rTup rInt)) (x := most_) rfl (fun hz_most => ?_)
  have hz_most := sz_tup hz_most
  rw [sizeLine_eq] at hz_most
  refine q_known (i := 2) (R := (rTup rInt)) (x := worths_) rfl (fun hz_worths => ?_)
  have hz_worths := sz_tup hz_worths
  rw [sizeLine_eq] at hz_worths
  unfold f_taken_by_worth
  refine q_setOG (i := 4) (Γ' := fun found_ => [(some (fz (rTup rInt) kinds_)), (some (fz (rTup rInt) most_)), (some (fz (rTup rInt) worths_)), (some (fz rInt m_)), (some (own rInt found_)), none, none]) (ps_set sc.nd rfl (.inl rfl) (e_lstH (R := rInt) h_nil)) (fun _ => rfl) (fun found_ e_found_ => ?_)
  have hln_found_ := congrArg List.length e_found_
  try simp only [List.length_cons, List.length_nil, List.length_map, rg_length, rgd_length, List.length_append] at hln_found_
  refine q_for (R := (rPr rInt rInt)) (xs := (sortD (encPr PyData.int PyData.int) ((enu worths_).map fun p_ => ((-p_.2), p_.1)))) (σ' := (List Int)) (G := fun st_ => [(some (fz (rTup rInt) kinds_)), (some (fz (rTup rInt) most_)), (some (fz (rTup rInt) worths_)), (some (fz rInt m_)), (some (own rInt st_)), none, none]) (g := (f_taken_by_worth_l12 m_ kinds_ most_)) (s0 := found_) PassesOwn.never rfl (f_lst (e_fz (e_sortD (enc_pr enc_int enc_int) (ord_pr ord_int ord_int) shp_pr hr (by rfl) T.z_sorted (a_L (e_LN (e_lc0 (R := (rPr rInt rInt)) (S := (rPr rInt rInt)) (own := [("thing", 6), ("worth", 5)]) (xs := (enu worths_)) (f := fun p_ => ((-p_.2), p_.1)) rfl sc.nd (i_of (f_enumT (by rfl) T.z_enumerate (a_cons (e_var (pv 2) rfl) a_nil)) (by simp only [enu_length, sizeLine_eq]; omega)) (blkOk_by (N := N_taken_by_worth) (sc := defScope s_taken_by_worth) (by decide +kernel)) (by decide) (fun _ _ _ _ _ => (g_pr rfl (g_name (R := rInt) (i := 6) (pg_name sc.nd rfl (by first | exact .inl rfl | exact .inr rfl))) (g_name (R := rInt) (i := 5) (pg_name sc.nd rfl (by first | exact .inl rfl | exact .inr rfl))))) (fun p_ hp_ _ _ _ _ _ => have hp_2 := mem_enu hp_; (e_pr (a_cons (e_neg (e_var (pv 5) rfl)) (a_cons (e_var (pv 6) rfl) a_nil)))))) a_nil)))) (g_pr rfl (g_name (R := rInt) (i := 5) (pg_name sc.nd rfl (by first | exact .inl rfl | exact .inr rfl))) (g_name (R := rInt) (i := 6) (pg_name sc.nd rfl (by first | exact .inl rfl | exact .inr rfl)))) (sub_keep (sub_keep (sub_keep (sub_keep (sub_keep (sub_keep (sub_keep sub_nil))))))) (fun pre_12 x_ post_12 hx_12 => ?_) ?_
  · skip
    generalize hs_12 : List.foldl (f_taken_by_worth_l12 m_ kinds_ most_) found_ pre_12 = st_
    have hlen_found_12 : (st_).length ≤ (found_).length + 1 * (pre_12).length := by rw [← hs_12]; exact foldl_len (fun s_ : (List Int) => (s_).length) 1 (fun s_ x_ => by unfold f_taken_by_worth_l12; dsimp only; (repeat' split) <;> (try simp only [List.length_append, List.length_cons, List.length_nil, List.length_set]) <;> omega) _ _
    have hxl_12 := congrArg List.length hx_12
    simp only [List.length_append, List.length_cons, List.length_nil, List.length_map, List.length_set, List.length_reverse, rg_length, rgd_length, enu_length, sortD_length, sortI_length] at hxl_12
    have hm_12 := xs_mem hx_12
    show PSs _ _ (tO _ [(some (fz (rTup rInt) kinds_)), (some (fz (rTup rInt) most_)), (some (fz (rTup rInt) worths_)), (some (fz rInt m_)), (some (own rInt st_)), (some (fz rInt x_.1)), (some (fz rInt x_.2))] _)
    have hst : ∀ t ∈ st_, 0 ≤ t ∧ t < (worths_.length : Int) := by rw [← hs_12, e_found_]; exact tbw_inv hx_12
    have hx2 := byWorth_mem hm_12
    have hw := hpre.1
    refine q_ifB (fun tt_ => [(some (fz (rTup rInt) kinds_)), (some (fz (rTup rInt) most_)), (some (fz (rTup rInt) worths_)), (some (fz rInt m_)), (some (own rInt (if tt_ then (let found_2 : (List Int) := (st_ ++ [x_.2]); found_2) else (st_)))), (some (fz rInt x_.1)), (some (fz rInt x_.2))]) (PW.pt (w_and (t_cmp (e_lt (e_len (R := rInt) (by rfl) T.z_len (a_B (e_BL (e_own (pv 4) rfl)) a_nil)) (e_var (pv 3) rfl))) (fun hc_ => (w_and1 (t_val (e_callG (x := "may_have") (y := (f_may_have_at_l kinds_ most_ (st_ ++ ([x_.2] : (List Int))))) (kinds_, most_, (st_ ++ ([x_.2] : (List Int)))) ((ok_f_may_have_at_l (P := P) (W := W) (base := base) T).mono (by decide)) hr (by rfl) T.m_may_have T.f_may_have.kp T.b_may_have (a_cons (e_var (pv 0) rfl) (a_cons (e_var (pv 1) rfl) (a_cons (e_fz (e_catL (e_own (pv 4) rfl) (e_LN (e_lstH (R := rInt) (h_cons (e_var (pv 6) rfl) h_nil))) (by first | (simp only [List.length_append, List.length_cons, List.length_nil, List.length_map, List.length_set, List.length_reverse, rg_length, rgd_length, enu_length, sortD_length, sortI_length, sizeLine_eq]; omega) | (simp only [List.length_append, List.length_cons, List.length_nil, List.length_map, List.length_set, List.length_reverse, rg_length, rgd_length, enu_length, sortD_length, sortI_length, sizeLine_eq]; refine Nat.le_trans (Nat.add_le_add_right (List.length_filter_le _ _) _) ?_; omega) | (simp only [List.length_append, List.length_cons, List.length_nil, List.length_map, List.length_set, List.length_reverse, rg_length, rgd_length, enu_length, sortD_length, sortI_length, sizeLine_eq] at *; omega)))) a_nil))) (by simp only [pre_f_may_have_at_l]; rw [← hpre.1]; exact all_app hst (all_one ⟨hx2.1, hx2.2.1⟩)) rfl)))))) (fun hc_13 => ?_) (fun hc_13 => ?_) ?_
    · skip
      refine q_seqG ([(some (fz (rTup rInt) kinds_)), (some (fz (rTup rInt) most_)), (some (fz (rTup rInt) worths_)), (some (fz rInt m_)), (some (own rInt (st_ ++ [x_.2]))), (some (fz rInt x_.1)), (some (fz rInt x_.2))]) (s_app (i := 4) (x := x_.2) (y := "found") (py := ⟨0, 0, 0, 0⟩) (apos := ⟨0, 0, 0, 0⟩) (cpos := ⟨0, 0, 0, 0⟩) rfl (ps_expr (pe_bm PySem.F.plainAttrs_list PySem.F.slot_list_append PySem.F.type_list_append mt_append (pv 4) (pa_cons (e_var (pv 6) rfl) pa_nil))) (by first | (simp only [sizeLine_eq]; omega) | (simp only [List.length_append, List.length_cons, List.length_nil, List.length_map, List.length_set, List.length_reverse, rg_length, rgd_length, enu_length, sortD_length, sortI_length, sizeLine_eq] at *; omega))) rfl ?_
      generalize e_found_3 : (st_ ++ [x_.2]) = found_3
      subst e_found_3
      exact q_nil (sub_keep (sub_keep (sub_keep (sub_keep (sub_keep (sub_keep (sub_keep sub_nil)))))))
    · skip
      exact q_nil (sub_keep (sub_keep (sub_keep (sub_keep (sub_keep (sub_keep (sub_keep sub_nil)))))))
    generalize e_found_4 : (if ((decide ((st_.length : Int) < m_)) && (f_may_have_at_l kinds_ most_ (st_ ++ ([x_.2] : (List Int))))) then (let found_2 : (List Int) := (st_ ++ [x_.2]); found_2) else (st_)) = found_4
    subst e_found_4
    exact q_nil (sub_keep (sub_keep (sub_keep (sub_keep (sub_keep (sub_skip (sub_skip sub_nil)))))))
  · skip
    generalize e_st_2 : List.foldl (f_taken_by_worth_l12 m_ kinds_ most_) found_ (sortD (encPr PyData.int PyData.int) ((enu worths_).map fun p_ => ((-p_.2), p_.1))) = st_2
    have hlen_found_12 : (st_2).length ≤ (found_).length + 1 * ((sortD (encPr PyData.int PyData.int) ((enu worths_).map fun p_ => ((-p_.2), p_.1)))).length := by rw [← e_st_2]; exact foldl_len (fun s_ : (List Int) => (s_).length) 1 (fun s_ x_ => by unfold f_taken_by_worth_l12; dsimp only; (repeat' split) <;> (try simp only [List.length_append, List.length_cons, List.length_nil, List.length_set]) <;> omega) _ _
    try simp only [List.length_append, List.length_cons, List.length_nil, List.length_map, List.length_set, List.length_reverse, rg_length, rgd_length, enu_length, sortD_length, sortI_length] at hlen_found_12
    show PSs _ _ (tO _ [(some (fz (rTup rInt) kinds_)), (some (fz (rTup rInt) most_)), (some (fz (rTup rInt) worths_)), (some (fz rInt m_)), (some (own rInt st_2)), none, none] _)
    subst e_st_2
    subst e_found_
    exact q_ret (e_tupL (by rfl) T.z_tuple (a_L (e_LN (e_sortI (by rfl) T.z_sorted (a_L (e_own (pv 4) rfl) a_nil))) a_nil))
def f_best_set (kinds_ : (List Int)) (most_ : (List Int)) (worths_ : (List Int)) : (List Int) :=
  (f_taken_by_worth kinds_ most_ worths_ (worths_.length : Int))
def pre_f_best_set (a_ : (List Int) × (List Int) × (List Int)) : Prop := match a_ with | (kinds_, most_, worths_) => worths_.length = kinds_.length ∧ kinds_.length ≤ 100
set_option maxHeartbeats 4000000 in
theorem ok_f_best_set (T : Tx K mg) : FnOk P W K mg base CX0 3 T.a_best_set T.d_best_set ["kinds", "most", "worths"] (spG (A := (List Int) × (List Int) × (List Int)) (fun a_ => [aF (rTup rInt) a_.1, aF (rTup rInt) a_.2.1, aF (rTup rInt) a_.2.2]) pre_f_best_set (rTup rInt) (fun (a_ : (List Int) × (List Int) × (List Int)) => f_best_set a_.1 a_.2.1 a_.2.2) K) := by
  have sc := sc_best_set
  refine fnG T.f_best_set sc (Γa := fun a_ => [some (fz (rTup rInt) a_.1), some (fz (rTup rInt) a_.2.1), some (fz (rTup rInt) a_.2.2)]) (fun _ => (.cons (.cons (.cons .nil)))) (fun _ => rfl) (fun a_ hpre cdv Ar outer s H E hr => ?_)
  obtain ⟨kinds_, most_, worths_⟩ := a_
  have hpre : worths_.length = kinds_.length ∧ kinds_.length ≤ 100 := hpre
  show PSs _ _ (tO _ [(some (fz (rTup rInt) kinds_)), (some (fz (rTup rInt) most_)), (some (fz (rTup rInt) worths_))] (.rt (rTup rInt) (f_best_set kinds_ most_ worths_)))
  refine q_known (i := 0) (R := (rTup rInt)) (x := kinds_) rfl (fun hz_kinds => ?_)
  have hz_kinds := sz_tup hz_kinds
  rw [sizeLine_eq] at hz_kinds
  refine q_known (i := 1) (R := (rTup rInt)) (x := most_) rfl (fun hz_most => ?_)
  have hz_most := sz_tup hz_most
  rw [sizeLine_eq] at hz_most
  refine q_known (i := 2) (R := (rTup rInt)) (x := worths_) rfl (fun hz_worths => ?_)
  have hz_worths := sz_tup hz_worths
  rw [sizeLine_eq] at hz_worths
  unfold f_best_set
  exact q_ret (e_callG (x := "taken_by_worth") (y := (f_taken_by_worth kinds_ most_ worths_ (worths_.length : Int))) (kinds_, most_, worths_, (worths_.length : Int)) ((ok_f_taken_by_worth (P := P) (W := W) (base := base) T).mono (by decide)) hr (by rfl) T.m_taken_by_worth T.f_taken_by_worth.kp T.b_taken_by_worth (a_cons (e_var (pv 0) rfl) (a_cons (e_var (pv 1) rfl) (a_cons (e_var (pv 2) rfl) (a_cons (e_len (R := rInt) (by rfl) T.z_len (a_B (e_BT (e_var (pv 2) rfl)) a_nil)) a_nil)))) (by simp only [pre_f_taken_by_worth]; first | omega | assumption | trivial | (simp only [decide_eq_true_eq, decide_eq_false_iff_not, Bool.and_eq_true, Bool.or_eq_true, Bool.not_eq_true', Bool.not_eq_false', Bool.and_eq_false_iff, Bool.or_eq_false_iff] at *; omega)) rfl)
def f_best_of_most (kinds_ : (List Int)) (most_ : (List Int)) (worths_ : (List Int)) (m_ : Int) : (List Int) :=
  (f_taken_by_worth kinds_ most_ worths_ m_)
def pre_f_best_of_most (a_ : (List Int) × (List Int) × (List Int) × Int) : Prop := match a_ with | (kinds_, most_, worths_, m_) => worths_.length = kinds_.length ∧ kinds_.length ≤ 100
set_option maxHeartbeats 4000000 in
theorem ok_f_best_of_most (T : Tx K mg) : FnOk P W K mg base CX0 3 T.a_best_of_most T.d_best_of_most ["kinds", "most", "worths", "m"] (spG (A := (List Int) × (List Int) × (List Int) × Int) (fun a_ => [aF (rTup rInt) a_.1, aF (rTup rInt) a_.2.1, aF (rTup rInt) a_.2.2.1, aF rInt a_.2.2.2]) pre_f_best_of_most (rTup rInt) (fun (a_ : (List Int) × (List Int) × (List Int) × Int) => f_best_of_most a_.1 a_.2.1 a_.2.2.1 a_.2.2.2) K) := by
  have sc := sc_best_of_most
  refine fnG T.f_best_of_most sc (Γa := fun a_ => [some (fz (rTup rInt) a_.1), some (fz (rTup rInt) a_.2.1), some (fz (rTup rInt) a_.2.2.1), some (fz rInt a_.2.2.2)]) (fun _ => (.cons (.cons (.cons (.cons .nil))))) (fun _ => rfl) (fun a_ hpre cdv Ar outer s H E hr => ?_)
  obtain ⟨kinds_, most_, worths_, m_⟩ := a_
  have hpre : worths_.length = kinds_.length ∧ kinds_.length ≤ 100 := hpre
  show PSs _ _ (tO _ [(some (fz (rTup rInt) kinds_)), (some (fz (rTup rInt) most_)), (some (fz (rTup rInt) worths_)), (some (fz rInt m_))] (.rt (rTup rInt) (f_best_of_most kinds_ most_ worths_ m_)))
  refine q_known (i := 0) (R := (rTup rInt)) (x := kinds_) rfl (fun hz_kinds => ?_)
  have hz_kinds := sz_tup hz_kinds
  rw [sizeLine_eq] at hz_kinds
  refine q_known (i := 1) (R := (rTup rInt)) (x := most_) rfl (fun hz_most => ?_)
  have hz_most := sz_tup hz_most
  rw [sizeLine_eq] at hz_most
  refine q_known (i := 2) (R := (rTup rInt)) (x := worths_) rfl (fun hz_worths => ?_)
  have hz_worths := sz_tup hz_worths
  rw [sizeLine_eq] at hz_worths
  unfold f_best_of_most
  exact q_ret (e_callG (x := "taken_by_worth") (y := (f_taken_by_worth kinds_ most_ worths_ m_)) (kinds_, most_, worths_, m_) ((ok_f_taken_by_worth (P := P) (W := W) (base := base) T).mono (by decide)) hr (by rfl) T.m_taken_by_worth T.f_taken_by_worth.kp T.b_taken_by_worth (a_cons (e_var (pv 0) rfl) (a_cons (e_var (pv 1) rfl) (a_cons (e_var (pv 2) rfl) (a_cons (e_var (pv 3) rfl) a_nil)))) (by simp only [pre_f_taken_by_worth]; first | omega | assumption | trivial | (simp only [decide_eq_true_eq, decide_eq_false_iff_not, Bool.and_eq_true, Bool.or_eq_true, Bool.not_eq_true', Bool.not_eq_false', Bool.and_eq_false_iff, Bool.or_eq_false_iff] at *; omega)) rfl)
def f_all_may (kinds_ : (List Int)) (most_ : (List Int)) : Int :=
  ((((f_all_sets (kinds_.length : Int)).filter fun chosen_ => (f_may_have kinds_ most_ chosen_)).map fun chosen_ => (1 : Int)).length : Int)
theorem f_all_sets_eq (n : Int) : f_all_sets n = setsOf (rg 0 n) := by
  have : f_all_sets n = (rgd (n - 1) (-1)).foldl setStep [[]] := rfl
  rw [this, foldl_setStep, rgd_rev]
theorem all_sets_mem {n : Int} {r : List Int} (h : r ∈ f_all_sets n) {t : Int} (ht : t ∈ r) : 0 ≤ t ∧ t < n := by
  rw [f_all_sets_eq] at h
  exact mem_rg ((mem_setsOf.mp h).subset ht)
def pre_f_all_may (a_ : (List Int) × (List Int)) : Prop := match a_ with | (kinds_, most_) => kinds_.length ≤ 12
set_option maxHeartbeats 4000000 in
theorem ok_f_all_may (T : Tx K mg) : FnOk P W K mg base CX0 2 T.a_all_may T.d_all_may ["kinds", "most"] (spG (A := (List Int) × (List Int)) (fun a_ => [aF (rTup rInt) a_.1, aF (rTup rInt) a_.2]) pre_f_all_may rInt (fun (a_ : (List Int) × (List Int)) => f_all_may a_.1 a_.2) K) := by
  have sc := sc_all_may
  refine fnG T.f_all_may sc (Γa := fun a_ => [some (fz (rTup rInt) a_.1), some (fz (rTup rInt) a_.2)]) (fun _ => (.cons (.cons .nil))) (fun _ => rfl) (fun a_ hpre cdv Ar outer s H E hr => ?_)
  obtain ⟨kinds_, most_⟩ := a_
  have hpre : kinds_.length ≤ 12 := hpre
  show PSs _ _ (tO _ [(some (fz (rTup rInt) kinds_)), (some (fz (rTup rInt) most_)), none] (.rt rInt (f_all_may kinds_ most_)))
  refine q_known (i := 0) (R := (rTup rInt)) (x := kinds_) rfl (fun hz_kinds => ?_)
  have hz_kinds := sz_tup hz_kinds
  rw [sizeLine_eq] at hz_kinds
  refine q_known (i := 1) (R := (rTup rInt)) (x := most_) rfl (fun hz_most => ?_)
  have hz_most := sz_tup hz_most
  rw [sizeLine_eq] at hz_most
  unfold f_all_may
  exact q_ret (e_len (R := rInt) (by rfl) T.z_len (a_B (e_BN (e_lc (R := (rTup rInt)) (S := rInt) (own := [("chosen", 2)]) (xs := (f_all_sets (kinds_.length : Int))) (p := fun chosen_ => (f_may_have kinds_ most_ chosen_)) (f := fun chosen_ => (1 : Int)) rfl sc.nd (i_lst (e_LE (e_callG (x := "all_sets") (y := (f_all_sets (kinds_.length : Int))) (kinds_.length : Int) ((ok_f_all_sets (P := P) (W := W) (base := base) T).mono (by decide)) hr (by rfl) T.m_all_sets T.f_all_sets.kp T.b_all_sets (a_cons (e_len (R := rInt) (by rfl) T.z_len (a_B (e_BT (e_var (pv 0) rfl)) a_nil)) a_nil) (by simp only [pre_f_all_sets]; first | omega | assumption | trivial | (simp only [decide_eq_true_eq, decide_eq_false_iff_not, Bool.and_eq_true, Bool.or_eq_true, Bool.not_eq_true', Bool.not_eq_false', Bool.and_eq_false_iff, Bool.or_eq_false_iff] at *; omega)) rfl))) (blkOk_by (N := N_all_may) (sc := defScope s_all_may) (by decide +kernel)) (by decide) (fun _ _ _ _ _ => (g_name (R := (rTup rInt)) (i := 2) (pg_name sc.nd rfl (by first | exact .inl rfl | exact .inr rfl)))) (fun _ _ _ _ _ => ct_one fun chosen_ hchosen_ => (t_val (e_callG (x := "may_have") (y := (f_may_have kinds_ most_ chosen_)) (kinds_, most_, chosen_) ((ok_f_may_have (P := P) (W := W) (base := base) T).mono (by decide)) hr (by rfl) T.m_may_have T.f_may_have.kp T.b_may_have (a_cons (e_var (pv 0) rfl) (a_cons (e_var (pv 1) rfl) (a_cons (e_var (pv 2) rfl) a_nil))) (by simp only [pre_f_may_have]; exact fun t ht => all_sets_mem hchosen_ ht) rfl))) (fun chosen_ hchosen_ hchosen_p _ _ _ _ _ => e_int))) a_nil))
def f_swapped_in (kinds_ : (List Int)) (most_ : (List Int)) (chosen_ : (List Int)) (thing_ : Int) : (Option (List Int)) :=
  (if (f_may_have kinds_ most_ (chosen_ ++ [thing_])) then ((some ([] : (List Int)))) else (let found_ : (List Int) := ((chosen_.filter fun other_ => (f_may_have kinds_ most_ (((chosen_.filter fun one_ => (!decide (one_ = other_))).map fun one_ => one_) ++ [thing_]))).map fun other_ => other_); (if (!found_.isEmpty) then (some found_) else none)))
def pre_f_swapped_in (a_ : (List Int) × (List Int) × (List Int) × Int) : Prop := match a_ with | (kinds_, most_, chosen_, thing_) => (∀ t_ ∈ chosen_, 0 ≤ t_ ∧ t_ < (kinds_.length : Int)) ∧ 0 ≤ thing_ ∧ thing_ < (kinds_.length : Int) ∧ chosen_.length ≤ 100
set_option maxHeartbeats 4000000 in
theorem ok_f_swapped_in (T : Tx K mg) : FnOk P W K mg base CX0 2 T.a_swapped_in T.d_swapped_in ["kinds", "most", "chosen", "thing"] (spG (A := (List Int) × (List Int) × (List Int) × Int) (fun a_ => [aF (rTup rInt) a_.1, aF (rTup rInt) a_.2.1, aF (rTup rInt) a_.2.2.1, aF rInt a_.2.2.2]) pre_f_swapped_in (rOpt (rTup rInt)) (fun (a_ : (List Int) × (List Int) × (List Int) × Int) => f_swapped_in a_.1 a_.2.1 a_.2.2.1 a_.2.2.2) K) := by
  have sc := sc_swapped_in
  refine fnG T.f_swapped_in sc (Γa := fun a_ => [some (fz (rTup rInt) a_.1), some (fz (rTup rInt) a_.2.1), some (fz (rTup rInt) a_.2.2.1), some (fz rInt a_.2.2.2)]) (fun _ => (.cons (.cons (.cons (.cons .nil))))) (fun _ => rfl) (fun a_ hpre cdv Ar outer s H E hr => ?_)
  obtain ⟨kinds_, most_, chosen_, thing_⟩ := a_
  have hpre : (∀ t_ ∈ chosen_, 0 ≤ t_ ∧ t_ < (kinds_.length : Int)) ∧ 0 ≤ thing_ ∧ thing_ < (kinds_.length : Int) ∧ chosen_.length ≤ 100 := hpre
  show PSs _ _ (tO _ [(some (fz (rTup rInt) kinds_)), (some (fz (rTup rInt) most_)), (some (fz (rTup rInt) chosen_)), (some (fz rInt thing_)), none, none, none] (.rt (rOpt (rTup rInt)) (f_swapped_in kinds_ most_ chosen_ thing_)))
  refine q_known (i := 0) (R := (rTup rInt)) (x := kinds_) rfl (fun hz_kinds => ?_)
  have hz_kinds := sz_tup hz_kinds
  rw [sizeLine_eq] at hz_kinds
  refine q_known (i := 1) (R := (rTup rInt)) (x := most_) rfl (fun hz_most => ?_)
  have hz_most := sz_tup hz_most
  rw [sizeLine_eq] at hz_most
  refine q_known (i := 2) (R := (rTup rInt)) (x := chosen_) rfl (fun hz_chosen => ?_)
  have hz_chosen := sz_tup hz_chosen
  rw [sizeLine_eq] at hz_chosen
  unfold f_swapped_in
  refine q_ifR (t_val (e_callG (x := "may_have") (y := (f_may_have kinds_ most_ (chosen_ ++ [thing_]))) (kinds_, most_, (chosen_ ++ [thing_])) ((ok_f_may_have (P := P) (W := W) (base := base) T).mono (by decide)) hr (by rfl) T.m_may_have T.f_may_have.kp T.b_may_have (a_cons (e_var (pv 0) rfl) (a_cons (e_var (pv 1) rfl) (a_cons (e_catT (e_var (pv 2) rfl) (e_tupH (R := rInt) (h_cons (e_var (pv 3) rfl) h_nil)) (by first | (simp only [List.length_append, List.length_cons, List.length_nil, List.length_map, List.length_set, List.length_reverse, rg_length, rgd_length, enu_length, sortD_length, sortI_length, sizeLine_eq]; omega) | (simp only [List.length_append, List.length_cons, List.length_nil, List.length_map, List.length_set, List.length_reverse, rg_length, rgd_length, enu_length, sortD_length, sortI_length, sizeLine_eq]; refine Nat.le_trans (Nat.add_le_add_right (List.length_filter_le _ _) _) ?_; omega) | (simp only [List.length_append, List.length_cons, List.length_nil, List.length_map, List.length_set, List.length_reverse, rg_length, rgd_length, enu_length, sortD_length, sortI_length, sizeLine_eq] at *; omega))) a_nil))) (by simp only [pre_f_may_have]; exact all_app hpre.1 (all_one ⟨hpre.2.1, hpre.2.2.1⟩)) rfl)) (fun hc_23 => ?_) (fun hc_23 => ?_)
  · skip
    exact q_ret (e_some (e_tupH (R := rInt) h_nil))
  · skip
    refine q_setG (i := 4) (Γ' := fun found_ => [(some (fz (rTup rInt) kinds_)), (some (fz (rTup rInt) most_)), (some (fz (rTup rInt) chosen_)), (some (fz rInt thing_)), (some (fz (rTup rInt) found_)), none, none]) (ps_set sc.nd rfl (.inl rfl) (e_tupL (by rfl) T.z_tuple (a_L (e_LN (e_lc (R := rInt) (S := rInt) (own := [("other", 5)]) (xs := chosen_) (p := fun other_ => (f_may_have kinds_ most_ (((chosen_.filter fun one_ => (!decide (one_ = other_))).map fun one_ => one_) ++ [thing_]))) (f := fun other_ => other_) rfl sc.nd (i_tup (e_var (pv 2) rfl)) (blkOk_by (N := N_swapped_in) (sc := defScope s_swapped_in) (by decide +kernel)) (by decide) (fun _ _ _ _ _ => (g_name (R := rInt) (i := 5) (pg_name sc.nd rfl (by first | exact .inl rfl | exact .inr rfl)))) (fun _ _ _ _ _ => ct_one fun other_ hother_ => have hother_3 := hpre.1 other_ hother_; (t_val (e_callG (x := "may_have") (y := (f_may_have kinds_ most_ (((chosen_.filter fun one_ => (!decide (one_ = other_))).map fun one_ => one_) ++ [thing_]))) (kinds_, most_, (((chosen_.filter fun one_ => (!decide (one_ = other_))).map fun one_ => one_) ++ [thing_])) ((ok_f_may_have (P := P) (W := W) (base := base) T).mono (by decide)) hr (by rfl) T.m_may_have T.f_may_have.kp T.b_may_have (a_cons (e_var (pv 0) rfl) (a_cons (e_var (pv 1) rfl) (a_cons (e_catT (e_tupL (by rfl) T.z_tuple (a_L (e_LN (e_lc (R := rInt) (S := rInt) (own := [("one", 6)]) (xs := chosen_) (p := fun one_ => (!decide (one_ = other_))) (f := fun one_ => one_) rfl sc.nd (i_tup (e_var (pv 2) rfl)) (blkOk_by (by rfl)) (by decide) (fun _ _ _ _ _ => (g_name (R := rInt) (i := 6) (pg_name sc.nd rfl (by first | exact .inl rfl | exact .inr rfl)))) (fun _ _ _ _ _ => ct_one fun one_ hone_ => have hone_3 := hpre.1 one_ hone_; (t_cmp (e_neS scal_int (e_var (pv 6) rfl) (e_var (pv 5) rfl)))) (fun one_ hone_ hone_p _ _ _ _ _ => have hone_3 := hpre.1 one_ hone_; (e_var (pv 6) rfl)))) a_nil)) (e_tupH (R := rInt) (h_cons (e_var (pv 3) rfl) h_nil)) (by first | (simp only [List.length_append, List.length_cons, List.length_nil, List.length_map, List.length_set, List.length_reverse, rg_length, rgd_length, enu_length, sortD_length, sortI_length, sizeLine_eq]; omega) | (simp only [List.length_append, List.length_cons, List.length_nil, List.length_map, List.length_set, List.length_reverse, rg_length, rgd_length, enu_length, sortD_length, sortI_length, sizeLine_eq]; refine Nat.le_trans (Nat.add_le_add_right (List.length_filter_le _ _) _) ?_; omega) | (simp only [List.length_append, List.length_cons, List.length_nil, List.length_map, List.length_set, List.length_reverse, rg_length, rgd_length, enu_length, sortD_length, sortI_length, sizeLine_eq] at *; omega))) a_nil))) (by simp only [pre_f_may_have]; exact all_app (all_filterm hpre.1) (all_one ⟨hpre.2.1, hpre.2.2.1⟩)) rfl))) (fun other_ hother_ hother_p _ _ _ _ _ => have hother_3 := hpre.1 other_ hother_; (e_var (pv 5) rfl)))) a_nil))) (fun _ => rfl) (fun found_ e_found_ => ?_)
    subst e_found_
    exact q_ret (e_if (t_tup (e_var (pv 4) rfl)) (fun hc_ => (e_some (e_var (pv 4) rfl))) (fun hc_ => e_non))
def f_law_ways_l64  (s_ : (List Int)) (x_ : Int) : (List Int) :=
  let row_2 : (List Int) := ((([(1 : Int)] : (List Int)) ++ ((rg 0 ((s_.length : Int) - (1 : Int))).map fun k_ => ((ix s_ k_) + (ix s_ (k_ + (1 : Int)))))) ++ ([(1 : Int)] : (List Int))); row_2
def f_law_ways (many_ : Int) (most_ : Int) : Int :=
  let row_ : (List Int) := ([(1 : Int)] : (List Int)); let st_ : (List Int) := (rg 0 many_).foldl (f_law_ways_l64) row_; (cut st_ none (some (most_ + (1 : Int)))).sum
theorem ways_len (L : List Int) : (L.foldl f_law_ways_l64 [1]).length = L.length + 1 := by
  have : ∀ (L : List Int) (s : List Int), 1 ≤ s.length → (L.foldl f_law_ways_l64 s).length = L.length + s.length := by
    intro L
    induction L with
    | nil => intro s _; simp
    | cons x L ih =>
      intro s hs
      have e : (f_law_ways_l64 s x).length = s.length + 1 := by
        unfold f_law_ways_l64
        simp only [List.length_append, List.length_cons, List.length_nil, List.length_map, rg_length]
        omega
      rw [List.foldl_cons, ih _ (by omega), e, List.length_cons]; omega
  exact this L [1] (by simp)
def pre_f_law_ways (a_ : Int × Int) : Prop := match a_ with | (many_, most_) => 0 ≤ many_ ∧ many_ ≤ 100
set_option maxHeartbeats 4000000 in
theorem ok_f_law_ways (T : Tx K mg) : FnOk P W K mg base CX0 1 T.a__law_ways T.d__law_ways ["many", "most"] (spG (A := Int × Int) (fun a_ => [aF rInt a_.1, aF rInt a_.2]) pre_f_law_ways rInt (fun (a_ : Int × Int) => f_law_ways a_.1 a_.2) K) := by
  have sc := sc__law_ways
  refine fnG T.f__law_ways sc (Γa := fun a_ => [some (fz rInt a_.1), some (fz rInt a_.2)]) (fun _ => (.cons (.cons .nil))) (fun _ => rfl) (fun a_ hpre cdv Ar outer s H E hr => ?_)
  obtain ⟨many_, most_⟩ := a_
  have hpre : 0 ≤ many_ ∧ many_ ≤ 100 := hpre
  show PSs _ _ (tO _ [(some (fz rInt many_)), (some (fz rInt most_)), none, none, none] (.rt rInt (f_law_ways many_ most_)))
  unfold f_law_ways
  refine q_setG (i := 2) (Γ' := fun row_ => [(some (fz rInt many_)), (some (fz rInt most_)), (some (fz (rLst rInt) row_)), none, none]) (ps_set sc.nd rfl (.inr rfl) (e_fz (e_lstH (R := rInt) (h_cons e_int h_nil)))) (fun _ => rfl) (fun row_ e_row_ => ?_)
  refine q_for (R := rInt) (xs := (rg 0 many_)) (σ' := (List Int)) (G := fun st_ => [(some (fz rInt many_)), (some (fz rInt most_)), (some (fz (rLst rInt) st_)), none, none]) (g := (f_law_ways_l64)) (s0 := row_) PassesOwn.never rfl (f_rg1 (by rfl) T.z_range (a_cons (e_var (pv 0) rfl) a_nil) (by first | omega | assumption | trivial | (simp only [decide_eq_true_eq, decide_eq_false_iff_not, Bool.and_eq_true, Bool.or_eq_true, Bool.not_eq_true', Bool.not_eq_false', Bool.and_eq_false_iff, Bool.or_eq_false_iff] at *; omega))) (g_name (R := rInt) (i := 3) (pg_name sc.nd rfl (by first | exact .inl rfl | exact .inr rfl))) (sub_keep (sub_keep (sub_keep (sub_keep (sub_keep sub_nil))))) (fun pre_64 turn_ post_64 hx_64 => ?_) ?_
  · skip
    generalize hs_64 : List.foldl (f_law_ways_l64) row_ pre_64 = st_
    have hxl_64 := congrArg List.length hx_64
    simp only [List.length_append, List.length_cons, List.length_nil, List.length_map, List.length_set, List.length_reverse, rg_length, rgd_length, enu_length, sortD_length, sortI_length] at hxl_64
    have hm_64 := mem_rg (xs_mem hx_64)
    show PSs _ _ (tO _ [(some (fz rInt many_)), (some (fz rInt most_)), (some (fz (rLst rInt) st_)), (some (fz rInt turn_)), none] _)
    have hrl : st_.length = pre_64.length + 1 := by rw [← hs_64, e_row_]; exact ways_len pre_64
    refine q_setG (i := 2) (Γ' := fun row_2 => [(some (fz rInt many_)), (some (fz rInt most_)), (some (fz (rLst rInt) row_2)), (some (fz rInt turn_)), none]) (ps_set sc.nd rfl (.inr rfl) (e_fz (e_catL (e_LN (e_catL (e_LN (e_lstH (R := rInt) (h_cons e_int h_nil))) (e_LN (e_lc0 (R := rInt) (S := rInt) (own := [("k", 4)]) (xs := (rg 0 ((st_.length : Int) - (1 : Int)))) (f := fun k_ => ((ix st_ k_) + (ix st_ (k_ + (1 : Int))))) rfl sc.nd (i_of (f_rg1 (by rfl) T.z_range (a_cons (e_sub (e_len (R := rInt) (by rfl) T.z_len (a_B (e_BE (e_var (pv 2) rfl)) a_nil)) e_int) a_nil) (by first | omega | assumption | trivial | (simp only [decide_eq_true_eq, decide_eq_false_iff_not, Bool.and_eq_true, Bool.or_eq_true, Bool.not_eq_true', Bool.not_eq_false', Bool.and_eq_false_iff, Bool.or_eq_false_iff] at *; omega))) (by simp only [rg_length, rgd_length, sizeLine_eq]; omega)) (blkOk_by (N := N__law_ways) (sc := defScope s__law_ways) (by decide +kernel)) (by decide) (fun _ _ _ _ _ => (g_name (R := rInt) (i := 4) (pg_name sc.nd rfl (by first | exact .inl rfl | exact .inr rfl)))) (fun k_ hk_ _ _ _ _ _ => have hk_2 := mem_rg hk_; (e_add (e_ix (e_BE (e_var (pv 2) rfl)) (e_var (pv 4) rfl) (by first | omega | assumption | trivial | (simp only [decide_eq_true_eq, decide_eq_false_iff_not, Bool.and_eq_true, Bool.or_eq_true, Bool.not_eq_true', Bool.not_eq_false', Bool.and_eq_false_iff, Bool.or_eq_false_iff] at *; omega))) (e_ix (e_BE (e_var (pv 2) rfl)) (e_add (e_var (pv 4) rfl) e_int) (by first | omega | assumption | trivial | (simp only [decide_eq_true_eq, decide_eq_false_iff_not, Bool.and_eq_true, Bool.or_eq_true, Bool.not_eq_true', Bool.not_eq_false', Bool.and_eq_false_iff, Bool.or_eq_false_iff] at *; omega))))))) (by first | (simp only [List.length_append, List.length_cons, List.length_nil, List.length_map, List.length_set, List.length_reverse, rg_length, rgd_length, enu_length, sortD_length, sortI_length, sizeLine_eq]; omega) | (simp only [List.length_append, List.length_cons, List.length_nil, List.length_map, List.length_set, List.length_reverse, rg_length, rgd_length, enu_length, sortD_length, sortI_length, sizeLine_eq]; refine Nat.le_trans (Nat.add_le_add_right (List.length_filter_le _ _) _) ?_; omega) | (simp only [List.length_append, List.length_cons, List.length_nil, List.length_map, List.length_set, List.length_reverse, rg_length, rgd_length, enu_length, sortD_length, sortI_length, sizeLine_eq] at *; omega)))) (e_LN (e_lstH (R := rInt) (h_cons e_int h_nil))) (by first | (simp only [List.length_append, List.length_cons, List.length_nil, List.length_map, List.length_set, List.length_reverse, rg_length, rgd_length, enu_length, sortD_length, sortI_length, sizeLine_eq]; omega) | (simp only [List.length_append, List.length_cons, List.length_nil, List.length_map, List.length_set, List.length_reverse, rg_length, rgd_length, enu_length, sortD_length, sortI_length, sizeLine_eq]; refine Nat.le_trans (Nat.add_le_add_right (List.length_filter_le _ _) _) ?_; omega) | (simp only [List.length_append, List.length_cons, List.length_nil, List.length_map, List.length_set, List.length_reverse, rg_length, rgd_length, enu_length, sortD_length, sortI_length, sizeLine_eq] at *; omega))))) (fun _ => rfl) (fun row_2 e_row_2 => ?_)
    subst e_row_2
    exact q_nil (sub_keep (sub_keep (sub_keep (sub_skip (sub_keep sub_nil)))))
  · skip
    generalize e_st_2 : List.foldl (f_law_ways_l64) row_ (rg 0 many_) = st_2
    show PSs _ _ (tO _ [(some (fz rInt many_)), (some (fz rInt most_)), (some (fz (rLst rInt) st_2)), none, none] _)
    subst e_st_2
    subst e_row_
    exact q_ret (e_sum rfl (by rfl) T.z_sum (a_L (e_LN (e_cutL (e_LE (e_var (pv 2) rfl)) o_none (o_some (e_add (e_var (pv 1) rfl) e_int)))) a_nil))
def f_law (_ : (List Int)) : Bool := true
def f_law_l75 (n_ : Int) (worths_ : (List Int)) (kinds_ : (List Int)) (most_ : (List Int)) (s_ : Int × (List (Int × Int))) (x_ : Int) : Int × (List (Int × Int)) :=
  let own_ : (List (Int × Int)) := (sortD (encPr PyData.int PyData.int) (((rg 0 n_).filter fun k_4 => (decide ((ix kinds_ k_4) = x_))).map fun k_4 => ((-(ix worths_ k_4)), k_4))); let ways_2 : Int := (s_.1 * (f_law_ways (own_.length : Int) (ix most_ x_))); let taken_2 : (List (Int × Int)) := (s_.2 ++ (cut own_ none (some (ix most_ x_)))); (ways_2, taken_2)
def f_law_l89 (most_ : (List Int)) (kinds_ : (List Int)) (s_ : (List Int)) (x_ : Int) : (List Int) :=
  let chosen_3 : (List Int) := (if (decide ((((s_.filter fun j_ => (decide ((ix kinds_ j_) = (ix kinds_ x_)))).map fun j_ => j_).length : Int) < (ix most_ (ix kinds_ x_)))) then (let chosen_2 : (List Int) := (s_ ++ [x_]); chosen_2) else (s_)); chosen_3
/-! the plain law of things by kinds -/
structure Dat (n : Int) (kinds worths most : List Int) : Prop where
  n1 : 1 ≤ n
  n9 : n ≤ 9
  kl : (kinds.length : Int) = n
  wl : (worths.length : Int) = n
  ml : most.length = 4
  kr : ∀ k, 0 ≤ k → k < n → 0 ≤ ix kinds k ∧ ix kinds k < 4
  mr : ∀ k, 0 ≤ k → k < 4 → 0 ≤ ix most k ∧ ix most k < 6
theorem rg4 : rg 0 4 = [0, 1, 2, 3] := rfl
/-- how many of a kind -/
def cnt (kinds : List Int) (j : Int) (r : List Int) : Int := ((r.filter fun t => decide (ix kinds t = j)).length : Int)
theorem cnt_nil (kinds : List Int) (j : Int) : cnt kinds j [] = 0 := rfl
theorem cnt_cons (kinds : List Int) (j t : Int) (r : List Int) : cnt kinds j (t :: r) = (if ix kinds t = j then 1 else 0) + cnt kinds j r := by
  unfold cnt
  by_cases h : ix kinds t = j
  · rw [List.filter_cons_of_pos (by simpa using h), if_pos h, List.length_cons]; omega
  · rw [List.filter_cons_of_neg (by simpa using h), if_neg h]; omega
theorem cnt_app (kinds : List Int) (j : Int) (r s : List Int) : cnt kinds j (r ++ s) = cnt kinds j r + cnt kinds j s := by
  unfold cnt; rw [List.filter_append, List.length_append]; omega
theorem cnt_nn (kinds : List Int) (j : Int) (r : List Int) : 0 ≤ cnt kinds j r := by unfold cnt; omega
def okc (kinds : List Int) (c : Int → Int) (r : List Int) : Bool := decide (cnt kinds 0 r ≤ c 0) && (decide (cnt kinds 1 r ≤ c 1) && (decide (cnt kinds 2 r ≤ c 2) && decide (cnt kinds 3 r ≤ c 3)))
theorem okc_iff {kinds : List Int} {c : Int → Int} {r : List Int} : okc kinds c r = true ↔ ∀ j, 0 ≤ j → j < 4 → cnt kinds j r ≤ c j := by
  unfold okc
  simp only [Bool.and_eq_true, decide_eq_true_eq]
  constructor
  · rintro ⟨h0, h1, h2, h3⟩ j a b
    have : j = 0 ∨ j = 1 ∨ j = 2 ∨ j = 3 := by omega
    rcases this with rfl | rfl | rfl | rfl <;> assumption
  · intro h
    exact ⟨h 0 (by omega) (by omega), h 1 (by omega) (by omega), h 2 (by omega) (by omega), h 3 (by omega) (by omega)⟩
theorem may_eq {kinds most : List Int} (hm : most.length = 4) (r : List Int) : f_may_have kinds most r = okc kinds (ix most) r := by
  unfold f_may_have okc
  rw [enu_eq, hm]
  show ((rg 0 4).map _ |>.map _).all id = _
  rw [rg4]
  simp only [List.map_cons, List.map_nil, List.all_cons, List.all_nil, id, Bool.and_true, List.length_map]
  rfl
theorem may_eq_l {kinds most : List Int} (hm : most.length = 4) (r : List Int) : f_may_have_at_l kinds most r = okc kinds (ix most) r := may_eq hm r
/-! counted -/
def bs : Nat → Int → Int
  | 0, c => if 0 ≤ c then 1 else 0
  | m + 1, c => bs m (c - 1) + bs m c
def dec (c : Int → Int) (j : Int) : Int → Int := fun i => if i = j then c i - 1 else c i
theorem okc_cons {kinds : List Int} {c : Int → Int} {t : Int} {r : List Int} : okc kinds c (t :: r) = okc kinds (dec c (ix kinds t)) r := by
  rw [Bool.eq_iff_iff, okc_iff, okc_iff]
  constructor
  · intro h j a b
    have := h j a b
    rw [cnt_cons] at this
    unfold dec
    by_cases e : ix kinds t = j
    · rw [if_pos e] at this; rw [if_pos e.symm]; omega
    · rw [if_neg e] at this; rw [if_neg (Ne.symm e)]; omega
  · intro h j a b
    have := h j a b
    rw [cnt_cons]
    unfold dec at this
    by_cases e : ix kinds t = j
    · rw [if_pos e.symm] at this; rw [if_pos e]; omega
    · rw [if_neg (Ne.symm e)] at this; rw [if_neg e]; omega
theorem count_all (kinds : List Int) : ∀ (L : List Int) (c : Int → Int), (∀ t ∈ L, 0 ≤ ix kinds t ∧ ix kinds t < 4) →
    (((setsOf L).countP (okc kinds c) : Nat) : Int) = bs (cnt kinds 0 L).toNat (c 0) * bs (cnt kinds 1 L).toNat (c 1) * bs (cnt kinds 2 L).toNat (c 2) * bs (cnt kinds 3 L).toNat (c 3)
  | [], c, _ => by
    show ((([[]] : List (List Int)).countP (okc kinds c) : Nat) : Int) = _
    rw [List.countP_cons, List.countP_nil]
    simp only [cnt_nil, Int.toNat_zero, bs, okc]
    by_cases h0 : 0 ≤ c 0 <;> by_cases h1 : 0 ≤ c 1 <;> by_cases h2 : 0 ≤ c 2 <;> by_cases h3 : 0 ≤ c 3 <;> simp [h0, h1, h2, h3]
  | t :: L, c, h => by
    have hL : ∀ t ∈ L, 0 ≤ ix kinds t ∧ ix kinds t < 4 := fun u hu => h u (List.mem_cons_of_mem _ hu)
    rw [setsOf_count]
    have e : (fun r => okc kinds c (t :: r)) = okc kinds (dec c (ix kinds t)) := funext fun r => okc_cons
    rw [e, Int.natCast_add, count_all kinds L _ hL, count_all kinds L c hL]
    simp only [cnt_cons]
    have n0 := cnt_nn kinds 0 L
    have n1 := cnt_nn kinds 1 L
    have n2 := cnt_nn kinds 2 L
    have n3 := cnt_nn kinds 3 L
    have step : ∀ m : Int, 0 ≤ m → (1 + m).toNat = m.toNat + 1 := fun m _ => by omega
    have ht := h t List.mem_cons_self
    have : ix kinds t = 0 ∨ ix kinds t = 1 ∨ ix kinds t = 2 ∨ ix kinds t = 3 := by omega
    rcases this with e | e | e | e <;> simp [e, dec, step, n0, n1, n2, n3, bs, Int.add_mul, Int.mul_add]
/-! the row of ways -/
def ch : Nat → Nat → Int
  | 0, 0 => 1
  | 0, _ + 1 => 0
  | _ + 1, 0 => 1
  | m + 1, k + 1 => ch m k + ch m (k + 1)
theorem ch_zero : ∀ m, ch m 0 = 1
  | 0 => rfl
  | _ + 1 => rfl
theorem ch_big : ∀ {m k : Nat}, m < k → ch m k = 0
  | 0, k + 1, _ => rfl
  | m + 1, k + 1, h => by
    rw [ch, ch_big (by omega), ch_big (by omega)]; rfl
theorem ch_diag : ∀ m, ch m m = 1
  | 0 => rfl
  | m + 1 => by rw [ch, ch_diag m, ch_big (by omega)]; rfl
theorem ways_step (m : Nat) (x : Int) : f_law_ways_l64 ((List.range (m + 1)).map (ch m)) x = (List.range (m + 2)).map (ch (m + 1)) := by
  unfold f_law_ways_l64
  dsimp only
  apply List.ext_getElem
  · simp [rg_length]
  · intro i h1 h2
    have hi : i < m + 2 := by simpa using h2
    rw [List.getElem_map, List.getElem_range]
    by_cases h0 : i = 0
    · subst h0; rfl
    · by_cases hl : i = m + 1
      · subst hl
        rw [List.getElem_append_right (by simp [rg_length])]
        simp [ch_diag]
      · obtain ⟨j, rfl⟩ : ∃ j, i = j + 1 := ⟨i - 1, by omega⟩
        rw [List.getElem_append_left (by simp [rg_length]; omega)]
        rw [List.getElem_append_right (by simp)]
        simp only [List.length_cons, List.length_nil, Nat.add_sub_cancel, List.getElem_map, rg_get]
        have e1 : ix ((List.range (m + 1)).map (ch m)) (0 + (j : Int)) = ch m j := by
          rw [show (0 + (j : Int)) = (j : Int) by omega, ix_nat (by simp; omega)]; simp
        have e2 : ix ((List.range (m + 1)).map (ch m)) (0 + (j : Int) + 1) = ch m (j + 1) := by
          rw [show (0 + (j : Int) + 1) = ((j + 1 : Nat) : Int) by omega, ix_nat (by simp; omega)]; simp
        simp only [Nat.zero_add, e1, e2]
        rw [ch]
theorem ways_row (L : List Int) : L.foldl f_law_ways_l64 [1] = (List.range (L.length + 1)).map (ch L.length) := by
  have : ∀ (L : List Int) (m : Nat), L.foldl f_law_ways_l64 ((List.range (m + 1)).map (ch m)) = (List.range (L.length + m + 1)).map (ch (L.length + m)) := by
    intro L
    induction L with
    | nil => intro m; simp
    | cons x L ih =>
      intro m
      rw [List.foldl_cons, ways_step, ih (m + 1), List.length_cons]
      rw [show L.length + (m + 1) = L.length + 1 + m by omega]
  exact this L 0
def chs (m : Nat) : Nat → Int
  | 0 => 0
  | t + 1 => chs m t + ch m t
theorem chs_sum (m : Nat) : ∀ t, ((List.range t).map (ch m)).sum = chs m t
  | 0 => rfl
  | t + 1 => by rw [List.range_succ, List.map_append, List.sum_append, chs_sum m t]; simp [chs]
theorem chs_big (m : Nat) : ∀ t, chs m (m + 1 + t) = chs m (m + 1)
  | 0 => rfl
  | t + 1 => by
    show chs m (m + 1 + t) + ch m (m + 1 + t) = _
    rw [chs_big m t, ch_big (by omega)]; omega
theorem chs_rec (m : Nat) : ∀ t, chs (m + 1) (t + 1) = chs m t + chs m (t + 1)
  | 0 => by simp [chs, ch, ch_zero]
  | t + 1 => by
    show chs (m + 1) (t + 1) + ch (m + 1) (t + 1) = _
    rw [chs_rec m t, ch]
    show _ = chs m (t + 1) + (chs m (t + 1) + ch m (t + 1))
    simp only [chs]
    omega
theorem bs_neg : ∀ (m : Nat) (c : Int), c < 0 → bs m c = 0
  | 0, c, h => if_neg (by omega)
  | m + 1, c, h => by rw [bs, bs_neg m _ (by omega), bs_neg m _ h]; rfl
theorem bs_chs : ∀ (m t : Nat), bs m (t : Int) = chs m (t + 1)
  | 0, t => by
    rw [bs, if_pos (by omega)]
    have := chs_big 0 t
    rw [show t + 1 = 0 + 1 + t by omega, this]; rfl
  | m + 1, 0 => by
    rw [bs, bs_neg m _ (by omega), chs_rec m 0, bs_chs m 0]
    simp [chs]
  | m + 1, t + 1 => by
    rw [bs, chs_rec m (t + 1), ← bs_chs m (t + 1), ← bs_chs m t]
    congr 2
    omega
theorem ways_bs {m c : Int} (hm : 0 ≤ m) (hc : 0 ≤ c) : f_law_ways m c = bs m.toNat c := by
  unfold f_law_ways
  dsimp only
  rw [ways_row, cut_take _ (by omega), rg_length, show (m - 0).toNat = m.toNat by omega, ← List.map_take, List.take_range, chs_sum]
  obtain ⟨t, rfl⟩ : ∃ t : Nat, c = (t : Int) := ⟨c.toNat, by omega⟩
  rw [bs_chs, show ((t : Int) + 1).toNat = t + 1 by omega]
  by_cases h : t + 1 ≤ m.toNat + 1
  · rw [Nat.min_eq_left h]
  · rw [Nat.min_eq_right (by omega)]
    obtain ⟨d, hd⟩ : ∃ d, t + 1 = m.toNat + 1 + d := ⟨t - m.toNat, by omega⟩
    rw [hd, chs_big]
theorem bs_le : ∀ (m : Nat) (c : Int), 0 ≤ bs m c ∧ bs m c ≤ 2 ^ m
  | 0, c => by rw [bs]; split <;> decide
  | m + 1, c => by
    have h1 := bs_le m (c - 1)
    have h2 := bs_le m c
    rw [bs, Int.pow_succ]; omega
/-! taken one by one -/
def pick (kinds most : List Int) (s : List Int) (t : Int) : List Int := if cnt kinds (ix kinds t) s < ix most (ix kinds t) then s ++ [t] else s
theorem cnt_one (kinds : List Int) (j t : Int) : cnt kinds j [t] = if ix kinds t = j then 1 else 0 := by
  rw [cnt_cons, cnt_nil]; split <;> rfl
theorem okc_snoc {kinds : List Int} {c : Int → Int} {s : List Int} {t : Int} (hs : okc kinds c s = true) (ht : 0 ≤ ix kinds t ∧ ix kinds t < 4) : okc kinds c (s ++ [t]) = decide (cnt kinds (ix kinds t) s < c (ix kinds t)) := by
  rw [Bool.eq_iff_iff, okc_iff, decide_eq_true_eq]
  rw [okc_iff] at hs
  constructor
  · intro h
    have := h _ ht.1 ht.2
    rw [cnt_app, cnt_one, if_pos rfl] at this
    omega
  · intro h j a b
    rw [cnt_app, cnt_one]
    by_cases e : ix kinds t = j
    · subst e; rw [if_pos rfl]; omega
    · rw [if_neg e]; have := hs j a b; omega
theorem okc_pick {kinds most : List Int} {s : List Int} {t : Int} (hs : okc kinds (ix most) s = true) (ht : 0 ≤ ix kinds t ∧ ix kinds t < 4) : okc kinds (ix most) (pick kinds most s t) = true := by
  unfold pick
  split
  · rename_i h
    rw [okc_snoc hs ht]; exact decide_eq_true h
  · exact hs
theorem okc_picks {kinds most : List Int} : ∀ {L s : List Int}, okc kinds (ix most) s = true → (∀ t ∈ L, 0 ≤ ix kinds t ∧ ix kinds t < 4) → okc kinds (ix most) (L.foldl (pick kinds most) s) = true
  | [], s, h, _ => h
  | t :: L, s, h, k => by
    rw [List.foldl_cons]
    exact okc_picks (L := L) (okc_pick h (k t List.mem_cons_self)) fun u hu => k u (List.mem_cons_of_mem _ hu)
theorem picks_sub {kinds most : List Int} : ∀ (L s : List Int), ∃ U, L.foldl (pick kinds most) s = s ++ U ∧ U.Sublist L
  | [], s => ⟨[], by simp, .refl _⟩
  | t :: L, s => by
    obtain ⟨U, e, h⟩ := picks_sub (kinds := kinds) (most := most) L (pick kinds most s t)
    rw [List.foldl_cons, e]
    unfold pick
    split
    · exact ⟨t :: U, by simp, h.cons_cons t⟩
    · exact ⟨U, rfl, h.cons t⟩
theorem picks_filter {kinds most : List Int} (j : Int) : ∀ (L s : List Int), cnt kinds j s ≤ ix most j →
    (L.foldl (pick kinds most) s).filter (fun t => decide (ix kinds t = j)) = s.filter (fun t => decide (ix kinds t = j)) ++ (L.filter fun t => decide (ix kinds t = j)).take (ix most j - cnt kinds j s).toNat
  | [], s, _ => by simp
  | t :: L, s, h => by
    rw [List.foldl_cons]
    by_cases e : ix kinds t = j
    · rw [List.filter_cons_of_pos (by simpa using e)]
      by_cases hc : cnt kinds j s < ix most j
      · have ep : pick kinds most s t = s ++ [t] := by unfold pick; rw [e, if_pos hc]
        have ec : cnt kinds j (s ++ [t]) = cnt kinds j s + 1 := by rw [cnt_app, cnt_one, if_pos e]
        rw [ep, picks_filter j L _ (by omega), ec, List.filter_append, List.filter_cons_of_pos (by simpa using e), List.filter_nil, List.append_assoc]
        congr 1
        rw [show (ix most j - cnt kinds j s).toNat = (ix most j - (cnt kinds j s + 1)).toNat + 1 by omega, List.take_succ_cons]
        rfl
      · have ep : pick kinds most s t = s := by unfold pick; rw [e, if_neg hc]
        rw [ep, picks_filter j L _ h, show (ix most j - cnt kinds j s).toNat = 0 by omega]
        simp
    · rw [List.filter_cons_of_neg (by simpa using e)]
      have ef : (pick kinds most s t).filter (fun t => decide (ix kinds t = j)) = s.filter (fun t => decide (ix kinds t = j)) := by
        unfold pick
        split
        · rw [List.filter_append, List.filter_cons_of_neg (by simpa using e)]; simp
        · rfl
      have ec : cnt kinds j (pick kinds most s t) = cnt kinds j s := by unfold cnt; rw [ef]
      rw [picks_filter j L _ (by rw [ec]; exact h), ef, ec]
/-- with a number of them at most: the first ones -/
theorem taken_take {kinds most : List Int} (hm : most.length = 4) {m : Int} (h0 : 0 ≤ m) : ∀ (B : List (Int × Int)) (s : List Int), okc kinds (ix most) s = true → (∀ x ∈ B, 0 ≤ ix kinds x.2 ∧ ix kinds x.2 < 4) →
    B.foldl (f_taken_by_worth_l12 m kinds most) (s.take m.toNat) = ((B.map (·.2)).foldl (pick kinds most) s).take m.toNat
  | [], s, _, _ => rfl
  | x :: B, s, hs, hB => by
    have hx := hB x List.mem_cons_self
    rw [List.foldl_cons, List.map_cons, List.foldl_cons]
    have e : f_taken_by_worth_l12 m kinds most (s.take m.toNat) x = (pick kinds most s x.2).take m.toNat := by
      unfold f_taken_by_worth_l12
      dsimp only
      by_cases hl : s.length < m.toNat
      · rw [List.take_of_length_le (by omega), may_eq_l hm, okc_snoc hs hx, decide_eq_true (by omega : (s.length : Int) < m), Bool.true_and]
        unfold pick
        by_cases hc : cnt kinds (ix kinds x.2) s < ix most (ix kinds x.2)
        · rw [decide_eq_true hc, if_pos rfl, if_pos hc, List.take_of_length_le (by simp; omega)]
        · rw [decide_eq_false hc, if_neg Bool.false_ne_true, if_neg hc, List.take_of_length_le (by omega)]
      · rw [decide_eq_false (by rw [List.length_take]; omega), Bool.false_and, if_neg Bool.false_ne_true]
        unfold pick
        split
        · rw [List.take_append_of_le_length (by omega)]
        · rfl
    rw [e]
    exact taken_take hm h0 B _ (okc_pick hs hx) fun y hy => hB y (List.mem_cons_of_mem _ hy)
section
variable {n : Int} {kinds worths most : List Int} (D : Dat n kinds worths most)
include D
theorem Dat.okc_nil : okc kinds (ix most) [] = true := okc_iff.mpr fun j a b => by rw [cnt_nil]; exact (D.mr j a b).1
theorem Dat.kx {x : Int × Int} (h : x ∈ byWorth worths) : 0 ≤ ix kinds x.2 ∧ ix kinds x.2 < 4 := by
  have := byWorth_mem h
  exact D.kr _ this.1 (by rw [← D.wl]; exact this.2.1)
end
/-- the things in falling order of worths -/
def things (worths : List Int) : List Int := (byWorth worths).map (·.2)
def wp (worths : List Int) (k : Int) : Int × Int := (-ix worths k, k)
theorem byWorth_eq (worths : List Int) : byWorth worths = (things worths).map (wp worths) := by
  unfold things
  rw [List.map_map]
  have : (byWorth worths).map (wp worths ∘ fun x => x.2) = (byWorth worths).map id := List.map_congr_left fun x hx => by
    show wp worths x.2 = x
    unfold wp
    rw [← (byWorth_mem hx).2.2]
  rw [this, List.map_id]
theorem things_len (worths : List Int) : (things worths).length = worths.length := by
  unfold things; rw [List.length_map, sortD_length, List.length_map, enu_length]
def best (kinds worths most : List Int) : List Int := (things worths).foldl (pick kinds most) []
theorem best_m {n : Int} {kinds worths most : List Int} (D : Dat n kinds worths most) {m : Int} (h0 : 0 ≤ m) : f_best_of_most kinds most worths m = sortI ((best kinds worths most).take m.toNat) := by
  unfold f_best_of_most f_taken_by_worth
  dsimp only
  have := taken_take (kinds := kinds) D.ml h0 (byWorth worths) [] D.okc_nil fun x hx => D.kx hx
  rw [List.take_nil] at this
  show sortI ((byWorth worths).foldl _ []) = _
  rw [this]; rfl
theorem best_len (kinds worths most : List Int) : (best kinds worths most).length ≤ worths.length := by
  obtain ⟨U, e, h⟩ := picks_sub (kinds := kinds) (most := most) (things worths) []
  have := h.length_le
  rw [things_len] at this
  unfold best
  rw [e]; simpa using this
theorem best_all {n : Int} {kinds worths most : List Int} (D : Dat n kinds worths most) : f_best_set kinds most worths = sortI (best kinds worths most) := by
  have := best_m D (m := (worths.length : Int)) (by omega)
  unfold f_best_of_most at this
  unfold f_best_set
  rw [this, List.take_of_length_le (by have := best_len kinds worths most; omega)]
/-- kind by kind -/
theorem parts (kinds : List Int) (G : List Int) (h : ∀ t ∈ G, 0 ≤ ix kinds t ∧ ix kinds t < 4) : ((G.filter fun t => decide (ix kinds t = 0)) ++ (G.filter fun t => decide (ix kinds t = 1)) ++ (G.filter fun t => decide (ix kinds t = 2)) ++ (G.filter fun t => decide (ix kinds t = 3))).Perm G := by
  rw [List.perm_iff_count]
  intro a
  simp only [List.count_append]
  by_cases ha : a ∈ G
  · have := h a ha
    have z : ∀ j, ix kinds a ≠ j → (G.filter fun t => decide (ix kinds t = j)).count a = 0 := fun j hj => List.count_eq_zero.mpr fun hm => hj (by simpa using (List.mem_filter.mp hm).2)
    have y : ∀ j, ix kinds a = j → (G.filter fun t => decide (ix kinds t = j)).count a = G.count a := fun j hj => List.count_filter (by simpa using hj)
    have : ix kinds a = 0 ∨ ix kinds a = 1 ∨ ix kinds a = 2 ∨ ix kinds a = 3 := by omega
    rcases this with e | e | e | e
    · rw [y 0 e, z 1 (by omega), z 2 (by omega), z 3 (by omega)]; omega
    · rw [z 0 (by omega), y 1 e, z 2 (by omega), z 3 (by omega)]; omega
    · rw [z 0 (by omega), z 1 (by omega), y 2 e, z 3 (by omega)]; omega
    · rw [z 0 (by omega), z 1 (by omega), z 2 (by omega), y 3 e]; omega
  · have z : ∀ j, (G.filter fun t => decide (ix kinds t = j)).count a = 0 := fun j => List.count_eq_zero.mpr fun hm => ha (List.mem_filter.mp hm).1
    rw [z, z, z, z, List.count_eq_zero.mpr ha]
def ownK (n : Int) (kinds worths : List Int) (j : Int) : List (Int × Int) := sortD (encPr PyData.int PyData.int) (((rg 0 n).filter fun k => decide (ix kinds k = j)).map fun k => (-ix worths k, k))
theorem ownK_eq {n : Int} {kinds worths most : List Int} (D : Dat n kinds worths most) (j : Int) : ownK n kinds worths j = ((things worths).filter fun t => decide (ix kinds t = j)).map (wp worths) := by
  unfold ownK
  have e : (((rg 0 n).filter fun k => decide (ix kinds k = j)).map fun k => (-ix worths k, k)) = ((enu worths).map fun p => (-p.2, p.1)).filter fun x => decide (ix kinds x.2 = j) := by
    rw [enu_eq, List.map_map, List.filter_map, D.wl]; rfl
  rw [e, sortD_filter so_ii]
  show (byWorth worths).filter _ = _
  rw [byWorth_eq, List.filter_map]; rfl
theorem ownK_len {n : Int} (kinds worths : List Int) (j : Int) : ((ownK n kinds worths j).length : Int) = cnt kinds j (rg 0 n) := by
  unfold ownK cnt; rw [sortD_length, List.length_map]
theorem loop_eq {n : Int} {kinds worths most : List Int} (D : Dat n kinds worths most) : (rg 0 4).foldl (f_law_l75 n worths kinds most) (1, []) =
    (f_all_may kinds most, (ownK n kinds worths 0).take (ix most 0).toNat ++ (ownK n kinds worths 1).take (ix most 1).toNat ++ (ownK n kinds worths 2).take (ix most 2).toNat ++ (ownK n kinds worths 3).take (ix most 3).toNat) := by
  have st : ∀ (s : Int × List (Int × Int)) (j : Int), 0 ≤ j → j < 4 → f_law_l75 n worths kinds most s j = (s.1 * bs (cnt kinds j (rg 0 n)).toNat (ix most j), s.2 ++ (ownK n kinds worths j).take (ix most j).toNat) := by
    intro s j a b
    unfold f_law_l75
    dsimp only
    show (s.1 * f_law_ways ((ownK n kinds worths j).length : Int) (ix most j), s.2 ++ cut (ownK n kinds worths j) none (some (ix most j))) = _
    rw [ownK_len, ways_bs (cnt_nn _ _ _) (D.mr j a b).1, cut_take _ (D.mr j a b).1]
  rw [rg4]
  simp only [List.foldl_cons, List.foldl_nil]
  rw [st _ 0 (by omega) (by omega), st _ 1 (by omega) (by omega), st _ 2 (by omega) (by omega), st _ 3 (by omega) (by omega)]
  have e : f_all_may kinds most = bs (cnt kinds 0 (rg 0 n)).toNat (ix most 0) * bs (cnt kinds 1 (rg 0 n)).toNat (ix most 1) * bs (cnt kinds 2 (rg 0 n)).toNat (ix most 2) * bs (cnt kinds 3 (rg 0 n)).toNat (ix most 3) := by
    unfold f_all_may
    rw [List.length_map, ← List.countP_eq_length_filter, f_all_sets_eq, D.kl, ← count_all kinds (rg 0 n) (ix most) fun t ht => D.kr t (mem_rg ht).1 (mem_rg ht).2]
    congr 2
    funext r
    exact may_eq D.ml r
  rw [e]
  simp
theorem taken_eq {n : Int} {kinds worths most : List Int} (D : Dat n kinds worths most) : (sortD (encPr PyData.int PyData.int) ((rg 0 4).foldl (f_law_l75 n worths kinds most) (1, [])).2).map (fun x => x.2) = best kinds worths most := by
  rw [loop_eq D]
  have hg : ∀ j, 0 ≤ j → j < 4 → (ownK n kinds worths j).take (ix most j).toNat = ((best kinds worths most).filter fun t => decide (ix kinds t = j)).map (wp worths) := by
    intro j a b
    have := picks_filter (kinds := kinds) (most := most) j (things worths) [] (by rw [cnt_nil]; exact (D.mr j a b).1)
    unfold best
    rw [this, cnt_nil, Int.sub_zero, List.filter_nil, List.nil_append, ownK_eq D, List.map_take]
  have hb : ∀ t ∈ best kinds worths most, 0 ≤ ix kinds t ∧ ix kinds t < 4 := by
    intro t ht
    obtain ⟨U, e, h⟩ := picks_sub (kinds := kinds) (most := most) (things worths) []
    unfold best at ht
    rw [e, List.nil_append] at ht
    obtain ⟨x, hx, rfl⟩ := List.mem_map.mp (h.subset ht)
    exact D.kx hx
  have : sortD (encPr PyData.int PyData.int) ((ownK n kinds worths 0).take (ix most 0).toNat ++ (ownK n kinds worths 1).take (ix most 1).toNat ++ (ownK n kinds worths 2).take (ix most 2).toNat ++ (ownK n kinds worths 3).take (ix most 3).toNat) = (best kinds worths most).map (wp worths) := by
    refine sortD_eq so_ii ?_ ?_
    · rw [hg 0 (by omega) (by omega), hg 1 (by omega) (by omega), hg 2 (by omega) (by omega), hg 3 (by omega) (by omega), ← List.map_append, ← List.map_append, ← List.map_append]
      exact (parts kinds _ hb).map _
    · obtain ⟨U, e, h⟩ := picks_sub (kinds := kinds) (most := most) (things worths) []
      have s : ((best kinds worths most).map (wp worths)).Sublist (byWorth worths) := by
        rw [byWorth_eq]
        unfold best
        rw [e, List.nil_append]
        exact h.map _
      exact (sortD_sorted so_ii _).sublist s
  show (sortD _ _).map _ = _
  rw [this, List.map_map]
  exact List.map_id _
/-- one for another -/
theorem chosen_eq (most kinds : List Int) (s : List Int) (t : Int) : f_law_l89 most kinds s t = pick kinds most s t := by
  unfold f_law_l89 pick cnt
  dsimp only
  rw [List.length_map]
  by_cases h : ((s.filter fun j => decide (ix kinds j = ix kinds t)).length : Int) < ix most (ix kinds t)
  · rw [if_pos h, decide_eq_true h, if_pos rfl]
  · rw [if_neg h, decide_eq_false h, if_neg Bool.false_ne_true]
theorem filter_ne_nodup {C : List Int} (h : C.Nodup) {o : Int} (ho : o ∈ C) (p : Int → Bool) : ((C.filter fun x => !decide (x = o)).filter p).length + (if p o then 1 else 0) = (C.filter p).length := by
  induction C with
  | nil => cases ho
  | cons c C ih =>
    rw [List.nodup_cons] at h
    by_cases e : c = o
    · subst e
      rw [List.filter_cons_of_neg (by simp)]
      have : (C.filter fun x => !decide (x = c)) = C := List.filter_eq_self.mpr fun x hx => by
        have : x ≠ c := fun z => h.1 (z ▸ hx)
        simpa using this
      rw [this]
      by_cases hp : p c
      · rw [List.filter_cons_of_pos hp, if_pos hp]; rfl
      · rw [List.filter_cons_of_neg hp, if_neg hp]; omega
    · rw [List.filter_cons_of_pos (by simpa using e)]
      have := ih h.2 ((List.mem_cons.mp ho).resolve_left (Ne.symm e))
      by_cases hp : p c
      · rw [List.filter_cons_of_pos hp, List.filter_cons_of_pos hp, List.length_cons, List.length_cons]; omega
      · rw [List.filter_cons_of_neg hp, List.filter_cons_of_neg hp]; exact this
theorem swapped_eq {n : Int} {kinds worths most : List Int} (D : Dat n kinds worths most) {C : List Int} (hC : C.Nodup) (ok : okc kinds (ix most) C = true) {t : Int} (h0 : 0 ≤ t) (h1 : t < n) :
    f_swapped_in kinds most C t = if decide (((C.filter fun k => decide (ix kinds k = ix kinds t)).length : Int) < ix most (ix kinds t)) then some [] else
      if decide (((C.filter fun k => decide (ix kinds k = ix kinds t)).length : Int) = 0) then none else some (C.filter fun k => decide (ix kinds k = ix kinds t)) := by
  have ht := D.kr t h0 h1
  unfold f_swapped_in
  rw [may_eq D.ml, okc_snoc ok ht]
  show (if decide (cnt kinds (ix kinds t) C < ix most (ix kinds t)) = true then _ else _) = (if decide (cnt kinds (ix kinds t) C < ix most (ix kinds t)) = true then _ else _)
  by_cases hc : cnt kinds (ix kinds t) C < ix most (ix kinds t)
  · rw [decide_eq_true hc]; rfl
  · rw [decide_eq_false hc, if_neg Bool.false_ne_true, if_neg Bool.false_ne_true]
    rw [okc_iff] at ok
    have full : cnt kinds (ix kinds t) C = ix most (ix kinds t) := by have := ok _ ht.1 ht.2; omega
    have e : (C.filter fun o => f_may_have kinds most (((C.filter fun x => (!decide (x = o))).map fun x => x) ++ [t])) = C.filter fun k => decide (ix kinds k = ix kinds t) := by
      apply List.filter_congr
      intro o ho
      rw [may_eq D.ml, List.map_id', Bool.eq_iff_iff, okc_iff, decide_eq_true_eq]
      have cc : ∀ j, cnt kinds j ((C.filter fun x => (!decide (x = o))) ++ [t]) = cnt kinds j C - (if ix kinds o = j then 1 else 0) + (if ix kinds t = j then 1 else 0) := by
        intro j
        rw [cnt_app, cnt_one]
        have := filter_ne_nodup hC ho fun k => decide (ix kinds k = j)
        simp only [decide_eq_true_eq] at this
        unfold cnt
        split at this <;> split <;> omega
      constructor
      · intro h
        have := h _ ht.1 ht.2
        rw [cc, if_pos rfl] at this
        by_cases e : ix kinds o = ix kinds t
        · exact e
        · rw [if_neg e] at this; omega
      · intro e j a b
        rw [cc, e]
        have := ok j a b
        split <;> omega
    dsimp only
    rw [e, List.map_id']
    cases C.filter (fun k => decide (ix kinds k = ix kinds t)) with
    | nil => rfl
    | cons a l => simp; omega
theorem lk {d e : Dy} (h : d = e) : (!f_law_like d e) = false := by
  unfold f_law_like
  rw [like_eq h]; rfl
theorem dat_of {n : Int} {kinds worths most row : List Int} {b : Bool} (hn : n = 1 + ix row 82 % 9) (hk : kinds = if b then ((rg 0 n).map fun k => ix row k % 4).map (fun k => k % 2) else (rg 0 n).map fun k => ix row k % 4) (hw : worths = (rg 0 n).map fun k => ix row (9 + k) % 13) (hm : most = (rg 0 4).map fun k => ix row (18 + k) % 6) : Dat n kinds worths most := by
  refine ⟨by omega, by omega, ?_, ?_, ?_, fun k a c => ?_, fun k a c => ?_⟩
  · subst hk; split <;> (simp only [List.length_map, rg_length]; omega)
  · subst hw; simp only [List.length_map, rg_length]; omega
  · subst hm; rfl
  · subst hk
    split
    · rw [ix_map (by rw [List.length_map, rg_length]; omega), ix_map_rg ⟨a, c⟩]; omega
    · rw [ix_map_rg ⟨a, c⟩]; omega
  · subst hm
    rw [ix_map_rg ⟨a, c⟩]; omega
theorem drawn_ok {n : Int} {kinds worths most drawn : List Int} (D : Dat n kinds worths most) (hd : ∀ t ∈ drawn, 0 ≤ t ∧ t < n) {counts : List Int} (hc : counts = (rg 0 4).map fun j => ((((drawn.filter fun k => decide (ix kinds k = j)).map fun k => k).length : Nat) : Int)) :
    f_may_have kinds most drawn = ((rg 0 4).map fun j => decide (ix counts j ≤ ix most j)).all id := by
  rw [may_eq D.ml]
  have e : ∀ j, 0 ≤ j → j < 4 → ix counts j = cnt kinds j drawn := fun j a b => by
    subst hc; rw [ix_map_rg ⟨a, b⟩, List.length_map]; rfl
  rw [rg4]
  simp only [List.map_cons, List.map_nil, List.all_cons, List.all_nil, id, Bool.and_true]
  rw [e 0 (by omega) (by omega), e 1 (by omega) (by omega), e 2 (by omega) (by omega), e 3 (by omega) (by omega)]
  rfl
theorem chosen_inv {n : Int} {kinds worths most drawn : List Int} (D : Dat n kinds worths most) (hd : ∀ t ∈ drawn, 0 ≤ t ∧ t < n) (hn : drawn.Nodup) (hl : drawn.length ≤ 9) : ∀ L M, drawn = L ++ M → (∀ t ∈ L.foldl (f_law_l89 most kinds) [], 0 ≤ t ∧ t < n) ∧ (L.foldl (f_law_l89 most kinds) []).Nodup ∧ okc kinds (ix most) (L.foldl (f_law_l89 most kinds) []) = true ∧ (L.foldl (f_law_l89 most kinds) []).length ≤ 9 := by
  intro L M e
  have f : f_law_l89 most kinds = pick kinds most := by funext s t; exact chosen_eq most kinds s t
  rw [f]
  have hL : ∀ t ∈ L, 0 ≤ t ∧ t < n := fun t ht => hd t (by rw [e]; simp [ht])
  obtain ⟨U, e2, h⟩ := picks_sub (kinds := kinds) (most := most) L []
  have ok := okc_picks (L := L) D.okc_nil fun t ht => D.kr t (hL t ht).1 (hL t ht).2
  have hs : L.Sublist drawn := by rw [e]; exact List.sublist_append_left _ _
  rw [e2] at ok ⊢
  exact ⟨fun t ht => hL t (h.subset ht), (h.trans hs).nodup hn, ok, Nat.le_trans (h.trans hs).length_le hl⟩
theorem cnt_le (kinds : List Int) (j : Int) (r : List Int) : cnt kinds j r ≤ r.length := by
  unfold cnt
  have := List.length_filter_le (fun t => decide (ix kinds t = j)) r
  omega
theorem l75_len {n : Int} {kinds worths most : List Int} (h0 : 0 ≤ n) (h9 : n ≤ 9) (s : Int × List (Int × Int)) (x : Int) : (f_law_l75 n worths kinds most s x).2.length ≤ s.2.length + 9 := by
  unfold f_law_l75
  dsimp only
  rw [List.length_append]
  have h1 := cut_le (ownK n kinds worths x) none (some (ix most x))
  have h2 := ownK_len (n := n) kinds worths x
  have h3 := cnt_le kinds x (rg 0 n)
  rw [rg_length] at h3
  unfold ownK at h1 h2
  omega
def pre_f_law (a_ : (List Int)) : Prop := match a_ with | script_ => True
set_option maxHeartbeats 4000000 in
theorem ok_f_law (T : Tx K mg) : FnOk P W K mg base CX0 9 T.a_law T.d_law ["script"] (spG (A := (List Int)) (fun a_ => [aF rScr a_]) pre_f_law rBool (fun (a_ : (List Int)) => f_law a_) K) := by
  have sc := sc_law
  refine fnG T.f_law sc (Γa := fun a_ => [some (fz rScr a_)]) (fun _ => (.cons .nil)) (fun _ => rfl) (fun script_ hpre cdv Ar outer s H E hr => ?_)
  show PSs _ _ (tO _ [(some (fz rScr script_)), none, none, none, none, none, none, none, none, none, none, none, none, none, none, none, none, none, none, none] (.rt rBool (f_law script_)))
  refine q_setG (i := 1) (Γ' := fun row_ => [(some (fz rScr script_)), (some (fz (rLst rInt) row_)), none, none, none, none, none, none, none, none, none, none, none, none, none, none, none, none, none, none]) (ps_set sc.nd rfl (.inr rfl) (e_callG (x := "_law_row") (y := (f_law_row script_ (84 : Int))) (script_, (84 : Int)) ((ok_f_law_row (P := P) (W := W) (base := base) T).mono (by decide)) hr (by rfl) T.m__law_row T.f__law_row.kp T.b__law_row (a_cons (e_var (pv 0) rfl) (a_cons e_int a_nil)) (by simp only [pre_f_law_row]; first | omega | assumption | trivial | (simp only [decide_eq_true_eq, decide_eq_false_iff_not, Bool.and_eq_true, Bool.or_eq_true, Bool.not_eq_true', Bool.not_eq_false', Bool.and_eq_false_iff, Bool.or_eq_false_iff] at *; omega)) rfl)) (fun _ => rfl) (fun row_ e_row_ => ?_)
  have hrl : row_.length = 84 := by rw [e_row_]; exact (row_len _ _).1
  have hr0 : ∀ x ∈ row_, 0 ≤ x := by rw [e_row_]; exact (row_len _ _).2
  refine q_setG (i := 2) (Γ' := fun n_ => [(some (fz rScr script_)), (some (fz (rLst rInt) row_)), (some (fz rInt n_)), none, none, none, none, none, none, none, none, none, none, none, none, none, none, none, none, none]) (ps_set sc.nd rfl (.inl rfl) (e_add e_int (e_mod (e_intC (by rfl) T.z_int (a_cons (e_ix (e_BE (e_var (pv 1) rfl)) e_int (by first | omega | assumption | trivial | (simp only [decide_eq_true_eq, decide_eq_false_iff_not, Bool.and_eq_true, Bool.or_eq_true, Bool.not_eq_true', Bool.not_eq_false', Bool.and_eq_false_iff, Bool.or_eq_false_iff] at *; omega))) a_nil)) e_int (by first | omega | assumption | trivial | (simp only [decide_eq_true_eq, decide_eq_false_iff_not, Bool.and_eq_true, Bool.or_eq_true, Bool.not_eq_true', Bool.not_eq_false', Bool.and_eq_false_iff, Bool.or_eq_false_iff] at *; omega))))) (fun _ => rfl) (fun n_ e_n_ => ?_)
  refine q_asgG2 (fun kinds_ worths_ => [(some (fz rScr script_)), (some (fz (rLst rInt) row_)), (some (fz rInt n_)), none, none, none, none, none, none, none, none, none, (some (fz (rTup rInt) kinds_)), (some (fz (rTup rInt) worths_)), none, none, none, none, none, none]) (ps_asg (e_pr (a_cons (e_tupL (by rfl) T.z_tuple (a_L (e_LN (e_lc0 (R := rInt) (S := rInt) (own := [("k", 10)]) (xs := (rg 0 n_)) (f := fun k_ => ((ix row_ k_) % (4 : Int))) rfl sc.nd (i_of (f_rg1 (by rfl) T.z_range (a_cons (e_var (pv 2) rfl) a_nil) (by first | omega | assumption | trivial | (simp only [decide_eq_true_eq, decide_eq_false_iff_not, Bool.and_eq_true, Bool.or_eq_true, Bool.not_eq_true', Bool.not_eq_false', Bool.and_eq_false_iff, Bool.or_eq_false_iff] at *; omega))) (by simp only [rg_length, rgd_length, sizeLine_eq]; omega)) (blkOk_by (N := N_law) (sc := defScope s_law) (by decide +kernel)) (by decide) (fun _ _ _ _ _ => (g_name (R := rInt) (i := 10) (pg_name sc.nd rfl (by first | exact .inl rfl | exact .inr rfl)))) (fun k_ hk_ _ _ _ _ _ => have hk_2 := mem_rg hk_; (e_mod (e_intC (by rfl) T.z_int (a_cons (e_ix (e_BE (e_var (pv 1) rfl)) (e_var (pv 10) rfl) (by first | omega | assumption | trivial | (simp only [decide_eq_true_eq, decide_eq_false_iff_not, Bool.and_eq_true, Bool.or_eq_true, Bool.not_eq_true', Bool.not_eq_false', Bool.and_eq_false_iff, Bool.or_eq_false_iff] at *; omega))) a_nil)) e_int (by first | omega | assumption | trivial | (simp only [decide_eq_true_eq, decide_eq_false_iff_not, Bool.and_eq_true, Bool.or_eq_true, Bool.not_eq_true', Bool.not_eq_false', Bool.and_eq_false_iff, Bool.or_eq_false_iff] at *; omega)))))) a_nil)) (a_cons (e_tupL (by rfl) T.z_tuple (a_L (e_LN (e_lc0 (R := rInt) (S := rInt) (own := [("k", 10)]) (xs := (rg 0 n_)) (f := fun k_2 => ((ix row_ ((9 : Int) + k_2)) % (13 : Int))) rfl sc.nd (i_of (f_rg1 (by rfl) T.z_range (a_cons (e_var (pv 2) rfl) a_nil) (by first | omega | assumption | trivial | (simp only [decide_eq_true_eq, decide_eq_false_iff_not, Bool.and_eq_true, Bool.or_eq_true, Bool.not_eq_true', Bool.not_eq_false', Bool.and_eq_false_iff, Bool.or_eq_false_iff] at *; omega))) (by simp only [rg_length, rgd_length, sizeLine_eq]; omega)) (blkOk_by (N := N_law) (sc := defScope s_law) (by decide +kernel)) (by decide) (fun _ _ _ _ _ => (g_name (R := rInt) (i := 10) (pg_name sc.nd rfl (by first | exact .inl rfl | exact .inr rfl)))) (fun k_2 hk_2 _ _ _ _ _ => have hk_22 := mem_rg hk_2; (e_mod (e_intC (by rfl) T.z_int (a_cons (e_ix (e_BE (e_var (pv 1) rfl)) (e_add e_int (e_var (pv 10) rfl)) (by first | omega | assumption | trivial | (simp only [decide_eq_true_eq, decide_eq_false_iff_not, Bool.and_eq_true, Bool.or_eq_true, Bool.not_eq_true', Bool.not_eq_false', Bool.and_eq_false_iff, Bool.or_eq_false_iff] at *; omega))) a_nil)) e_int (by first | omega | assumption | trivial | (simp only [decide_eq_true_eq, decide_eq_false_iff_not, Bool.and_eq_true, Bool.or_eq_true, Bool.not_eq_true', Bool.not_eq_false', Bool.and_eq_false_iff, Bool.or_eq_false_iff] at *; omega)))))) a_nil)) a_nil))) (g_pr rfl (g_name (R := (rTup rInt)) (i := 12) (pg_name sc.nd rfl (by first | exact .inl rfl | exact .inr rfl))) (g_name (R := (rTup rInt)) (i := 13) (pg_name sc.nd rfl (by first | exact .inl rfl | exact .inr rfl))))) (by intros; rfl) (fun kinds_ worths_ e_kinds_ e_worths_ => ?_)
  try dsimp only at e_kinds_ e_worths_
  refine q_ifB (fun tt_ => [(some (fz rScr script_)), (some (fz (rLst rInt) row_)), (some (fz rInt n_)), none, none, none, none, none, none, none, none, none, (some (fz (rTup rInt) (if tt_ then (let kinds_2 : (List Int) := (kinds_.map fun kind_ => (kind_ % (2 : Int))); kinds_2) else (kinds_)))), (some (fz (rTup rInt) worths_)), none, none, none, none, none, none]) (t_cmp (e_eqS scal_int (e_mod (e_intC (by rfl) T.z_int (a_cons (e_ix (e_BE (e_var (pv 1) rfl)) e_int (by first | omega | assumption | trivial | (simp only [decide_eq_true_eq, decide_eq_false_iff_not, Bool.and_eq_true, Bool.or_eq_true, Bool.not_eq_true', Bool.not_eq_false', Bool.and_eq_false_iff, Bool.or_eq_false_iff] at *; omega))) a_nil)) e_int (by first | omega | assumption | trivial | (simp only [decide_eq_true_eq, decide_eq_false_iff_not, Bool.and_eq_true, Bool.or_eq_true, Bool.not_eq_true', Bool.not_eq_false', Bool.and_eq_false_iff, Bool.or_eq_false_iff] at *; omega))) e_int)) (fun hc_71 => ?_) (fun hc_71 => ?_) ?_
  · skip
    refine q_setG (i := 12) (Γ' := fun kinds_3 => [(some (fz rScr script_)), (some (fz (rLst rInt) row_)), (some (fz rInt n_)), none, none, none, none, none, none, none, none, none, (some (fz (rTup rInt) kinds_3)), (some (fz (rTup rInt) worths_)), none, none, none, none, none, none]) (ps_set sc.nd rfl (.inr rfl) (e_tupL (by rfl) T.z_tuple (a_L (e_LN (e_lc0 (R := rInt) (S := rInt) (own := [("kind", 4)]) (xs := kinds_) (f := fun kind_2 => (kind_2 % (2 : Int))) rfl sc.nd (i_tup (e_var (pv 12) rfl)) (blkOk_by (N := N_law) (sc := defScope s_law) (by decide +kernel)) (by decide) (fun _ _ _ _ _ => (g_name (R := rInt) (i := 4) (pg_name sc.nd rfl (by first | exact .inl rfl | exact .inr rfl)))) (fun kind_2 hkind_2 _ _ _ _ _ => (e_mod (e_intC (by rfl) T.z_int (a_cons (e_var (pv 4) rfl) a_nil)) e_int (by first | omega | assumption | trivial | (simp only [decide_eq_true_eq, decide_eq_false_iff_not, Bool.and_eq_true, Bool.or_eq_true, Bool.not_eq_true', Bool.not_eq_false', Bool.and_eq_false_iff, Bool.or_eq_false_iff] at *; omega)))))) a_nil))) (fun _ => rfl) (fun kinds_3 e_kinds_3 => ?_)
    subst e_kinds_3
    exact q_nil (sub_keep (sub_keep (sub_keep (sub_keep (sub_keep (sub_keep (sub_keep (sub_keep (sub_keep (sub_keep (sub_keep (sub_keep (sub_keep (sub_keep (sub_keep (sub_keep (sub_keep (sub_keep (sub_keep (sub_keep sub_nil))))))))))))))))))))
  · skip
    exact q_nil (sub_keep (sub_keep (sub_keep (sub_keep (sub_keep (sub_keep (sub_keep (sub_keep (sub_keep (sub_keep (sub_keep (sub_keep (sub_keep (sub_keep (sub_keep (sub_keep (sub_keep (sub_keep (sub_keep (sub_keep sub_nil))))))))))))))))))))
  generalize e_kinds_4 : (if (decide (((ix row_ (41 : Int)) % (2 : Int)) = (1 : Int))) then (let kinds_2 : (List Int) := (kinds_.map fun kind_ => (kind_ % (2 : Int))); kinds_2) else (kinds_)) = kinds_4
  refine q_setG (i := 3) (Γ' := fun most_ => [(some (fz rScr script_)), (some (fz (rLst rInt) row_)), (some (fz rInt n_)), (some (fz (rTup rInt) most_)), none, none, none, none, none, none, none, none, (some (fz (rTup rInt) kinds_4)), (some (fz (rTup rInt) worths_)), none, none, none, none, none, none]) (ps_set sc.nd rfl (.inr rfl) (e_tupL (by rfl) T.z_tuple (a_L (e_LN (e_lc0 (R := rInt) (S := rInt) (own := [("k", 10)]) (xs := (rg 0 (4 : Int))) (f := fun k_3 => ((ix row_ ((18 : Int) + k_3)) % (6 : Int))) rfl sc.nd (i_of (f_rg1 (by rfl) T.z_range (a_cons e_int a_nil) (by first | omega | assumption | trivial | (simp only [decide_eq_true_eq, decide_eq_false_iff_not, Bool.and_eq_true, Bool.or_eq_true, Bool.not_eq_true', Bool.not_eq_false', Bool.and_eq_false_iff, Bool.or_eq_false_iff] at *; omega))) (by simp only [rg_length, rgd_length, sizeLine_eq]; omega)) (blkOk_by (N := N_law) (sc := defScope s_law) (by decide +kernel)) (by decide) (fun _ _ _ _ _ => (g_name (R := rInt) (i := 10) (pg_name sc.nd rfl (by first | exact .inl rfl | exact .inr rfl)))) (fun k_3 hk_3 _ _ _ _ _ => have hk_32 := mem_rg hk_3; (e_mod (e_intC (by rfl) T.z_int (a_cons (e_ix (e_BE (e_var (pv 1) rfl)) (e_add e_int (e_var (pv 10) rfl)) (by first | omega | assumption | trivial | (simp only [decide_eq_true_eq, decide_eq_false_iff_not, Bool.and_eq_true, Bool.or_eq_true, Bool.not_eq_true', Bool.not_eq_false', Bool.and_eq_false_iff, Bool.or_eq_false_iff] at *; omega))) a_nil)) e_int (by first | omega | assumption | trivial | (simp only [decide_eq_true_eq, decide_eq_false_iff_not, Bool.and_eq_true, Bool.or_eq_true, Bool.not_eq_true', Bool.not_eq_false', Bool.and_eq_false_iff, Bool.or_eq_false_iff] at *; omega)))))) a_nil))) (fun _ => rfl) (fun most_ e_most_ => ?_)
  have D : Dat n_ kinds_4 worths_ most_ := dat_of (b := decide (ix row_ 41 % 2 = 1)) e_n_ (by rw [← e_kinds_4, e_kinds_]) e_worths_ e_most_
  have hkl := D.kl
  have hwl := D.wl
  have hml := D.ml
  have hn9 := D.n9
  have hn1 := D.n1
  refine q_parG (i := 14) (j := 5) (fun ways_ taken_ => [(some (fz rScr script_)), (some (fz (rLst rInt) row_)), (some (fz rInt n_)), (some (fz (rTup rInt) most_)), none, (some (fz (rLst (rPr rInt rInt)) taken_)), none, none, none, none, none, none, (some (fz (rTup rInt) kinds_4)), (some (fz (rTup rInt) worths_)), (some (fz rInt ways_)), none, none, none, none, none]) (by decide) (ps_par rfl sc.nd rfl rfl (by decide) rfl rfl (a_cons e_int (a_cons (e_fz (e_lstH (R := (rPr rInt rInt)) h_nil)) a_nil)) (by rfl)) (fun _ _ => rfl) (fun ways_ taken_ e_ways_ e_taken_ => ?_)
  refine q_for (R := rInt) (xs := (rg 0 (4 : Int))) (σ' := Int × (List (Int × Int))) (G := fun st_ => [(some (fz rScr script_)), (some (fz (rLst rInt) row_)), (some (fz rInt n_)), (some (fz (rTup rInt) most_)), none, (some (fz (rLst (rPr rInt rInt)) st_.2)), none, none, none, none, none, none, (some (fz (rTup rInt) kinds_4)), (some (fz (rTup rInt) worths_)), (some (fz rInt st_.1)), none, none, none, none, none]) (g := (f_law_l75 n_ worths_ kinds_4 most_)) (s0 := (ways_, taken_)) PassesOwn.never rfl (f_rg1 (by rfl) T.z_range (a_cons e_int a_nil) (by first | omega | assumption | trivial | (simp only [decide_eq_true_eq, decide_eq_false_iff_not, Bool.and_eq_true, Bool.or_eq_true, Bool.not_eq_true', Bool.not_eq_false', Bool.and_eq_false_iff, Bool.or_eq_false_iff] at *; omega))) (g_name (R := rInt) (i := 4) (pg_name sc.nd rfl (by first | exact .inl rfl | exact .inr rfl))) (sub_keep (sub_keep (sub_keep (sub_keep (sub_keep (sub_keep (sub_keep (sub_keep (sub_keep (sub_keep (sub_keep (sub_keep (sub_keep (sub_keep (sub_keep (sub_keep (sub_keep (sub_keep (sub_keep (sub_keep sub_nil)))))))))))))))))))) (fun pre_75 kind_3 post_75 hx_75 => ?_) ?_
  · skip
    generalize hs_75 : List.foldl (f_law_l75 n_ worths_ kinds_4 most_) (ways_, taken_) pre_75 = st_
    have hxl_75 := congrArg List.length hx_75
    simp only [List.length_append, List.length_cons, List.length_nil, List.length_map, List.length_set, List.length_reverse, rg_length, rgd_length, enu_length, sortD_length, sortI_length] at hxl_75
    obtain ⟨ways_75, taken_75⟩ := st_
    have hm_75 := mem_rg (xs_mem hx_75)
    show PSs _ _ (tO _ [(some (fz rScr script_)), (some (fz (rLst rInt) row_)), (some (fz rInt n_)), (some (fz (rTup rInt) most_)), (some (fz rInt kind_3)), (some (fz (rLst (rPr rInt rInt)) taken_75)), none, none, none, none, none, none, (some (fz (rTup rInt) kinds_4)), (some (fz (rTup rInt) worths_)), (some (fz rInt ways_75)), none, none, none, none, none] _)
    have htl : taken_75.length ≤ 0 + 9 * pre_75.length := by have := foldl_len (fun s : Int × List (Int × Int) => s.2.length) 9 (fun s x => l75_len (n := n_) (kinds := kinds_4) (worths := worths_) (most := most_) (by omega) (by omega) s x) pre_75 (ways_, taken_); rw [hs_75, e_taken_] at this; exact this
    refine q_setG (i := 15) (Γ' := fun own_ => [(some (fz rScr script_)), (some (fz (rLst rInt) row_)), (some (fz rInt n_)), (some (fz (rTup rInt) most_)), (some (fz rInt kind_3)), (some (fz (rLst (rPr rInt rInt)) taken_75)), none, none, none, none, none, none, (some (fz (rTup rInt) kinds_4)), (some (fz (rTup rInt) worths_)), (some (fz rInt ways_75)), (some (fz (rLst (rPr rInt rInt)) own_)), none, none, none, none]) (ps_set sc.nd rfl (.inl rfl) (e_fz (e_sortD (enc_pr enc_int enc_int) (ord_pr ord_int ord_int) shp_pr hr (by rfl) T.z_sorted (a_L (e_LN (e_lc (R := rInt) (S := (rPr rInt rInt)) (own := [("k", 10)]) (xs := (rg 0 n_)) (p := fun k_4 => (decide ((ix kinds_4 k_4) = kind_3))) (f := fun k_4 => ((-(ix worths_ k_4)), k_4)) rfl sc.nd (i_of (f_rg1 (by rfl) T.z_range (a_cons (e_var (pv 2) rfl) a_nil) (by first | omega | assumption | trivial | (simp only [decide_eq_true_eq, decide_eq_false_iff_not, Bool.and_eq_true, Bool.or_eq_true, Bool.not_eq_true', Bool.not_eq_false', Bool.and_eq_false_iff, Bool.or_eq_false_iff] at *; omega))) (by simp only [rg_length, rgd_length, sizeLine_eq]; omega)) (blkOk_by (N := N_law) (sc := defScope s_law) (by decide +kernel)) (by decide) (fun _ _ _ _ _ => (g_name (R := rInt) (i := 10) (pg_name sc.nd rfl (by first | exact .inl rfl | exact .inr rfl)))) (fun _ _ _ _ _ => ct_one fun k_4 hk_4 => have hk_42 := mem_rg hk_4; (t_cmp (e_eqS scal_int (e_ix (e_BT (e_var (pv 12) rfl)) (e_var (pv 10) rfl) (by first | omega | assumption | trivial | (simp only [decide_eq_true_eq, decide_eq_false_iff_not, Bool.and_eq_true, Bool.or_eq_true, Bool.not_eq_true', Bool.not_eq_false', Bool.and_eq_false_iff, Bool.or_eq_false_iff] at *; omega))) (e_var (pv 4) rfl)))) (fun k_4 hk_4 hk_4p _ _ _ _ _ => have hk_42 := mem_rg hk_4; (e_pr (a_cons (e_neg (e_ix (e_BT (e_var (pv 13) rfl)) (e_var (pv 10) rfl) (by first | omega | assumption | trivial | (simp only [decide_eq_true_eq, decide_eq_false_iff_not, Bool.and_eq_true, Bool.or_eq_true, Bool.not_eq_true', Bool.not_eq_false', Bool.and_eq_false_iff, Bool.or_eq_false_iff] at *; omega)))) (a_cons (e_var (pv 10) rfl) a_nil)))))) a_nil)))) (fun _ => rfl) (fun own_ e_own_ => ?_)
    have hol : (own_.length : Int) = cnt kinds_4 kind_3 (rg 0 n_) := by rw [e_own_]; exact ownK_len _ _ _
    have hol2 := cnt_le kinds_4 kind_3 (rg 0 n_)
    rw [rg_length] at hol2
    have hmx := D.mr kind_3 hm_75.1 hm_75.2
    have hcu := cut_le own_ none (some (ix most_ kind_3))
    have hwb : 0 ≤ f_law_ways (own_.length : Int) (ix most_ kind_3) ∧ f_law_ways (own_.length : Int) (ix most_ kind_3) ≤ 2 ^ 9 := by rw [ways_bs (by omega) hmx.1]; exact ⟨(bs_le _ _).1, Int.le_trans (bs_le _ _).2 (Int.ofNat_le.mpr (Nat.pow_le_pow_right (by decide) (by omega : _ ≤ 9)))⟩
    refine q_parG (i := 14) (j := 5) (fun ways_2 taken_2 => [(some (fz rScr script_)), (some (fz (rLst rInt) row_)), (some (fz rInt n_)), (some (fz (rTup rInt) most_)), (some (fz rInt kind_3)), (some (fz (rLst (rPr rInt rInt)) taken_2)), none, none, none, none, none, none, (some (fz (rTup rInt) kinds_4)), (some (fz (rTup rInt) worths_)), (some (fz rInt ways_2)), (some (fz (rLst (rPr rInt rInt)) own_)), none, none, none, none]) (by decide) (ps_par rfl sc.nd rfl rfl (by decide) rfl rfl (a_cons (e_mul (e_var (pv 14) rfl) (e_callG (x := "_law_ways") (y := (f_law_ways (own_.length : Int) (ix most_ kind_3))) ((own_.length : Int), (ix most_ kind_3)) ((ok_f_law_ways (P := P) (W := W) (base := base) T).mono (by decide)) hr (by rfl) T.m__law_ways T.f__law_ways.kp T.b__law_ways (a_cons (e_len (R := (rPr rInt rInt)) (by rfl) T.z_len (a_B (e_BE (e_var (pv 15) rfl)) a_nil)) (a_cons (e_ix (e_BT (e_var (pv 3) rfl)) (e_var (pv 4) rfl) (by first | omega | assumption | trivial | (simp only [decide_eq_true_eq, decide_eq_false_iff_not, Bool.and_eq_true, Bool.or_eq_true, Bool.not_eq_true', Bool.not_eq_false', Bool.and_eq_false_iff, Bool.or_eq_false_iff] at *; omega))) a_nil)) (by simp only [pre_f_law_ways]; first | omega | assumption | trivial | (simp only [decide_eq_true_eq, decide_eq_false_iff_not, Bool.and_eq_true, Bool.or_eq_true, Bool.not_eq_true', Bool.not_eq_false', Bool.and_eq_false_iff, Bool.or_eq_false_iff] at *; omega)) rfl) (by first | (left; omega) | (right; omega))) (a_cons (e_fz (e_catL (e_LE (e_var (pv 5) rfl)) (e_LN (e_cutL (e_LE (e_var (pv 15) rfl)) o_none (o_some (e_ix (e_BT (e_var (pv 3) rfl)) (e_var (pv 4) rfl) (by first | omega | assumption | trivial | (simp only [decide_eq_true_eq, decide_eq_false_iff_not, Bool.and_eq_true, Bool.or_eq_true, Bool.not_eq_true', Bool.not_eq_false', Bool.and_eq_false_iff, Bool.or_eq_false_iff] at *; omega)))))) (by first | (simp only [List.length_append, List.length_cons, List.length_nil, List.length_map, List.length_set, List.length_reverse, rg_length, rgd_length, enu_length, sortD_length, sortI_length, sizeLine_eq]; omega) | (simp only [List.length_append, List.length_cons, List.length_nil, List.length_map, List.length_set, List.length_reverse, rg_length, rgd_length, enu_length, sortD_length, sortI_length, sizeLine_eq]; refine Nat.le_trans (Nat.add_le_add_right (List.length_filter_le _ _) _) ?_; omega) | (simp only [List.length_append, List.length_cons, List.length_nil, List.length_map, List.length_set, List.length_reverse, rg_length, rgd_length, enu_length, sortD_length, sortI_length, sizeLine_eq] at *; omega)))) a_nil)) (by rfl)) (fun _ _ => rfl) (fun ways_2 taken_2 e_ways_2 e_taken_2 => ?_)
    subst e_taken_2
    subst e_ways_2
    subst e_own_
    exact q_nil (sub_keep (sub_keep (sub_keep (sub_keep (sub_skip (sub_keep (sub_keep (sub_keep (sub_keep (sub_keep (sub_keep (sub_keep (sub_keep (sub_keep (sub_keep (sub_skip (sub_keep (sub_keep (sub_keep (sub_keep sub_nil))))))))))))))))))))
  · skip
    generalize e_st_2 : List.foldl (f_law_l75 n_ worths_ kinds_4 most_) (ways_, taken_) (rg 0 (4 : Int)) = st_2
    show PSs _ _ (tO _ [(some (fz rScr script_)), (some (fz (rLst rInt) row_)), (some (fz rInt n_)), (some (fz (rTup rInt) most_)), none, (some (fz (rLst (rPr rInt rInt)) st_2.2)), none, none, none, none, none, none, (some (fz (rTup rInt) kinds_4)), (some (fz (rTup rInt) worths_)), (some (fz rInt st_2.1)), none, none, none, none, none] _)
    have hw3 : st_2.1 = f_all_may kinds_4 most_ := by rw [← e_st_2, e_ways_, e_taken_, loop_eq D]
    refine q_setG (i := 5) (Γ' := fun taken_3 => [(some (fz rScr script_)), (some (fz (rLst rInt) row_)), (some (fz rInt n_)), (some (fz (rTup rInt) most_)), none, (some (fz (rLst rInt) taken_3)), none, none, none, none, none, none, (some (fz (rTup rInt) kinds_4)), (some (fz (rTup rInt) worths_)), (some (fz rInt st_2.1)), none, none, none, none, none]) (s_fz (s_lc0 (i := 5) (R := (rPr rInt rInt)) (S := rInt) (own := [("one", 16)]) (xs := (sortD (encPr PyData.int PyData.int) st_2.2)) (f := fun one_ => one_.2) rfl sc.nd rfl rfl (sw_true rfl rfl rfl (by decide +kernel)) (i_lst (e_LN (e_sortD (enc_pr enc_int enc_int) (ord_pr ord_int ord_int) shp_pr hr (by rfl) T.z_sorted (a_L (e_LE (e_var (pv 5) rfl)) a_nil)))) (blkOk_by (N := N_law) (sc := defScope s_law) (by decide +kernel)) (by decide) (fun _ _ _ _ _ => (g_name (R := (rPr rInt rInt)) (i := 16) (pg_name sc.nd rfl (by first | exact .inl rfl | exact .inr rfl)))) (fun one_ hone_ _ _ _ _ _ => (e_p1 (e_var (pv 16) rfl) e_int (by decide))))) (fun _ => rfl) (fun taken_3 e_taken_3 => ?_)
    have ht3 : taken_3 = best kinds_4 worths_ most_ := by rw [e_taken_3, ← e_st_2, e_ways_, e_taken_]; exact taken_eq D
    refine q_skip (t_not (t_val (e_callG (x := "_law_like") (y := (f_law_like ((dyPr Dy.int (dyTup Dy.int)) ((f_all_may kinds_4 most_), (f_best_set kinds_4 most_ worths_))) ((dyPr Dy.int (dyTup Dy.int)) (st_2.1, (sortI taken_3))))) (((dyPr Dy.int (dyTup Dy.int)) ((f_all_may kinds_4 most_), (f_best_set kinds_4 most_ worths_))), ((dyPr Dy.int (dyTup Dy.int)) (st_2.1, (sortI taken_3)))) ((ok_f_law_like (P := P) (W := W) (base := base) T).mono (by decide)) hr (by rfl) T.m__law_like T.f__law_like.kp T.b__law_like (a_cons (e_dy (f := (dyPr Dy.int (dyTup Dy.int))) (x := ((f_all_may kinds_4 most_), (f_best_set kinds_4 most_ worths_))) (dy_pr dy_int (dy_tup dy_int)) (e_pr (a_cons (e_callG (x := "all_may") (y := (f_all_may kinds_4 most_)) (kinds_4, most_) ((ok_f_all_may (P := P) (W := W) (base := base) T).mono (by decide)) hr (by rfl) T.m_all_may T.f_all_may.kp T.b_all_may (a_cons (e_var (pv 12) rfl) (a_cons (e_var (pv 3) rfl) a_nil)) (by simp only [pre_f_all_may]; first | omega | assumption | trivial | (simp only [decide_eq_true_eq, decide_eq_false_iff_not, Bool.and_eq_true, Bool.or_eq_true, Bool.not_eq_true', Bool.not_eq_false', Bool.and_eq_false_iff, Bool.or_eq_false_iff] at *; omega)) rfl) (a_cons (e_callG (x := "best_set") (y := (f_best_set kinds_4 most_ worths_)) (kinds_4, most_, worths_) ((ok_f_best_set (P := P) (W := W) (base := base) T).mono (by decide)) hr (by rfl) T.m_best_set T.f_best_set.kp T.b_best_set (a_cons (e_var (pv 12) rfl) (a_cons (e_var (pv 3) rfl) (a_cons (e_var (pv 13) rfl) a_nil))) (by simp only [pre_f_best_set]; first | omega | assumption | trivial | (simp only [decide_eq_true_eq, decide_eq_false_iff_not, Bool.and_eq_true, Bool.or_eq_true, Bool.not_eq_true', Bool.not_eq_false', Bool.and_eq_false_iff, Bool.or_eq_false_iff] at *; omega)) rfl) a_nil)))) (a_cons (e_dy (f := (dyPr Dy.int (dyTup Dy.int))) (x := (st_2.1, (sortI taken_3))) (dy_pr dy_int (dy_tup dy_int)) (e_pr (a_cons (e_var (pv 14) rfl) (a_cons (e_tupL (by rfl) T.z_tuple (a_L (e_LN (e_sortI (by rfl) T.z_sorted (a_L (e_LE (e_var (pv 5) rfl)) a_nil))) a_nil)) a_nil)))) a_nil)) (Nat.le_trans ((dd_pr dd_int (dd_tup dd_int)) _) (by decide)) rfl))) ?_ ?_
    · exact lk (by rw [hw3, best_all D, ht3])
    refine q_for (R := rInt) (xs := (rg 0 (n_ + (2 : Int)))) (σ' := Unit) (G := fun _ => [(some (fz rScr script_)), (some (fz (rLst rInt) row_)), (some (fz rInt n_)), (some (fz (rTup rInt) most_)), none, (some (fz (rLst rInt) taken_3)), none, none, none, none, none, none, (some (fz (rTup rInt) kinds_4)), (some (fz (rTup rInt) worths_)), (some (fz rInt st_2.1)), none, none, none, none, none]) (g := fun _ _ => ()) (s0 := ()) PassesOwn.never rfl (f_rg1 (by rfl) T.z_range (a_cons (e_add (e_var (pv 2) rfl) e_int) a_nil) (by first | omega | assumption | trivial | (simp only [decide_eq_true_eq, decide_eq_false_iff_not, Bool.and_eq_true, Bool.or_eq_true, Bool.not_eq_true', Bool.not_eq_false', Bool.and_eq_false_iff, Bool.or_eq_false_iff] at *; omega))) (g_name (R := rInt) (i := 6) (pg_name sc.nd rfl (by first | exact .inl rfl | exact .inr rfl))) (sub_keep (sub_keep (sub_keep (sub_keep (sub_keep (sub_keep (sub_keep (sub_keep (sub_keep (sub_keep (sub_keep (sub_keep (sub_keep (sub_keep (sub_keep (sub_keep (sub_keep (sub_keep (sub_keep (sub_keep sub_nil)))))))))))))))))))) (fun pre_81 m_ post_81 hx_81 => ?_) ?_
    · skip
      have hm_81 := mem_rg (xs_mem hx_81)
      show PSs _ _ (tO _ [(some (fz rScr script_)), (some (fz (rLst rInt) row_)), (some (fz rInt n_)), (some (fz (rTup rInt) most_)), none, (some (fz (rLst rInt) taken_3)), (some (fz rInt m_)), none, none, none, none, none, (some (fz (rTup rInt) kinds_4)), (some (fz (rTup rInt) worths_)), (some (fz rInt st_2.1)), none, none, none, none, none] _)
      refine q_skip (t_not (t_val (e_callG (x := "_law_like") (y := (f_law_like ((dyTup Dy.int) (f_best_of_most kinds_4 most_ worths_ m_)) ((dyTup Dy.int) (sortI (cut taken_3 none (some m_)))))) (((dyTup Dy.int) (f_best_of_most kinds_4 most_ worths_ m_)), ((dyTup Dy.int) (sortI (cut taken_3 none (some m_))))) ((ok_f_law_like (P := P) (W := W) (base := base) T).mono (by decide)) hr (by rfl) T.m__law_like T.f__law_like.kp T.b__law_like (a_cons (e_dy (f := (dyTup Dy.int)) (x := (f_best_of_most kinds_4 most_ worths_ m_)) (dy_tup dy_int) (e_callG (x := "best_of_most") (y := (f_best_of_most kinds_4 most_ worths_ m_)) (kinds_4, most_, worths_, m_) ((ok_f_best_of_most (P := P) (W := W) (base := base) T).mono (by decide)) hr (by rfl) T.m_best_of_most T.f_best_of_most.kp T.b_best_of_most (a_cons (e_var (pv 12) rfl) (a_cons (e_var (pv 3) rfl) (a_cons (e_var (pv 13) rfl) (a_cons (e_var (pv 6) rfl) a_nil)))) (by simp only [pre_f_best_of_most]; first | omega | assumption | trivial | (simp only [decide_eq_true_eq, decide_eq_false_iff_not, Bool.and_eq_true, Bool.or_eq_true, Bool.not_eq_true', Bool.not_eq_false', Bool.and_eq_false_iff, Bool.or_eq_false_iff] at *; omega)) rfl)) (a_cons (e_dy (f := (dyTup Dy.int)) (x := (sortI (cut taken_3 none (some m_)))) (dy_tup dy_int) (e_tupL (by rfl) T.z_tuple (a_L (e_LN (e_sortI (by rfl) T.z_sorted (a_L (e_LN (e_cutL (e_LE (e_var (pv 5) rfl)) o_none (o_some (e_var (pv 6) rfl)))) a_nil))) a_nil))) a_nil)) (Nat.le_trans ((dd_tup dd_int) _) (by decide)) rfl))) ?_ ?_
      · exact lk (by rw [best_m D hm_81.1, cut_take _ hm_81.1, ht3])
      exact q_nil (sub_keep (sub_keep (sub_keep (sub_keep (sub_keep (sub_keep (sub_skip (sub_keep (sub_keep (sub_keep (sub_keep (sub_keep (sub_keep (sub_keep (sub_keep (sub_keep (sub_keep (sub_keep (sub_keep (sub_keep sub_nil))))))))))))))))))))
    · skip
      refine q_setG (i := 7) (Γ' := fun drawn_ => [(some (fz rScr script_)), (some (fz (rLst rInt) row_)), (some (fz rInt n_)), (some (fz (rTup rInt) most_)), none, (some (fz (rLst rInt) taken_3)), none, (some (fz (rTup rInt) drawn_)), none, none, none, none, (some (fz (rTup rInt) kinds_4)), (some (fz (rTup rInt) worths_)), (some (fz rInt st_2.1)), none, none, none, none, none]) (ps_set sc.nd rfl (.inr rfl) (e_tupL (by rfl) T.z_tuple (a_L (e_LN (e_lc (R := rInt) (S := rInt) (own := [("k", 10)]) (xs := (rg 0 n_)) (p := fun k_5 => (decide ((0 : Int) < ((ix row_ ((22 : Int) + k_5)) % (3 : Int))))) (f := fun k_5 => k_5) rfl sc.nd (i_of (f_rg1 (by rfl) T.z_range (a_cons (e_var (pv 2) rfl) a_nil) (by first | omega | assumption | trivial | (simp only [decide_eq_true_eq, decide_eq_false_iff_not, Bool.and_eq_true, Bool.or_eq_true, Bool.not_eq_true', Bool.not_eq_false', Bool.and_eq_false_iff, Bool.or_eq_false_iff] at *; omega))) (by simp only [rg_length, rgd_length, sizeLine_eq]; omega)) (blkOk_by (N := N_law) (sc := defScope s_law) (by decide +kernel)) (by decide) (fun _ _ _ _ _ => (g_name (R := rInt) (i := 10) (pg_name sc.nd rfl (by first | exact .inl rfl | exact .inr rfl)))) (fun _ _ _ _ _ => ct_one fun k_5 hk_5 => have hk_52 := mem_rg hk_5; (t_cmp (e_gt (e_mod (e_intC (by rfl) T.z_int (a_cons (e_ix (e_BE (e_var (pv 1) rfl)) (e_add e_int (e_var (pv 10) rfl)) (by first | omega | assumption | trivial | (simp only [decide_eq_true_eq, decide_eq_false_iff_not, Bool.and_eq_true, Bool.or_eq_true, Bool.not_eq_true', Bool.not_eq_false', Bool.and_eq_false_iff, Bool.or_eq_false_iff] at *; omega))) a_nil)) e_int (by first | omega | assumption | trivial | (simp only [decide_eq_true_eq, decide_eq_false_iff_not, Bool.and_eq_true, Bool.or_eq_true, Bool.not_eq_true', Bool.not_eq_false', Bool.and_eq_false_iff, Bool.or_eq_false_iff] at *; omega))) e_int))) (fun k_5 hk_5 hk_5p _ _ _ _ _ => have hk_52 := mem_rg hk_5; (e_var (pv 10) rfl)))) a_nil))) (fun _ => rfl) (fun drawn_ e_drawn_ => ?_)
      have hdr : ∀ t ∈ drawn_, 0 ≤ t ∧ t < n_ := by rw [e_drawn_]; exact all_filterm fun t ht => mem_rg ht
      have hdn : drawn_.Nodup := by rw [e_drawn_, List.map_id']; exact (rg_nodup _ _).filter _
      have hdl : drawn_.length ≤ 9 := by rw [e_drawn_, List.map_id']; exact Nat.le_trans (List.length_filter_le _ _) (by rw [rg_length]; omega)
      refine q_setG (i := 8) (Γ' := fun counts_ => [(some (fz rScr script_)), (some (fz (rLst rInt) row_)), (some (fz rInt n_)), (some (fz (rTup rInt) most_)), none, (some (fz (rLst rInt) taken_3)), none, (some (fz (rTup rInt) drawn_)), (some (fz (rLst rInt) counts_)), none, none, none, (some (fz (rTup rInt) kinds_4)), (some (fz (rTup rInt) worths_)), (some (fz rInt st_2.1)), none, none, none, none, none]) (ps_set sc.nd rfl (.inr rfl) (e_fz (e_lc0 (R := rInt) (S := rInt) (own := [("kind", 4)]) (xs := (rg 0 (4 : Int))) (f := fun kind_4 => (((drawn_.filter fun k_6 => (decide ((ix kinds_4 k_6) = kind_4))).map fun k_6 => k_6).length : Int)) rfl sc.nd (i_of (f_rg1 (by rfl) T.z_range (a_cons e_int a_nil) (by first | omega | assumption | trivial | (simp only [decide_eq_true_eq, decide_eq_false_iff_not, Bool.and_eq_true, Bool.or_eq_true, Bool.not_eq_true', Bool.not_eq_false', Bool.and_eq_false_iff, Bool.or_eq_false_iff] at *; omega))) (by simp only [rg_length, rgd_length, sizeLine_eq]; omega)) (blkOk_by (N := N_law) (sc := defScope s_law) (by decide +kernel)) (by decide) (fun _ _ _ _ _ => (g_name (R := rInt) (i := 4) (pg_name sc.nd rfl (by first | exact .inl rfl | exact .inr rfl)))) (fun kind_4 hkind_4 _ _ _ _ _ => have hkind_42 := mem_rg hkind_4; (e_len (R := rInt) (by rfl) T.z_len (a_B (e_BN (e_lc (R := rInt) (S := rInt) (own := [("k", 10)]) (xs := drawn_) (p := fun k_6 => (decide ((ix kinds_4 k_6) = kind_4))) (f := fun k_6 => k_6) rfl sc.nd (i_tup (e_var (pv 7) rfl)) (blkOk_by (by rfl)) (by decide) (fun _ _ _ _ _ => (g_name (R := rInt) (i := 10) (pg_name sc.nd rfl (by first | exact .inl rfl | exact .inr rfl)))) (fun _ _ _ _ _ => ct_one fun k_6 hk_6 => have hk_63 := hdr k_6 hk_6; (t_cmp (e_eqS scal_int (e_ix (e_BT (e_var (pv 12) rfl)) (e_var (pv 10) rfl) (by first | omega | assumption | trivial | (simp only [decide_eq_true_eq, decide_eq_false_iff_not, Bool.and_eq_true, Bool.or_eq_true, Bool.not_eq_true', Bool.not_eq_false', Bool.and_eq_false_iff, Bool.or_eq_false_iff] at *; omega))) (e_var (pv 4) rfl)))) (fun k_6 hk_6 hk_6p _ _ _ _ _ => have hk_63 := hdr k_6 hk_6; (e_var (pv 10) rfl)))) a_nil)))))) (fun _ => rfl) (fun counts_ e_counts_ => ?_)
      have hcl : counts_.length = 4 := by rw [e_counts_]; rfl
      refine q_skip (t_not (t_val (e_callG (x := "_law_like") (y := (f_law_like (Dy.bl (f_may_have kinds_4 most_ drawn_)) (Dy.bl (((rg 0 (4 : Int)).map fun kind_5 => (decide ((ix counts_ kind_5) ≤ (ix most_ kind_5)))).all id)))) ((Dy.bl (f_may_have kinds_4 most_ drawn_)), (Dy.bl (((rg 0 (4 : Int)).map fun kind_5 => (decide ((ix counts_ kind_5) ≤ (ix most_ kind_5)))).all id))) ((ok_f_law_like (P := P) (W := W) (base := base) T).mono (by decide)) hr (by rfl) T.m__law_like T.f__law_like.kp T.b__law_like (a_cons (e_dy (f := Dy.bl) (x := (f_may_have kinds_4 most_ drawn_)) dy_bool (e_callG (x := "may_have") (y := (f_may_have kinds_4 most_ drawn_)) (kinds_4, most_, drawn_) ((ok_f_may_have (P := P) (W := W) (base := base) T).mono (by decide)) hr (by rfl) T.m_may_have T.f_may_have.kp T.b_may_have (a_cons (e_var (pv 12) rfl) (a_cons (e_var (pv 3) rfl) (a_cons (e_var (pv 7) rfl) a_nil))) (by simp only [pre_f_may_have]; rw [hkl]; exact hdr) rfl)) (a_cons (e_dy (f := Dy.bl) (x := (((rg 0 (4 : Int)).map fun kind_5 => (decide ((ix counts_ kind_5) ≤ (ix most_ kind_5)))).all id)) dy_bool (e_all rfl (by rfl) T.z_all (a_L (e_LN (e_lc0 (R := rInt) (S := rBool) (own := [("kind", 4)]) (xs := (rg 0 (4 : Int))) (f := fun kind_5 => (decide ((ix counts_ kind_5) ≤ (ix most_ kind_5)))) rfl sc.nd (i_of (f_rg1 (by rfl) T.z_range (a_cons e_int a_nil) (by first | omega | assumption | trivial | (simp only [decide_eq_true_eq, decide_eq_false_iff_not, Bool.and_eq_true, Bool.or_eq_true, Bool.not_eq_true', Bool.not_eq_false', Bool.and_eq_false_iff, Bool.or_eq_false_iff] at *; omega))) (by simp only [rg_length, rgd_length, sizeLine_eq]; omega)) (blkOk_by (N := N_law) (sc := defScope s_law) (by decide +kernel)) (by decide) (fun _ _ _ _ _ => (g_name (R := rInt) (i := 4) (pg_name sc.nd rfl (by first | exact .inl rfl | exact .inr rfl)))) (fun kind_5 hkind_5 _ _ _ _ _ => have hkind_52 := mem_rg hkind_5; (e_le (e_ix (e_BE (e_var (pv 8) rfl)) (e_var (pv 4) rfl) (by first | omega | assumption | trivial | (simp only [decide_eq_true_eq, decide_eq_false_iff_not, Bool.and_eq_true, Bool.or_eq_true, Bool.not_eq_true', Bool.not_eq_false', Bool.and_eq_false_iff, Bool.or_eq_false_iff] at *; omega))) (e_ix (e_BT (e_var (pv 3) rfl)) (e_var (pv 4) rfl) (by first | omega | assumption | trivial | (simp only [decide_eq_true_eq, decide_eq_false_iff_not, Bool.and_eq_true, Bool.or_eq_true, Bool.not_eq_true', Bool.not_eq_false', Bool.and_eq_false_iff, Bool.or_eq_false_iff] at *; omega))))))) a_nil))) a_nil)) (Nat.le_trans (dd_bool _) (by decide)) rfl))) ?_ ?_
      · exact lk (congrArg Dy.bl (drawn_ok D hdr e_counts_))
      refine q_setOG (i := 9) (Γ' := fun chosen_ => [(some (fz rScr script_)), (some (fz (rLst rInt) row_)), (some (fz rInt n_)), (some (fz (rTup rInt) most_)), none, (some (fz (rLst rInt) taken_3)), none, (some (fz (rTup rInt) drawn_)), (some (fz (rLst rInt) counts_)), (some (own rInt chosen_)), none, none, (some (fz (rTup rInt) kinds_4)), (some (fz (rTup rInt) worths_)), (some (fz rInt st_2.1)), none, none, none, none, none]) (ps_set sc.nd rfl (.inl rfl) (e_lstH (R := rInt) h_nil)) (fun _ => rfl) (fun chosen_ e_chosen_ => ?_)
      have hln_chosen_ := congrArg List.length e_chosen_
      try simp only [List.length_cons, List.length_nil, List.length_map, rg_length, rgd_length, List.length_append] at hln_chosen_
      refine q_for (R := rInt) (xs := drawn_) (σ' := (List Int)) (G := fun st_ => [(some (fz rScr script_)), (some (fz (rLst rInt) row_)), (some (fz rInt n_)), (some (fz (rTup rInt) most_)), none, (some (fz (rLst rInt) taken_3)), none, (some (fz (rTup rInt) drawn_)), (some (fz (rLst rInt) counts_)), (some (own rInt st_)), none, none, (some (fz (rTup rInt) kinds_4)), (some (fz (rTup rInt) worths_)), (some (fz rInt st_2.1)), none, none, none, none, none]) (g := (f_law_l89 most_ kinds_4)) (s0 := chosen_) PassesOwn.never rfl (f_tup (e_var (pv 7) rfl)) (g_name (R := rInt) (i := 10) (pg_name sc.nd rfl (by first | exact .inl rfl | exact .inr rfl))) (sub_keep (sub_keep (sub_keep (sub_keep (sub_keep (sub_keep (sub_keep (sub_keep (sub_keep (sub_keep (sub_keep (sub_keep (sub_keep (sub_keep (sub_keep (sub_keep (sub_keep (sub_keep (sub_keep (sub_keep sub_nil)))))))))))))))))))) (fun pre_89 k_7 post_89 hx_89 => ?_) ?_
      · skip
        generalize hs_89 : List.foldl (f_law_l89 most_ kinds_4) chosen_ pre_89 = st_3
        have hlen_chosen_89 : (st_3).length ≤ (chosen_).length + 1 * (pre_89).length := by rw [← hs_89]; exact foldl_len (fun s_ : (List Int) => (s_).length) 1 (fun s_ x_ => by unfold f_law_l89; dsimp only; (repeat' split) <;> (try simp only [List.length_append, List.length_cons, List.length_nil, List.length_set]) <;> omega) _ _
        have hxl_89 := congrArg List.length hx_89
        simp only [List.length_append, List.length_cons, List.length_nil, List.length_map, List.length_set, List.length_reverse, rg_length, rgd_length, enu_length, sortD_length, sortI_length] at hxl_89
        have hm_89 := xs_mem hx_89
        show PSs _ _ (tO _ [(some (fz rScr script_)), (some (fz (rLst rInt) row_)), (some (fz rInt n_)), (some (fz (rTup rInt) most_)), none, (some (fz (rLst rInt) taken_3)), none, (some (fz (rTup rInt) drawn_)), (some (fz (rLst rInt) counts_)), (some (own rInt st_3)), (some (fz rInt k_7)), none, (some (fz (rTup rInt) kinds_4)), (some (fz (rTup rInt) worths_)), (some (fz rInt st_2.1)), none, none, none, none, none] _)
        have hI : (∀ t ∈ st_3, 0 ≤ t ∧ t < n_) ∧ st_3.Nodup ∧ okc kinds_4 (ix most_) st_3 = true ∧ st_3.length ≤ 9 := by rw [← hs_89, e_chosen_]; exact chosen_inv D hdr hdn hdl pre_89 _ hx_89
        have hch := hI.1
        have hk := hdr k_7 hm_89
        have hkx := D.kr k_7 hk.1 hk.2
        have hI4 := hI.2.2.2
        refine q_ifB (fun tt_ => [(some (fz rScr script_)), (some (fz (rLst rInt) row_)), (some (fz rInt n_)), (some (fz (rTup rInt) most_)), none, (some (fz (rLst rInt) taken_3)), none, (some (fz (rTup rInt) drawn_)), (some (fz (rLst rInt) counts_)), (some (own rInt (if tt_ then (let chosen_2 : (List Int) := (st_3 ++ [k_7]); chosen_2) else (st_3)))), (some (fz rInt k_7)), none, (some (fz (rTup rInt) kinds_4)), (some (fz (rTup rInt) worths_)), (some (fz rInt st_2.1)), none, none, none, none, none]) (t_cmp (e_lt (e_len (R := rInt) (by rfl) T.z_len (a_B (e_BN (e_lc (R := rInt) (S := rInt) (own := [("j", 19)]) (xs := st_3) (p := fun j_ => (decide ((ix kinds_4 j_) = (ix kinds_4 k_7)))) (f := fun j_ => j_) rfl sc.nd (i_lst (e_own (pv 9) rfl)) (blkOk_by (N := N_law) (sc := defScope s_law) (by decide +kernel)) (by decide) (fun _ _ _ _ _ => (g_name (R := rInt) (i := 19) (pg_name sc.nd rfl (by first | exact .inl rfl | exact .inr rfl)))) (fun _ _ _ _ _ => ct_one fun j_ hj_ => have hj_3 := hch j_ hj_; (t_cmp (e_eqS scal_int (e_ix (e_BT (e_var (pv 12) rfl)) (e_var (pv 19) rfl) (by first | omega | assumption | trivial | (simp only [decide_eq_true_eq, decide_eq_false_iff_not, Bool.and_eq_true, Bool.or_eq_true, Bool.not_eq_true', Bool.not_eq_false', Bool.and_eq_false_iff, Bool.or_eq_false_iff] at *; omega))) (e_ix (e_BT (e_var (pv 12) rfl)) (e_var (pv 10) rfl) (by first | omega | assumption | trivial | (simp only [decide_eq_true_eq, decide_eq_false_iff_not, Bool.and_eq_true, Bool.or_eq_true, Bool.not_eq_true', Bool.not_eq_false', Bool.and_eq_false_iff, Bool.or_eq_false_iff] at *; omega)))))) (fun j_ hj_ hj_p _ _ _ _ _ => have hj_3 := hch j_ hj_; (e_var (pv 19) rfl)))) a_nil)) (e_ix (e_BT (e_var (pv 3) rfl)) (e_ix (e_BT (e_var (pv 12) rfl)) (e_var (pv 10) rfl) (by first | omega | assumption | trivial | (simp only [decide_eq_true_eq, decide_eq_false_iff_not, Bool.and_eq_true, Bool.or_eq_true, Bool.not_eq_true', Bool.not_eq_false', Bool.and_eq_false_iff, Bool.or_eq_false_iff] at *; omega))) (by first | omega | assumption | trivial | (simp only [decide_eq_true_eq, decide_eq_false_iff_not, Bool.and_eq_true, Bool.or_eq_true, Bool.not_eq_true', Bool.not_eq_false', Bool.and_eq_false_iff, Bool.or_eq_false_iff] at *; omega))))) (fun hc_90 => ?_) (fun hc_90 => ?_) ?_
        · skip
          refine q_seqG ([(some (fz rScr script_)), (some (fz (rLst rInt) row_)), (some (fz rInt n_)), (some (fz (rTup rInt) most_)), none, (some (fz (rLst rInt) taken_3)), none, (some (fz (rTup rInt) drawn_)), (some (fz (rLst rInt) counts_)), (some (own rInt (st_3 ++ [k_7]))), (some (fz rInt k_7)), none, (some (fz (rTup rInt) kinds_4)), (some (fz (rTup rInt) worths_)), (some (fz rInt st_2.1)), none, none, none, none, none]) (s_app (i := 9) (x := k_7) (y := "chosen") (py := ⟨0, 0, 0, 0⟩) (apos := ⟨0, 0, 0, 0⟩) (cpos := ⟨0, 0, 0, 0⟩) rfl (ps_expr (pe_bm PySem.F.plainAttrs_list PySem.F.slot_list_append PySem.F.type_list_append mt_append (pv 9) (pa_cons (e_var (pv 10) rfl) pa_nil))) (by first | (simp only [sizeLine_eq]; omega) | (simp only [List.length_append, List.length_cons, List.length_nil, List.length_map, List.length_set, List.length_reverse, rg_length, rgd_length, enu_length, sortD_length, sortI_length, sizeLine_eq] at *; omega))) rfl ?_
          generalize e_chosen_3 : (st_3 ++ [k_7]) = chosen_3
          subst e_chosen_3
          exact q_nil (sub_keep (sub_keep (sub_keep (sub_keep (sub_keep (sub_keep (sub_keep (sub_keep (sub_keep (sub_keep (sub_keep (sub_keep (sub_keep (sub_keep (sub_keep (sub_keep (sub_keep (sub_keep (sub_keep (sub_keep sub_nil))))))))))))))))))))
        · skip
          exact q_nil (sub_keep (sub_keep (sub_keep (sub_keep (sub_keep (sub_keep (sub_keep (sub_keep (sub_keep (sub_keep (sub_keep (sub_keep (sub_keep (sub_keep (sub_keep (sub_keep (sub_keep (sub_keep (sub_keep (sub_keep sub_nil))))))))))))))))))))
        generalize e_chosen_4 : (if (decide ((((st_3.filter fun j_ => (decide ((ix kinds_4 j_) = (ix kinds_4 k_7)))).map fun j_ => j_).length : Int) < (ix most_ (ix kinds_4 k_7)))) then (let chosen_2 : (List Int) := (st_3 ++ [k_7]); chosen_2) else (st_3)) = chosen_4
        subst e_chosen_4
        exact q_nil (sub_keep (sub_keep (sub_keep (sub_keep (sub_keep (sub_keep (sub_keep (sub_keep (sub_keep (sub_keep (sub_skip (sub_keep (sub_keep (sub_keep (sub_keep (sub_keep (sub_keep (sub_keep (sub_keep (sub_keep sub_nil))))))))))))))))))))
      · skip
        generalize e_st_4 : List.foldl (f_law_l89 most_ kinds_4) chosen_ drawn_ = st_4
        have hlen_chosen_89 : (st_4).length ≤ (chosen_).length + 1 * (drawn_).length := by rw [← e_st_4]; exact foldl_len (fun s_ : (List Int) => (s_).length) 1 (fun s_ x_ => by unfold f_law_l89; dsimp only; (repeat' split) <;> (try simp only [List.length_append, List.length_cons, List.length_nil, List.length_set]) <;> omega) _ _
        try simp only [List.length_append, List.length_cons, List.length_nil, List.length_map, List.length_set, List.length_reverse, rg_length, rgd_length, enu_length, sortD_length, sortI_length] at hlen_chosen_89
        show PSs _ _ (tO _ [(some (fz rScr script_)), (some (fz (rLst rInt) row_)), (some (fz rInt n_)), (some (fz (rTup rInt) most_)), none, (some (fz (rLst rInt) taken_3)), none, (some (fz (rTup rInt) drawn_)), (some (fz (rLst rInt) counts_)), (some (own rInt st_4)), none, none, (some (fz (rTup rInt) kinds_4)), (some (fz (rTup rInt) worths_)), (some (fz rInt st_2.1)), none, none, none, none, none] _)
        have hI : (∀ t ∈ st_4, 0 ≤ t ∧ t < n_) ∧ st_4.Nodup ∧ okc kinds_4 (ix most_) st_4 = true ∧ st_4.length ≤ 9 := by rw [← e_st_4, e_chosen_]; exact chosen_inv D hdr hdn hdl drawn_ [] (by simp)
        have hch := hI.1
        have hI4 := hI.2.2.2
        refine q_for (R := rInt) (xs := (rg 0 n_)) (σ' := Unit) (G := fun _ => [(some (fz rScr script_)), (some (fz (rLst rInt) row_)), (some (fz rInt n_)), (some (fz (rTup rInt) most_)), none, (some (fz (rLst rInt) taken_3)), none, (some (fz (rTup rInt) drawn_)), (some (fz (rLst rInt) counts_)), (some (own rInt st_4)), none, none, (some (fz (rTup rInt) kinds_4)), (some (fz (rTup rInt) worths_)), (some (fz rInt st_2.1)), none, none, none, none, none]) (g := fun _ _ => ()) (s0 := ()) PassesOwn.never rfl (f_rg1 (by rfl) T.z_range (a_cons (e_var (pv 2) rfl) a_nil) (by first | omega | assumption | trivial | (simp only [decide_eq_true_eq, decide_eq_false_iff_not, Bool.and_eq_true, Bool.or_eq_true, Bool.not_eq_true', Bool.not_eq_false', Bool.and_eq_false_iff, Bool.or_eq_false_iff] at *; omega))) (g_name (R := rInt) (i := 11) (pg_name sc.nd rfl (by first | exact .inl rfl | exact .inr rfl))) (sub_keep (sub_keep (sub_keep (sub_keep (sub_keep (sub_keep (sub_keep (sub_keep (sub_keep (sub_keep (sub_keep (sub_keep (sub_keep (sub_keep (sub_keep (sub_keep (sub_keep (sub_keep (sub_keep (sub_keep sub_nil)))))))))))))))))))) (fun pre_92 thing_ post_92 hx_92 => ?_) ?_
        · skip
          have hm_92 := mem_rg (xs_mem hx_92)
          show PSs _ _ (tO _ [(some (fz rScr script_)), (some (fz (rLst rInt) row_)), (some (fz rInt n_)), (some (fz (rTup rInt) most_)), none, (some (fz (rLst rInt) taken_3)), none, (some (fz (rTup rInt) drawn_)), (some (fz (rLst rInt) counts_)), (some (own rInt st_4)), none, (some (fz rInt thing_)), (some (fz (rTup rInt) kinds_4)), (some (fz (rTup rInt) worths_)), (some (fz rInt st_2.1)), none, none, none, none, none] _)
          have htx := D.kr thing_ hm_92.1 hm_92.2
          refine q_ifB (fun tt_ => [(some (fz rScr script_)), (some (fz (rLst rInt) row_)), (some (fz rInt n_)), (some (fz (rTup rInt) most_)), none, (some (fz (rLst rInt) taken_3)), none, (some (fz (rTup rInt) drawn_)), (some (fz (rLst rInt) counts_)), (some (own rInt st_4)), none, (some (fz rInt thing_)), (some (fz (rTup rInt) kinds_4)), (some (fz (rTup rInt) worths_)), (some (fz rInt st_2.1)), none, none, none, none, none]) (t_cmp (e_nin flat_int (e_var (pv 11) rfl) (e_BL (e_own (pv 9) rfl)))) (fun hc_93 => ?_) (fun hc_93 => ?_) ?_
          · skip
            refine q_setG (i := 17) (Γ' := fun same_ => [(some (fz rScr script_)), (some (fz (rLst rInt) row_)), (some (fz rInt n_)), (some (fz (rTup rInt) most_)), none, (some (fz (rLst rInt) taken_3)), none, (some (fz (rTup rInt) drawn_)), (some (fz (rLst rInt) counts_)), (some (own rInt st_4)), none, (some (fz rInt thing_)), (some (fz (rTup rInt) kinds_4)), (some (fz (rTup rInt) worths_)), (some (fz rInt st_2.1)), none, none, (some (fz (rTup rInt) same_)), none, none]) (ps_set sc.nd rfl (.inl rfl) (e_tupL (by rfl) T.z_tuple (a_L (e_LN (e_lc (R := rInt) (S := rInt) (own := [("k", 10)]) (xs := st_4) (p := fun k_8 => (decide ((ix kinds_4 k_8) = (ix kinds_4 thing_)))) (f := fun k_8 => k_8) rfl sc.nd (i_lst (e_own (pv 9) rfl)) (blkOk_by (N := N_law) (sc := defScope s_law) (by decide +kernel)) (by decide) (fun _ _ _ _ _ => (g_name (R := rInt) (i := 10) (pg_name sc.nd rfl (by first | exact .inl rfl | exact .inr rfl)))) (fun _ _ _ _ _ => ct_one fun k_8 hk_8 => have hk_83 := hch k_8 hk_8; (t_cmp (e_eqS scal_int (e_ix (e_BT (e_var (pv 12) rfl)) (e_var (pv 10) rfl) (by first | omega | assumption | trivial | (simp only [decide_eq_true_eq, decide_eq_false_iff_not, Bool.and_eq_true, Bool.or_eq_true, Bool.not_eq_true', Bool.not_eq_false', Bool.and_eq_false_iff, Bool.or_eq_false_iff] at *; omega))) (e_ix (e_BT (e_var (pv 12) rfl)) (e_var (pv 11) rfl) (by first | omega | assumption | trivial | (simp only [decide_eq_true_eq, decide_eq_false_iff_not, Bool.and_eq_true, Bool.or_eq_true, Bool.not_eq_true', Bool.not_eq_false', Bool.and_eq_false_iff, Bool.or_eq_false_iff] at *; omega)))))) (fun k_8 hk_8 hk_8p _ _ _ _ _ => have hk_83 := hch k_8 hk_8; (e_var (pv 10) rfl)))) a_nil))) (fun _ => rfl) (fun same_ e_same_ => ?_)
            refine q_setG (i := 18) (Γ' := fun due_ => [(some (fz rScr script_)), (some (fz (rLst rInt) row_)), (some (fz rInt n_)), (some (fz (rTup rInt) most_)), none, (some (fz (rLst rInt) taken_3)), none, (some (fz (rTup rInt) drawn_)), (some (fz (rLst rInt) counts_)), (some (own rInt st_4)), none, (some (fz rInt thing_)), (some (fz (rTup rInt) kinds_4)), (some (fz (rTup rInt) worths_)), (some (fz rInt st_2.1)), none, none, (some (fz (rTup rInt) same_)), (some (fz (rOpt (rTup rInt)) due_)), none]) (ps_set sc.nd rfl (.inl rfl) (e_some (e_var (pv 17) rfl))) (fun _ => rfl) (fun due_ e_due_ => ?_)
            refine q_ifB (fun tt_ => [(some (fz rScr script_)), (some (fz (rLst rInt) row_)), (some (fz rInt n_)), (some (fz (rTup rInt) most_)), none, (some (fz (rLst rInt) taken_3)), none, (some (fz (rTup rInt) drawn_)), (some (fz (rLst rInt) counts_)), (some (own rInt st_4)), none, (some (fz rInt thing_)), (some (fz (rTup rInt) kinds_4)), (some (fz (rTup rInt) worths_)), (some (fz rInt st_2.1)), none, none, (some (fz (rTup rInt) same_)), (some (fz (rOpt (rTup rInt)) (if tt_ then (let due_2 : (Option (List Int)) := (some ([] : (List Int))); due_2) else (let due_4 : (Option (List Int)) := (if (decide ((same_.length : Int) = (0 : Int))) then (let due_3 : (Option (List Int)) := none; due_3) else (due_)); due_4)))), none]) (t_cmp (e_lt (e_len (R := rInt) (by rfl) T.z_len (a_B (e_BT (e_var (pv 17) rfl)) a_nil)) (e_ix (e_BT (e_var (pv 3) rfl)) (e_ix (e_BT (e_var (pv 12) rfl)) (e_var (pv 11) rfl) (by first | omega | assumption | trivial | (simp only [decide_eq_true_eq, decide_eq_false_iff_not, Bool.and_eq_true, Bool.or_eq_true, Bool.not_eq_true', Bool.not_eq_false', Bool.and_eq_false_iff, Bool.or_eq_false_iff] at *; omega))) (by first | omega | assumption | trivial | (simp only [decide_eq_true_eq, decide_eq_false_iff_not, Bool.and_eq_true, Bool.or_eq_true, Bool.not_eq_true', Bool.not_eq_false', Bool.and_eq_false_iff, Bool.or_eq_false_iff] at *; omega))))) (fun hc_96 => ?_) (fun hc_96 => ?_) ?_
            · skip
              refine q_setG (i := 18) (Γ' := fun due_5 => [(some (fz rScr script_)), (some (fz (rLst rInt) row_)), (some (fz rInt n_)), (some (fz (rTup rInt) most_)), none, (some (fz (rLst rInt) taken_3)), none, (some (fz (rTup rInt) drawn_)), (some (fz (rLst rInt) counts_)), (some (own rInt st_4)), none, (some (fz rInt thing_)), (some (fz (rTup rInt) kinds_4)), (some (fz (rTup rInt) worths_)), (some (fz rInt st_2.1)), none, none, (some (fz (rTup rInt) same_)), (some (fz (rOpt (rTup rInt)) due_5)), none]) (ps_set sc.nd rfl (.inl rfl) (e_some (e_tupH (R := rInt) h_nil))) (fun _ => rfl) (fun due_5 e_due_5 => ?_)
              subst e_due_5
              exact q_nil (sub_keep (sub_keep (sub_keep (sub_keep (sub_keep (sub_keep (sub_keep (sub_keep (sub_keep (sub_keep (sub_keep (sub_keep (sub_keep (sub_keep (sub_keep (sub_keep (sub_keep (sub_keep (sub_keep (sub_keep sub_nil))))))))))))))))))))
            · skip
              refine q_ifB (fun tt_ => [(some (fz rScr script_)), (some (fz (rLst rInt) row_)), (some (fz rInt n_)), (some (fz (rTup rInt) most_)), none, (some (fz (rLst rInt) taken_3)), none, (some (fz (rTup rInt) drawn_)), (some (fz (rLst rInt) counts_)), (some (own rInt st_4)), none, (some (fz rInt thing_)), (some (fz (rTup rInt) kinds_4)), (some (fz (rTup rInt) worths_)), (some (fz rInt st_2.1)), none, none, (some (fz (rTup rInt) same_)), (some (fz (rOpt (rTup rInt)) (if tt_ then (let due_6 : (Option (List Int)) := none; due_6) else (due_)))), none]) (t_cmp (e_eqS scal_int (e_len (R := rInt) (by rfl) T.z_len (a_B (e_BT (e_var (pv 17) rfl)) a_nil)) e_int)) (fun hc_98 => ?_) (fun hc_98 => ?_) ?_
              · skip
                refine q_setG (i := 18) (Γ' := fun due_7 => [(some (fz rScr script_)), (some (fz (rLst rInt) row_)), (some (fz rInt n_)), (some (fz (rTup rInt) most_)), none, (some (fz (rLst rInt) taken_3)), none, (some (fz (rTup rInt) drawn_)), (some (fz (rLst rInt) counts_)), (some (own rInt st_4)), none, (some (fz rInt thing_)), (some (fz (rTup rInt) kinds_4)), (some (fz (rTup rInt) worths_)), (some (fz rInt st_2.1)), none, none, (some (fz (rTup rInt) same_)), (some (fz (rOpt (rTup rInt)) due_7)), none]) (ps_set sc.nd rfl (.inl rfl) e_non) (fun _ => rfl) (fun due_7 e_due_7 => ?_)
                subst e_due_7
                exact q_nil (sub_keep (sub_keep (sub_keep (sub_keep (sub_keep (sub_keep (sub_keep (sub_keep (sub_keep (sub_keep (sub_keep (sub_keep (sub_keep (sub_keep (sub_keep (sub_keep (sub_keep (sub_keep (sub_keep (sub_keep sub_nil))))))))))))))))))))
              · skip
                exact q_nil (sub_keep (sub_keep (sub_keep (sub_keep (sub_keep (sub_keep (sub_keep (sub_keep (sub_keep (sub_keep (sub_keep (sub_keep (sub_keep (sub_keep (sub_keep (sub_keep (sub_keep (sub_keep (sub_keep (sub_keep sub_nil))))))))))))))))))))
              generalize e_due_8 : (if (decide ((same_.length : Int) = (0 : Int))) then (let due_6 : (Option (List Int)) := none; due_6) else (due_)) = due_8
              subst e_due_8
              exact q_nil (sub_keep (sub_keep (sub_keep (sub_keep (sub_keep (sub_keep (sub_keep (sub_keep (sub_keep (sub_keep (sub_keep (sub_keep (sub_keep (sub_keep (sub_keep (sub_keep (sub_keep (sub_keep (sub_keep (sub_keep sub_nil))))))))))))))))))))
            generalize e_due_9 : (if (decide ((same_.length : Int) < (ix most_ (ix kinds_4 thing_)))) then (let due_2 : (Option (List Int)) := (some ([] : (List Int))); due_2) else (let due_4 : (Option (List Int)) := (if (decide ((same_.length : Int) = (0 : Int))) then (let due_3 : (Option (List Int)) := none; due_3) else (due_)); due_4)) = due_9
            refine q_skip (t_not (t_val (e_callG (x := "_law_like") (y := (f_law_like ((dyOpt (dyTup Dy.int)) (f_swapped_in kinds_4 most_ st_4 thing_)) ((dyOpt (dyTup Dy.int)) due_9))) (((dyOpt (dyTup Dy.int)) (f_swapped_in kinds_4 most_ st_4 thing_)), ((dyOpt (dyTup Dy.int)) due_9)) ((ok_f_law_like (P := P) (W := W) (base := base) T).mono (by decide)) hr (by rfl) T.m__law_like T.f__law_like.kp T.b__law_like (a_cons (e_dy (f := (dyOpt (dyTup Dy.int))) (x := (f_swapped_in kinds_4 most_ st_4 thing_)) (dy_opt (dy_tup dy_int)) (e_callG (x := "swapped_in") (y := (f_swapped_in kinds_4 most_ st_4 thing_)) (kinds_4, most_, st_4, thing_) ((ok_f_swapped_in (P := P) (W := W) (base := base) T).mono (by decide)) hr (by rfl) T.m_swapped_in T.f_swapped_in.kp T.b_swapped_in (a_cons (e_var (pv 12) rfl) (a_cons (e_var (pv 3) rfl) (a_cons (e_tupL (by rfl) T.z_tuple (a_L (e_own (pv 9) rfl) a_nil)) (a_cons (e_var (pv 11) rfl) a_nil)))) (by simp only [pre_f_swapped_in]; rw [hkl]; exact ⟨hch, hm_92.1, hm_92.2, by omega⟩) rfl)) (a_cons (e_dy (f := (dyOpt (dyTup Dy.int))) (x := due_9) (dy_opt (dy_tup dy_int)) (e_var (pv 18) rfl)) a_nil)) (Nat.le_trans ((dd_opt (dd_tup dd_int)) _) (by decide)) rfl))) ?_ ?_
            · exact lk (congrArg _ (by rw [swapped_eq D hI.2.1 hI.2.2.1 hm_92.1 hm_92.2, ← e_due_9, e_due_, e_same_, List.map_id']))
            subst e_due_9
            subst e_due_
            subst e_same_
            exact q_nil (sub_keep (sub_keep (sub_keep (sub_keep (sub_keep (sub_keep (sub_keep (sub_keep (sub_keep (sub_keep (sub_keep (sub_keep (sub_keep (sub_keep (sub_keep (sub_keep (sub_keep (sub_skip (sub_skip (sub_keep sub_nil))))))))))))))))))))
          · skip
            exact q_nil (sub_keep (sub_keep (sub_keep (sub_keep (sub_keep (sub_keep (sub_keep (sub_keep (sub_keep (sub_keep (sub_keep (sub_keep (sub_keep (sub_keep (sub_keep (sub_keep (sub_keep (sub_keep (sub_keep (sub_keep sub_nil))))))))))))))))))))
          exact q_nil (sub_keep (sub_keep (sub_keep (sub_keep (sub_keep (sub_keep (sub_keep (sub_keep (sub_keep (sub_keep (sub_keep (sub_skip (sub_keep (sub_keep (sub_keep (sub_keep (sub_keep (sub_keep (sub_keep (sub_keep sub_nil))))))))))))))))))))
        · skip
          exact q_ret e_bool
set_option maxHeartbeats 4000000 in
theorem all_mk {l : PySem.W.OpenLaw} {w : World} {K : PySem.W.Frag} {h : Heap} {mg : Str → Option Value} {fa f1 f2 f3 f4 f5 f6 f7 f8 f9 f10 f11 f12 f13 : Addr} (X : K.In h) (G : h.Ns mainGlobals mg) (hfa : mg "law" = some (.ref fa))
    {od1 an1 od2 an2 od3 an3 od4 an4 od5 an5 od6 an6 od7 an7 od8 an8 od9 an9 od10 an10 od11 an11 od12 an12 od13 an13 : Option Addr} {sl1 sl2 sl3 sl4 sl5 sl6 sl7 sl8 sl9 sl10 sl11 sl12 sl13 : Array (Option Value)} {oc1 kV1 dc1 pm1 cd1 ct1 oc2 kV2 dc2 pm2 cd2 ct2 oc3 kV3 dc3 pm3 cd3 ct3 oc4 kV4 dc4 pm4 cd4 ct4 oc5 kV5 dc5 pm5 cd5 ct5 oc6 kV6 dc6 pm6 cd6 ct6 oc7 kV7 dc7 pm7 cd7 ct7 oc8 kV8 dc8 pm8 cd8 ct8 oc9 kV9 dc9 pm9 cd9 ct9 oc10 kV10 dc10 pm10 cd10 ct10 oc11 kV11 dc11 pm11 cd11 ct11 oc12 kV12 dc12 pm12 cd12 ct12 oc13 kV13 dc13 pm13 cd13 ct13 : Value}
    (a1 : PySem.W.nsIn K mainGlobals "all_sets" = some (some (.ref f1))) (l1 : K.lookup f1 = some ⟨oc1, od1, .func (PySem.W.fnOf "all_sets" "all_sets" (defArgs s_all_sets) (defBody s_all_sets) (defScope s_all_sets) .none kV1 dc1 pm1 an1 cd1 ct1), sl1⟩) (c1 : PySem.W.codeIn K cd1 "all_sets" = true) (k1 : PySem.W.keepIn K (.ref f1) = true)
    (a2 : PySem.W.nsIn K mainGlobals "may_have" = some (some (.ref f2))) (l2 : K.lookup f2 = some ⟨oc2, od2, .func (PySem.W.fnOf "may_have" "may_have" (defArgs s_may_have) (defBody s_may_have) (defScope s_may_have) .none kV2 dc2 pm2 an2 cd2 ct2), sl2⟩) (c2 : PySem.W.codeIn K cd2 "may_have" = true) (k2 : PySem.W.keepIn K (.ref f2) = true)
    (a3 : PySem.W.nsIn K mainGlobals "taken_by_worth" = some (some (.ref f3))) (l3 : K.lookup f3 = some ⟨oc3, od3, .func (PySem.W.fnOf "taken_by_worth" "taken_by_worth" (defArgs s_taken_by_worth) (defBody s_taken_by_worth) (defScope s_taken_by_worth) .none kV3 dc3 pm3 an3 cd3 ct3), sl3⟩) (c3 : PySem.W.codeIn K cd3 "taken_by_worth" = true) (k3 : PySem.W.keepIn K (.ref f3) = true)
    (a4 : PySem.W.nsIn K mainGlobals "best_set" = some (some (.ref f4))) (l4 : K.lookup f4 = some ⟨oc4, od4, .func (PySem.W.fnOf "best_set" "best_set" (defArgs s_best_set) (defBody s_best_set) (defScope s_best_set) .none kV4 dc4 pm4 an4 cd4 ct4), sl4⟩) (c4 : PySem.W.codeIn K cd4 "best_set" = true) (k4 : PySem.W.keepIn K (.ref f4) = true)
    (a5 : PySem.W.nsIn K mainGlobals "best_of_most" = some (some (.ref f5))) (l5 : K.lookup f5 = some ⟨oc5, od5, .func (PySem.W.fnOf "best_of_most" "best_of_most" (defArgs s_best_of_most) (defBody s_best_of_most) (defScope s_best_of_most) .none kV5 dc5 pm5 an5 cd5 ct5), sl5⟩) (c5 : PySem.W.codeIn K cd5 "best_of_most" = true) (k5 : PySem.W.keepIn K (.ref f5) = true)
    (a6 : PySem.W.nsIn K mainGlobals "all_may" = some (some (.ref f6))) (l6 : K.lookup f6 = some ⟨oc6, od6, .func (PySem.W.fnOf "all_may" "all_may" (defArgs s_all_may) (defBody s_all_may) (defScope s_all_may) .none kV6 dc6 pm6 an6 cd6 ct6), sl6⟩) (c6 : PySem.W.codeIn K cd6 "all_may" = true) (k6 : PySem.W.keepIn K (.ref f6) = true)
    (a7 : PySem.W.nsIn K mainGlobals "swapped_in" = some (some (.ref f7))) (l7 : K.lookup f7 = some ⟨oc7, od7, .func (PySem.W.fnOf "swapped_in" "swapped_in" (defArgs s_swapped_in) (defBody s_swapped_in) (defScope s_swapped_in) .none kV7 dc7 pm7 an7 cd7 ct7), sl7⟩) (c7 : PySem.W.codeIn K cd7 "swapped_in" = true) (k7 : PySem.W.keepIn K (.ref f7) = true)
    (a8 : PySem.W.nsIn K mainGlobals "_law_mixed" = some (some (.ref f8))) (l8 : K.lookup f8 = some ⟨oc8, od8, .func (PySem.W.fnOf "_law_mixed" "_law_mixed" (defArgs s__law_mixed) (defBody s__law_mixed) (defScope s__law_mixed) .none kV8 dc8 pm8 an8 cd8 ct8), sl8⟩) (c8 : PySem.W.codeIn K cd8 "_law_mixed" = true) (k8 : PySem.W.keepIn K (.ref f8) = true)
    (a9 : PySem.W.nsIn K mainGlobals "_law_row" = some (some (.ref f9))) (l9 : K.lookup f9 = some ⟨oc9, od9, .func (PySem.W.fnOf "_law_row" "_law_row" (defArgs s__law_row) (defBody s__law_row) (defScope s__law_row) .none kV9 dc9 pm9 an9 cd9 ct9), sl9⟩) (c9 : PySem.W.codeIn K cd9 "_law_row" = true) (k9 : PySem.W.keepIn K (.ref f9) = true)
    (a10 : PySem.W.nsIn K mainGlobals "_law_is_int" = some (some (.ref f10))) (l10 : K.lookup f10 = some ⟨oc10, od10, .func (PySem.W.fnOf "_law_is_int" "_law_is_int" (defArgs s__law_is_int) (defBody s__law_is_int) (defScope s__law_is_int) .none kV10 dc10 pm10 an10 cd10 ct10), sl10⟩) (c10 : PySem.W.codeIn K cd10 "_law_is_int" = true) (k10 : PySem.W.keepIn K (.ref f10) = true)
    (a11 : PySem.W.nsIn K mainGlobals "_law_like" = some (some (.ref f11))) (l11 : K.lookup f11 = some ⟨oc11, od11, .func (PySem.W.fnOf "_law_like" "_law_like" (defArgs s__law_like) (defBody s__law_like) (defScope s__law_like) .none kV11 dc11 pm11 an11 cd11 ct11), sl11⟩) (c11 : PySem.W.codeIn K cd11 "_law_like" = true) (k11 : PySem.W.keepIn K (.ref f11) = true)
    (a12 : PySem.W.nsIn K mainGlobals "_law_ways" = some (some (.ref f12))) (l12 : K.lookup f12 = some ⟨oc12, od12, .func (PySem.W.fnOf "_law_ways" "_law_ways" (defArgs s__law_ways) (defBody s__law_ways) (defScope s__law_ways) .none kV12 dc12 pm12 an12 cd12 ct12), sl12⟩) (c12 : PySem.W.codeIn K cd12 "_law_ways" = true) (k12 : PySem.W.keepIn K (.ref f12) = true)
    (a13 : PySem.W.nsIn K mainGlobals "law" = some (some (.ref f13))) (l13 : K.lookup f13 = some ⟨oc13, od13, .func (PySem.W.fnOf "law" "law" (defArgs s_law) (defBody s_law) (defScope s_law) .none kV13 dc13 pm13 an13 cd13 ct13), sl13⟩) (c13 : PySem.W.codeIn K cd13 "law" = true) (k13 : PySem.W.keepIn K (.ref f13) = true)
    (z1 : PySem.W.nsIn K mainGlobals "len" = some none)
    (z2 : PySem.W.nsIn K mainGlobals "int" = some none)
    (z3 : PySem.W.nsIn K mainGlobals "range" = some none)
    (z4 : PySem.W.nsIn K mainGlobals "isinstance" = some none)
    (z5 : PySem.W.nsIn K mainGlobals "bool" = some none)
    (z6 : PySem.W.nsIn K mainGlobals "tuple" = some none)
    (z7 : PySem.W.nsIn K mainGlobals "str" = some none)
    (z8 : PySem.W.nsIn K mainGlobals "all" = some none)
    (z9 : PySem.W.nsIn K mainGlobals "enumerate" = some none)
    (z10 : PySem.W.nsIn K mainGlobals "sorted" = some none)
    (z11 : PySem.W.nsIn K mainGlobals "sum" = some none)
    : ∃ fd : FuncData, (∀ (s : Shared) (v : Value), BindsTo s fd ⟨[v], []⟩ [("script", v)]) ∧ ∀ base : Heap, K.In base → base.Ns mainGlobals mg → FnOk l.prog w K mg base CX0 9 fa fd ["script"] (spG (A := List Int) (fun x => [aF rScr x]) (fun _ => True) rBool (fun _ => true) K) := by
  have e := hfa.symm.trans (PySem.W.mg_of X G a13)
  cases e
  have F1 := fun_mk (st := s_all_sets) l1 c1 k1
  have F2 := fun_mk (st := s_may_have) l2 c2 k2
  have F3 := fun_mk (st := s_taken_by_worth) l3 c3 k3
  have F4 := fun_mk (st := s_best_set) l4 c4 k4
  have F5 := fun_mk (st := s_best_of_most) l5 c5 k5
  have F6 := fun_mk (st := s_all_may) l6 c6 k6
  have F7 := fun_mk (st := s_swapped_in) l7 c7 k7
  have F8 := fun_mk (st := s__law_mixed) l8 c8 k8
  have F9 := fun_mk (st := s__law_row) l9 c9 k9
  have F10 := fun_mk (st := s__law_is_int) l10 c10 k10
  have F11 := fun_mk (st := s__law_like) l11 c11 k11
  have F12 := fun_mk (st := s__law_ways) l12 c12 k12
  have F13 := fun_mk (st := s_law) l13 c13 k13
  have b1 := F1.binds (ps := ["n"]) fun _ _ _ _ _ _ us hl => match us, hl with | [_], _ => rfl
  have b2 := F2.binds (ps := ["kinds", "most", "chosen"]) fun _ _ _ _ _ _ us hl => match us, hl with | [_, _, _], _ => rfl
  have b3 := F3.binds (ps := ["kinds", "most", "worths", "m"]) fun _ _ _ _ _ _ us hl => match us, hl with | [_, _, _, _], _ => rfl
  have b4 := F4.binds (ps := ["kinds", "most", "worths"]) fun _ _ _ _ _ _ us hl => match us, hl with | [_, _, _], _ => rfl
  have b5 := F5.binds (ps := ["kinds", "most", "worths", "m"]) fun _ _ _ _ _ _ us hl => match us, hl with | [_, _, _, _], _ => rfl
  have b6 := F6.binds (ps := ["kinds", "most"]) fun _ _ _ _ _ _ us hl => match us, hl with | [_, _], _ => rfl
  have b7 := F7.binds (ps := ["kinds", "most", "chosen", "thing"]) fun _ _ _ _ _ _ us hl => match us, hl with | [_, _, _, _], _ => rfl
  have b8 := F8.binds (ps := ["script", "k"]) fun _ _ _ _ _ _ us hl => match us, hl with | [_, _], _ => rfl
  have b9 := F9.binds (ps := ["script", "many"]) fun _ _ _ _ _ _ us hl => match us, hl with | [_, _], _ => rfl
  have b10 := F10.binds (ps := ["value"]) fun _ _ _ _ _ _ us hl => match us, hl with | [_], _ => rfl
  have b11 := F11.binds (ps := ["value", "due"]) fun _ _ _ _ _ _ us hl => match us, hl with | [_, _], _ => rfl
  have b12 := F12.binds (ps := ["many", "most"]) fun _ _ _ _ _ _ us hl => match us, hl with | [_, _], _ => rfl
  have b13 := F13.binds (ps := ["script"]) fun _ _ _ _ _ _ us hl => match us, hl with | [_], _ => rfl
  exact ⟨PySem.W.fnOf "law" "law" (defArgs s_law) (defBody s_law) (defScope s_law) .none kV13 dc13 pm13 an13 cd13 ct13, fun s v => .of_eq rfl, fun base _ _ => ok_f_law (P := l.prog) (W := w) (base := base) { a_all_sets := _, d_all_sets := _, f_all_sets := F1, m_all_sets := PySem.W.mg_of X G a1, b_all_sets := b1, a_may_have := _, d_may_have := _, f_may_have := F2, m_may_have := PySem.W.mg_of X G a2, b_may_have := b2, a_taken_by_worth := _, d_taken_by_worth := _, f_taken_by_worth := F3, m_taken_by_worth := PySem.W.mg_of X G a3, b_taken_by_worth := b3, a_best_set := _, d_best_set := _, f_best_set := F4, m_best_set := PySem.W.mg_of X G a4, b_best_set := b4, a_best_of_most := _, d_best_of_most := _, f_best_of_most := F5, m_best_of_most := PySem.W.mg_of X G a5, b_best_of_most := b5, a_all_may := _, d_all_may := _, f_all_may := F6, m_all_may := PySem.W.mg_of X G a6, b_all_may := b6, a_swapped_in := _, d_swapped_in := _, f_swapped_in := F7, m_swapped_in := PySem.W.mg_of X G a7, b_swapped_in := b7, a__law_mixed := _, d__law_mixed := _, f__law_mixed := F8, m__law_mixed := PySem.W.mg_of X G a8, b__law_mixed := b8, a__law_row := _, d__law_row := _, f__law_row := F9, m__law_row := PySem.W.mg_of X G a9, b__law_row := b9, a__law_is_int := _, d__law_is_int := _, f__law_is_int := F10, m__law_is_int := PySem.W.mg_of X G a10, b__law_is_int := b10, a__law_like := _, d__law_like := _, f__law_like := F11, m__law_like := PySem.W.mg_of X G a11, b__law_like := b11, a__law_ways := _, d__law_ways := _, f__law_ways := F12, m__law_ways := PySem.W.mg_of X G a12, b__law_ways := b12, a_law := _, d_law := _, f_law := F13, m_law := PySem.W.mg_of X G a13, b_law := b13, z_len := PySem.W.mg_none_of X G z1, z_int := PySem.W.mg_none_of X G z2, z_range := PySem.W.mg_none_of X G z3, z_isinstance := PySem.W.mg_none_of X G z4, z_bool := PySem.W.mg_none_of X G z5, z_tuple := PySem.W.mg_none_of X G z6, z_str := PySem.W.mg_none_of X G z7, z_all := PySem.W.mg_none_of X G z8, z_enumerate := PySem.W.mg_none_of X G z9, z_sorted := PySem.W.mg_none_of X G z10, z_sum := PySem.W.mg_none_of X G z11 }⟩
end K13
open PySem PySem.W PyProof.Rows
set_option maxHeartbeats 0 in
theorem PySem.Challenge.cw_lentkept_k13_whole_things_by_kinds_holds : PySem.Challenge.rw_lentkept_k13_whole_things_by_kinds.Holds := by
  w_on; o_law; k_head; (case hw => w_witness2)
  k_fill
  refine L2.walk_of (l := PySem.Challenge.rw_lentkept_k13_whole_things_by_kinds) (n := 63) (k := 9) (x := "script") (CX := fun _ => L2.CX0) (sp := fun w => PZ.spG (A := List Int) (fun x => [PZ.aF PZ.rScr x]) (fun _ => True) PZ.rBool (fun _ => true) _) rfl (by decide) rfl ⟨rfl, by decide, by decide⟩ (fun w h Y => PySem.W.kIn_of Y) ?F (fun _ _ a ns hl _ hS => PZ.law_sp hl hS) (fun _ _ _ _ _ h => h)
  case F =>
    intro w mg fa h KX G hmg
    refine' K13.all_mk KX G hmg ?a1 ?l1 ?c1 ?k1 ?a2 ?l2 ?c2 ?k2 ?a3 ?l3 ?c3 ?k3 ?a4 ?l4 ?c4 ?k4 ?a5 ?l5 ?c5 ?k5 ?a6 ?l6 ?c6 ?k6 ?a7 ?l7 ?c7 ?k7 ?a8 ?l8 ?c8 ?k8 ?a9 ?l9 ?c9 ?k9 ?a10 ?l10 ?c10 ?k10 ?a11 ?l11 ?c11 ?k11 ?a12 ?l12 ?c12 ?k12 ?a13 ?l13 ?c13 ?k13 ?z1 ?z2 ?z3 ?z4 ?z5 ?z6 ?z7 ?z8 ?z9 ?z10 ?z11
    (case a1 => k_is); (case l1 => k_is); (case c1 => k_is); (case k1 => k_is); (case a2 => k_is); (case l2 => k_is); (case c2 => k_is); (case k2 => k_is); (case a3 => k_is); (case l3 => k_is); (case c3 => k_is); (case k3 => k_is); (case a4 => k_is); (case l4 => k_is); (case c4 => k_is); (case k4 => k_is); (case a5 => k_is); (case l5 => k_is); (case c5 => k_is); (case k5 => k_is); (case a6 => k_is); (case l6 => k_is); (case c6 => k_is); (case k6 => k_is); (case a7 => k_is); (case l7 => k_is); (case c7 => k_is); (case k7 => k_is); (case a8 => k_is); (case l8 => k_is); (case c8 => k_is); (case k8 => k_is); (case a9 => k_is); (case l9 => k_is); (case c9 => k_is); (case k9 => k_is); (case a10 => k_is); (case l10 => k_is); (case c10 => k_is); (case k10 => k_is); (case a11 => k_is); (case l11 => k_is); (case c11 => k_is); (case k11 => k_is); (case a12 => k_is); (case l12 => k_is); (case c12 => k_is); (case k12 => k_is); (case a13 => k_is); (case l13 => k_is); (case c13 => k_is); (case k13 => k_is); (case z1 => k_is); (case z2 => k_is); (case z3 => k_is); (case z4 => k_is); (case z5 => k_is); (case z6 => k_is); (case z7 => k_is); (case z8 => k_is); (case z9 => k_is); (case z10 => k_is); (case z11 => k_is)
