import PyProof.Rows.All
import Wide.All
import OpenK.AllK
import Wide.FinOn
import HandS.ForMost
import HandS.Evl
import HandS.Wide
import HandS.Style
import HandS.Star
import HandS.Property
import HandS.SlotsOwn
import HandS.IsInst
import HandS.FStr
import HandS.Codes
import KE.GoesEnum
import KE.KOpsOwn
import HandS.Text
import PyProof.StrLawsRepr
import PySem.Challenge.RW_anydial_k16_texts_of_polynomials
set_option Elab.async false
set_option linter.all false
set_option maxRecDepth 100000
set_option maxHeartbeats 4000000
set_option exponentiation.threshold 2000
/-! Mi: a program's mirror as a predicate transformer (W), and the rules that tie it to the text -/
namespace Mi
open PySem L2 Evl

/-! ### the mirror's monad -/
structure Er where
  cls : String
  vals : List PyData
def W (α : Type) : Type := (α → Prop) → (Er → Prop) → Prop
def ret {α : Type} (x : α) : W α := fun P _ => P x
def bnd {α β : Type} (m : W α) (f : α → W β) : W β := fun P E => m (fun x => f x P E) E
def fail {α : Type} : W α := fun _ _ => False
def thr {α : Type} (e : Er) : W α := fun _ E => E e
/-- go on only if c holds -/
def chk (c : Prop) {α : Type} (w : W α) : W α := fun P E => c ∧ w P E
/-- what is raised is not wanted -/
def noX {α : Type} (m : W α) : W α := fun P _ => m P fun _ => False
@[simp] theorem noX_ret {α : Type} (x : α) : noX (ret x) = ret x := rfl
@[simp] theorem noX_chk {α : Type} (c : Prop) (m : W α) : noX (chk c m) = chk c (noX m) := rfl
@[simp] theorem noX_noX {α : Type} (m : W α) : noX (noX m) = noX m := rfl
@[simp] theorem noX_bnd {α β : Type} (m : W α) (f : α → W β) : noX (bnd m f) = bnd (noX m) fun x => noX (f x) := rfl
@[simp] theorem noX_fail {α : Type} : noX (fail : W α) = fail := rfl
@[simp] theorem bnd_ret {α β : Type} (x : α) (f : α → W β) : bnd (ret x) f = f x := rfl
@[simp] theorem ret_bnd {α : Type} (m : W α) : bnd m ret = m := rfl
@[simp] theorem bnd_bnd {α β γ : Type} (m : W α) (f : α → W β) (g : β → W γ) : bnd (bnd m f) g = bnd m fun x => bnd (f x) g := rfl
@[simp] theorem bnd_fail {α β : Type} (f : α → W β) : bnd (fail : W α) f = fail := rfl
@[simp] theorem bnd_thr {α β : Type} (e : Er) (f : α → W β) : bnd (thr e : W α) f = thr e := rfl
theorem chk_true {c : Prop} {α : Type} {w : W α} (h : c) : chk c w = w := by
  funext P E
  exact propext ⟨fun q => q.2, fun q => ⟨h, q⟩⟩
@[simp] theorem chk_bnd {c : Prop} {α β : Type} (w : W α) (f : α → W β) : bnd (chk c w) f = chk c (bnd w f) := rfl
@[simp] theorem ite_bnd {c : Prop} [Decidable c] {α β : Type} (w1 w2 : W α) (f : α → W β) : bnd (if c then w1 else w2) f = if c then bnd w1 f else bnd w2 f := by
  by_cases h : c
  · rw [if_pos h, if_pos h]
  · rw [if_neg h, if_neg h]
def mapW {α β : Type} (f : α → W β) : List α → W (List β)
  | [] => ret []
  | x :: xs => bnd (f x) fun y => bnd (mapW f xs) fun ys => ret (y :: ys)
def filtW {α β : Type} (c : α → W Bool) (f : α → W β) : List α → W (List β)
  | [] => ret []
  | x :: xs => bnd (c x) fun b => if b = true then bnd (f x) fun y => bnd (filtW c f xs) fun ys => ret (y :: ys) else filtW c f xs
/-- a loop that is never left early -/
def forW {α S : Type} (f : S → α → W S) : S → List α → W S
  | s, [] => ret s
  | s, x :: xs => bnd (f s x) fun s' => forW f s' xs
/-- how a block ends -/
inductive Fl (S ρ : Type) where
  | nx (s : S) | rt (x : ρ) | bk (s : S) | ct (s : S)
/-- behind a turn -/
def flGo {S ρ : Type} (k : S → W (Fl S ρ)) : Fl S ρ → W (Fl S ρ)
  | .nx s => k s
  | .ct s => k s
  | .bk s => ret (.nx s)
  | .rt z => ret (.rt z)
/-- a loop that may be left: by return (.rt), by break or at its end (.nx) -/
def forF {α S ρ : Type} (f : S → α → W (Fl S ρ)) : S → List α → W (Fl S ρ)
  | s, [] => ret (.nx s)
  | s, x :: xs => bnd (f s x) (flGo fun s' => forF f s' xs)
theorem mapW_ret {α β : Type} {f : α → W β} {g : α → β} : ∀ {xs : List α}, (∀ x, x ∈ xs → f x = ret (g x)) → mapW f xs = ret (xs.map g)
  | [], _ => rfl
  | x :: xs, h => by
    show bnd (f x) _ = _
    rw [h x (List.mem_cons_self ..), bnd_ret, mapW_ret (xs := xs) fun y hy => h y (List.mem_cons_of_mem _ hy)]
    rfl

/-! ### what stands for what -/
structure Rp (α : Type) where
  ok : Hp → V → α → Prop
  mono : ∀ {F F' : Hp} {v : V} {x : α}, Ex F F' → ok F v x → ok F' v x
def rInt : Rp Int := ⟨fun _ v x => v = .int x, fun _ h => h⟩
def rBool : Rp Bool := ⟨fun _ v x => v = .bl x, fun _ h => h⟩
def rStr : Rp Str := ⟨fun _ v x => v = .str x ∧ x.length ≤ sizeLine ∧ PyData.strOk x = true, fun _ h => h⟩
def rNon : Rp Unit := ⟨fun _ v _ => v = .non, fun _ h => h⟩
def rAdr (a : Addr) : Rp Unit := ⟨fun _ v _ => v = .ref a, fun _ h => h⟩
theorem Paired.imp {α β : Type} {R S : α → β → Prop} : ∀ {l : List α} {m : List β}, (∀ a b, R a b → S a b) → Paired R l m → Paired S l m
  | _, _, _, .nil => .nil
  | _, _, f, .cons r t => .cons (f _ _ r) (Paired.imp f t)
def rLst {α : Type} (r : Rp α) : Rp (List α) :=
  ⟨fun F v xs => ∃ a vs, v = .ref a ∧ F a = some (.lst vs) ∧ vs.length ≤ sizeLine ∧ Paired (r.ok F) vs xs, fun e ⟨a, vs, h1, h2, h3, h4⟩ => ⟨a, vs, h1, e _ _ h2, h3, Paired.imp (fun _ _ => r.mono e) h4⟩⟩
/-- a tuple of things of one kind -/
def rTup (K : PySem.W.Frag) {α : Type} (r : Rp α) : Rp (List α) :=
  ⟨fun F v xs => ∃ a vs, v = .ref a ∧ SqT K F a vs ∧ vs.length ≤ sizeLine ∧ Paired (r.ok F) vs xs, fun e ⟨a, vs, h1, h2, h3, h4⟩ => ⟨a, vs, h1, ex_t e h2, h3, Paired.imp (fun _ _ => r.mono e) h4⟩⟩
/-- a pair, a triple as a tuple -/
def rT2 (K : PySem.W.Frag) {α β : Type} (r : Rp α) (s : Rp β) : Rp (α × β) :=
  ⟨fun F v x => ∃ a v1 v2, v = .ref a ∧ SqT K F a [v1, v2] ∧ r.ok F v1 x.1 ∧ s.ok F v2 x.2, fun e ⟨a, v1, v2, h1, h2, h3, h4⟩ => ⟨a, v1, v2, h1, ex_t e h2, r.mono e h3, s.mono e h4⟩⟩
def rT3 (K : PySem.W.Frag) {α β γ : Type} (r : Rp α) (s : Rp β) (t : Rp γ) : Rp (α × β × γ) :=
  ⟨fun F v x => ∃ a v1 v2 v3, v = .ref a ∧ SqT K F a [v1, v2, v3] ∧ r.ok F v1 x.1 ∧ s.ok F v2 x.2.1 ∧ t.ok F v3 x.2.2, fun e ⟨a, v1, v2, v3, h1, h2, h3, h4, h5⟩ => ⟨a, v1, v2, v3, h1, ex_t e h2, r.mono e h3, s.mono e h4, t.mono e h5⟩⟩
def rOpt {α : Type} (r : Rp α) : Rp (Option α) :=
  ⟨fun F v x => match x with | none => v = .non | some y => v ≠ .non ∧ r.ok F v y, fun {F F' v x} e h => by
    cases x with
    | none => exact h
    | some y => exact ⟨h.1, r.mono e h.2⟩⟩
/-- data of any kind -/
def rD (K : PySem.W.Frag) : Rp PyData := ⟨fun F v d => Dp K F v d ∧ d.canLay0 = true ∧ d.depth ≤ 30, fun e ⟨h, hc⟩ => ⟨by
  refine (show ∀ {v d}, Dp K _ v d → Dp K _ v d from ?_) h
  intro v d h
  refine Dp.rec (K := K) (H := _) (motive_1 := fun v d _ => Dp K _ v d) (motive_2 := fun vs ds _ => DpAll K _ vs ds) .non .bl .int .str (fun h1 _ ih => .lst (ex_l e h1) ih) (fun h1 _ ih => .tup (ex_t e h1) ih) .nil (fun _ _ i1 i2 => .cons i1 i2) h, hc⟩⟩
end Mi

namespace Mi
open PySem L2 Evl

/-! ### the state: slots, owned objects -/
structure Slot where
  ok : Hp → Option V → Prop
  mono : ∀ {F F' : Hp} {v : Option V}, Ex F F' → ok F v → ok F' v
def sv {α : Type} (r : Rp α) (x : α) : Slot := ⟨fun F ov => ∃ v, ov = some v ∧ r.ok F v x, fun e ⟨v, h1, h2⟩ => ⟨v, h1, r.mono e h2⟩⟩
/-- anything, or nothing -/
def sa : Slot := ⟨fun _ _ => True, fun _ _ => trivial⟩
structure Own where
  ok : Hp → HO → Prop
  mono : ∀ {F F' : Hp} {o : HO}, Ex F F' → ok F o → ok F' o
def oLst {α : Type} (r : Rp α) (xs : List α) : Own := ⟨fun F o => ∃ vs, o = .lst vs ∧ vs.length ≤ sizeLine ∧ Paired (r.ok F) vs xs, fun e ⟨vs, h1, h2, h3⟩ => ⟨vs, h1, h2, Paired.imp (fun _ _ => r.mono e) h3⟩⟩
/-- the base: the heap at the def's entry (F: what never changes of it), the objects handed in to be changed, what is allowed of errors -/
structure Bs where
  F : Hp
  H : Hp
  M : Hp
  io : List Addr
  E0 : Er → Prop
/-- a mark within a body: what a loop's source leans on -/
abbrev Bs.at (B : Bs) (M : Hp) : Bs := { B with M := M }
structure Fn (B : Bs) (F H : Hp) : Prop where
  fh : Ex F H
  bf : Ex B.F F
  mrk : Ex B.M F
  bb : Ex B.F B.H
  ios : ∀ a ∈ B.io, ∃ o, H a = some o
  keep : ∀ a o, B.F a = none → B.H a = some o → a ∉ B.io → H a = some o ∧ F a = none
abbrev Env := List Slot
abbrev Os := List (Addr × Own)
def EnvOk (F : Hp) (env : Env) (σ : L2.St) : Prop := Paired (fun (s : Slot) (ov : Option V) => s.ok F ov) env σ
structure Sit (B : Bs) (F H : Hp) (σ : L2.St) (env : Env) (os : Os) : Prop where
  fin : Fn B F H
  env : EnvOk F env σ
  ow : ∀ p ∈ os, F p.1 = none ∧ (∃ o, H p.1 = some o ∧ p.2.ok F o) ∧ (B.H p.1 = none ∨ p.1 ∈ B.io)
  nd : (os.map (·.1)).Nodup
theorem EnvOk.mono {F F' : Hp} {env : Env} {σ : L2.St} (e : Ex F F') (h : EnvOk F env σ) : EnvOk F' env σ := Paired.imp (fun s _ => s.mono e) h
theorem EnvOk.get {F : Hp} : ∀ {env : Env} {σ : L2.St} {i : Nat} {s : Slot}, EnvOk F env σ → env[i]? = some s → ∃ ov, σ[i]? = some ov ∧ s.ok F ov
  | _, _, i, s, .nil, h => by simp at h
  | _, _, 0, s, .cons r t, h => by
    simp at h
    subst h
    exact ⟨_, rfl, r⟩
  | _, _, i + 1, s, .cons r t, h => by
    obtain ⟨ov, h1, h2⟩ := EnvOk.get (i := i) t (by simpa using h)
    exact ⟨ov, by simpa using h1, h2⟩
theorem EnvOk.set {F : Hp} {s : Slot} {ov : Option V} (r : s.ok F ov) : ∀ {env : Env} {σ : L2.St} {i : Nat}, EnvOk F env σ → EnvOk F (env.set i s) (σ.set i ov)
  | _, _, _, .nil => .nil
  | _, _, 0, .cons _ t => .cons r t
  | _, _, i + 1, .cons q t => .cons q (EnvOk.set r (i := i) t)
theorem EnvOk.len {F : Hp} {env : Env} {σ : L2.St} (h : EnvOk F env σ) : env.length = σ.length := Paired.length h

/-! ### new objects that will never change -/
structure Grow (F H F' H' : Hp) : Prop where
  f : Ex F F'
  h : Ex H H'
  new : ∀ a, H a = none → F' a = H' a
  old : ∀ a o, H a = some o → F' a = F a
theorem Grow.refl {F H : Hp} (fh : Ex F H) : Grow F H F H := by
  refine ⟨Ex.refl F, Ex.refl H, fun a h => ?_, fun _ _ _ => rfl⟩
  rw [h]
  exact fresh_back fh h
theorem Grow.trans {F H F1 H1 F2 H2 : Hp} (a : Grow F H F1 H1) (b : Grow F1 H1 F2 H2) : Grow F H F2 H2 := by
  refine ⟨a.f.trans b.f, a.h.trans b.h, fun p hp => ?_, fun p o hp => ?_⟩
  · cases e : H1 p with
    | none => exact b.new p e
    | some o =>
      have e2 : F1 p = some o := (a.new p hp).trans e
      rw [b.f p o e2, b.h p o e]
  · rw [b.old p o (a.h p o hp), a.old p o hp]
theorem Grow.fh {F H F' H' : Hp} (g : Grow F H F' H') (fh : Ex F H) : Ex F' H' := fun a o h => by
  cases e : H a with
  | none => exact (g.new a e).symm.trans h
  | some u =>
    have z := (g.old a u e).symm.trans h
    exact g.h a o (fh a o z)
theorem upd_apply {H : Hp} {a b : Addr} {o : HO} : upd H a o b = if b = a then some o else H b := rfl
theorem Grow.alloc {F H : Hp} {p : Addr} {o : HO} (fh : Ex F H) (hp : H p = none) : Grow F H (upd F p o) (upd H p o) := by
  have fp : F p = none := fresh_back fh hp
  refine ⟨Ex.new fp, Ex.new hp, fun a ha => ?_, fun a u ha => ?_⟩
  · by_cases e : a = p
    · rw [e, upd_same, upd_same]
    · rw [upd_ne e, upd_ne e, ha]
      exact fresh_back fh ha
  · have e : a ≠ p := ne_of_none ha hp
    rw [upd_ne e]
section
variable {B : Bs} {F H F' H' : Hp} {σ : L2.St} {env : Env} {os : Os}
theorem Fn.grow (s : Fn B F H) (g : Grow F H F' H') : Fn B F' H' :=
  ⟨g.fh s.fh, s.bf.trans g.f, s.mrk.trans g.f, s.bb, fun a ha => let ⟨o, h⟩ := s.ios a ha; ⟨o, g.h a o h⟩, fun a o h1 h2 h3 => by
    obtain ⟨k1, k2⟩ := s.keep a o h1 h2 h3
    exact ⟨g.h a o k1, (g.old a o k1).trans k2⟩⟩
theorem Sit.grow (s : Sit B F H σ env os) (g : Grow F H F' H') : Sit B F' H' σ env os :=
  ⟨s.fin.grow g, s.env.mono g.f, fun p hp => by
    obtain ⟨h1, ⟨o, h2, h3⟩, h4⟩ := s.ow p hp
    exact ⟨(g.old _ o h2).trans h1, ⟨o, g.h _ _ h2, p.2.mono g.f h3⟩, h4⟩, s.nd⟩
theorem Sit.fh (s : Sit B F H σ env os) : Ex F H := s.fin.fh
theorem Sit.store {i : Nat} {sl : Slot} {v : V} (s : Sit B F H σ env os) (r : sl.ok F (some v)) : Sit B F H (σ.set i (some v)) (env.set i sl) os := ⟨s.fin, s.env.set r, s.ow, s.nd⟩
end

/-! ### the judgement of an expression -/
def tOf (B : Bs) (env : Env) (os : Os) {α : Type} (r : Rp α) (w : W α) : TE := fun σ H Q => ∃ F P, Sit B F H σ env os ∧ w P B.E0 ∧ ∀ x, P x → ∀ v F' H', Sit B F' H' σ env os → Ex F F' → r.ok F' v x → Q v H'
def EE (X : Cx) (B : Bs) (env : Env) (os : Os) (e : Expr) {α : Type} (r : Rp α) (w : W α) : Prop := PE X e (tOf B env os r w)
theorem PE.imp {X : Cx} {e : Expr} {t t' : TE} (h : PE X e t) (i : ∀ σ H Q, t' σ H Q → t σ H Q) : PE X e t' := ⟨fun pins s σ H Q I q => h.run pins s σ H Q I (i _ _ _ q)⟩
theorem PE.ex {X : Cx} {e : Expr} {ι : Type} {t : ι → TE} (h : ∀ i, PE X e (t i)) : PE X e (fun σ H Q => ∃ i, t i σ H Q) := ⟨fun pins s σ H Q I ⟨i, q⟩ => (h i).run pins s σ H Q I q⟩
section
variable {X : Cx} {B : Bs} {env : Env} {os : Os} {pos : Pos} {α β γ : Type} {r : Rp α} {s : Rp β} {t : Rp γ} {e a b : Expr}
theorem e_conv {w w' : W α} (h : EE X B env os e r w) (q : w' = w) : EE X B env os e r w' := q ▸ h
theorem e_name (i : Nat) {x : Str} {y : α} (he : env[i]? = some (sv r y) := by rfl) (hN : X.N[i]? = some x := by rfl) (hv : Vis X.env.scope x := by first | exact Or.inl rfl | exact Or.inr (Or.inl rfl) | exact Or.inr (Or.inr rfl))
    (hd : (x == ("__debug__" : Str)) = false := by decide) (hcd : (x == ("__classdict__" : Str)) = false := by decide) : EE X B env os (.Name x pos) r (ret y) :=
  PE.imp (pe_var hN hv hd hcd) fun σ H Q ⟨F, P, S, hw, k⟩ => by
    obtain ⟨ov, h1, v, h2, h3⟩ := S.env.get he
    subst h2
    exact ⟨v, h1, k y hw v F H S (Ex.refl F) h3⟩
theorem tc_of {v : V} {y : α} (h : ∀ F, r.ok F v y) {σ : L2.St} {H : Hp} {Q : VK} (q : tOf B env os r (ret y) σ H Q) : tC v σ H Q := by
  obtain ⟨F, P, S, hw, k⟩ := q
  exact k y hw v F H S (Ex.refl F) (h F)
theorem e_int {i : Int} {j} : EE X B env os (.Constant (.int i) j pos) rInt (ret i) := PE.imp pe_int fun _ _ _ q => tc_of (r := rInt) (fun _ => rfl) q
theorem e_bl {b : Bool} {j} : EE X B env os (.Constant (.bool b) j pos) rBool (ret b) := PE.imp pe_bl fun _ _ _ q => tc_of (r := rBool) (fun _ => rfl) q
theorem e_non {j} : EE X B env os (.Constant .none j pos) rNon (ret ()) := PE.imp pe_non fun _ _ _ q => tc_of (r := rNon) (fun _ => rfl) q
theorem e_str {x : Str} {j} (h : x.length ≤ sizeLine := by decide +kernel) (h2 : PyData.strOk x = true := by decide +kernel) : EE X B env os (.Constant (.str x) j pos) rStr (ret x) := PE.imp pe_str fun _ _ _ q => tc_of (r := rStr) (fun _ => ⟨rfl, h, h2⟩) q
/-- a name of the module -/
theorem e_glob {x : Str} {v : V} {u : Value} {y : α} (hg : Gl X x) (hm : X.mg x = some u) (rv : RelV v u) (h : ∀ F, r.ok F v y) (hd : (x == ("__debug__" : Str)) = false := by decide) : EE X B env os (.Name x pos) r (ret y) :=
  PE.imp (pe_glob hg hm rv hd) fun _ _ _ q => tc_of (r := r) h q

/-- what a two-place operation on values is worth -/
def R2T (q : R2) (r : Rp α) (s : Rp β) (t : Rp γ) (f : α → β → W γ) : Prop := ∀ (F H : Hp) (v u : V) (x : α) (y : β) (P : γ → Prop) (E : Er → Prop) (Q : VK), Ex F H → r.ok F v x → s.ok F u y → f x y P E →
  (∀ z, P z → ∀ v' F' H', Grow F H F' H' → t.ok F' v' z → Q v' H') → q v u H Q
theorem two {q : R2} {f : α → β → W γ} {w1 : W α} {w2 : α → W β} (sem : R2T q r s t f) {σ : L2.St} {H : Hp} {Q : VK}
    (h : tOf B env os t (bnd w1 fun x => bnd (w2 x) fun y => f x y) σ H Q) : tOp q (tOf B env os r w1) (fun σ H Q => ∃ x, tOf B env os s (w2 x) σ H Q) σ H Q := by
  obtain ⟨F, P, S, hw, k⟩ := h
  refine ⟨F, _, S, hw, fun x hx v F1 H1 S1 e1 ok1 => ⟨x, F1, _, S1, hx, fun y hy u F2 H2 S2 e2 ok2 => ?_⟩⟩
  exact sem F2 H2 v u x y P B.E0 Q S2.fh (r.mono e2 ok1) ok2 hy fun z hz v' F3 H3 g ok3 => k z hz v' F3 H3 (S2.grow g) ((e1.trans e2).trans g.f) ok3
theorem e_op {op : Operator} {q : R2} {f : α → β → W γ} {w1 : W α} {w2 : α → W β} (ho : OpR X (binaryOp op) q) (sem : R2T q r s t f) (ha : EE X B env os a r w1) (hb : ∀ x, EE X B env os b s (w2 x)) :
    EE X B env os (.BinOp a op b pos) t (bnd w1 fun x => bnd (w2 x) fun y => f x y) := PE.imp (pe_op ho ha (PE.ex hb)) fun _ _ _ h => two sem h
theorem e_cmp {op : CmpOp} {q : R2} {f : α → β → W γ} {w1 : W α} {w2 : α → W β} (ho : OpR X (compareOp op) q) (sem : R2T q r s t f) (hm : behindInMarks op b = false) (ha : EE X B env os a r w1) (hb : ∀ x, EE X B env os b s (w2 x)) :
    EE X B env os (.Compare a [op] [b] pos) t (bnd w1 fun x => bnd (w2 x) fun y => f x y) := PE.imp (pe_cmpR ho ha (PE.ex hb) hm) fun _ _ _ h => two sem h
theorem e_ix {q : R2} {f : α → β → W γ} {w1 : W α} {w2 : α → W β} (hr : IxR X q) (sem : R2T q r s t f) (hs : PlainIx b) (ha : EE X B env os a r w1) (hb : ∀ x, EE X B env os b s (w2 x)) :
    EE X B env os (.Subscript a b pos) t (bnd w1 fun x => bnd (w2 x) fun y => f x y) := PE.imp (pe_ix hr ha (PE.ex hb) hs) fun _ _ _ h => two sem h
def R1T (q : V → Hp → VK → Prop) (r : Rp α) (t : Rp γ) (f : α → W γ) : Prop := ∀ (F H : Hp) (v : V) (x : α) (P : γ → Prop) (E : Er → Prop) (Q : VK), Ex F H → r.ok F v x → f x P E → (∀ z, P z → ∀ v' F' H', Grow F H F' H' → t.ok F' v' z → Q v' H') → q v H Q
theorem e_un {op : UnaryOp} {q : V → Hp → VK → Prop} {f : α → W γ} {w1 : W α} (ho : UnR X (unaryOp op) q) (sem : R1T q r t f) (ha : EE X B env os a r w1) : EE X B env os (.UnaryOp op a pos) t (bnd w1 f) :=
  PE.imp (pe_un ho ha) fun σ H Q ⟨F, P, S, hw, k⟩ => ⟨F, _, S, hw, fun x hx v F1 H1 S1 e1 ok1 => sem F1 H1 v x P B.E0 Q S1.fh ok1 hx fun z hz v' F3 H3 g ok3 => k z hz v' F3 H3 (S1.grow g) (e1.trans g.f) ok3⟩
end

/-! ### ints -/
section
variable {X : Cx} {B : Bs} {env : Env} {os : Os} {pos : Pos} {a b : Expr} {w1 : W Int} {w2 : Int → W Int}
theorem r2i {γ : Type} {t : Rp γ} {g : Int → Int → V} {f : Int → Int → γ} (h : ∀ F i j, t.ok F (g i j) (f i j)) : R2T (rI0 g) rInt rInt t fun i j => ret (f i j) := fun F H v u x y P E Q fh e1 e2 hw k =>
  ⟨x, y, e1, e2, k _ hw _ F H (Grow.refl fh) (h F x y)⟩
theorem r2c {γ : Type} {t : Rp γ} {C : Int → Int → Prop} {g : Int → Int → V} {f : Int → Int → γ} (h : ∀ F i j, t.ok F (g i j) (f i j)) : R2T (rI C g) rInt rInt t fun i j => chk (C i j) (ret (f i j)) := fun F H v u x y P E Q fh e1 e2 ⟨hc, hw⟩ k =>
  ⟨x, y, e1, e2, hc, k _ hw _ F H (Grow.refl fh) (h F x y)⟩
theorem e_add (ha : EE X B env os a rInt w1) (hb : ∀ x, EE X B env os b rInt (w2 x)) : EE X B env os (.BinOp a .Add b pos) rInt (bnd w1 fun x => bnd (w2 x) fun y => ret (x + y)) := e_op op_add (r2i fun _ _ _ => rfl) ha hb
theorem e_sub (ha : EE X B env os a rInt w1) (hb : ∀ x, EE X B env os b rInt (w2 x)) : EE X B env os (.BinOp a .Sub b pos) rInt (bnd w1 fun x => bnd (w2 x) fun y => ret (x - y)) := e_op op_sub (r2i fun _ _ _ => rfl) ha hb
/-- of any size, together below a million bits -/
theorem op_mulG : OpR X (binaryOp .Mult) (rI IntMulOk fun i j => .int (i * j)) := opI fun _ _ _ _ _ _ _ hc q => PyProof.Rows.mul_int q hc
def mulI (x y : Int) : W Int := chk (IntMulOk x y) (ret (x * y))
theorem e_mul (ha : EE X B env os a rInt w1) (hb : ∀ x, EE X B env os b rInt (w2 x)) : EE X B env os (.BinOp a .Mult b pos) rInt (bnd w1 fun x => bnd (w2 x) fun y => mulI x y) := e_op op_mulG (r2c fun _ _ _ => rfl) ha hb
def CDivG (_ j : Int) : Prop := j ≠ 0 ∧ j.natAbs.log2 < 9000
theorem op_fdivG : OpR X (binaryOp .FloorDiv) (rI CDivG fun i j => .int (i.fdiv j)) := opI fun i j _ _ _ _ _ hc q => PyProof.Rows.floordiv_int hc.1 q (.inl (PyProof.noPylong_of_log2 hc.2))
def divI (x y : Int) : W Int := chk (CDivG x y) (ret (x.fdiv y))
theorem e_div (ha : EE X B env os a rInt w1) (hb : ∀ x, EE X B env os b rInt (w2 x)) : EE X B env os (.BinOp a .FloorDiv b pos) rInt (bnd w1 fun x => bnd (w2 x) fun y => divI x y) := e_op op_fdivG (r2c fun _ _ _ => rfl) ha hb
def modI (x y : Int) : W Int := chk (y ≠ 0) (ret (x.fmod y))
theorem e_mod (ha : EE X B env os a rInt w1) (hb : ∀ x, EE X B env os b rInt (w2 x)) : EE X B env os (.BinOp a .Mod b pos) rInt (bnd w1 fun x => bnd (w2 x) fun y => modI x y) := e_op op_modN (r2c fun _ _ _ => rfl) ha hb
def powI (x y : Int) : W Int := chk (CPow x y) (ret (x ^ y.toNat))
theorem e_pow (ha : EE X B env os a rInt w1) (hb : ∀ x, EE X B env os b rInt (w2 x)) : EE X B env os (.BinOp a .Pow b pos) rInt (bnd w1 fun x => bnd (w2 x) fun y => powI x y) := e_op op_pow (r2c fun _ _ _ => rfl) ha hb
theorem e_neg (ha : EE X B env os a rInt w1) : EE X B env os (.UnaryOp .USub a pos) rInt (bnd w1 fun x => ret (-x)) := e_un un_neg (fun F H v x P E Q fh e1 hw k => ⟨x, e1, k _ hw _ F H (Grow.refl fh) rfl⟩) ha
theorem e_lt (ha : EE X B env os a rInt w1) (hb : ∀ x, EE X B env os b rInt (w2 x)) : EE X B env os (.Compare a [.Lt] [b] pos) rBool (bnd w1 fun x => bnd (w2 x) fun y => ret (decide (x < y))) := e_cmp op_lt (r2i fun _ _ _ => rfl) (nomark _) ha hb
theorem e_le (ha : EE X B env os a rInt w1) (hb : ∀ x, EE X B env os b rInt (w2 x)) : EE X B env os (.Compare a [.LtE] [b] pos) rBool (bnd w1 fun x => bnd (w2 x) fun y => ret (decide (x ≤ y))) := e_cmp op_le (r2i fun _ _ _ => rfl) (nomark _) ha hb
theorem e_gt (ha : EE X B env os a rInt w1) (hb : ∀ x, EE X B env os b rInt (w2 x)) : EE X B env os (.Compare a [.Gt] [b] pos) rBool (bnd w1 fun x => bnd (w2 x) fun y => ret (decide (y < x))) := e_cmp op_gt (r2i fun _ _ _ => rfl) (nomark _) ha hb
theorem e_ge (ha : EE X B env os a rInt w1) (hb : ∀ x, EE X B env os b rInt (w2 x)) : EE X B env os (.Compare a [.GtE] [b] pos) rBool (bnd w1 fun x => bnd (w2 x) fun y => ret (decide (y ≤ x))) := e_cmp op_ge (r2i fun _ _ _ => rfl) (nomark _) ha hb
end
end Mi

namespace Mi
open PySem L2 Evl

/-! ### tests -/
def tOfT (B : Bs) (env : Env) (os : Os) (w : W Bool) : TT := fun σ H Q => ∃ F P, Sit B F H σ env os ∧ w P B.E0 ∧ ∀ b, P b → ∀ F' H', Sit B F' H' σ env os → Ex F F' → Q b H'
def ET (X : Cx) (B : Bs) (env : Env) (os : Os) (e : Expr) (w : W Bool) : Prop := PT X e (tOfT B env os w)
def EW (X : Cx) (B : Bs) (env : Env) (os : Os) (e : Expr) (w : W Bool) : Prop := PW X e (tOfT B env os w)
theorem PT.imp {X : Cx} {e : Expr} {t t' : TT} (h : PT X e t) (i : ∀ σ H Q, t' σ H Q → t σ H Q) : PT X e t' := ⟨fun pins s σ H Q I q => h.run pins s σ H Q I (i _ _ _ q)⟩
theorem PW.imp {X : Cx} {e : Expr} {t t' : TT} (h : PW X e t) (i : ∀ σ H Q, t' σ H Q → t σ H Q) : PW X e t' := ⟨fun wh pins s σ H Q I q => h.run wh pins s σ H Q I (i _ _ _ q)⟩
section
variable {X : Cx} {B : Bs} {env : Env} {os : Os} {pos : Pos} {α β γ : Type} {r : Rp α} {s : Rp β} {t : Rp γ} {e a b c : Expr} {rest : List Expr} {w1 w2 w3 : W Bool}
theorem t_cmp {op : CmpOp} {q : R2} {f : α → β → W Bool} {w1 : W α} {w2 : α → W β} (ho : OpR X (compareOp op) q) (sem : R2T q r s rBool f) (hm : behindInMarks op b = false) (ha : EE X B env os a r w1) (hb : ∀ x, EE X B env os b s (w2 x)) :
    ET X B env os (.Compare a [op] [b] pos) (bnd w1 fun x => bnd (w2 x) fun y => f x y) := PT.imp (pt_cmpR ho ha (PE.ex hb) hm) fun σ H Q ⟨F, P, S, hw, k⟩ =>
  two (t := rBool) sem ⟨F, P, S, hw, fun z hz v F' H' S' e' ok => ⟨z, ok, k z hz F' H' S' e'⟩⟩
/-- the value is True or False -/
theorem t_val {w : W Bool} (h : EE X B env os e rBool w) (he : ∀ whole, isTrue e X.env whole = (do let v ← whole; standAt e.pos; holding [v] (truthy v)) := by intro _; rfl) : ET X B env os e w :=
  PT.imp (pt_val h he) fun σ H Q ⟨F, P, S, hw, k⟩ => ⟨F, P, S, hw, fun z hz v F' H' S' e' ok => ⟨z, ok, k z hz F' H' S' e'⟩⟩
theorem t_not {w : W Bool} (h : ET X B env os e w) : ET X B env os (.UnaryOp .Not e pos) (bnd w fun b => ret (!b)) := PT.imp (pt_not h) fun σ H Q ⟨F, P, S, hw, k⟩ => ⟨F, _, S, hw, fun b hb => k (!b) hb⟩
theorem t_pw {w : W Bool} (h : EW X B env os e w) : ET X B env os e w := PW.pt h
theorem w_and1 {w : W Bool} (h : ET X B env os a w) : EW X B env os (.BoolOp .And [a] pos) w := pw_and1 h
theorem w_or1 {w : W Bool} (h : ET X B env os a w) : EW X B env os (.BoolOp .Or [a] pos) w := pw_or1 h
theorem w_and (ha : ET X B env os a w1) (hb : EW X B env os (.BoolOp .And (b :: rest) pos) w2) : EW X B env os (.BoolOp .And (a :: b :: rest) pos) (bnd w1 fun x => if x = true then w2 else ret false) :=
  PW.imp (pw_and ha hb) fun σ H Q ⟨F, P, S, hw, k⟩ => ⟨F, _, S, hw, fun x hx F' H' S' e' => by
    cases x with
    | true => exact ⟨F', P, S', hx, fun y hy F2 H2 S2 e2 => k y hy F2 H2 S2 (e'.trans e2)⟩
    | false => exact k false hx F' H' S' e'⟩
theorem w_or (ha : ET X B env os a w1) (hb : EW X B env os (.BoolOp .Or (b :: rest) pos) w2) : EW X B env os (.BoolOp .Or (a :: b :: rest) pos) (bnd w1 fun x => if x = true then ret true else w2) :=
  PW.imp (pw_or ha hb) fun σ H Q ⟨F, P, S, hw, k⟩ => ⟨F, _, S, hw, fun x hx F' H' S' e' => by
    cases x with
    | true => exact k true hx F' H' S' e'
    | false => exact ⟨F', P, S', hx, fun y hy F2 H2 S2 e2 => k y hy F2 H2 S2 (e'.trans e2)⟩⟩
/-! as values -/
theorem e_not {w : W Bool} (h : EE X B env os e rBool w) : EE X B env os (.UnaryOp .Not e pos) rBool (bnd w fun b => ret (!b)) := PE.imp (pe_not h) fun σ H Q ⟨F, P, S, hw, k⟩ => ⟨F, _, S, hw, fun b hb v F' H' S' e' ok => ⟨b, ok, k (!b) hb _ F' H' S' e' rfl⟩⟩
theorem e_one {op : BoolOp} {w : W α} (h : EE X B env os a r w) : EE X B env os (.BoolOp op [a] pos) r w := pe_one h
theorem e_and (ha : EE X B env os a rBool w1) (hb : EE X B env os (.BoolOp .And (b :: rest) pos) rBool w2) : EE X B env os (.BoolOp .And (a :: b :: rest) pos) rBool (bnd w1 fun x => if x = true then w2 else ret false) :=
  PE.imp (pe_and ha hb) fun σ H Q ⟨F, P, S, hw, k⟩ => ⟨F, _, S, hw, fun x hx v F' H' S' e' ok => ⟨x, ok, by
    cases x with
    | true => exact ⟨F', P, S', hx, fun y hy v F2 H2 S2 e2 => k y hy v F2 H2 S2 (e'.trans e2)⟩
    | false => exact k false hx _ F' H' S' e' rfl⟩⟩
theorem e_or (ha : EE X B env os a rBool w1) (hb : EE X B env os (.BoolOp .Or (b :: rest) pos) rBool w2) : EE X B env os (.BoolOp .Or (a :: b :: rest) pos) rBool (bnd w1 fun x => if x = true then ret true else w2) :=
  PE.imp (pe_or ha hb) fun σ H Q ⟨F, P, S, hw, k⟩ => ⟨F, _, S, hw, fun x hx v F' H' S' e' ok => ⟨x, ok, by
    cases x with
    | true => exact k true hx _ F' H' S' e' rfl
    | false => exact ⟨F', P, S', hx, fun y hy v F2 H2 S2 e2 => k y hy v F2 H2 S2 (e'.trans e2)⟩⟩⟩
theorem e_if {wc : W Bool} {wa wb : W α} (hc : ET X B env os c wc) (ha : EE X B env os a r wa) (hb : EE X B env os b r wb) : EE X B env os (.IfExp c a b pos) r (bnd wc fun x => if x = true then wa else wb) :=
  PE.imp (pe_ifExp hc ha hb) fun σ H Q ⟨F, P, S, hw, k⟩ => ⟨F, _, S, hw, fun x hx F' H' S' e' => by
    cases x with
    | true => exact ⟨F', P, S', hx, fun y hy v F2 H2 S2 e2 => k y hy v F2 H2 S2 (e'.trans e2)⟩
    | false => exact ⟨F', P, S', hx, fun y hy v F2 H2 S2 e2 => k y hy v F2 H2 S2 (e'.trans e2)⟩⟩
end

/-! ### blocks -/
abbrev Post (β : Type) := Ends → β → Prop
def tBG (B : Bs) (env : Env) (os : Os) {β : Type} (post : Post β) (w : W β) : TS := fun D σ H => ∃ F P, Sit B F H σ env os ∧ w P B.E0 ∧ ∀ x, P x → post D x
def BG (X : Cx) (B : Bs) (env : Env) (os : Os) (blk : List Stmt) {β : Type} (post : Post β) (w : W β) : Prop := PSs X blk (tBG B env os post w)
theorem PSs.imp {X : Cx} {b : List Stmt} {t t' : TS} (h : PSs X b t) (i : ∀ D σ H, t' D σ H → t D σ H) : PSs X b t' := ⟨fun pins s σ H D I q => h.run pins s σ H D I (i _ _ _ q)⟩
theorem PSs.ex {X : Cx} {b : List Stmt} {ι : Type} {t : ι → TS} (h : ∀ i, PSs X b (t i)) : PSs X b (fun D σ H => ∃ i, t i D σ H) := ⟨fun pins s σ H D I ⟨i, q⟩ => (h i).run pins s σ H D I q⟩
/-- the objects handed in, behind the body -/
def OsOk (B : Bs) (F H : Hp) (os : Os) : Prop := ∀ p ∈ os, F p.1 = none ∧ (∃ o, H p.1 = some o ∧ p.2.ok F o) ∧ (B.H p.1 = none ∨ p.1 ∈ B.io)
def pRet (B : Bs) (osR : Os) {ρ : Type} (ro : Rp ρ) : Post ρ := fun D x => ∀ v F H, Fn B F H → OsOk B F H osR → ro.ok F v x → D.rt v H
def pNx (B : Bs) {S : Type} (envS : S → Env) (osS : S → Os) : Post S := fun D s => ∀ σ F H, Sit B F H σ (envS s) (osS s) → D.nx σ H
def pFl (B : Bs) (osR : Os) {ρ : Type} (ro : Rp ρ) {S : Type} (envS : S → Env) (osS : S → Os) : Post (Fl S ρ) := fun D r => match r with
  | .nx s => ∀ σ F H, Sit B F H σ (envS s) (osS s) → D.nx σ H
  | .rt x => ∀ v F H, Fn B F H → OsOk B F H osR → ro.ok F v x → D.rt v H
  | .bk s => ∀ σ F H, Sit B F H σ (envS s) (osS s) → D.bk σ H
  | .ct s => ∀ σ F H, Sit B F H σ (envS s) (osS s) → D.ct σ H
/-- a post that says nothing of what comes next -/
def pX {β : Type} (post : Post β) : Post β := fun D x => ∃ nx, post { D with nx := nx } x
structure RtOk (B : Bs) {β ρ : Type} (post : Post β) (osR : Os) (ro : Rp ρ) (inj : ρ → β) : Prop where
  ok : ∀ D x, post D (inj x) → ∀ v F H, Fn B F H → OsOk B F H osR → ro.ok F v x → D.rt v H
structure NxOk (B : Bs) {β : Type} (post : Post β) (env : Env) (os : Os) (x : β) : Prop where
  ok : ∀ D, post D x → ∀ σ F H, Sit B F H σ env os → D.nx σ H
section
variable {B : Bs} {osR : Os} {ρ S β : Type} {ro : Rp ρ} {envS : S → Env} {osS : S → Os} {post : Post β} {inj : ρ → β}
theorem RtOk.ret : RtOk B (pRet B osR ro) osR ro (fun x => x) := ⟨fun _ _ h => h⟩
theorem RtOk.fl : RtOk B (pFl B osR ro envS osS) osR ro .rt := ⟨fun _ _ h => h⟩
theorem RtOk.x (h : RtOk B post osR ro inj) : RtOk B (pX post) osR ro inj := ⟨fun D x ⟨nx, q⟩ => h.ok { D with nx := nx } x q⟩
/-- slots may be forgotten -/
def EnvLe : Env → Env → Prop
  | [], [] => True
  | a :: as, b :: bs => (b = a ∨ b = sa) ∧ EnvLe as bs
  | _, _ => False
theorem EnvLe.of {F : Hp} : ∀ {e e' : Env} {σ : L2.St}, EnvLe e e' → EnvOk F e σ → EnvOk F e' σ
  | [], [], _, _, h => h
  | _ :: _, _ :: _, _, ⟨h1, h2⟩, .cons r t => .cons (h1.elim (fun z => z ▸ r) fun z => z ▸ trivial) (EnvLe.of h2 t)
  | [], _ :: _, _, h, _ => h.elim
  | _ :: _, [], _, h, _ => h.elim
theorem EnvLe.refl : ∀ e : Env, EnvLe e e
  | [] => trivial
  | _ :: as => ⟨.inl rfl, EnvLe.refl as⟩
def OsLe (os os' : Os) : Prop := ∀ p ∈ os', p ∈ os
theorem OsLe.refl (os : Os) : OsLe os os := fun _ h => h
/-- what is handed back may say less -/
def OsW (os os' : Os) : Prop := ∀ p ∈ os', ∃ q ∈ os, q.1 = p.1 ∧ ∀ F o, q.2.ok F o → p.2.ok F o
theorem OsW.of {os os' : Os} (h : OsLe os os') : OsW os os' := fun p hp => ⟨p, h p hp, rfl, fun _ _ q => q⟩
theorem OsW.nil {os : Os} : OsW os [] := fun p hp => by cases hp
theorem OsW.refl {os : Os} : OsW os os := OsW.of (OsLe.refl os)
theorem OsW.one {a : Addr} {q p : Own} {os : Os} (h : ∀ F o, q.ok F o → p.ok F o) : OsW ((a, q) :: os) [(a, p)] := fun z hz => by
  rcases List.mem_cons.mp hz with e | e
  · subst e
    exact ⟨(a, q), List.mem_cons_self .., rfl, h⟩
  · cases e
theorem OsW.ok {F H : Hp} {σ : L2.St} {env : Env} {os os' : Os} (h : OsW os os') (s : Sit B F H σ env os) : OsOk B F H os' := fun p hp => by
  obtain ⟨q, hq, e, k⟩ := h p hp
  obtain ⟨h1, ⟨o, h2, h3⟩, h4⟩ := s.ow q hq
  rw [e] at h1 h2 h4
  exact ⟨h1, ⟨o, h2, k F o h3⟩, h4⟩
theorem Sit.le {F H : Hp} {σ : L2.St} {env env' : Env} {os : Os} (s : Sit B F H σ env os) (h : EnvLe env env') : Sit B F H σ env' os := ⟨s.fin, h.of s.env, s.ow, s.nd⟩
theorem Sit.one {F H : Hp} {σ : L2.St} {env : Env} {os : Os} {a : Addr} {q p : Own} (s : Sit B F H σ env ((a, q) :: os)) (h : ∀ F o, q.ok F o → p.ok F o) : Sit B F H σ env ((a, p) :: os) := ⟨s.fin, s.env, fun z hz => by
  rcases List.mem_cons.mp hz with e | e
  · subst e
    obtain ⟨h1, ⟨o, h2, h3⟩, h4⟩ := s.ow (a, q) (List.mem_cons_self ..)
    exact ⟨h1, ⟨o, h2, h F o h3⟩, h4⟩
  · exact s.ow z (List.mem_cons_of_mem _ e), s.nd⟩
theorem NxOk.one {env : Env} {s : S} {a : Addr} {q p : Own} {os : Os} (ho : osS s = (a, p) :: os) (h : EnvLe env (envS s)) (hq : ∀ F o, q.ok F o → p.ok F o) : NxOk B (pNx B envS osS) env ((a, q) :: os) s := ⟨fun D k σ F H z => k σ F H (by
  rw [ho]
  exact (z.le h).one hq)⟩
theorem NxOk.nx {env : Env} {s : S} (h : EnvLe env (envS s)) : NxOk B (pNx B envS osS) env (osS s) s := ⟨fun D q σ F H z => q σ F H (z.le h)⟩
theorem NxOk.fl {env : Env} {s : S} (h : EnvLe env (envS s)) : NxOk B (pFl B osR ro envS osS) env (osS s) (.nx s) := ⟨fun D q σ F H z => q σ F H (z.le h)⟩
end
section
variable {X : Cx} {B : Bs} {env : Env} {os : Os} {pos pos' : Pos} {α β ρ S : Type} {r : Rp α} {e c : Expr} {rest blkA blkB : List Stmt} {post : Post β}
theorem b_conv {blk : List Stmt} {w w' : W β} (h : BG X B env os blk post w) (q : w' = w) : BG X B env os blk post w' := q ▸ h
theorem b_ret {osR : Os} {ro : Rp ρ} {inj : ρ → β} {w : W ρ} (hp : RtOk B post osR ro inj) (ho : OsW os osR) (h : EE X B env os e ro w) : BG X B env os [.Return (some e) pos] post (bnd w fun x => ret (inj x)) :=
  PSs.imp (pss_one (ps_ret h)) fun D σ H ⟨F, P, Si, hw, k⟩ => ⟨F, _, Si, hw, fun x hx v F' H' S' _ ok => hp.ok D x (k _ hx) v F' H' S'.fin (ho.ok S') ok⟩
theorem b_end {x : β} (hp : NxOk B post env os x) : BG X B env os [] post (ret x) := PSs.imp pss_nil fun D σ H ⟨F, P, S, hw, k⟩ => hp.ok D (k x hw) σ F H S
/-- a code that is never reached -/
theorem b_never {blk : List Stmt} : BG X B env os blk post fail := PSs.imp pss_never fun _ _ _ ⟨_, _, _, hw, _⟩ => hw
theorem b_pass {w : W β} (h : BG X B env os rest post w) : BG X B env os (.Pass pos :: rest) post w := PSs.imp (pss_cons ps_pass h) fun _ _ _ q => q
/-- name = e -/
theorem b_set (i : Nat) {x : Str} {w1 : W α} {w2 : α → W β} (he : EE X B env os e r w1) (hr : ∀ y, BG X B (env.set i (sv r y)) os rest post (w2 y)) (hN : X.N.Nodup) (hi : X.N[i]? = some x := by rfl)
    (hx : Loc X.env.scope x := by first | exact Or.inl rfl | exact Or.inr rfl) (hs : swapsWith e (some (.Name x pos')) pos.line X.env = pure false := by rfl) (hf : X.fn x = true ∨ X.env.scope.names.lookup x = some .local := by first | exact .inl rfl | exact .inr rfl | assumption) :
    BG X B env os (.Assign [.Name x pos'] e pos :: rest) post (bnd w1 w2) :=
  PSs.imp (pss_cons (ps_set hN hi hx he hs hf) (PSs.ex hr)) fun D σ H ⟨F, P, S, hw, k⟩ => ⟨F, _, S, hw, fun y hy v F' H' S' _ ok => ⟨y, F', P, S'.store ⟨v, rfl, ok⟩, hy, k⟩⟩
/-- an expression alone -/
theorem b_expr {w1 : W α} {w2 : W β} (he : EE X B env os e r w1) (hr : BG X B env os rest post w2) (hs : swapsWith e none pos.line X.env = pure false := by rfl) : BG X B env os (.Expr e pos :: rest) post (bnd w1 fun _ => w2) :=
  PSs.imp (pss_cons (ps_expr he hs) hr) fun D σ H ⟨F, P, S, hw, k⟩ => ⟨F, _, S, hw, fun y hy v F' H' S' _ ok => ⟨F', P, S', hy, k⟩⟩
/-- if, one branch of which never comes to the rest -/
theorem b_ifA {wc : W Bool} {w1 w2 : W β} (hc : ET X B env os c wc) (hA : BG X B env os blkA (pX post) w1) (hr : BG X B env os rest post w2) : BG X B env os (.If c blkA [] pos :: rest) post (bnd wc fun b => if b = true then w1 else w2) :=
  PSs.imp (pss_cons (ps_if hc hA pss_nil) hr) fun D σ H ⟨F, P, S, hw, k⟩ => ⟨F, _, S, hw, fun b hb F' H' S' _ => by
    cases b with
    | true => exact ⟨F', P, S', hb, fun x hx => ⟨D.nx, k x hx⟩⟩
    | false => exact ⟨F', P, S', hb, k⟩⟩
/-- both branches end -/
theorem b_if2 {wc : W Bool} {w1 w2 : W β} (hc : ET X B env os c wc) (hA : BG X B env os blkA post w1) (hB : BG X B env os blkB post w2) : BG X B env os [.If c blkA blkB pos] post (bnd wc fun b => if b = true then w1 else w2) :=
  PSs.imp (pss_one (ps_if hc hA hB)) fun D σ H ⟨F, P, S, hw, k⟩ => ⟨F, _, S, hw, fun b hb F' H' S' _ => by
    cases b with
    | true => exact ⟨F', P, S', hb, k⟩
    | false => exact ⟨F', P, S', hb, k⟩⟩
/-- both branches go on -/
theorem b_ifJ {wc : W Bool} {w1 w2 : W S} {w3 : S → W β} (envS : S → Env) (osS : S → Os) (hc : ET X B env os c wc) (hA : BG X B env os blkA (pNx B envS osS) w1) (hB : BG X B env os blkB (pNx B envS osS) w2)
    (hr : ∀ s, BG X B (envS s) (osS s) rest post (w3 s)) : BG X B env os (.If c blkA blkB pos :: rest) post (bnd wc fun b => bnd (if b = true then w1 else w2) w3) :=
  PSs.imp (pss_cons (ps_if hc hA hB) (PSs.ex hr)) fun D σ H ⟨F, P, S, hw, k⟩ => ⟨F, _, S, hw, fun b hb F' H' S' _ => by
    cases b with
    | true => exact ⟨F', _, S', hb, fun s hs σ2 F2 H2 S2 => ⟨s, F2, P, S2, hs, k⟩⟩
    | false => exact ⟨F', _, S', hb, fun s hs σ2 F2 H2 S2 => ⟨s, F2, P, S2, hs, k⟩⟩⟩
/-- one branch ends, the other goes on -/
theorem b_ifAJ {wc : W Bool} {w1 : W β} {w2 : W S} {w3 : S → W β} (envS : S → Env) (osS : S → Os) (hc : ET X B env os c wc) (hA : BG X B env os blkA (pX post) w1) (hB : BG X B env os blkB (pNx B envS osS) w2)
    (hr : ∀ s, BG X B (envS s) (osS s) rest post (w3 s)) : BG X B env os (.If c blkA blkB pos :: rest) post (bnd wc fun b => if b = true then w1 else bnd w2 w3) :=
  PSs.imp (pss_cons (ps_if hc hA hB) (PSs.ex hr)) fun D σ H ⟨F, P, S, hw, k⟩ => ⟨F, _, S, hw, fun b hb F' H' S' _ => by
    cases b with
    | true => exact ⟨F', P, S', hb, fun x hx => ⟨D.nx, k x hx⟩⟩
    | false => exact ⟨F', _, S', hb, fun s hs σ2 F2 H2 S2 => ⟨s, F2, P, S2, hs, k⟩⟩⟩
theorem b_ifBJ {wc : W Bool} {w1 : W S} {w2 : W β} {w3 : S → W β} (envS : S → Env) (osS : S → Os) (hc : ET X B env os c wc) (hA : BG X B env os blkA (pNx B envS osS) w1) (hB : BG X B env os blkB (pX post) w2)
    (hr : ∀ s, BG X B (envS s) (osS s) rest post (w3 s)) : BG X B env os (.If c blkA blkB pos :: rest) post (bnd wc fun b => if b = true then bnd w1 w3 else w2) :=
  PSs.imp (pss_cons (ps_if hc hA hB) (PSs.ex hr)) fun D σ H ⟨F, P, S, hw, k⟩ => ⟨F, _, S, hw, fun b hb F' H' S' _ => by
    cases b with
    | true => exact ⟨F', _, S', hb, fun s hs σ2 F2 H2 S2 => ⟨s, F2, P, S2, hs, k⟩⟩
    | false => exact ⟨F', P, S', hb, fun x hx => ⟨D.nx, k x hx⟩⟩⟩
end
end Mi

namespace Mi
open PySem L2 Evl

theorem Paired.get {α β : Type} {R : α → β → Prop} : ∀ {l : List α} {m : List β} {i : Nat} {y : β}, Paired R l m → m[i]? = some y → ∃ x, l[i]? = some x ∧ R x y
  | _, _, i, y, .nil, h => by simp at h
  | _, _, 0, y, .cons r t, h => by
    simp at h
    subst h
    exact ⟨_, rfl, r⟩
  | _, _, i + 1, y, .cons r t, h => by
    obtain ⟨x, h1, h2⟩ := Paired.get (i := i) t (by simpa using h)
    exact ⟨x, by simpa using h1, h2⟩
theorem Paired.get' {α β : Type} {R : α → β → Prop} : ∀ {l : List α} {m : List β} {i : Nat} {x : α}, Paired R l m → l[i]? = some x → ∃ y, m[i]? = some y ∧ R x y
  | _, _, i, y, .nil, h => by simp at h
  | _, _, 0, y, .cons r t, h => by
    simp at h
    subst h
    exact ⟨_, rfl, r⟩
  | _, _, i + 1, y, .cons r t, h => by
    obtain ⟨x, h1, h2⟩ := Paired.get' (i := i) t (by simpa using h)
    exact ⟨x, by simpa using h1, h2⟩
theorem Paired.app {α β : Type} {R : α → β → Prop} : ∀ {l l' : List α} {m m' : List β}, Paired R l m → Paired R l' m' → Paired R (l ++ l') (m ++ m')
  | _, _, _, _, .nil, h => h
  | _, _, _, _, .cons r t, h => .cons r (Paired.app t h)
theorem Paired.setR {α β : Type} {R : α → β → Prop} {x : α} {y : β} (r : R x y) : ∀ {l : List α} {m : List β} {i : Nat}, Paired R l m → Paired R (l.set i x) (m.set i y)
  | _, _, _, .nil => .nil
  | _, _, 0, .cons _ t => .cons r t
  | _, _, i + 1, .cons q t => .cons q (Paired.setR r (i := i) t)
theorem Paired.takeR {α β : Type} {R : α → β → Prop} : ∀ {l : List α} {m : List β} (n : Nat), Paired R l m → Paired R (l.take n) (m.take n)
  | _, _, 0, _ => .nil
  | _, _, _ + 1, .nil => .nil
  | _, _, n + 1, .cons r t => .cons r (Paired.takeR n t)
theorem Paired.dropR {α β : Type} {R : α → β → Prop} : ∀ {l : List α} {m : List β} (n : Nat), Paired R l m → Paired R (l.drop n) (m.drop n)
  | _, _, 0, r => r
  | _, _, _ + 1, .nil => .nil
  | _, _, n + 1, .cons _ t => Paired.dropR n t
theorem Paired.mapL {α β γ : Type} {R : γ → β → Prop} {f : α → γ} : ∀ {l : List α} {m : List β}, Paired (fun a b => R (f a) b) l m → Paired R (l.map f) m
  | _, _, .nil => .nil
  | _, _, .cons r t => .cons r (Paired.mapL t)
/-- a list of values that stand for x's by a function -/
theorem Paired.eqMap {α : Type} {f : α → V} : ∀ {l : List V} {m : List α}, Paired (fun v x => v = f x) l m → l = m.map f
  | _, _, .nil => rfl
  | _, _, .cons r t => by
    subst r
    rw [List.map_cons, ← Paired.eqMap t]
theorem ints_map {F : Hp} {vs : List V} {xs : List Int} (h : Paired (rInt.ok F) vs xs) : vs = xs.map V.int := Paired.eqMap h
theorem bools_map {F : Hp} {vs : List V} {xs : List Bool} (h : Paired (rBool.ok F) vs xs) : vs = xs.map V.bl := Paired.eqMap h

/-! ### a new object, one's own -/
/-- what the heap does not know the base does not know either -/
theorem Fn.fresh {B : Bs} {F H : Hp} {p : Addr} (s : Fn B F H) (hp : H p = none) : B.H p = none := by
  cases e : B.H p with
  | none => rfl
  | some o =>
    cases ef : B.F p with
    | none =>
      by_cases hio : p ∈ B.io
      · obtain ⟨u, hu⟩ := s.ios p hio
        rw [hp] at hu
        cases hu
      · have := (s.keep p o ef e hio).1
        rw [hp] at this
        cases this
    | some u =>
      have := s.fh p u (s.bf p u ef)
      rw [hp] at this
      cases this
theorem Sit.newOwn {B : Bs} {F H : Hp} {σ : L2.St} {env : Env} {os : Os} {p : Addr} {o : HO} {ow : Own} (s : Sit B F H σ env os) (hp : H p = none) (hb : ow.ok F o) : Sit B F (upd H p o) σ env ((p, ow) :: os) := by
  have fp : F p = none := fresh_back s.fh hp
  refine ⟨⟨s.fh.trans (Ex.new hp), s.fin.bf, s.fin.mrk, s.fin.bb, fun a ha => let ⟨o, h⟩ := s.fin.ios a ha; ⟨o, Ex.new hp a o h⟩, fun a u h1 h2 h3 => ?_⟩, s.env, fun q hq => ?_, ?_⟩
  · obtain ⟨k1, k2⟩ := s.fin.keep a u h1 h2 h3
    exact ⟨Ex.new hp a u k1, k2⟩
  · rcases List.mem_cons.mp hq with e | hq
    · subst e
      exact ⟨fp, ⟨o, upd_same, hb⟩, .inl (s.fin.fresh hp)⟩
    · obtain ⟨h1, ⟨u, h2, h3⟩, h4⟩ := s.ow q hq
      exact ⟨h1, ⟨u, Ex.new hp _ _ h2, h3⟩, h4⟩
  · rw [List.map_cons]
    refine List.nodup_cons.mpr ⟨fun hm => ?_, s.nd⟩
    obtain ⟨q, hq, e⟩ := List.mem_map.mp hm
    obtain ⟨_, ⟨u, h2, _⟩, _⟩ := s.ow q hq
    have e' : q.1 = p := e
    rw [e', hp] at h2
    cases h2
/-- the first own object will never change again -/
theorem Sit.freeze {B : Bs} {F H : Hp} {σ : L2.St} {env : Env} {os : Os} {p : Addr} {ow : Own} (s : Sit B F H σ env ((p, ow) :: os)) :
    ∃ F' o, Ex F F' ∧ F' p = some o ∧ ow.ok F' o ∧ Sit B F' H σ env os := by
  obtain ⟨h1, ⟨o, h2, h3⟩, h4⟩ := s.ow (p, ow) (List.mem_cons_self ..)
  have h1 : F p = none := h1
  have h2 : H p = some o := h2
  have e : Ex F (upd F p o) := Ex.new h1
  have nd := s.nd
  rw [List.map_cons] at nd
  obtain ⟨nd1, nd2⟩ := List.nodup_cons.mp nd
  refine ⟨upd F p o, o, e, upd_same, ow.mono e h3, ⟨fun a u ha => ?_, s.fin.bf.trans e, s.fin.mrk.trans e, s.fin.bb, s.fin.ios, fun a u k1 k2 k3 => ?_⟩, s.env.mono e, fun q hq => ?_, nd2⟩
  · by_cases hap : a = p
    · rw [hap, upd_same] at ha
      rw [hap, h2]
      exact ha
    · rw [upd_ne hap] at ha
      exact s.fh a u ha
  · obtain ⟨z1, z2⟩ := s.fin.keep a u k1 k2 k3
    refine ⟨z1, ?_⟩
    have hap : a ≠ p := by
      rintro rfl
      rcases h4 with q | q
      · have q' : B.H a = none := q
        rw [k2] at q'
        cases q'
      · exact k3 q
    rw [upd_ne hap]
    exact z2
  · obtain ⟨z1, ⟨u, z2, z3⟩, z4⟩ := s.ow q (List.mem_cons_of_mem _ hq)
    have hap : q.1 ≠ p := fun z => by
      have hm := List.mem_map_of_mem (f := Prod.fst) hq
      rw [z] at hm
      exact nd1 hm
    exact ⟨by rw [upd_ne hap]; exact z1, ⟨u, z2, q.2.mono e z3⟩, z4⟩
theorem set_same {α : Type} : ∀ {l : List α} {j : Nat} {x : α}, l[j]? = some x → l.set j x = l
  | [], _, _, _ => rfl
  | a :: l, 0, x, h => by
    simp at h
    subst h
    rfl
  | a :: l, j + 1, x, h => by
    show a :: l.set j x = a :: l
    rw [set_same (by simpa using h)]
/-- an own object is changed -/
theorem Sit.change {B : Bs} {F H : Hp} {σ : L2.St} {env : Env} {os : Os} {j : Nat} {p : Addr} {ow ow' : Own} {o' : HO} (s : Sit B F H σ env os) (hj : os[j]? = some (p, ow)) (hb : ow'.ok F o') : Sit B F (upd H p o') σ env (os.set j (p, ow')) := by
  have hm : (p, ow) ∈ os := List.mem_of_getElem? hj
  obtain ⟨h1, ⟨o, h2, h3⟩, h4⟩ := s.ow _ hm
  have h1 : F p = none := h1
  have h2 : H p = some o := h2
  have hjl : j < os.length := (List.getElem?_eq_some_iff.mp hj).1
  have hmap : (os.set j (p, ow')).map (·.1) = os.map (·.1) := by
    rw [List.map_set]
    exact set_same (by rw [List.getElem?_map, hj]; rfl)
  refine ⟨⟨fun a u ha => ?_, s.fin.bf, s.fin.mrk, s.fin.bb, fun a ha => ?_, fun a u k1 k2 k3 => ?_⟩, s.env, fun q hq => ?_, by rw [hmap]; exact s.nd⟩
  · have hap : a ≠ p := fun z => by rw [z, h1] at ha; cases ha
    rw [upd_ne hap]
    exact s.fh a u ha
  · by_cases hap : a = p
    · exact ⟨o', by rw [hap, upd_same]⟩
    · obtain ⟨u, hu⟩ := s.fin.ios a ha
      exact ⟨u, by rw [upd_ne hap]; exact hu⟩
  · obtain ⟨z1, z2⟩ := s.fin.keep a u k1 k2 k3
    have hap : a ≠ p := by
      rintro rfl
      rcases h4 with q | q
      · have q' : B.H a = none := q
        rw [k2] at q'
        cases q'
      · exact k3 q
    rw [upd_ne hap]
    exact ⟨z1, z2⟩
  · obtain ⟨i, hi⟩ := List.mem_iff_getElem?.mp hq
    by_cases hij : j = i
    · subst hij
      rw [List.getElem?_set_self hjl] at hi
      cases hi
      exact ⟨h1, ⟨o', upd_same, hb⟩, h4⟩
    · rw [List.getElem?_set_ne hij] at hi
      obtain ⟨z1, ⟨u, z2, z3⟩, z4⟩ := s.ow q (List.mem_of_getElem? hi)
      have hap : q.1 ≠ p := fun z => by
        have nd := s.nd
        have a1 : (os.map (·.1))[i]? = some p := by rw [List.getElem?_map, hi, ← z]; rfl
        have a2 : (os.map (·.1))[j]? = some p := by rw [List.getElem?_map, hj]; rfl
        exact hij (nd_ix nd a2 a1)
      exact ⟨z1, ⟨u, by rw [upd_ne hap]; exact z2, z3⟩, z4⟩
end Mi

namespace Mi
open PySem L2 Evl

/-! ### expressions that make a new list -/
def tNew (B : Bs) (env : Env) (os : Os) {α : Type} (r : Rp α) (w : W (List α)) : TE := fun σ H Q => ∃ F P, Sit B F H σ env os ∧ w P B.E0 ∧ ∀ xs, P xs → ∀ a F' H', Sit B F' H' σ env ((a, oLst r xs) :: os) → Ex F F' → Q (.ref a) H'
def EN (X : Cx) (B : Bs) (env : Env) (os : Os) (e : Expr) {α : Type} (r : Rp α) (w : W (List α)) : Prop := PE X e (tNew B env os r w)
section
variable {X : Cx} {B : Bs} {env : Env} {os : Os} {pos : Pos} {α β γ : Type} {r : Rp α} {s : Rp β} {t : Rp γ} {e a b c : Expr} {es : List Expr}
/-- it is let go: it will not change again -/
theorem e_new {w : W (List α)} (h : EN X B env os e r w) : EE X B env os e (rLst r) w := PE.imp h fun σ H Q ⟨F, P, S, hw, k⟩ => ⟨F, P, S, hw, fun xs hx a F' H' S' e' => by
  obtain ⟨F2, o, e2, h1, ⟨vs, h2, h3, h4⟩, S2⟩ := S'.freeze
  subst h2
  exact k xs hx (.ref a) F2 H' S2 (e'.trans e2) ⟨a, vs, rfl, h1, h3, h4⟩⟩
/-! a written list, a tuple -/
def tAL (B : Bs) (env : Env) (os : Os) (n : Nat) {α : Type} (r : Rp α) (w : W (List α)) : TA := fun σ H Q => ∃ F P, Sit B F H σ env os ∧ w P B.E0 ∧ ∀ xs, P xs → ∀ vs F' H', Sit B F' H' σ env os → Ex F F' → Paired (r.ok F') vs xs → vs.length = n → Q vs H'
def AL (X : Cx) (B : Bs) (env : Env) (os : Os) (es : List Expr) {α : Type} (r : Rp α) (w : W (List α)) : Prop := PA X es (tAL B env os es.length r w)
theorem PA.imp {t t' : TA} (h : PA X es t) (i : ∀ σ H Q, t' σ H Q → t σ H Q) : PA X es t' := ⟨fun pos pins s σ H Q I q => h.run pos pins s σ H Q I (i _ _ _ q)⟩
theorem PA.ex {ι : Type} {t : ι → TA} (h : ∀ i, PA X es (t i)) : PA X es (fun σ H Q => ∃ i, t i σ H Q) := ⟨fun pos pins s σ H Q I ⟨i, q⟩ => (h i).run pos pins s σ H Q I q⟩
theorem al_nil : AL X B env os [] r (ret []) := PA.imp pa_nil fun σ H Q ⟨F, P, S, hw, k⟩ => k [] hw [] F H S (Ex.refl F) .nil rfl
theorem al_cons {w1 : W α} {w2 : W (List α)} (h : EE X B env os e r w1) (ht : AL X B env os es r w2) (hs : starEach (e :: es) X.env = (false, eval e X.env) :: starEach es X.env := by rfl) : AL X B env os (e :: es) r (bnd w1 fun x => bnd w2 fun xs => ret (x :: xs)) :=
  PA.imp (pa_cons h ht hs) fun σ H Q ⟨F, P, S, hw, k⟩ => ⟨F, _, S, hw, fun x hx v F1 H1 S1 e1 ok1 => ⟨F1, _, S1, hx, fun xs hxs vs F2 H2 S2 e2 ok2 hl => k _ hxs (v :: vs) F2 H2 S2 (e1.trans e2) (.cons (r.mono e2 ok1) ok2) (by rw [List.length_cons, hl, List.length_cons])⟩⟩
theorem n_list {w : W (List α)} (h : AL X B env os es r w) (hz : es.length ≤ sizeLine := by decide) : EN X B env os (.List es pos) r w := PE.imp (pe_lst h) fun σ H Q ⟨F, P, S, hw, k⟩ => ⟨F, P, S, hw, fun xs hx vs F' H' S' e' ok hl =>
  ⟨by rw [hl]; exact hz, fun p hp => k xs hx p F' _ (S'.newOwn hp ⟨vs, rfl, by rw [hl]; exact hz, ok⟩) e'⟩⟩
theorem e_tup2 {w1 : W α} {w2 : α → W β} {x1} (ha : EE X B env os a r w1) (hb : ∀ x, EE X B env os b s (w2 x)) (hs : starEach [a, b] X.env = (false, eval a X.env) :: starEach [b] X.env := by rfl) (hs2 : starEach [b] X.env = (false, eval b X.env) :: starEach [] X.env := by rfl) :
    EE X B env os (.Tuple [a, b] x1 pos) (rT2 X.K r s) (bnd w1 fun x => bnd (w2 x) fun y => ret (x, y)) :=
  PE.imp (pe_tup (pa_cons ha (pa_cons (PE.ex hb) pa_nil hs2) hs)) fun σ H Q ⟨F, P, S, hw, k⟩ => ⟨F, _, S, hw, fun x hx v F1 H1 S1 e1 ok1 => ⟨x, F1, _, S1, hx, fun y hy u F2 H2 S2 e2 ok2 =>
    ⟨(by show 2 ≤ sizeLine; decide), fun p hp => by
      have g : Grow F2 H2 (upd F2 p (.tup [v, u])) (upd H2 p (.tup [v, u])) := Grow.alloc S2.fh hp
      exact k _ hy (.ref p) _ _ (S2.grow g) ((e1.trans e2).trans g.f) ⟨p, v, u, rfl, SqT.of upd_same, r.mono (e2.trans g.f) ok1, s.mono g.f ok2⟩⟩⟩⟩
theorem e_tup3 {w1 : W α} {w2 : α → W β} {w3 : α → β → W γ} {x1} (ha : EE X B env os a r w1) (hb : ∀ x, EE X B env os b s (w2 x)) (hc : ∀ x y, EE X B env os c t (w3 x y)) (hs : starEach [a, b, c] X.env = (false, eval a X.env) :: starEach [b, c] X.env := by rfl)
    (hs2 : starEach [b, c] X.env = (false, eval b X.env) :: starEach [c] X.env := by rfl) (hs3 : starEach [c] X.env = (false, eval c X.env) :: starEach [] X.env := by rfl) :
    EE X B env os (.Tuple [a, b, c] x1 pos) (rT3 X.K r s t) (bnd w1 fun x => bnd (w2 x) fun y => bnd (w3 x y) fun z => ret (x, y, z)) :=
  PE.imp (pe_tup (pa_cons ha (pa_cons (PE.ex hb) (pa_cons (PE.ex fun p : α × β => hc p.1 p.2) pa_nil hs3) hs2) hs)) fun σ H Q ⟨F, P, S, hw, k⟩ => ⟨F, _, S, hw, fun x hx v F1 H1 S1 e1 ok1 => ⟨x, F1, _, S1, hx, fun y hy u F2 H2 S2 e2 ok2 => ⟨(x, y), F2, _, S2, hy, fun z hz q F3 H3 S3 e3 ok3 =>
    ⟨(by show 3 ≤ sizeLine; decide), fun p hp => by
      have g : Grow F3 H3 (upd F3 p (.tup [v, u, q])) (upd H3 p (.tup [v, u, q])) := Grow.alloc S3.fh hp
      exact k _ hz (.ref p) _ _ (S3.grow g) (((e1.trans e2).trans e3).trans g.f) ⟨p, v, u, q, rfl, SqT.of upd_same, r.mono ((e2.trans e3).trans g.f) ok1, s.mono (e3.trans g.f) ok2, t.mono g.f ok3⟩⟩⟩⟩⟩

/-! ### reading lists -/
theorem ixN_map {n m : Nat} (h : n = m) (i : Int) : ixN n i = ixN m i := by rw [h]
theorem atI_paired {R : V → α → Prop} {vs : List V} {xs : List α} {i : Int} {x : α} (h : Paired R vs xs) (hx : atI xs i = some x) : ∃ v, atI vs i = some v ∧ R v x := by
  unfold atI at hx ⊢
  rw [ixN_map h.length i]
  cases e : ixN xs.length i with
  | none => rw [e] at hx; cases hx
  | some j =>
    rw [e] at hx
    exact Paired.get h hx
def idx (xs : List α) (i : Int) : W α := match atI xs i with
  | some x => ret x
  | none => fail
theorem idx_of {xs : List α} {i : Int} {P : α → Prop} {E : Er → Prop} (h : idx xs i P E) : ∃ x, atI xs i = some x ∧ P x := by
  unfold idx at h
  cases e : atI xs i with
  | none => rw [e] at h; exact False.elim h
  | some x => rw [e] at h; exact ⟨x, rfl, h⟩
theorem sem_idx {K : PySem.W.Frag} : R2T (rIxL K) (rLst r) rInt r (fun x i => idx x i) := fun F H v u x y P E Q fh ⟨p, vs, e1, h1, h2, h3⟩ e2 hw k => by
  obtain ⟨z, hz, pz⟩ := idx_of hw
  obtain ⟨v', hv', rz⟩ := atI_paired h3 hz
  exact ⟨p, vs, y, v', e1, e2, SqL.of (fh _ _ h1), hv', k z pz v' F H (Grow.refl fh) rz⟩
theorem sem_idxT {K : PySem.W.Frag} : R2T (rIxT K) (rTup K r) rInt r (fun x i => idx x i) := fun F H v u x y P E Q fh ⟨p, vs, e1, h1, h2, h3⟩ e2 hw k => by
  obtain ⟨z, hz, pz⟩ := idx_of hw
  obtain ⟨v', hv', rz⟩ := atI_paired h3 hz
  exact ⟨p, vs, y, v', e1, e2, ex_t fh h1, hv', k z pz v' F H (Grow.refl fh) rz⟩
theorem sem_fst {K : PySem.W.Frag} : R2T (rIxT K) (rT2 K r s) rInt r (fun x i => chk (i = 0) (ret x.1)) := fun F H v u x y P E Q fh ⟨p, v1, v2, e1, h1, h2, h3⟩ e2 ⟨c, hw⟩ k =>
  ⟨p, _, y, v1, e1, e2, ex_t fh h1, (by subst c; rfl), k _ hw v1 F H (Grow.refl fh) h2⟩
theorem sem_snd {K : PySem.W.Frag} : R2T (rIxT K) (rT2 K r s) rInt s (fun x i => chk (i = 1) (ret x.2)) := fun F H v u x y P E Q fh ⟨p, v1, v2, e1, h1, h2, h3⟩ e2 ⟨c, hw⟩ k =>
  ⟨p, _, y, v2, e1, e2, ex_t fh h1, (by subst c; rfl), k _ hw v2 F H (Grow.refl fh) h3⟩
theorem e_idx {w1 : W (List α)} {w2 : List α → W Int} (ha : EE X B env os a (rLst r) w1) (hb : ∀ x, EE X B env os b rInt (w2 x)) (hs : PlainIx b := by exact fun _ _ => rfl) : EE X B env os (.Subscript a b pos) r (bnd w1 fun x => bnd (w2 x) fun i => idx x i) :=
  e_ix ix_list sem_idx hs ha hb
theorem e_idxT {w1 : W (List α)} {w2 : List α → W Int} (ha : EE X B env os a (rTup X.K r) w1) (hb : ∀ x, EE X B env os b rInt (w2 x)) (hs : PlainIx b := by exact fun _ _ => rfl) : EE X B env os (.Subscript a b pos) r (bnd w1 fun x => bnd (w2 x) fun i => idx x i) :=
  e_ix ix_tup sem_idxT hs ha hb
/-- the places of a pair -/
theorem e_fst {w1 : W (α × β)} {j} {pos2 : Pos} (ha : EE X B env os a (rT2 X.K r s) w1) (hs : PlainIx (.Constant (.int 0) j pos2) := by exact fun _ _ => rfl) : EE X B env os (.Subscript a (.Constant (.int 0) j pos2) pos) r (bnd w1 fun x => ret x.1) :=
  e_conv (e_ix ix_tup sem_fst hs ha (fun _ => e_int)) (by
      funext P E
      show w1 _ E = w1 _ E
      congr 1
      funext x
      exact propext ⟨fun h => ⟨rfl, h⟩, fun h => h.2⟩)
theorem e_snd {w1 : W (α × β)} {j} {pos2 : Pos} (ha : EE X B env os a (rT2 X.K r s) w1) (hs : PlainIx (.Constant (.int 1) j pos2) := by exact fun _ _ => rfl) : EE X B env os (.Subscript a (.Constant (.int 1) j pos2) pos) s (bnd w1 fun x => ret x.2) :=
  e_conv (e_ix ix_tup sem_snd hs ha (fun _ => e_int)) (by
      funext P E
      show w1 _ E = w1 _ E
      congr 1
      funext x
      exact propext ⟨fun h => ⟨rfl, h⟩, fun h => h.2⟩)
/-! ### calls of built-in things with one argument -/
def C1T (q : List V → Hp → VK → Prop) (r : Rp α) (t : Rp γ) (f : α → W γ) : Prop := ∀ (F H : Hp) (v : V) (x : α) (P : γ → Prop) (E : Er → Prop) (Q : VK), Ex F H → r.ok F v x → f x P E → (∀ z, P z → ∀ v' F' H', Grow F H F' H' → t.ok F' v' z → Q v' H') → q [v] H Q
theorem one_call {q : List V → Hp → VK → Prop} {f : α → W γ} {w1 : W α} (sem : C1T q r t f) {σ : L2.St} {H : Hp} {Q : VK} (h : tOf B env os t (bnd w1 f) σ H Q) : tCB q (tCons (tOf B env os r w1) tNil) σ H Q := by
  obtain ⟨F, P, S, hw, k⟩ := h
  exact ⟨F, _, S, hw, fun x hx v F1 H1 S1 e1 ok1 => sem F1 H1 v x P B.E0 Q S1.fh ok1 hx fun z hz v' F3 H3 g ok3 => k z hz v' F3 H3 (S1.grow g) (e1.trans g.f) ok3⟩
theorem e_callB {id : String} {x : Str} {p : Pos} {q : List V → Hp → VK → Prop} {f : α → W γ} {w1 : W α} (hc : CallR X (.builtin id) q) (sem : C1T q r t f) (ha : EE X B env os a r w1) (hm : X.mg x = none) (hg : Gl X x := by rfl) (hv : bootBuiltins x = some (.builtin id) := by decide +kernel)
    (hn : x ≠ "__name__" := by decide) (hdb : (x == ("__debug__" : Str)) = false := by decide) (he : starEach [a] X.env = (false, eval a X.env) :: starEach [] X.env := by rfl) (hpl : (backTo pos (starEach [] X.env)).any (·.1) = false := by rfl) :
    EE X B env os (.Call (.Name x p) [a] [] pos) t (bnd w1 f) := PE.imp (pe_callB hc hg hm hv (pa_cons ha pa_nil he) hn hdb he hpl) fun _ _ _ h => one_call sem h
theorem e_callTy {id : String} {x : Str} {p : Pos} {q : List V → Hp → VK → Prop} {f : α → W γ} {w1 : W α} (hc : CallR X (.type id) q) (sem : C1T q r t f) (ha : EE X B env os a r w1) (hm : X.mg x = none) (hg : Gl X x := by rfl) (hv : bootBuiltins x = some (.type id) := by decide +kernel)
    (hn : x ≠ "__name__" := by decide) (hdb : (x == ("__debug__" : Str)) = false := by decide) (he : starEach [a] X.env = (false, eval a X.env) :: starEach [] X.env := by rfl) (hpl : (backTo pos (starEach [] X.env)).any (·.1) = false := by rfl) :
    EE X B env os (.Call (.Name x p) [a] [] pos) t (bnd w1 f) := PE.imp (pe_callTy hc hg hm hv (pa_cons ha pa_nil he) hn hdb he hpl) fun _ _ _ h => one_call sem h
theorem sem_len {K : PySem.W.Frag} : C1T (fun xs H Q => ∃ p ys, xs = [.ref p] ∧ (SqL K H p ys ∨ SqT K H p ys) ∧ Q (.int ys.length) H) (rLst r) rInt (fun x => ret (x.length : Int)) := fun F H v x P E Q fh ⟨p, vs, e1, h1, h2, h3⟩ hw k =>
  ⟨p, vs, by rw [e1], .inl (SqL.of (fh _ _ h1)), k _ hw _ F H (Grow.refl fh) (by rw [h3.length]; rfl)⟩
theorem sem_lenT {K : PySem.W.Frag} : C1T (fun xs H Q => ∃ p ys, xs = [.ref p] ∧ (SqL K H p ys ∨ SqT K H p ys) ∧ Q (.int ys.length) H) (rTup K r) rInt (fun x => ret (x.length : Int)) := fun F H v x P E Q fh ⟨p, vs, e1, h1, h2, h3⟩ hw k =>
  ⟨p, vs, by rw [e1], .inr (ex_t fh h1), k _ hw _ F H (Grow.refl fh) (by rw [h3.length]; rfl)⟩
theorem sem_lenS : C1T (fun xs H Q => ∃ z, xs = [.str z] ∧ z.length ≤ sizeLine ∧ Q (.int z.length) H) rStr rInt (fun x => ret (x.length : Int)) := fun F H v x P E Q fh ⟨e1, h1, _⟩ hw k =>
  ⟨x, by rw [e1], h1, k _ hw _ F H (Grow.refl fh) rfl⟩
theorem sem_sum {K : PySem.W.Frag} : C1T (rSum K) (rLst rInt) rInt (fun x => ret x.sum) := fun F H v x P E Q fh ⟨p, vs, e1, h1, h2, h3⟩ hw k =>
  ⟨p, x, by rw [e1], SqL.of (by rw [← ints_map h3]; exact fh _ _ h1), k _ hw _ F H (Grow.refl fh) rfl⟩
theorem sem_any {K : PySem.W.Frag} : C1T (rAny K) (rLst rBool) rBool (fun x => ret (x.any id)) := fun F H v x P E Q fh ⟨p, vs, e1, h1, h2, h3⟩ hw k =>
  ⟨p, x, by rw [e1], SqL.of (by rw [← bools_map h3]; exact fh _ _ h1), k _ hw _ F H (Grow.refl fh) rfl⟩
theorem sem_all {K : PySem.W.Frag} : C1T (rAll K) (rLst rBool) rBool (fun x => ret (x.all id)) := fun F H v x P E Q fh ⟨p, vs, e1, h1, h2, h3⟩ hw k =>
  ⟨p, x, by rw [e1], SqL.of (by rw [← bools_map h3]; exact fh _ _ h1), k _ hw _ F H (Grow.refl fh) rfl⟩
def maxL : List Int → Int
  | [] => 0
  | [x] => x
  | x :: y :: r => max x (maxL (y :: r))
def minL : List Int → Int
  | [] => 0
  | [x] => x
  | x :: y :: r => min x (minL (y :: r))
theorem maxL_is : ∀ {xs : List Int} {m : Int}, m ∈ xs → (∀ y, y ∈ xs → y ≤ m) → maxL xs = m
  | [], m, h, _ => by simp at h
  | [x], m, h, _ => by simp at h; exact h.symm
  | x :: y :: r, m, h, k => by
    show max x (maxL (y :: r)) = m
    have hx : x ≤ m := k x (List.mem_cons_self ..)
    have ub : ∀ (l : List Int), (∀ z, z ∈ l → z ≤ m) → l ≠ [] → maxL l ≤ m := by
      intro l
      induction l with
      | nil => intro _ q; exact absurd rfl q
      | cons a l ih =>
        intro q _
        cases l with
        | nil => exact q a (List.mem_cons_self ..)
        | cons b l =>
          have h1 := ih (fun z hz => q z (List.mem_cons_of_mem _ hz)) (by simp)
          have h2 := q a (List.mem_cons_self ..)
          show max a (maxL (b :: l)) ≤ m
          omega
    have h1 := ub (y :: r) (fun z hz => k z (List.mem_cons_of_mem _ hz)) (by simp)
    rcases List.mem_cons.mp h with e | e
    · omega
    · rw [maxL_is e fun z hz => k z (List.mem_cons_of_mem _ hz)]
      omega
theorem minL_is : ∀ {xs : List Int} {m : Int}, m ∈ xs → (∀ y, y ∈ xs → m ≤ y) → minL xs = m
  | [], m, h, _ => by simp at h
  | [x], m, h, _ => by simp at h; exact h.symm
  | x :: y :: r, m, h, k => by
    show min x (minL (y :: r)) = m
    have hx : m ≤ x := k x (List.mem_cons_self ..)
    have ub : ∀ (l : List Int), (∀ z, z ∈ l → m ≤ z) → l ≠ [] → m ≤ minL l := by
      intro l
      induction l with
      | nil => intro _ q; exact absurd rfl q
      | cons a l ih =>
        intro q _
        cases l with
        | nil => exact q a (List.mem_cons_self ..)
        | cons b l =>
          have h1 := ih (fun z hz => q z (List.mem_cons_of_mem _ hz)) (by simp)
          have h2 := q a (List.mem_cons_self ..)
          show m ≤ min a (minL (b :: l))
          omega
    have h1 := ub (y :: r) (fun z hz => k z (List.mem_cons_of_mem _ hz)) (by simp)
    rcases List.mem_cons.mp h with e | e
    · omega
    · rw [minL_is e fun z hz => k z (List.mem_cons_of_mem _ hz)]
      omega
theorem sem_max {K : PySem.W.Frag} : C1T (rMax K) (rLst rInt) rInt (fun x => chk (x ≠ []) (ret (maxL x))) := fun F H v x P E Q fh ⟨p, vs, e1, h1, h2, h3⟩ ⟨c, hw⟩ k =>
  ⟨p, x, by rw [e1], SqL.of (by rw [← ints_map h3]; exact fh _ _ h1), List.length_pos_iff.mpr c, fun m hm hk => by
    have q := maxL_is hm hk
    rw [← q]
    exact k _ hw _ F H (Grow.refl fh) rfl⟩
theorem sem_min {K : PySem.W.Frag} : C1T (rMin K) (rLst rInt) rInt (fun x => chk (x ≠ []) (ret (minL x))) := fun F H v x P E Q fh ⟨p, vs, e1, h1, h2, h3⟩ ⟨c, hw⟩ k =>
  ⟨p, x, by rw [e1], SqL.of (by rw [← ints_map h3]; exact fh _ _ h1), List.length_pos_iff.mpr c, fun m hm hk => by
    have q := minL_is hm hk
    rw [← q]
    exact k _ hw _ F H (Grow.refl fh) rfl⟩
theorem sem_abs : C1T (fun xs H Q => ∃ i, xs = [.int i] ∧ Q (.int (if i < 0 then -i else i)) H) rInt rInt (fun x => ret (x.natAbs : Int)) := fun F H v x P E Q fh e1 hw k =>
  ⟨x, by rw [e1], by
    have e : (if x < 0 then -x else x) = (x.natAbs : Int) := by split <;> omega
    rw [e]
    exact k _ hw _ F H (Grow.refl fh) rfl⟩
theorem sem_intI : C1T (fun xs H Q => (∃ i, xs = [.int i] ∧ Q (.int i) H) ∨ ∃ k, xs = [.bl k] ∧ Q (.int (if k then 1 else 0)) H) rInt rInt (fun x => ret x) := fun F H v x P E Q fh e1 hw k =>
  .inl ⟨x, by rw [e1], k _ hw _ F H (Grow.refl fh) rfl⟩
theorem sem_intB : C1T (fun xs H Q => (∃ i, xs = [.int i] ∧ Q (.int i) H) ∨ ∃ k, xs = [.bl k] ∧ Q (.int (if k then 1 else 0)) H) rBool rInt (fun x => ret (if x = true then 1 else 0)) := fun F H v x P E Q fh e1 hw k =>
  .inr ⟨x, by rw [e1], k _ hw _ F H (Grow.refl fh) rfl⟩
variable {w : W (List α)} {x : Str} {p : Pos}
theorem e_len (ha : EE X B env os a (rLst r) w) (hm : X.mg "len" = none) (hg : Gl X "len" := by rfl) (he : starEach [a] X.env = (false, eval a X.env) :: starEach [] X.env := by rfl) (hpl : (backTo pos (starEach [] X.env)).any (·.1) = false := by rfl) :
    EE X B env os (.Call (.Name "len" p) [a] [] pos) rInt (bnd w fun x => ret (x.length : Int)) := e_callB call_len_seq sem_len ha hm hg PySem.boot_len (by decide) (by decide) he hpl
theorem e_lenT (ha : EE X B env os a (rTup X.K r) w) (hm : X.mg "len" = none) (hg : Gl X "len" := by rfl) (he : starEach [a] X.env = (false, eval a X.env) :: starEach [] X.env := by rfl) (hpl : (backTo pos (starEach [] X.env)).any (·.1) = false := by rfl) :
    EE X B env os (.Call (.Name "len" p) [a] [] pos) rInt (bnd w fun x => ret (x.length : Int)) := e_callB call_len_seq sem_lenT ha hm hg PySem.boot_len (by decide) (by decide) he hpl
theorem e_lenS {w : W Str} (ha : EE X B env os a rStr w) (hm : X.mg "len" = none) (hg : Gl X "len" := by rfl) (he : starEach [a] X.env = (false, eval a X.env) :: starEach [] X.env := by rfl) (hpl : (backTo pos (starEach [] X.env)).any (·.1) = false := by rfl) :
    EE X B env os (.Call (.Name "len" p) [a] [] pos) rInt (bnd w fun x => ret (x.length : Int)) := e_callB call_len_str sem_lenS ha hm hg PySem.boot_len (by decide) (by decide) he hpl
theorem e_intI {w : W Int} (ha : EE X B env os a rInt w) (hm : X.mg "int" = none) (hg : Gl X "int" := by rfl) (he : starEach [a] X.env = (false, eval a X.env) :: starEach [] X.env := by rfl) (hpl : (backTo pos (starEach [] X.env)).any (·.1) = false := by rfl) :
    EE X B env os (.Call (.Name "int" p) [a] [] pos) rInt w := e_conv (e_callTy call_int1 sem_intI ha hm hg (by decide +kernel) (by decide) (by decide) he hpl) rfl
theorem e_intB {w : W Bool} (ha : EE X B env os a rBool w) (hm : X.mg "int" = none) (hg : Gl X "int" := by rfl) (he : starEach [a] X.env = (false, eval a X.env) :: starEach [] X.env := by rfl) (hpl : (backTo pos (starEach [] X.env)).any (·.1) = false := by rfl) :
    EE X B env os (.Call (.Name "int" p) [a] [] pos) rInt (bnd w fun x => ret (if x = true then 1 else 0)) := e_callTy call_int1 sem_intB ha hm hg (by decide +kernel) (by decide) (by decide) he hpl
theorem e_abs {w : W Int} (ha : EE X B env os a rInt w) (hm : X.mg "abs" = none) (hg : Gl X "abs" := by rfl) (he : starEach [a] X.env = (false, eval a X.env) :: starEach [] X.env := by rfl) (hpl : (backTo pos (starEach [] X.env)).any (·.1) = false := by rfl) :
    EE X B env os (.Call (.Name "abs" p) [a] [] pos) rInt (bnd w fun x => ret (x.natAbs : Int)) := e_callB call_abs sem_abs ha hm hg (by decide +kernel) (by decide) (by decide) he hpl
theorem e_sum {w : W (List Int)} (hc : X.calm = true) (ha : EE X B env os a (rLst rInt) w) (hm : X.mg "sum" = none) (hg : Gl X "sum" := by rfl) (he : starEach [a] X.env = (false, eval a X.env) :: starEach [] X.env := by rfl) (hpl : (backTo pos (starEach [] X.env)).any (·.1) = false := by rfl) :
    EE X B env os (.Call (.Name "sum" p) [a] [] pos) rInt (bnd w fun x => ret x.sum) := e_callB (cr_sum hc) sem_sum ha hm hg (by decide +kernel) (by decide) (by decide) he hpl
theorem e_max {w : W (List Int)} (hc : X.calm = true) (ha : EE X B env os a (rLst rInt) w) (hm : X.mg "max" = none) (hg : Gl X "max" := by rfl) (he : starEach [a] X.env = (false, eval a X.env) :: starEach [] X.env := by rfl) (hpl : (backTo pos (starEach [] X.env)).any (·.1) = false := by rfl) :
    EE X B env os (.Call (.Name "max" p) [a] [] pos) rInt (bnd w fun x => chk (x ≠ []) (ret (maxL x))) := e_callB (cr_max hc) sem_max ha hm hg (by decide +kernel) (by decide) (by decide) he hpl
theorem e_min {w : W (List Int)} (hc : X.calm = true) (ha : EE X B env os a (rLst rInt) w) (hm : X.mg "min" = none) (hg : Gl X "min" := by rfl) (he : starEach [a] X.env = (false, eval a X.env) :: starEach [] X.env := by rfl) (hpl : (backTo pos (starEach [] X.env)).any (·.1) = false := by rfl) :
    EE X B env os (.Call (.Name "min" p) [a] [] pos) rInt (bnd w fun x => chk (x ≠ []) (ret (minL x))) := e_callB (cr_min hc) sem_min ha hm hg (by decide +kernel) (by decide) (by decide) he hpl
theorem e_any {w : W (List Bool)} (hc : X.calm = true) (ha : EE X B env os a (rLst rBool) w) (hm : X.mg "any" = none) (hg : Gl X "any" := by rfl) (he : starEach [a] X.env = (false, eval a X.env) :: starEach [] X.env := by rfl) (hpl : (backTo pos (starEach [] X.env)).any (·.1) = false := by rfl) :
    EE X B env os (.Call (.Name "any" p) [a] [] pos) rBool (bnd w fun x => ret (x.any id)) := e_callB (cr_any hc) sem_any ha hm hg (by decide +kernel) (by decide) (by decide) he hpl
theorem e_all {w : W (List Bool)} (hc : X.calm = true) (ha : EE X B env os a (rLst rBool) w) (hm : X.mg "all" = none) (hg : Gl X "all" := by rfl) (he : starEach [a] X.env = (false, eval a X.env) :: starEach [] X.env := by rfl) (hpl : (backTo pos (starEach [] X.env)).any (·.1) = false := by rfl) :
    EE X B env os (.Call (.Name "all" p) [a] [] pos) rBool (bnd w fun x => ret (x.all id)) := e_callB (cr_all hc) sem_all ha hm hg (by decide +kernel) (by decide) (by decide) he hpl
end
end Mi

namespace Mi
open PySem L2 Evl

/-! ### what a loop walks -/
structure Walks {α : Type} (J : It) (F : Hp) (r : Rp α) (xs : List α) : Prop where
  go : ∀ i F1 H1, Ex F F1 → Ex F1 H1 → i < xs.length → J.go i H1
  yld : ∀ i F1 H1 v H2 x, Ex F F1 → Ex F1 H1 → J.yld i H1 v H2 → xs[i]? = some x → ∃ F2, Grow F1 H1 F2 H2 ∧ r.ok F2 v x
  stop : ∀ i F1 H1, Ex F F1 → Ex F1 H1 → xs.length ≤ i → J.stop i H1
def tSrc (B : Bs) (env : Env) (os : Os) {α : Type} (r : Rp α) (w : W (List α)) : TI := fun σ H R => ∃ F P, Sit B F H σ env os ∧ w P B.E0 ∧ ∀ xs, P xs → ∀ J F' H', Sit B F' H' σ env os → Ex F F' → Walks J F' r xs → xs.length ≤ sizeLine → R J H'
def ES (X : Cx) (B : Bs) (env : Env) (os : Os) (tg e : Expr) {α : Type} (r : Rp α) (w : W (List α)) : Prop := PI X tg e (tSrc B env os r w)
theorem PI.imp {X : Cx} {tg e : Expr} {t t' : TI} (h : PI X tg e t) (i : ∀ σ H R, t' σ H R → t σ H R) : PI X tg e t' := ⟨fun pins s σ H R I q => h.run pins s σ H R I (i _ _ _ q)⟩
def rangeI (lo hi : Int) : List Int := (List.range (hi - lo).toNat).map fun (k : Nat) => lo + (k : Int)
def RgOk (lo hi : Int) : Prop := -(2 ^ 62) ≤ lo ∧ lo < 2 ^ 62 ∧ -(2 ^ 62) ≤ hi ∧ hi < 2 ^ 62 ∧ hi - lo ≤ 16777216
theorem rangeI_len (lo hi : Int) : (rangeI lo hi).length = (hi - lo).toNat := by
  unfold rangeI
  rw [List.length_map, List.length_range]
theorem walks_rng {lo hi : Int} {F : Hp} : Walks (Itr lo (hi - lo).toNat) F rInt (rangeI lo hi) := by
  refine ⟨fun i F1 H1 _ _ h => ?_, fun i F1 H1 v H2 x _ fh y hx => ?_, fun i F1 H1 _ _ h => ?_⟩
  · rw [rangeI_len] at h
    exact h
  · obtain ⟨e1, e2⟩ := y
    subst e1
    refine ⟨F1, Grow.refl fh, ?_⟩
    unfold rangeI at hx
    rw [List.getElem?_map] at hx
    obtain ⟨k, hk, ek⟩ := Option.map_eq_some_iff.mp hx
    have : k = i := by
      rw [List.getElem?_range (by
        have := (List.getElem?_eq_some_iff.mp hk).1
        simpa using this)] at hk
      exact (Option.some.inj hk).symm
    subst this
    show v = .int x
    rw [e2, ← ek]
  · rw [rangeI_len] at h
    exact h
section
variable {X : Cx} {B : Bs} {env : Env} {os : Os} {pos : Pos} {α β γ : Type} {r : Rp α} {s : Rp β} {t : Rp γ} {e a b c tg : Expr}
theorem s_list {w : W (List α)} (h : EE X B env os e (rLst r) w) : ES X B env os tg e r w := PI.imp (pi_list h) fun σ H R ⟨F, P, S, hw, k⟩ => ⟨F, P, S, hw, fun xs hx v F' H' S' e' ⟨p, vs, e1, h1, h2, h3⟩ =>
  ⟨p, e1, ⟨vs, SqL.of (S'.fh _ _ h1)⟩, k xs hx _ F' H' S' e' ⟨fun i F1 H1 x1 x2 hi => by
    obtain ⟨v, hv⟩ : ∃ v, vs[i]? = some v := ⟨_, List.getElem?_eq_getElem (by rw [h3.length]; exact hi)⟩
    exact ⟨vs, v, SqL.of (x2 _ _ (x1 _ _ h1)), hv⟩, fun i F1 H1 u H2 x x1 x2 y hx => by
    obtain ⟨e2, y⟩ := y
    subst e2
    obtain ⟨v, hv, rv⟩ := Paired.get h3 hx
    have e3 : vs[i]? = some u := y vs (SqL.of (x2 _ _ (x1 _ _ h1)))
    rw [e3] at hv
    cases hv
    exact ⟨F1, Grow.refl x2, r.mono x1 rv⟩, fun i F1 H1 x1 x2 hi => ⟨vs, SqL.of (x2 _ _ (x1 _ _ h1)), by rw [h3.length]; exact hi⟩⟩ (by rw [← h3.length]; exact h2)⟩⟩
theorem s_tup {w : W (List α)} (h : EE X B env os e (rTup X.K r) w) : ES X B env os tg e r w := PI.imp (pi_tup h) fun σ H R ⟨F, P, S, hw, k⟩ => ⟨F, P, S, hw, fun xs hx v F' H' S' e' ⟨p, vs, e1, h1, h2, h3⟩ =>
  ⟨p, e1, ⟨vs, ex_t S'.fh h1⟩, k xs hx _ F' H' S' e' ⟨fun i F1 H1 x1 x2 hi => by
    obtain ⟨v, hv⟩ : ∃ v, vs[i]? = some v := ⟨_, List.getElem?_eq_getElem (by rw [h3.length]; exact hi)⟩
    exact ⟨vs, v, ex_t (x1.trans x2) h1, hv⟩, fun i F1 H1 u H2 x x1 x2 y hx => by
    obtain ⟨e2, y⟩ := y
    subst e2
    obtain ⟨v, hv, rv⟩ := Paired.get h3 hx
    have e3 : vs[i]? = some u := y vs (ex_t (x1.trans x2) h1)
    rw [e3] at hv
    cases hv
    exact ⟨F1, Grow.refl x2, r.mono x1 rv⟩, fun i F1 H1 x1 x2 hi => ⟨vs, ex_t (x1.trans x2) h1, by rw [h3.length]; exact hi⟩⟩ (by rw [← h3.length]; exact h2)⟩⟩
theorem len_rng {lo hi : Int} (h : RgOk lo hi) : (rangeI lo hi).length ≤ sizeLine := by
  rw [rangeI_len, sizeLine_eq]
  obtain ⟨_, _, _, _, h⟩ := h
  omega
def rng1 (n : Int) : W (List Int) := chk (RgOk 0 n) (ret (rangeI 0 n))
def rng2 (lo hi : Int) : W (List Int) := chk (RgOk lo hi) (ret (rangeI lo hi))
theorem s_rng1 {p : Pos} {w : W Int} (ha : EE X B env os a rInt w) (hm : X.mg "range" = none) (hg : Gl X "range" := by rfl) (hs : starEach [a] X.env = [(false, eval a X.env)] := by rfl) (he : starEach [a] X.env = (false, eval a X.env) :: starEach [] X.env := by rfl) :
    ES X B env os tg (.Call (.Name "range" p) [a] [] pos) rInt (bnd w rng1) := PI.imp (pi_range1 hg hm (pa_cons ha pa_nil he) hs) fun σ H R ⟨F, P, S, hw, k⟩ => ⟨F, _, S, hw, fun x ⟨c, hx⟩ v F' H' S' e' ok => by
  obtain ⟨_, _, c1, c2, _⟩ := id c
  refine ⟨x, by rw [ok], c1, c2, ?_⟩
  have q := k _ hx (Itr 0 (x - 0).toNat) F' H' S' e' walks_rng (len_rng c)
  rw [Int.sub_zero] at q
  exact q⟩
theorem s_rng2 {p : Pos} {w : W Int} {w2 : Int → W Int} (ha : EE X B env os a rInt w) (hb : ∀ x, EE X B env os b rInt (w2 x)) (hm : X.mg "range" = none) (hg : Gl X "range" := by rfl) (hs : starEach [a, b] X.env = [(false, eval a X.env), (false, eval b X.env)] := by rfl) (hs2 : starEach [b] X.env = [(false, eval b X.env)] := by rfl)
    (he : starEach [a, b] X.env = (false, eval a X.env) :: starEach [b] X.env := by rfl) (he2 : starEach [b] X.env = (false, eval b X.env) :: starEach [] X.env := by rfl) :
    ES X B env os tg (.Call (.Name "range" p) [a, b] [] pos) rInt (bnd w fun x => bnd (w2 x) fun y => rng2 x y) := PI.imp (pi_range2 hg hm (pa_cons ha (pa_cons (PE.ex hb) pa_nil he2) he) hs hs2) fun σ H R ⟨F, P, S, hw, k⟩ => ⟨F, _, S, hw, fun x hx v F1 H1 S1 e1 ok1 => ⟨x, F1, _, S1, hx, fun y ⟨c, hy⟩ u F2 H2 S2 e2 ok2 => by
  obtain ⟨c1, c2, c3, c4, _⟩ := id c
  exact ⟨x, y, by rw [ok1, ok2], ⟨c1, c2, c3, c4⟩, k _ hy _ F2 H2 S2 (e1.trans e2) walks_rng (len_rng c)⟩⟩⟩
def zip2 (xs : List α) (ys : List β) : List (α × β) := xs.zip ys
theorem s_zip {p tpos : Pos} {elts : List Expr} {kk : Nat} {w : W (List α)} {w2 : List α → W (List β)} (ha : EE X B env os a (rLst r) w) (hb : ∀ x, EE X B env os b (rLst s) (w2 x)) (hm : X.mg "zip" = none) (hg : Gl X "zip" := by rfl)
    (hs : starEach [a, b] X.env = (false, eval a X.env) :: starEach [b] X.env := by rfl) (he2 : starEach [b] X.env = (false, eval b X.env) :: starEach [] X.env := by rfl) (hpl : (backTo pos (starEach [b] X.env)).any (·.1) = false := by rfl) :
    ES X B env os (.Tuple elts kk tpos) (.Call (.Name "zip" p) [a, b] [] pos) (rT2 X.K r s) (bnd w fun x => bnd (w2 x) fun y => ret (x.zip y)) :=
  PI.imp (pi_zip hg hm (pa_cons ha (pa_cons (PE.ex hb) pa_nil he2) hs) hs hpl) fun σ H R ⟨F, P, S, hw, k⟩ => ⟨F, _, S, hw, fun x hx v F1 H1 S1 e1 ⟨p1, vs, q1, h1, z1, ok1⟩ => ⟨x, F1, _, S1, hx, fun y hy u F2 H2 S2 e2 ⟨p2, us, q2, h2, z2, ok2⟩ => by
  subst q1 q2
  refine ⟨p1, p2, vs, us, rfl, SqL.of (S2.fh _ _ (e2 _ _ h1)), SqL.of (S2.fh _ _ h2), ?_⟩
  have l1 := ok1.length
  have l2 := ok2.length
  have lz : (x.zip y).length = min vs.length us.length := by rw [List.length_zip, l1, l2]
  refine k _ hy _ F2 H2 S2 (e1.trans e2) ⟨fun i F3 H3 x1 x2 hi => ?_, fun i F3 H3 u H4 z x1 x2 yy hz => ?_, fun i F3 H3 x1 x2 hi => ?_⟩ (by rw [lz]; exact Nat.le_trans (Nat.min_le_left _ _) z1)
  · rw [lz] at hi
    obtain ⟨v, hv⟩ : ∃ v, vs[i]? = some v := ⟨_, List.getElem?_eq_getElem (by omega)⟩
    obtain ⟨u, hu⟩ : ∃ u, us[i]? = some u := ⟨_, List.getElem?_eq_getElem (by omega)⟩
    exact ⟨vs, us, v, u, SqL.of (x2 _ _ (x1 _ _ (e2 _ _ h1))), SqL.of (x2 _ _ (x1 _ _ h2)), hv, hu⟩
  · obtain ⟨T, v1, v2, ev, hT, eH, y1, y2⟩ := yy
    subst ev eH
    obtain ⟨z1', z2'⟩ := z
    have hz' := List.getElem?_zip_eq_some.mp hz
    obtain ⟨v, hv, rv⟩ := Paired.get ok1 hz'.1
    obtain ⟨u, hu, ru⟩ := Paired.get ok2 hz'.2
    have q1 := y1 vs (SqL.of (x2 _ _ (x1 _ _ (e2 _ _ h1))))
    have q2 := y2 us (SqL.of (x2 _ _ (x1 _ _ h2)))
    rw [q1] at hv
    rw [q2] at hu
    cases hv
    cases hu
    have g : Grow F3 H3 (upd F3 T (.tup [v1, v2])) (upd H3 T (.tup [v1, v2])) := Grow.alloc x2 hT
    exact ⟨_, g, T, v1, v2, rfl, SqT.of upd_same, r.mono ((e2.trans x1).trans g.f) rv, s.mono (x1.trans g.f) ru⟩
  · rw [lz] at hi
    exact ⟨vs, us, SqL.of (x2 _ _ (x1 _ _ (e2 _ _ h1))), SqL.of (x2 _ _ (x1 _ _ h2)), by omega⟩⟩⟩
theorem s_enum {p tpos : Pos} {elts : List Expr} {kk : Nat} {w : W (List α)} (ha : EE X B env os a (rLst r) w) (hm : X.mg "enumerate" = none) (hg : Gl X "enumerate" := by rfl) (hs : starEach [a] X.env = [(false, eval a X.env)] := by rfl)
    (he : starEach [a] X.env = (false, eval a X.env) :: starEach [] X.env := by rfl) :
    ES X B env os (.Tuple elts kk tpos) (.Call (.Name "enumerate" p) [a] [] pos) (rT2 X.K rInt r) (bnd w fun x => ret ((rangeI 0 x.length).zip x)) :=
  PI.imp (pi_enum hg hm (pa_cons ha pa_nil he) hs) fun σ H R ⟨F, P, S, hw, k⟩ => ⟨F, _, S, hw, fun x hx v F1 H1 S1 e1 ⟨p1, vs, q1, h1, z1, ok1⟩ => by
  subst q1
  refine ⟨p1, vs, rfl, SqL.of (S1.fh _ _ h1), ?_⟩
  have l1 := ok1.length
  have lr : (rangeI 0 (x.length : Int)).length = x.length := by rw [rangeI_len]; omega
  have lz : ((rangeI 0 (x.length : Int)).zip x).length = vs.length := by rw [List.length_zip, lr, l1]; exact Nat.min_self _
  refine k _ hx _ F1 H1 S1 e1 ⟨fun i F3 H3 x1 x2 hi => ?_, fun i F3 H3 u H4 z x1 x2 yy hz => ?_, fun i F3 H3 x1 x2 hi => ?_⟩ (by rw [lz]; exact z1)
  · rw [lz] at hi
    obtain ⟨v, hv⟩ : ∃ v, vs[i]? = some v := ⟨_, List.getElem?_eq_getElem hi⟩
    exact ⟨vs, v, SqL.of (x2 _ _ (x1 _ _ h1)), hv⟩
  · obtain ⟨T, v2, ev, hT, eH, y1⟩ := yy
    subst ev eH
    obtain ⟨z1', z2'⟩ := z
    have hz' := List.getElem?_zip_eq_some.mp hz
    obtain ⟨v, hv, rv⟩ := Paired.get ok1 hz'.2
    have q1 := y1 vs (SqL.of (x2 _ _ (x1 _ _ h1)))
    rw [q1] at hv
    cases hv
    have hi : z1' = (i : Int) := by
      have h := hz'.1
      unfold rangeI at h
      rw [List.getElem?_map] at h
      obtain ⟨m, hm, em⟩ := Option.map_eq_some_iff.mp h
      rw [List.getElem?_range (by have := (List.getElem?_eq_some_iff.mp hm).1; simpa using this)] at hm
      have := Option.some.inj hm
      omega
    have g : Grow F3 H3 (upd F3 T (.tup [.int (i : Nat), v2])) (upd H3 T (.tup [.int (i : Nat), v2])) := Grow.alloc x2 hT
    exact ⟨_, g, T, _, v2, rfl, SqT.of upd_same, (by show V.int _ = V.int _; rw [hi]), r.mono (x1.trans g.f) rv⟩
  · rw [lz] at hi
    exact ⟨vs, SqL.of (x2 _ _ (x1 _ _ h1)), hi⟩⟩
end
end Mi

namespace Mi
open PySem L2 Evl

/-! ### targets -/
/-- the target takes x: the slots is are written -/
def TgT (g : TG) {α : Type} (r : Rp α) (is : List Nat) (envT : Env → α → Env) : Prop := ∀ (F H : Hp) (v : V) (x : α) (σ : L2.St) (env : Env) (Q : L2.St → Hp → Prop), r.ok F v x → Ex F H → EnvOk F env σ →
  (∀ σ', EnvOk F (envT env x) σ' → (∀ vs : List Nat, (∀ i ∈ is, i ∈ vs) → wipe σ' vs = wipe σ vs) → Q σ' H) → g v σ H Q
theorem wipe_set {σ : L2.St} {i : Nat} {o : Option V} : ∀ {vs : List Nat}, i ∈ vs → wipe (σ.set i o) vs = wipe σ vs
  | [], h => by simp at h
  | v :: vs, h => by
    show (wipe (σ.set i o) vs).set v none = (wipe σ vs).set v none
    by_cases hm : i ∈ vs
    · rw [wipe_set hm]
    · have e : i = v := by
        rcases List.mem_cons.mp h with e | e
        · exact e
        · exact absurd e hm
      subst e
      have key : ∀ (us : List Nat), i ∉ us → wipe (σ.set i o) us = (wipe σ us).set i o := by
        intro us
        induction us with
        | nil => intro _; rfl
        | cons u us ih =>
          intro hn
          have h1 : i ≠ u := fun z => hn (z ▸ List.mem_cons_self ..)
          have h2 : i ∉ us := fun z => hn (List.mem_cons_of_mem _ z)
          show (wipe (σ.set i o) us).set u none = ((wipe σ us).set u none).set i o
          rw [ih h2, List.set_comm _ _ h1]
      rw [key vs hm, List.set_set]
section
variable {α β γ : Type} {r : Rp α} {s : Rp β} {t : Rp γ} {K : PySem.W.Frag}
theorem tg_name {i : Nat} : TgT (gName i) r [i] (fun env x => env.set i (sv r x)) := fun F H v x σ env Q ok fh he k =>
  k _ (EnvOk.set (s := sv r x) ⟨v, rfl, ok⟩ he) fun vs h => wipe_set (h i (List.mem_cons_self ..))
theorem tg_pair {i j : Nat} : TgT (gTup K 2 (gCons (gName i) (gCons (gName j) gNil))) (rT2 K r s) [i, j] (fun env x => (env.set i (sv r x.1)).set j (sv s x.2)) := fun F H v x σ env Q ⟨a, v1, v2, e1, h1, ok1, ok2⟩ fh he k =>
  ⟨a, [v1, v2], e1, ex_t fh h1, rfl, v1, [v2], rfl, v2, [], rfl, rfl, k _ (EnvOk.set (s := sv s x.2) ⟨v2, rfl, ok2⟩ (EnvOk.set (s := sv r x.1) ⟨v1, rfl, ok1⟩ he)) fun vs h => by
    rw [wipe_set (h j (by simp)), wipe_set (h i (by simp))]⟩
theorem tg_trip {i j l : Nat} : TgT (gTup K 3 (gCons (gName i) (gCons (gName j) (gCons (gName l) gNil)))) (rT3 K r s t) [i, j, l] (fun env x => ((env.set i (sv r x.1)).set j (sv s x.2.1)).set l (sv t x.2.2)) :=
  fun F H v x σ env Q ⟨a, v1, v2, v3, e1, h1, ok1, ok2, ok3⟩ fh he k =>
  ⟨a, [v1, v2, v3], e1, ex_t fh h1, rfl, v1, [v2, v3], rfl, v2, [v3], rfl, v3, [], rfl, rfl, k _ (EnvOk.set (s := sv t x.2.2) ⟨v3, rfl, ok3⟩ (EnvOk.set (s := sv s x.2.1) ⟨v2, rfl, ok2⟩ (EnvOk.set (s := sv r x.1) ⟨v1, rfl, ok1⟩ he))) fun vs h => by
    rw [wipe_set (h l (by simp)), wipe_set (h j (by simp)), wipe_set (h i (by simp))]⟩
end

/-! ### comprehensions -/
def wipeE (env : Env) : List Nat → Env
  | [] => env
  | v :: vs => (wipeE env vs).set v sa
theorem EnvOk.wipe {F : Hp} {env : Env} {σ : L2.St} (h : EnvOk F env σ) : ∀ vs : List Nat, EnvOk F (wipeE env vs) (L2.wipe σ vs)
  | [] => h
  | v :: vs => (EnvOk.wipe h vs).set trivial
theorem drop_cons {α : Type} {xs : List α} {i : Nat} {x : α} (h : xs[i]? = some x) : xs.drop i = x :: xs.drop (i + 1) := by
  obtain ⟨hl, e⟩ := List.getElem?_eq_some_iff.mp h
  rw [List.drop_eq_getElem_cons hl, e]
section
variable {X : Cx} {B : Bs} {env : Env} {os : Os} {α β : Type} {r : Rp α} {s : Rp β} {elt tg iter : Expr} {ifs : List Expr} {scope : Scope} {pos : Pos}
/-- the reading of a comprehension, by the mirror: M a mark, D the list so far ys, x the item -/
theorem lc_read {w : W (List α)} {c : α → W Bool} {f : α → W β} {own : List (Str × Nat)} {g : TG} {tt : TT} {te : TE} {is : List Nat} {envT : Env → α → Env}
    (st : ∀ M D ys x σ H Q, tOfT (B.at M) (envT (wipeE env (own.map (fun p : Str × Nat => p.2))) x) ((D, oLst s ys) :: os) (c x) σ H Q → tt σ H Q)
    (se : ∀ M D ys x σ H Q, tOf (B.at M) (envT (wipeE env (own.map (fun p : Str × Nat => p.2))) x) ((D, oLst s ys) :: os) s (f x) σ H Q → te σ H Q)
    (tgt : TgT g r is envT) (his : ∀ i ∈ is, i ∈ own.map (fun p : Str × Nat => p.2)) {σ : L2.St} {H : Hp} {Q : VK} (h : tNew B env os s (bnd w fun xs => filtW c f xs) σ H Q) :
    tLc (tSrc B env os r w) g tt te (own.map (fun p : Str × Nat => p.2)) σ H Q := by
  obtain ⟨F, P, S, hw, k⟩ := h
  refine ⟨F, _, S, hw, fun xs hxs J F1 H1 S1 e1 wk hz D hD => ?_⟩
  refine ⟨(fun i m H => m = xs.length - i ∧ i ≤ xs.length ∧ ∃ F' ys, ys.length ≤ i ∧ Sit (B.at F1) F' H σ env ((D, oLst s ys) :: os) ∧ filtW c f (xs.drop i) (fun zs => P (ys ++ zs)) B.E0 : Nat → Nat → Hp → Prop), ?_, ?_⟩
  · refine ⟨xs.length, by simp, Nat.zero_le _, F1, [], Nat.zero_le _, ?_, ?_⟩
    · have S1' : Sit (B.at F1) F1 H1 σ env os := ⟨⟨S1.fin.fh, S1.fin.bf, Ex.refl F1, S1.fin.bb, S1.fin.ios, S1.fin.keep⟩, S1.env, S1.ow, S1.nd⟩
      exact S1'.newOwn hD ⟨[], rfl, Nat.zero_le _, .nil⟩
    · rw [List.drop_zero]
      exact hxs
  rintro i m H2 ⟨rfl, hi, F2, ys, hyl, S2, hw2⟩
  have e12 : Ex F1 F2 := S2.fin.mrk
  by_cases hlt : i < xs.length
  · obtain ⟨x, hx⟩ : ∃ x, xs[i]? = some x := ⟨_, List.getElem?_eq_getElem hlt⟩
    refine .inr ⟨wk.go i F2 H2 e12 S2.fh hlt, (fun H' => ∃ F' ys, ys.length ≤ i + 1 ∧ Sit (B.at F1) F' H' σ env ((D, oLst s ys) :: os) ∧ filtW c f (xs.drop (i + 1)) (fun zs => P (ys ++ zs)) B.E0 : Hp → Prop), ?_, fun v H3 y => ?_⟩
    · intro H' h
      exact ⟨xs.length - (i + 1), by omega, rfl, hlt, h⟩
    obtain ⟨F3, gr, rv⟩ := wk.yld i F2 H2 v H3 x e12 S2.fh y hx
    have S3 : Sit (B.at F1) F3 H3 σ env ((D, oLst s ys) :: os) := S2.grow gr
    refine tgt F3 H3 v x (wipe σ (own.map (fun p : Str × Nat => p.2))) (wipeE env (own.map (fun p : Str × Nat => p.2))) _ rv S3.fh (S3.env.wipe _) fun σ' hσ hwipe => ⟨?_, ?_⟩
    · rw [hwipe _ his]
      have ww : ∀ (τ : L2.St) (vs : List Nat), wipe (wipe τ vs) vs = wipe τ vs := by
        intro τ vs
        have key : ∀ (us vs : List Nat), (∀ u ∈ us, u ∈ vs) → wipe (wipe τ us) vs = wipe τ vs := by
          intro us
          induction us with
          | nil => intro vs _; rfl
          | cons u us ih =>
            intro vs h
            show wipe ((wipe τ us).set u none) vs = wipe τ vs
            rw [wipe_set (h u (List.mem_cons_self ..)), ih vs fun z hz => h z (List.mem_cons_of_mem _ hz)]
        exact key vs vs fun _ h => h
      exact ww σ _
    · rw [drop_cons hx] at hw2
      have hw3 : c x (fun b => (if b = true then bnd (f x) fun y => bnd (filtW c f (xs.drop (i + 1))) fun ys => ret (y :: ys) else filtW c f (xs.drop (i + 1))) (fun zs => P (ys ++ zs)) B.E0) B.E0 := hw2
      have St : Sit (B.at F1) F3 H3 σ' (envT (wipeE env (own.map (fun p : Str × Nat => p.2))) x) ((D, oLst s ys) :: os) := ⟨S3.fin, hσ, S3.ow, S3.nd⟩
      refine st F1 D ys x σ' H3 _ ⟨F3, _, St, hw3, fun b hb F4 H4 S4 e34 => ?_⟩
      cases b with
      | false => exact ⟨F4, ys, by omega, ⟨S4.fin, S3.env.mono e34, S4.ow, S4.nd⟩, hb⟩
      | true =>
        have hb' : f x (fun y => filtW c f (xs.drop (i + 1)) (fun zs => P (ys ++ (y :: zs))) B.E0) B.E0 := hb
        refine se F1 D ys x σ' H4 _ ⟨F4, _, S4, hb', fun z hz v' F5 H5 S5 e45 okz => ?_⟩
        obtain ⟨hF5, ⟨o, ho, vs, eo, hl, pr⟩, hB5⟩ := S5.ow (D, oLst s ys) (List.mem_cons_self ..)
        subst eo
        have hlen : vs.length < sizeLine := by
          have := pr.length
          omega
        refine ⟨vs, ho, hlen, F5, ys ++ [z], by rw [List.length_append, List.length_singleton]; omega, ?_, ?_⟩
        · have S6 := S5.change (j := 0) (ow' := oLst s (ys ++ [z])) (o' := .lst (vs ++ [v'])) rfl ⟨vs ++ [v'], rfl, by rw [List.length_append, List.length_singleton]; omega, Paired.app pr (.cons okz .nil)⟩
          exact ⟨S6.fin, (S3.env.mono e34).mono e45, S6.ow, S6.nd⟩
        · have q : (fun zs => P (ys ++ [z] ++ zs)) = fun zs => P (ys ++ (z :: zs)) := by
            funext zs
            rw [List.append_assoc]
            rfl
          show filtW c f (xs.drop (i + 1)) (fun zs => P (ys ++ [z] ++ zs)) B.E0
          rw [q]
          exact hz
  · have e : i = xs.length := by omega
    subst e
    refine .inl ⟨wk.stop _ F2 H2 e12 S2.fh (Nat.le_refl _), ?_⟩
    rw [List.drop_length] at hw2
    have hp : P (ys ++ []) := hw2
    rw [List.append_nil] at hp
    exact k ys hp D F2 H2 ⟨⟨S2.fin.fh, S2.fin.bf, S1.fin.mrk.trans e12, S2.fin.bb, S2.fin.ios, S2.fin.keep⟩, S2.env, S2.ow, S2.nd⟩ (e1.trans e12)
theorem filtW_true {α β : Type} {f : α → W β} : ∀ xs : List α, filtW (fun _ => ret true) f xs = mapW f xs
  | [] => rfl
  | x :: xs => by
    show bnd (f x) _ = bnd (f x) _
    congr 1
    funext y
    rw [filtW_true xs]
/-- an item's place in a block -/
abbrev envI (env : Env) (own : List (Str × Nat)) {α : Type} (envT : Env → α → Env) (x : α) : Env := envT (wipeE env (own.map (fun p : Str × Nat => p.2))) x
abbrev teC (B : Bs) (env : Env) (os : Os) (own : List (Str × Nat)) {α β : Type} (envT : Env → α → Env) (s : Rp β) (f : α → W β) : TE := fun σ H Q => ∃ p : Hp × Addr × List β × α, tOf (B.at p.1) (envI env own envT p.2.2.2) ((p.2.1, oLst s p.2.2.1) :: os) s (f p.2.2.2) σ H Q
abbrev ttC (B : Bs) (env : Env) (os : Os) (own : List (Str × Nat)) {α β : Type} (envT : Env → α → Env) (s : Rp β) (c : α → W Bool) : TT := fun σ H Q => ∃ p : Hp × Addr × List β × α, tOfT (B.at p.1) (envI env own envT p.2.2.2) ((p.2.1, oLst s p.2.2.1) :: os) (c p.2.2.2) σ H Q
section
variable {w : W (List α)} {c : α → W Bool} {f : α → W β} {own : List (Str × Nat)} {g : TG} {is : List Nat} {envT : Env → α → Env} {test : Expr}
theorem lc_readM (tgt : TgT g r is envT) (his : ∀ i ∈ is, i ∈ own.map (fun p : Str × Nat => p.2)) {σ : L2.St} {H : Hp} {Q : VK} (h : tNew B env os s (bnd w fun xs => mapW f xs) σ H Q) :
    tLc (tSrc B env os r w) g tYes (teC B env os own envT s f) (own.map (fun p : Str × Nat => p.2)) σ H Q := by
  have e : (fun xs => mapW f xs) = fun xs => filtW (fun _ => ret true) f xs := by
    funext xs
    exact (filtW_true xs).symm
  rw [e] at h
  exact lc_read (own := own) (fun M D ys x σ H Q ⟨F, P, S, hw, k⟩ => k true hw F H S (Ex.refl F)) (fun M D ys x σ H Q h => ⟨(M, D, ys, x), h⟩) tgt his h
theorem lc_readF (tgt : TgT g r is envT) (his : ∀ i ∈ is, i ∈ own.map (fun p : Str × Nat => p.2)) {σ : L2.St} {H : Hp} {Q : VK} (h : tNew B env os s (bnd w fun xs => filtW c f xs) σ H Q) :
    tLc (tSrc B env os r w) g (ttC B env os own envT s c) (teC B env os own envT s f) (own.map (fun p : Str × Nat => p.2)) σ H Q :=
  lc_read (own := own) (fun M D ys x σ H Q h => ⟨(M, D, ys, x), h⟩) (fun M D ys x σ H Q h => ⟨(M, D, ys, x), h⟩) tgt his h
theorem ex_teC {Y : Cx} (h : ∀ (M : Hp) (D : Addr) (ys : List β) (x : α), EE Y (B.at M) (envI env own envT x) ((D, oLst s ys) :: os) elt s (f x)) : PE Y elt (teC B env os own envT s f) :=
  ⟨fun pins s σ H Q I ⟨p, q⟩ => (h p.1 p.2.1 p.2.2.1 p.2.2.2).run pins s σ H Q I q⟩
theorem ex_ttC {Y : Cx} (h : ∀ (M : Hp) (D : Addr) (ys : List β) (x : α), ET Y (B.at M) (envI env own envT x) ((D, oLst s ys) :: os) test (c x)) : PT Y test (ttC B env os own envT s c) :=
  ⟨fun pins s σ H Q I ⟨p, q⟩ => (h p.1 p.2.1 p.2.2.1 p.2.2.2).run pins s σ H Q I q⟩
variable (hc : X.calm = true) (hN : X.N.Nodup) (src : ES X B env os tg iter r w) (ok : BlkOk X.N X.env.scope scope own) (tgt : TgT g r is envT)
  (hg : ∀ (s : Shared) (H : Hp) (C : Addr) (cl : List (Str × Addr)) (fp : List Addr), PG (X.blk s H scope (compEnvC scope cl C X.env) fp) tg g) (his : ∀ i ∈ is, i ∈ own.map (fun p : Str × Nat => p.2))
  (ht : ∀ (s' : Shared) (H : Hp) (C : Addr) (cl : List (Str × Addr)) (fp : List Addr) (M : Hp) (D : Addr) (ys : List β) (x : α), ET (X.blk s' H scope (compEnvC scope cl C X.env) fp) (B.at M) (envI env own envT x) ((D, oLst s ys) :: os) test (c x))
  (he : ∀ (s' : Shared) (H : Hp) (C : Addr) (cl : List (Str × Addr)) (fp : List Addr) (M : Hp) (D : Addr) (ys : List β) (x : α), EE (X.blk s' H scope (compEnvC scope cl C X.env) fp) (B.at M) (envI env own envT x) ((D, oLst s ys) :: os) elt s (f x))
include hc hN src ok tgt hg his he
theorem n_comp (hs : ∀ x, foldedSetIterable iter X.env x = pure x := by intro _; rfl) : EN X B env os (.ListComp elt [⟨tg, iter, [], 0⟩] scope pos) s (bnd w fun xs => mapW f xs) :=
  PE.imp (pe_lc hc hN src ok hg (fun _ _ _ _ _ => pts_nil) (fun s' H C cl fp => ex_teC (he s' H C cl fp)) hs) fun σ H Q h => lc_readM tgt his h
/-- name = [..] where the name is a plain local of the same line -/
theorem c_comp {i : Nat} {y : Str} {py spos : Pos} (hy : X.N[i]? = some y) (hyl : X.env.scope.names.lookup y = some .local) (hsw : swapsWith (.ListComp elt [⟨tg, iter, [], 0⟩] scope pos) (some (.Name y py)) spos.line X.env = pure true)
    (hs : ∀ x, foldedSetIterable iter X.env x = pure x := by intro _; rfl) : PS X (.Assign [.Name y py] (.ListComp elt [⟨tg, iter, [], 0⟩] scope pos) spos) (tAsg (tNew B env os s (bnd w fun xs => mapW f xs)) (gName i)) := by
  have h := ps_setLc (pos := pos) (spos := spos) (py := py) hc hN hy hyl hsw src ok hg (fun _ _ _ _ _ => pts_nil) (fun s' H C cl fp => ex_teC (he s' H C cl fp)) hs
  exact ⟨fun pins s σ H D I q => h.run pins s σ H D I (lc_readM tgt his q)⟩
include ht
theorem n_compF (hs : ∀ x, foldedSetIterable iter X.env x = pure x := by intro _; rfl) : EN X B env os (.ListComp elt [⟨tg, iter, [test], 0⟩] scope pos) s (bnd w fun xs => filtW c f xs) :=
  PE.imp (pe_lc hc hN src ok hg (fun s' H C cl fp => pts_one (ex_ttC (ht s' H C cl fp))) (fun s' H C cl fp => ex_teC (he s' H C cl fp)) hs)
    fun σ H Q h => lc_readF tgt his h
theorem c_compF {i : Nat} {y : Str} {py spos : Pos} (hy : X.N[i]? = some y) (hyl : X.env.scope.names.lookup y = some .local) (hsw : swapsWith (.ListComp elt [⟨tg, iter, [test], 0⟩] scope pos) (some (.Name y py)) spos.line X.env = pure true)
    (hs : ∀ x, foldedSetIterable iter X.env x = pure x := by intro _; rfl) : PS X (.Assign [.Name y py] (.ListComp elt [⟨tg, iter, [test], 0⟩] scope pos) spos) (tAsg (tNew B env os s (bnd w fun xs => filtW c f xs)) (gName i)) := by
  have h := ps_setLc (pos := pos) (spos := spos) (py := py) hc hN hy hyl hsw src ok hg (fun s' H C cl fp => pts_one (ex_ttC (ht s' H C cl fp))) (fun s' H C cl fp => ex_teC (he s' H C cl fp)) hs
  exact ⟨fun pins s σ H D I q => h.run pins s σ H D I (lc_readF tgt his q)⟩
end
end
end Mi

namespace Mi
open PySem L2 Evl

/-! ### for -/
section
variable {X : Cx} {B : Bs} {env : Env} {os : Os} {α β ρ S : Type} {r : Rp α} {tg iter : Expr} {body rest : List Stmt} {pos : Pos} {post : Post β}
theorem Sit.at {F H : Hp} {σ : L2.St} (s : Sit B F H σ env os) (M : Hp) (h : Ex M F) : Sit (B.at M) F H σ env os := ⟨⟨s.fin.fh, s.fin.bf, h, s.fin.bb, s.fin.ios, s.fin.keep⟩, s.env, s.ow, s.nd⟩
theorem Sit.un {F H M : Hp} {σ : L2.St} (s : Sit (B.at M) F H σ env os) (h : Ex B.M M) : Sit B F H σ env os := ⟨⟨s.fin.fh, s.fin.bf, h.trans s.fin.mrk, s.fin.bb, s.fin.ios, s.fin.keep⟩, s.env, s.ow, s.nd⟩
theorem Fn.un {F H M : Hp} (s : Fn (B.at M) F H) (h : Ex B.M M) : Fn B F H := ⟨s.fh, s.bf, h.trans s.mrk, s.bb, s.ios, s.keep⟩
/-- what comes behind a loop -/
theorem b_forG {w : W (List α)} {f : S → α → W (Fl S ρ)} {w3 : Fl S ρ → W β} {g : TG} {is : List Nat} {envT : Env → α → Env} {osR : Os} {ro : Rp ρ} (inj : ρ → β) (envS : S → Env) (osS : S → Os) (s0 : S) (hc : X.calm = true) (hp : PassesOwn (model X.prog X.w) X.A X.env X.xe)
    (src : ES X B env os tg iter r w) (tgt : TgT g r is envT) (hg : PG X tg g)
    (hb : ∀ M s x, BG X (B.at M) (envT (envS s) x) (osS s) body (pFl (B.at M) osR ro envS osS) (f s x))
    (hr : ∀ s, BG X B (envS s) (osS s) rest post (w3 (.nx s))) (hrt : ∀ x, w3 (.rt x) = ret (inj x)) (hpo : RtOk B post osR ro inj)
    (le0 : EnvLe env (envS s0)) (os0 : os = osS s0) (hs : ∀ x, foldedSetIterable iter X.env x = pure x := by intro _; rfl) :
    BG X B env os (.For tg iter body [] pos :: rest) post (bnd w fun xs => bnd (forF f s0 xs) w3) := by
  have hb' : PSs X body (fun D σ H => ∃ p : Hp × S × α, tBG (B.at p.1) (envT (envS p.2.1) p.2.2) (osS p.2.1) (pFl (B.at p.1) osR ro envS osS) (f p.2.1 p.2.2) D σ H) := PSs.ex fun p => hb p.1 p.2.1 p.2.2
  have hr' : PSs X rest (fun D σ H => ∃ s, tBG B (envS s) (osS s) post (w3 (.nx s)) D σ H) := PSs.ex hr
  refine PSs.imp (pss_cons (ps_for hp hc src hg hb' hs) hr') fun D σ H ⟨F, P, S0, hw, k⟩ => ⟨F, _, S0, hw, fun xs hxs J F1 H1 S1 e1 wk hz => ?_⟩
  refine ⟨(fun i m σ H => m = xs.length - i ∧ i ≤ xs.length ∧ ∃ F' s, Sit (B.at F1) F' H σ (envS s) (osS s) ∧ forF f s (xs.drop i) (fun q => w3 q P B.E0) B.E0 : Nat → Nat → L2.St → Hp → Prop), ?_, ?_⟩
  · refine ⟨xs.length, by simp, Nat.zero_le _, F1, s0, ?_, ?_⟩
    · subst os0
      exact (S1.at F1 (Ex.refl F1)).le le0
    · rw [List.drop_zero]
      exact hxs
  rintro i m σ2 H2 ⟨rfl, hi, F2, s, S2, hw2⟩
  have e12 : Ex F1 F2 := S2.fin.mrk
  by_cases hlt : i < xs.length
  · obtain ⟨x, hx⟩ : ∃ x, xs[i]? = some x := ⟨_, List.getElem?_eq_getElem hlt⟩
    refine .inr ⟨wk.go i F2 H2 e12 S2.fh hlt, (fun σ' H' => ∃ F' s, Sit (B.at F1) F' H' σ' (envS s) (osS s) ∧ forF f s (xs.drop (i + 1)) (fun q => w3 q P B.E0) B.E0 : L2.St → Hp → Prop), ?_, fun v H3 y => ?_⟩
    · intro σ' H' h
      exact ⟨xs.length - (i + 1), by omega, rfl, hlt, h⟩
    obtain ⟨F3, gr, rv⟩ := wk.yld i F2 H2 v H3 x e12 S2.fh y hx
    have S3 := S2.grow gr
    refine tgt F3 H3 v x σ2 (envS s) _ rv S3.fh S3.env fun σ' hσ _ => ?_
    rw [drop_cons hx] at hw2
    have hw3 : f s x (fun q => flGo (fun s' => forF f s' (xs.drop (i + 1))) q (fun q => w3 q P B.E0) B.E0) B.E0 := hw2
    refine ⟨(F1, s, x), F3, _, ⟨S3.fin, hσ, S3.ow, S3.nd⟩, hw3, fun q hq => ?_⟩
    cases q with
    | nx s' => exact fun σ4 F4 H4 S4 => ⟨F4, s', S4, hq⟩
    | ct s' => exact fun σ4 F4 H4 S4 => ⟨F4, s', S4, hq⟩
    | bk s' => exact fun σ4 F4 H4 S4 => ⟨s', F4, P, S4.un S1.fin.mrk, hq, k⟩
    | rt z =>
      have hq' : w3 (.rt z) P B.E0 := hq
      rw [hrt z] at hq'
      exact fun v5 F5 H5 fn ow okv => hpo.ok D z (k _ hq') v5 F5 H5 (fn.un S1.fin.mrk) ow okv
  · have e : i = xs.length := by omega
    subst e
    rw [List.drop_length] at hw2
    have hq : w3 (.nx s) P B.E0 := hw2
    exact .inl ⟨wk.stop _ F2 H2 e12 S2.fh (Nat.le_refl _), s, F2, P, S2.un S1.fin.mrk, hq, k⟩
/-- a loop that is never left early -/
theorem b_for {w : W (List α)} {f : S → α → W S} {w3 : S → W β} {g : TG} {is : List Nat} {envT : Env → α → Env} (envS : S → Env) (osS : S → Os) (s0 : S) (hc : X.calm = true) (hp : PassesOwn (model X.prog X.w) X.A X.env X.xe)
    (src : ES X B env os tg iter r w) (tgt : TgT g r is envT) (hg : PG X tg g)
    (hb : ∀ M s x, BG X (B.at M) (envT (envS s) x) (osS s) body (pNx (B.at M) envS osS) (f s x))
    (hr : ∀ s, BG X B (envS s) (osS s) rest post (w3 s))
    (le0 : EnvLe env (envS s0)) (os0 : os = osS s0) (hs : ∀ x, foldedSetIterable iter X.env x = pure x := by intro _; rfl) :
    BG X B env os (.For tg iter body [] pos :: rest) post (bnd w fun xs => bnd (forW f s0 xs) w3) := by
  have hb' : PSs X body (fun D σ H => ∃ p : Hp × S × α, tBG (B.at p.1) (envT (envS p.2.1) p.2.2) (osS p.2.1) (pNx (B.at p.1) envS osS) (f p.2.1 p.2.2) D σ H) := PSs.ex fun p => hb p.1 p.2.1 p.2.2
  have hr' : PSs X rest (fun D σ H => ∃ s, tBG B (envS s) (osS s) post (w3 s) D σ H) := PSs.ex hr
  refine PSs.imp (pss_cons (ps_for hp hc src hg hb' hs) hr') fun D σ H ⟨F, P, S0, hw, k⟩ => ⟨F, _, S0, hw, fun xs hxs J F1 H1 S1 e1 wk hz => ?_⟩
  refine ⟨(fun i m σ H => m = xs.length - i ∧ i ≤ xs.length ∧ ∃ F' s, Sit (B.at F1) F' H σ (envS s) (osS s) ∧ forW f s (xs.drop i) (fun q => w3 q P B.E0) B.E0 : Nat → Nat → L2.St → Hp → Prop), ?_, ?_⟩
  · refine ⟨xs.length, by simp, Nat.zero_le _, F1, s0, ?_, ?_⟩
    · subst os0
      exact (S1.at F1 (Ex.refl F1)).le le0
    · rw [List.drop_zero]
      exact hxs
  rintro i m σ2 H2 ⟨rfl, hi, F2, s, S2, hw2⟩
  have e12 : Ex F1 F2 := S2.fin.mrk
  by_cases hlt : i < xs.length
  · obtain ⟨x, hx⟩ : ∃ x, xs[i]? = some x := ⟨_, List.getElem?_eq_getElem hlt⟩
    refine .inr ⟨wk.go i F2 H2 e12 S2.fh hlt, (fun σ' H' => ∃ F' s, Sit (B.at F1) F' H' σ' (envS s) (osS s) ∧ forW f s (xs.drop (i + 1)) (fun q => w3 q P B.E0) B.E0 : L2.St → Hp → Prop), ?_, fun v H3 y => ?_⟩
    · intro σ' H' h
      exact ⟨xs.length - (i + 1), by omega, rfl, hlt, h⟩
    obtain ⟨F3, gr, rv⟩ := wk.yld i F2 H2 v H3 x e12 S2.fh y hx
    have S3 := S2.grow gr
    refine tgt F3 H3 v x σ2 (envS s) _ rv S3.fh S3.env fun σ' hσ _ => ?_
    rw [drop_cons hx] at hw2
    exact ⟨(F1, s, x), F3, _, ⟨S3.fin, hσ, S3.ow, S3.nd⟩, hw2, fun s' hq σ4 F4 H4 S4 => ⟨F4, s', S4, hq⟩⟩
  · have e : i = xs.length := by omega
    subst e
    rw [List.drop_length] at hw2
    exact .inl ⟨wk.stop _ F2 H2 e12 S2.fh (Nat.le_refl _), s, F2, P, S2.un S1.fin.mrk, hw2, k⟩
end

/-! ### while -/
/-- c and b until c is False: there is a number of turns -/
def whileN {S : Type} (c : S → W Bool) (b : S → W S) : Nat → S → W S
  | 0, _ => fail
  | n + 1, s => bnd (c s) fun t => if t = true then bnd (b s) (whileN c b n) else ret s
def whileW {S : Type} (c : S → W Bool) (b : S → W S) (s : S) : W S := fun P E => ∃ n, whileN c b n s P E
section
variable {X : Cx} {B : Bs} {env : Env} {os : Os} {β S : Type} {test : Expr} {body rest : List Stmt} {pos : Pos} {post : Post β}
theorem b_while {c : S → W Bool} {f : S → W S} {w3 : S → W β} (envS : S → Env) (osS : S → Os) (s0 : S) (hp : PassesOwn (model X.prog X.w) X.A X.env X.xe)
    (ht : ∀ s, ET X B (envS s) (osS s) test (c s)) (hb : ∀ s, BG X B (envS s) (osS s) body (pNx B envS osS) (f s)) (hr : ∀ s, BG X B (envS s) (osS s) rest post (w3 s))
    (le0 : EnvLe env (envS s0)) (os0 : os = osS s0) : BG X B env os (.While test body [] pos :: rest) post (bnd (whileW c f s0) w3) := by
  have ht' : PT X test (fun σ H Q => ∃ s, tOfT B (envS s) (osS s) (c s) σ H Q) := ⟨fun pins s σ H Q I ⟨i, q⟩ => (ht i).run pins s σ H Q I q⟩
  have hb' : PSs X body (fun D σ H => ∃ s, tBG B (envS s) (osS s) (pNx B envS osS) (f s) D σ H) := PSs.ex hb
  have hr' : PSs X rest (fun D σ H => ∃ s, tBG B (envS s) (osS s) post (w3 s) D σ H) := PSs.ex hr
  refine PSs.imp (pss_cons (ps_while hp ht' hb') hr') fun D σ H ⟨F, P, S0, ⟨n, hw⟩, k⟩ => ?_
  refine ⟨(fun m σ H => ∃ F' s, Sit B F' H σ (envS s) (osS s) ∧ whileN c f m s (fun q => w3 q P B.E0) B.E0 : Nat → L2.St → Hp → Prop), ⟨n, F, s0, ?_, hw⟩, ?_⟩
  · subst os0
    exact S0.le le0
  rintro m σ2 H2 ⟨F2, s, S2, hw2⟩
  cases m with
  | zero => exact False.elim hw2
  | succ m =>
    have hw3 : c s (fun t => (if t = true then bnd (f s) (whileN c f m) else ret s : W S) (fun q => w3 q P B.E0) B.E0) B.E0 := hw2
    refine ⟨s, F2, _, S2, hw3, fun t hq F3 H3 S3 e3 => ?_⟩
    cases t with
    | false => exact ⟨s, F3, P, S3, hq, k⟩
    | true =>
      refine ⟨(fun σ' H' => ∃ F' s, Sit B F' H' σ' (envS s) (osS s) ∧ whileN c f m s (fun q => w3 q P B.E0) B.E0 : L2.St → Hp → Prop), fun σ' H' h => ⟨m, Nat.lt_succ_self m, h⟩, ?_⟩
      exact ⟨s, F3, _, S3, hq, fun s' hs' σ4 F4 H4 S4 => ⟨F4, s', S4, hs'⟩⟩
end
end Mi

namespace Mi
open PySem L2 Evl

/-! ### more new lists -/
section
variable {X : Cx} {B : Bs} {env : Env} {os : Os} {pos : Pos} {α β γ : Type} {r : Rp α} {s : Rp β} {t : Rp γ} {e a b c : Expr}
def catL (xs ys : List α) : W (List α) := chk (xs.length + ys.length ≤ sizeLine) (ret (xs ++ ys))
theorem n_cat {w1 : W (List α)} {w2 : List α → W (List α)} (ha : EE X B env os a (rLst r) w1) (hb : ∀ x, EE X B env os b (rLst r) (w2 x)) : EN X B env os (.BinOp a .Add b pos) r (bnd w1 fun x => bnd (w2 x) fun y => catL x y) :=
  PE.imp (pe_op op_cat ha (PE.ex hb)) fun σ H Q ⟨F, P, S, hw, k⟩ => ⟨F, _, S, hw, fun x hx v F1 H1 S1 e1 ⟨p1, vs, q1, h1, z1, ok1⟩ => ⟨x, F1, _, S1, hx, fun y ⟨c, hy⟩ u F2 H2 S2 e2 ⟨p2, us, q2, h2, z2, ok2⟩ => by
  have hl : vs.length + us.length ≤ sizeLine := by rw [ok1.length, ok2.length]; exact c
  exact ⟨p1, p2, vs, us, q1, q2, S2.fh _ _ (e2 _ _ h1), S2.fh _ _ h2, hl, fun p hp => k _ hy p F2 _ (S2.newOwn hp ⟨_, rfl, by rw [List.length_append]; exact hl, Paired.app (Paired.imp (fun _ _ => r.mono e2) ok1) ok2⟩) (e1.trans e2)⟩⟩⟩
def repL (xs : List α) (k : Int) : W (List α) := chk (-(2 ^ 63) ≤ k ∧ k < 2 ^ 63 ∧ xs.length * k.toNat ≤ sizeLine) (ret (List.replicate k.toNat xs).flatten)
theorem flat_paired {R : V → α → Prop} {vs : List V} {xs : List α} (h : Paired R vs xs) : ∀ n : Nat, Paired R (List.replicate n vs).flatten (List.replicate n xs).flatten
  | 0 => .nil
  | n + 1 => by
    rw [List.replicate_succ, List.replicate_succ, List.flatten_cons, List.flatten_cons]
    exact Paired.app h (flat_paired h n)
theorem n_rep {w1 : W (List α)} {w2 : List α → W Int} (ha : EE X B env os a (rLst r) w1) (hb : ∀ x, EE X B env os b rInt (w2 x)) : EN X B env os (.BinOp a .Mult b pos) r (bnd w1 fun x => bnd (w2 x) fun k => repL x k) :=
  PE.imp (pe_op op_rep ha (PE.ex hb)) fun σ H Q ⟨F, P, S, hw, k⟩ => ⟨F, _, S, hw, fun x hx v F1 H1 S1 e1 ⟨p1, vs, q1, h1, z1, ok1⟩ => ⟨x, F1, _, S1, hx, fun y ⟨⟨c1, c2, c3⟩, hy⟩ u F2 H2 S2 e2 ok2 => by
  have hl : vs.length * y.toNat ≤ sizeLine := by rw [ok1.length]; exact c3
  exact ⟨p1, y, vs, q1, ok2, S2.fh _ _ (e2 _ _ h1), c1, c2, hl, fun p hp => k _ hy p F2 _ (S2.newOwn hp ⟨_, rfl, by
    rw [List.length_flatten, List.map_replicate, List.sum_replicate_nat, Nat.mul_comm]; exact hl, flat_paired (Paired.imp (fun _ _ => r.mono e2) ok1) y.toNat⟩) (e1.trans e2)⟩⟩⟩
def cutL (xs : List α) (lo hi : Option Int) : List α := (xs.drop (HT.sIx xs.length 0 lo)).take (HT.sIx xs.length xs.length hi - HT.sIx xs.length 0 lo)
theorem cut_paired {R : V → α → Prop} {vs : List V} {xs : List α} (h : Paired R vs xs) (lo hi : Option Int) : Paired R (cutV vs lo hi) (cutL xs lo hi) := by
  unfold cutV cutL
  rw [h.length]
  exact Paired.takeR _ (Paired.dropR _ h)
/-- a part of a slice -/
def tOpt (B : Bs) (env : Env) (os : Os) (w : W (Option Int)) : TO := fun σ H Q => ∃ F P, Sit B F H σ env os ∧ w P B.E0 ∧ ∀ x, P x → ∀ F' H', Sit B F' H' σ env os → Ex F F' → Q x H'
def EO (X : Cx) (B : Bs) (env : Env) (os : Os) (e : Option Expr) (w : W (Option Int)) : Prop := PO X e (tOpt B env os w)
theorem PO.imp {e : Option Expr} {t t' : TO} (h : PO X e t) (i : ∀ σ H Q, t' σ H Q → t σ H Q) : PO X e t' := ⟨fun pins s σ H Q I q => h.run pins s σ H Q I (i _ _ _ q)⟩
theorem PO.ex {e : Option Expr} {ι : Type} {t : ι → TO} (h : ∀ i, PO X e (t i)) : PO X e (fun σ H Q => ∃ i, t i σ H Q) := ⟨fun pins s σ H Q I ⟨i, q⟩ => (h i).run pins s σ H Q I q⟩
theorem o_none : EO X B env os none (ret none) := PO.imp po_none fun σ H Q ⟨F, P, S, hw, k⟩ => k none hw F H S (Ex.refl F)
theorem o_some {w : W Int} (h : EE X B env os e rInt w) : EO X B env os (some e) (bnd w fun i => ret (some i)) := PO.imp (po_some h) fun σ H Q ⟨F, P, S, hw, k⟩ => ⟨F, _, S, hw, fun x hx v F1 H1 S1 e1 ok => ⟨x, ok, k _ hx F1 H1 S1 e1⟩⟩
theorem n_slice {w1 : W (List α)} {w2 w3 : W (Option Int)} {lo hi : Option Expr} {p2 : Pos} (ha : EE X B env os a (rLst r) w1) (hl : EO X B env os lo w2) (hh : EO X B env os hi w3) :
    EN X B env os (.Subscript a (.Slice lo hi none p2) pos) r (bnd w1 fun x => bnd w2 fun l => bnd w3 fun h => ret (cutL x l h)) :=
  PE.imp (pe_slice sl_list ha hl hh) fun σ H Q ⟨F, P, S, hw, k⟩ => ⟨F, _, S, hw, fun x hx v F1 H1 S1 e1 ⟨p1, vs, q1, h1, z1, ok1⟩ => ⟨F1, _, S1, hx, fun l hl' F2 H2 S2 e2 => ⟨F2, _, S2, hl', fun h hh' F3 H3 S3 e3 => by
  exact ⟨p1, vs, q1, SqL.of (S3.fh _ _ (e3 _ _ (e2 _ _ h1))), fun p hp => k _ hh' p F3 _ (S3.newOwn hp ⟨_, rfl, Nat.le_trans (cutV_length vs l h) z1, cut_paired (Paired.imp (fun _ _ => r.mono (e2.trans e3)) ok1) l h⟩) ((e1.trans e2).trans e3)⟩⟩⟩⟩
theorem e_sliceS {w1 : W Str} {w2 w3 : W (Option Int)} {lo hi : Option Expr} {p2 : Pos} (ha : EE X B env os a rStr w1) (hl : EO X B env os lo w2) (hh : EO X B env os hi w3) :
    EE X B env os (.Subscript a (.Slice lo hi none p2) pos) rStr (bnd w1 fun x => bnd w2 fun l => bnd w3 fun h => ret (cutS x l h)) :=
  PE.imp (pe_slice sl_str ha hl hh) fun σ H Q ⟨F, P, S, hw, k⟩ => ⟨F, _, S, hw, fun x hx v F1 H1 S1 e1 ⟨q1, z1, z2⟩ => ⟨F1, _, S1, hx, fun l hl' F2 H2 S2 e2 => ⟨F2, _, S2, hl', fun h hh' F3 H3 S3 e3 => by
  refine ⟨x, q1, z1, k _ hh' _ F3 H3 S3 ((e1.trans e2).trans e3) ⟨rfl, ?_, ?_⟩⟩
  rotate_left
  · unfold PyData.strOk at z2 ⊢
    unfold cutS
    rw [Array.all_eq_true'] at z2
    rw [← Array.all_toList, List.all_eq_true]
    intro y hy
    exact z2 y (Array.mem_toList_iff.mp (List.mem_of_mem_drop (List.mem_of_mem_take hy)))
  unfold cutS Str.length
  rw [List.size_toArray, List.length_take, List.length_drop]
  have z1' : x.cps.toList.length ≤ sizeLine := z1
  omega⟩⟩⟩
/-- list(xs), of a list or a tuple -/
theorem n_listL {w : W (List α)} {p : Pos} (ha : EE X B env os a (rLst r) w) (hm : X.mg "list" = none) (hg : Gl X "list" := by rfl) (he : starEach [a] X.env = (false, eval a X.env) :: starEach [] X.env := by rfl) (hpl : (backTo pos (starEach [] X.env)).any (·.1) = false := by rfl) :
    EN X B env os (.Call (.Name "list" p) [a] [] pos) r w := PE.imp (pe_callTy call_list_of hg hm (by decide +kernel) (pa_cons ha pa_nil he) (by decide) (by decide) he hpl) fun σ H Q ⟨F, P, S, hw, k⟩ => ⟨F, _, S, hw, fun x hx v F1 H1 S1 e1 ⟨p1, vs, q1, h1, z1, ok1⟩ =>
  ⟨p1, vs, by rw [q1], .inl (SqL.of (S1.fh _ _ h1)), fun l hl => k x hx l F1 _ (S1.newOwn hl ⟨vs, rfl, z1, ok1⟩) e1⟩⟩
theorem n_listT {w : W (List α)} {p : Pos} (ha : EE X B env os a (rTup X.K r) w) (hm : X.mg "list" = none) (hg : Gl X "list" := by rfl) (he : starEach [a] X.env = (false, eval a X.env) :: starEach [] X.env := by rfl) (hpl : (backTo pos (starEach [] X.env)).any (·.1) = false := by rfl) :
    EN X B env os (.Call (.Name "list" p) [a] [] pos) r w := PE.imp (pe_callTy call_list_of hg hm (by decide +kernel) (pa_cons ha pa_nil he) (by decide) (by decide) he hpl) fun σ H Q ⟨F, P, S, hw, k⟩ => ⟨F, _, S, hw, fun x hx v F1 H1 S1 e1 ⟨p1, vs, q1, h1, z1, ok1⟩ =>
  ⟨p1, vs, by rw [q1], .inr (ex_t S1.fh h1), fun l hl => k x hx l F1 _ (S1.newOwn hl ⟨vs, rfl, z1, ok1⟩) e1⟩⟩
/-- tuple(xs) -/
theorem e_tupleL {w : W (List α)} {p : Pos} (ha : EE X B env os a (rLst r) w) (hm : X.mg "tuple" = none) (hg : Gl X "tuple" := by rfl) (he : starEach [a] X.env = (false, eval a X.env) :: starEach [] X.env := by rfl) (hpl : (backTo pos (starEach [] X.env)).any (·.1) = false := by rfl) :
    EE X B env os (.Call (.Name "tuple" p) [a] [] pos) (rTup X.K r) w := PE.imp (pe_callTy call_tuple_of hg hm (by decide +kernel) (pa_cons ha pa_nil he) (by decide) (by decide) he hpl) fun σ H Q ⟨F, P, S, hw, k⟩ => ⟨F, _, S, hw, fun x hx v F1 H1 S1 e1 ⟨p1, vs, q1, h1, z1, ok1⟩ =>
  ⟨p1, vs, by rw [q1], .inl ⟨SqL.of (S1.fh _ _ h1), fun l hl => by
    have g : Grow F1 H1 (upd F1 l (.tup vs)) (upd H1 l (.tup vs)) := Grow.alloc S1.fh hl
    exact k x hx (.ref l) _ _ (S1.grow g) (e1.trans g.f) ⟨l, vs, rfl, SqT.of upd_same, z1, Paired.imp (fun _ _ => r.mono g.f) ok1⟩⟩⟩⟩
end

/-! ### one's own list: made, read, changed, let go -/
theorem erase_perm {α : Type} : ∀ {l : List α} {j : Nat} {x : α}, l[j]? = some x → (x :: l.eraseIdx j).Perm l
  | [], _, _, h => by simp at h
  | a :: l, 0, x, h => by
    simp at h
    subst h
    exact List.Perm.refl _
  | a :: l, j + 1, x, h => by
    show (x :: a :: l.eraseIdx j).Perm (a :: l)
    exact (List.Perm.swap a x _).trans ((erase_perm (by simpa using h)).cons a)
theorem Sit.pick {B : Bs} {F H : Hp} {σ : L2.St} {env : Env} {os : Os} {j : Nat} {p : Addr × Own} (s : Sit B F H σ env os) (hj : os[j]? = some p) : Sit B F H σ env (p :: os.eraseIdx j) := by
  have hm : p ∈ os := List.mem_of_getElem? hj
  have hjl : j < os.length := (List.getElem?_eq_some_iff.mp hj).1
  have he : os[j] = p := (List.getElem?_eq_some_iff.mp hj).2
  have hp : (p :: os.eraseIdx j).Perm os := erase_perm hj
  refine ⟨s.fin, s.env, fun q hq => s.ow q ((hp.mem_iff).mp hq), ?_⟩
  exact (hp.map _).nodup_iff.mpr s.nd
section
variable {X : Cx} {B : Bs} {env : Env} {os : Os} {pos pos' : Pos} {α β γ : Type} {r : Rp α} {s : Rp β} {t : Rp γ} {e a b c : Expr} {rest : List Stmt} {post : Post β}
/-- name = a new list that the def will change -/
theorem b_own (i : Nat) {x : Str} {w1 : W (List α)} {w2 : List α → W β} (he : EN X B env os e r w1) (hr : ∀ a xs, BG X B (env.set i (sv (rAdr a) ())) ((a, oLst r xs) :: os) rest post (w2 xs)) (hN : X.N.Nodup) (hi : X.N[i]? = some x := by rfl)
    (hx : Loc X.env.scope x := by first | exact Or.inl rfl | exact Or.inr rfl) (hs : swapsWith e (some (.Name x pos')) pos.line X.env = pure false := by rfl) (hf : X.fn x = true ∨ X.env.scope.names.lookup x = some .local := by first | exact .inl rfl | exact .inr rfl | assumption) :
    BG X B env os (.Assign [.Name x pos'] e pos :: rest) post (bnd w1 w2) :=
  PSs.imp (pss_cons (ps_set hN hi hx he hs hf) (PSs.ex fun p : Addr × List α => hr p.1 p.2)) fun D σ H ⟨F, P, S, hw, k⟩ => ⟨F, _, S, hw, fun xs hx a F' H' S' _ => ⟨(a, xs), F', P, S'.store ⟨_, rfl, rfl⟩, hx, k⟩⟩
/-- the same where the comprehension itself stores the name (c: the statement's rule) -/
theorem b_ownC (i : Nat) {x : Str} {w1 : W (List α)} {w2 : List α → W β} (c : PS X (.Assign [.Name x pos'] e pos) (tAsg (tNew B env os r w1) (gName i))) (hr : ∀ a xs, BG X B (env.set i (sv (rAdr a) ())) ((a, oLst r xs) :: os) rest post (w2 xs)) :
    BG X B env os (.Assign [.Name x pos'] e pos :: rest) post (bnd w1 w2) :=
  PSs.imp (pss_cons c (PSs.ex fun p : Addr × List α => hr p.1 p.2)) fun D σ H ⟨F, P, S, hw, k⟩ => ⟨F, _, S, hw, fun xs hx a F' H' S' _ => ⟨(a, xs), F', P, S'.store ⟨_, rfl, rfl⟩, hx, k⟩⟩
theorem b_setC (i : Nat) {x : Str} {w1 : W (List α)} {w2 : List α → W β} (c : PS X (.Assign [.Name x pos'] e pos) (tAsg (tNew B env os r w1) (gName i))) (hr : ∀ xs, BG X B (env.set i (sv (rLst r) xs)) os rest post (w2 xs)) :
    BG X B env os (.Assign [.Name x pos'] e pos :: rest) post (bnd w1 w2) :=
  PSs.imp (pss_cons c (PSs.ex hr)) fun D σ H ⟨F, P, S, hw, k⟩ => ⟨F, _, S, hw, fun xs hx a F' H' S' _ => by
  obtain ⟨F2, o, e2, h1, ⟨vs, h2, h3, h4⟩, S2⟩ := S'.freeze
  subst h2
  exact ⟨xs, F2, P, S2.store ⟨_, rfl, a, vs, rfl, h1, h3, h4⟩, hx, k⟩⟩
/-- it is let go -/
theorem b_freeze (i j : Nat) {a : Addr} {xs : List α} {w : W β} (hi : env[i]? = some (sv (rAdr a) ())) (hj : os[j]? = some (a, oLst r xs)) (h : BG X B (env.set i (sv (rLst r) xs)) (os.eraseIdx j) rest post w) : BG X B env os rest post w :=
  PSs.imp h fun D σ H ⟨F, P, S, hw, k⟩ => by
  obtain ⟨F2, o, e2, h1, ⟨vs, h2, h3, h4⟩, S2⟩ := (S.pick hj).freeze
  subst h2
  obtain ⟨ov, g1, v, g2, g3⟩ := S2.env.get hi
  have g3' : v = .ref a := g3
  subst g2 g3'
  have q : σ.set i (some (.ref a)) = σ := set_same g1
  have S3 := S2.store (i := i) (sl := sv (rLst r) xs) (v := .ref a) ⟨_, rfl, a, vs, rfl, h1, h3, h4⟩
  rw [q] at S3
  exact ⟨F2, P, S3, hw, k⟩
theorem Sit.own {F H : Hp} {σ : L2.St} {i j : Nat} {a : Addr} {xs : List α} (S : Sit B F H σ env os) (hi : env[i]? = some (sv (rAdr a) ())) (hj : os[j]? = some (a, oLst r xs)) : σ[i]? = some (some (.ref a)) ∧ F a = none ∧ ∃ vs, H a = some (.lst vs) ∧ vs.length ≤ sizeLine ∧ Paired (r.ok F) vs xs := by
  obtain ⟨ov, g1, v, g2, g3⟩ := S.env.get hi
  have g3' : v = .ref a := g3
  subst g2 g3'
  obtain ⟨z1, ⟨o, z2, vs, z3, z4, z5⟩, _⟩ := S.ow _ (List.mem_of_getElem? hj)
  subst z3
  exact ⟨g1, z1, vs, z2, z4, z5⟩
theorem e_lenO (i j : Nat) {x : Str} {p p2 : Pos} {a : Addr} {xs : List α} (hi : env[i]? = some (sv (rAdr a) ())) (hj : os[j]? = some (a, oLst r xs)) (hm : X.mg "len" = none) (hN : X.N[i]? = some x := by rfl) (hv : Vis X.env.scope x := by first | exact Or.inl rfl | exact Or.inr (Or.inl rfl) | exact Or.inr (Or.inr rfl))
    (hg : Gl X "len" := by rfl) (hd : (x == ("__debug__" : Str)) = false := by decide) (hcd : (x == ("__classdict__" : Str)) = false := by decide) (he : starEach [.Name x p2] X.env = (false, eval (.Name x p2) X.env) :: starEach [] X.env := by rfl) (hpl : (backTo pos (starEach [] X.env)).any (·.1) = false := by rfl) :
    EE X B env os (.Call (.Name "len" p) [.Name x p2] [] pos) rInt (ret (xs.length : Int)) :=
  PE.imp (pe_callB call_len_seq hg hm PySem.boot_len (pa_cons (pe_var hN hv hd hcd) pa_nil he) (by decide) (by decide) he hpl) fun σ H Q ⟨F, P, S, hw, k⟩ => by
  obtain ⟨g1, g2, vs, g3, g4, g5⟩ := S.own hi hj
  exact ⟨.ref a, g1, a, vs, rfl, .inl (SqL.of g3), k _ hw _ F H S (Ex.refl F) (by rw [g5.length]; rfl)⟩
theorem e_idxO (i j : Nat) {x : Str} {p2 : Pos} {a : Addr} {xs : List α} {w : W Int} (hi : env[i]? = some (sv (rAdr a) ())) (hj : os[j]? = some (a, oLst r xs)) (hb : EE X B env os b rInt w) (hN : X.N[i]? = some x := by rfl)
    (hv : Vis X.env.scope x := by first | exact Or.inl rfl | exact Or.inr (Or.inl rfl) | exact Or.inr (Or.inr rfl)) (hd : (x == ("__debug__" : Str)) = false := by decide) (hcd : (x == ("__classdict__" : Str)) = false := by decide) (hs : PlainIx b := by exact fun _ _ => rfl) :
    EE X B env os (.Subscript (.Name x p2) b pos) r (bnd w fun k => idx xs k) :=
  PE.imp (pe_ix ix_list (pe_var hN hv hd hcd) hb hs) fun σ H Q ⟨F, P, S, hw, k⟩ => by
  obtain ⟨g1, _, _, _, _, _⟩ := S.own hi hj
  refine ⟨.ref a, g1, F, _, S, hw, fun z hz v F1 H1 S1 e1 ok => ?_⟩
  obtain ⟨_, g2, vs, g3, g4, g5⟩ := S1.own hi hj
  obtain ⟨y, hy, py⟩ := idx_of hz
  obtain ⟨u, hu, ru⟩ := atI_paired g5 hy
  exact ⟨a, vs, z, u, rfl, ok, SqL.of g3, hu, k y py u F1 H1 S1 e1 ru⟩
/-- found.append(e) -/
theorem b_append (i j : Nat) {x : Str} {p1 p2 p3 : Pos} {a : Addr} {xs : List α} {w : W α} {w2 : α → W β} (hi : env[i]? = some (sv (rAdr a) ())) (hj : os[j]? = some (a, oLst r xs)) (he : EE X B env os e r w)
    (hr : ∀ y, BG X B env (os.set j (a, oLst r (xs ++ [y]))) rest post (w2 y)) (hN : X.N[i]? = some x := by rfl)
    (hv : Vis X.env.scope x := by first | exact Or.inl rfl | exact Or.inr (Or.inl rfl) | exact Or.inr (Or.inr rfl)) (hd : (x == ("__debug__" : Str)) = false := by decide) (hcd : (x == ("__classdict__" : Str)) = false := by decide)
    (hbase : attributeBase (.Name x p1) "append" X.env (eval (.Name x p1) X.env) = eval (.Name x p1) X.env := by rfl)
    (hfew : ((backTo p3 (starEach [e] X.env)).all (fun x => !x.1) && (backToKw p3 (keywordEach [] X.env)).all (fun x => x.1.isSome) && decide (([e] : List Expr).length + ([] : List Keyword).length + (if ([] : List Keyword).isEmpty then 0 else 1) < 30)) = true := by rfl)
    (hline : (p2.endLine == p3.line) = true := by rfl) (hs : starEach [e] X.env = (false, eval e X.env) :: starEach [] X.env := by rfl) (hplain : (backTo p3 (starEach [] X.env)).any (·.1) = false := by rfl)
    (hsw : swapsWith (.Call (.Attribute (.Name x p1) "append" p2) [e] [] p3) none pos.line X.env = pure false := by rfl) :
    BG X B env os (.Expr (.Call (.Attribute (.Name x p1) "append" p2) [e] [] p3) pos :: rest) post (bnd w fun y => chk (xs.length < sizeLine) (w2 y)) :=
  PSs.imp (pss_cons (ps_expr (pe_bm PySem.F.plainAttrs_list PySem.F.slot_list_append PySem.F.type_list_append mt_append (pe_var hN hv hd hcd) (pa_cons he pa_nil hs) hbase hfew hline hs hplain) hsw) (PSs.ex hr)) fun D σ H ⟨F, P, S, hw, k⟩ => by
  obtain ⟨g1, g2, vs, g3, g4, g5⟩ := S.own hi hj
  refine ⟨.ref a, g1, .inl ⟨rfl, vs, SqL.of g3⟩, F, _, S, hw, fun y ⟨hc, hy⟩ v F1 H1 S1 e1 ok => ?_⟩
  obtain ⟨_, g2, vs', g3', g4', g5'⟩ := S1.own hi hj
  have hl : vs'.length < sizeLine := by rw [g5'.length]; exact hc
  exact ⟨a, vs', v, rfl, rfl, g3', hl, y, F1, P, S1.change hj ⟨_, rfl, by rw [List.length_append, List.length_singleton]; omega, Paired.app g5' (.cons ok .nil)⟩, hy, k⟩
/-- found[k] = e -/
def putL (xs : List α) (k : Int) (y : α) : W (List α) := match ixN xs.length k with
  | some j => ret (xs.set j y)
  | none => fail
theorem putL_of {xs : List α} {k : Int} {y : α} {P : List α → Prop} {E : Er → Prop} (h : putL xs k y P E) : ∃ j, ixN xs.length k = some j ∧ P (xs.set j y) := by
  unfold putL at h
  cases e : ixN xs.length k with
  | none => rw [e] at h; exact False.elim h
  | some j => rw [e] at h; exact ⟨j, rfl, h⟩
theorem b_put (i j : Nat) {x : Str} {p1 p2 : Pos} {a : Addr} {xs : List α} {w : W α} {w1 : α → W Int} {w2 : List α → W β} (hi : env[i]? = some (sv (rAdr a) ())) (hj : os[j]? = some (a, oLst r xs)) (he : EE X B env os e r w) (hk : ∀ y, EE X B env os b rInt (w1 y))
    (hr : ∀ ys, BG X B env (os.set j (a, oLst r ys)) rest post (w2 ys)) (hN : X.N[i]? = some x := by rfl)
    (hv : Vis X.env.scope x := by first | exact Or.inl rfl | exact Or.inr (Or.inl rfl) | exact Or.inr (Or.inr rfl)) (hd : (x == ("__debug__" : Str)) = false := by decide) (hcd : (x == ("__classdict__" : Str)) = false := by decide)
    (ha : ∀ v, assign (.Subscript (.Name x p1) b p2) X.env v = (do
      let ov ← holding [v] (eval (.Name x p1) X.env)
      let iv ← holding [v, ov] (eval b X.env)
      standAt p2
      holding [v, ov, iv] (setItem ov iv v)
      release [v, ov, iv] []) := by intro _; rfl)
    (hs : swapsWithSole [.Subscript (.Name x p1) b p2] e pos.line X.env = pure false := by rfl) (hw : swappedStores [.Subscript (.Name x p1) b p2] e X.env = pure none := by rfl)
    (h1 : (assignEach [.Subscript (.Name x p1) b p2] X.env).map (·.2) = [assign (.Subscript (.Name x p1) b p2) X.env] := by rfl) :
    BG X B env os (.Assign [.Subscript (.Name x p1) b p2] e pos :: rest) post (bnd w fun y => bnd (w1 y) fun k => bnd (putL xs k y) w2) :=
  PSs.imp (pss_cons (ps_asg he (pg_sub (pe_var hN hv hd hcd) (PE.ex hk) set_list ha) hs hw h1) (PSs.ex hr)) fun D σ H ⟨F, P, S, hw, k⟩ => ⟨F, _, S, hw, fun y hy v F1 H1 S1 e1 ok => by
  obtain ⟨g1, _, _, _, _, _⟩ := S1.own hi hj
  refine ⟨.ref a, g1, y, F1, _, S1, hy, fun z hz u F2 H2 S2 e2 ok2 => ?_⟩
  obtain ⟨_, g2, vs, g3, g4, g5⟩ := S2.own hi hj
  obtain ⟨l, hl, pl⟩ := putL_of hz
  exact ⟨a, vs, z, l, rfl, ok2, g3, (by rw [g5.length]; exact hl), xs.set l y, F2, P, S2.change hj ⟨_, rfl, by rw [List.length_set]; exact g4, Paired.setR (r.mono e2 ok) g5⟩, pl, k⟩⟩
end
end Mi

namespace Mi
open PySem L2 Evl

/-! ### data: ==, repr -/
theorem Dp.up {K : PySem.W.Frag} {F H : Hp} {v : V} {d : PyData} (e : Ex F H) (h : Dp K F v d) : Dp K H v d := by
  refine (show ∀ {v d}, Dp K F v d → Dp K H v d from ?_) h
  intro v d h
  exact Dp.rec (K := K) (H := F) (motive_1 := fun v d _ => Dp K H v d) (motive_2 := fun vs ds _ => DpAll K H vs ds) .non .bl .int .str (fun h1 _ ih => .lst (ex_l e h1) ih) (fun h1 _ ih => .tup (ex_t e h1) ih) .nil (fun _ _ i1 i2 => .cons i1 i2) h
/-- what stands for x is the datum f x, at most n deep -/
structure DD (K : PySem.W.Frag) {α : Type} (r : Rp α) (f : α → PyData) (n : Nat) : Prop where
  ok : ∀ {F v x}, r.ok F v x → Dp K F v (f x) ∧ (f x).canLay0 = true ∧ (f x).depth ≤ n
section
variable {K : PySem.W.Frag} {α β γ : Type} {r : Rp α} {s : Rp β} {t : Rp γ} {f : α → PyData} {g : β → PyData} {h : γ → PyData} {n m k : Nat}
theorem dd_int : DD K rInt .int 0 := ⟨fun {F v x} e => by
  have e : v = .int x := e
  subst e
  exact ⟨.int x, by simp [PyData.canLay0], by simp [PyData.depth]⟩⟩
theorem dd_bool : DD K rBool .bool 0 := ⟨fun {F v x} e => by
  have e : v = .bl x := e
  subst e
  exact ⟨.bl x, by simp [PyData.canLay0], by simp [PyData.depth]⟩⟩
theorem dd_str : DD K rStr .str 0 := ⟨fun {F v x} ⟨e, _, h⟩ => by
  subst e
  exact ⟨.str x, by simpa [PyData.canLay0] using h, by simp [PyData.depth]⟩⟩
theorem dd_non : DD K rNon (fun _ => .none) 0 := ⟨fun {F v x} e => by
  have e : v = .non := e
  subst e
  exact ⟨.non, by simp [PyData.canLay0], by simp [PyData.depth]⟩⟩
theorem dd_D : DD K (rD K) id 30 := ⟨fun h => h⟩
theorem dd_all (d : DD K r f n) {F : Hp} : ∀ {vs : List V} {xs : List α}, Paired (r.ok F) vs xs → DpAll K F vs (xs.map f) ∧ PyData.canLayAll0 (xs.map f) = true ∧ PyData.depthAll (xs.map f) ≤ n
  | _, _, .nil => ⟨.nil, by simp [PyData.canLayAll0], by simp [PyData.depthAll]⟩
  | _, _, .cons r t => by
    obtain ⟨h1, h2, h3⟩ := d.ok r
    obtain ⟨k1, k2, k3⟩ := dd_all d t
    refine ⟨.cons h1 k1, ?_, ?_⟩
    · rw [List.map_cons, PyData.canLayAll0, h2, k2]
      rfl
    · rw [List.map_cons, PyData.depthAll]
      omega
theorem dd_lst (d : DD K r f n) : DD K (rLst r) (fun xs => .list (xs.map f)) (n + 1) := ⟨fun {F v x} ⟨a, vs, e, h1, h2, h3⟩ => by
  subst e
  obtain ⟨k1, k2, k3⟩ := dd_all d h3
  exact ⟨.lst (SqL.of h1) k1, by rw [PyData.canLay0]; exact k2, by rw [PyData.depth]; omega⟩⟩
theorem dd_tup (d : DD K r f n) : DD K (rTup K r) (fun xs => .tuple (xs.map f)) (n + 1) := ⟨fun {F v x} ⟨a, vs, e, h1, h2, h3⟩ => by
  subst e
  obtain ⟨k1, k2, k3⟩ := dd_all d h3
  exact ⟨.tup h1 k1, by rw [PyData.canLay0]; exact k2, by rw [PyData.depth]; omega⟩⟩
theorem dd_t2 (d : DD K r f n) (e : DD K s g m) : DD K (rT2 K r s) (fun x => .tuple [f x.1, g x.2]) (max n m + 1) := ⟨fun {F v x} ⟨a, v1, v2, e0, h1, h2, h3⟩ => by
  subst e0
  obtain ⟨k1, k2, k3⟩ := d.ok h2
  obtain ⟨l1, l2, l3⟩ := e.ok h3
  refine ⟨.tup h1 (.cons k1 (.cons l1 .nil)), ?_, ?_⟩
  · simp [PyData.canLay0, PyData.canLayAll0, k2, l2]
  · simp only [PyData.depth, PyData.depthAll]
    omega⟩
theorem dd_t3 (d : DD K r f n) (e : DD K s g m) (c : DD K t h k) : DD K (rT3 K r s t) (fun x => .tuple [f x.1, g x.2.1, h x.2.2]) (max n (max m k) + 1) := ⟨fun {F v x} ⟨a, v1, v2, v3, e0, h1, h2, h3, h4⟩ => by
  subst e0
  obtain ⟨k1, k2, k3⟩ := d.ok h2
  obtain ⟨l1, l2, l3⟩ := e.ok h3
  obtain ⟨p1, p2, p3⟩ := c.ok h4
  refine ⟨.tup h1 (.cons k1 (.cons l1 (.cons p1 .nil))), ?_, ?_⟩
  · simp [PyData.canLay0, PyData.canLayAll0, k2, l2, p2]
  · simp only [PyData.depth, PyData.depthAll]
    omega⟩
theorem dd_le (d : DD K r f n) (h : n ≤ m) : DD K r f m := ⟨fun e => let ⟨a, b, c⟩ := d.ok e; ⟨a, b, Nat.le_trans c h⟩⟩
end
theorem shaped_of {d : PyData} {n : Nat} (h1 : d.canLay0 = true) (h2 : d.depth ≤ n) (h3 : n ≤ 64) : SeqAt.shaped d = true := by
  unfold SeqAt.shaped
  rw [h1, Bool.true_and]
  exact decide_eq_true (Nat.le_trans h2 h3)
section
variable {X : Cx} {B : Bs} {env : Env} {os : Os} {pos : Pos} {α β γ : Type} {r : Rp α} {s : Rp β} {f : α → PyData} {g : β → PyData} {n m : Nat} {a b : Expr} {w1 : W α} {w2 : α → W β}
theorem sem_eqD {K : PySem.W.Frag} (d : DD K r f n) (e : DD K s g m) (hn : n ≤ 64) (hm : m ≤ 64) : R2T (rEqD K) r s rBool (fun x y => ret (PyData.eqv (f x) (g y))) := fun F H v u x y P E Q fh o1 o2 hw k => by
  obtain ⟨k1, k2, k3⟩ := d.ok o1
  obtain ⟨l1, l2, l3⟩ := e.ok o2
  exact ⟨f x, g y, Dp.up fh k1, Dp.up fh l1, shaped_of k2 k3 hn, shaped_of l2 l3 hm, k _ hw _ F H (Grow.refl fh) rfl⟩
theorem sem_neD {K : PySem.W.Frag} (d : DD K r f n) (e : DD K s g m) (hn : n ≤ 64) (hm : m ≤ 64) : R2T (rNeD K) r s rBool (fun x y => ret (!PyData.eqv (f x) (g y))) := fun F H v u x y P E Q fh o1 o2 hw k => by
  obtain ⟨k1, k2, k3⟩ := d.ok o1
  obtain ⟨l1, l2, l3⟩ := e.ok o2
  exact ⟨f x, g y, Dp.up fh k1, Dp.up fh l1, shaped_of k2 k3 hn, shaped_of l2 l3 hm, k _ hw _ F H (Grow.refl fh) rfl⟩
theorem e_eqD (hu : X.A.units + 64 < cLine) (d : DD X.K r f n) (e : DD X.K s g m) (ha : EE X B env os a r w1) (hb : ∀ x, EE X B env os b s (w2 x)) (hn : n ≤ 64 := by decide) (hm : m ≤ 64 := by decide) : EE X B env os (.Compare a [.Eq] [b] pos) rBool (bnd w1 fun x => bnd (w2 x) fun y => ret (PyData.eqv (f x) (g y))) := e_cmp (op_eqD hu) (sem_eqD d e hn hm) (nomark _) ha hb
theorem e_neD (hu : X.A.units + 64 < cLine) (d : DD X.K r f n) (e : DD X.K s g m) (ha : EE X B env os a r w1) (hb : ∀ x, EE X B env os b s (w2 x)) (hn : n ≤ 64 := by decide) (hm : m ≤ 64 := by decide) : EE X B env os (.Compare a [.NotEq] [b] pos) rBool (bnd w1 fun x => bnd (w2 x) fun y => ret (!PyData.eqv (f x) (g y))) := e_cmp (op_neD hu) (sem_neD d e hn hm) (nomark _) ha hb
/-! flat values: cheaper -/
theorem sem_eqI : R2T rEq rInt rInt rBool (fun x y => ret (decide (x = y))) := fun F H v u x y P E Q fh o1 o2 hw k => by
  have o1 : v = .int x := o1
  have o2 : u = .int y := o2
  subst o1 o2
  have e : decide (V.int x = V.int y) = decide (x = y) := by
    rw [Bool.eq_iff_iff]
    simp
  exact ⟨rfl, by rw [e]; exact k _ hw _ F H (Grow.refl fh) rfl⟩
theorem sem_neI : R2T rNe rInt rInt rBool (fun x y => ret (!decide (x = y))) := fun F H v u x y P E Q fh o1 o2 hw k => by
  have o1 : v = .int x := o1
  have o2 : u = .int y := o2
  subst o1 o2
  have e : decide (V.int x = V.int y) = decide (x = y) := by
    rw [Bool.eq_iff_iff]
    simp
  exact ⟨rfl, by rw [e]; exact k _ hw _ F H (Grow.refl fh) rfl⟩
theorem sem_eqS : R2T rEq rStr rStr rBool (fun x y => ret (decide (x = y))) := fun F H v u x y P E Q fh ⟨o1, _⟩ ⟨o2, _⟩ hw k => by
  subst o1 o2
  have e : decide (V.str x = V.str y) = decide (x = y) := by
    rw [Bool.eq_iff_iff]
    simp
  exact ⟨rfl, by rw [e]; exact k _ hw _ F H (Grow.refl fh) rfl⟩
theorem sem_neS : R2T rNe rStr rStr rBool (fun x y => ret (!decide (x = y))) := fun F H v u x y P E Q fh ⟨o1, _⟩ ⟨o2, _⟩ hw k => by
  subst o1 o2
  have e : decide (V.str x = V.str y) = decide (x = y) := by
    rw [Bool.eq_iff_iff]
    simp
  exact ⟨rfl, by rw [e]; exact k _ hw _ F H (Grow.refl fh) rfl⟩
theorem e_eqI {w1 : W Int} {w2 : Int → W Int} (ha : EE X B env os a rInt w1) (hb : ∀ x, EE X B env os b rInt (w2 x)) : EE X B env os (.Compare a [.Eq] [b] pos) rBool (bnd w1 fun x => bnd (w2 x) fun y => ret (decide (x = y))) := e_cmp op_eq sem_eqI (nomark _) ha hb
theorem e_neI {w1 : W Int} {w2 : Int → W Int} (ha : EE X B env os a rInt w1) (hb : ∀ x, EE X B env os b rInt (w2 x)) : EE X B env os (.Compare a [.NotEq] [b] pos) rBool (bnd w1 fun x => bnd (w2 x) fun y => ret (!decide (x = y))) := e_cmp op_ne sem_neI (nomark _) ha hb
theorem e_eqS {w1 : W Str} {w2 : Str → W Str} (ha : EE X B env os a rStr w1) (hb : ∀ x, EE X B env os b rStr (w2 x)) : EE X B env os (.Compare a [.Eq] [b] pos) rBool (bnd w1 fun x => bnd (w2 x) fun y => ret (decide (x = y))) := e_cmp op_eq sem_eqS (nomark _) ha hb
theorem e_neS {w1 : W Str} {w2 : Str → W Str} (ha : EE X B env os a rStr w1) (hb : ∀ x, EE X B env os b rStr (w2 x)) : EE X B env os (.Compare a [.NotEq] [b] pos) rBool (bnd w1 fun x => bnd (w2 x) fun y => ret (!decide (x = y))) := e_cmp op_ne sem_neS (nomark _) ha hb

/-! repr -/
def rRepr (K : PySem.W.Frag) : List V → Hp → VK → Prop := fun xs H Q => ∃ x d, xs = [x] ∧ Dp K H x d ∧ d.canLay0 = true ∧ d.depth ≤ 64 ∧ d.showable = true ∧ d.shown.length ≤ sizeLine ∧ Q (.str d.shown) H
theorem call_reprD (hu : X.A.units + 100 < cLine) (hg : X.A.guards = some []) : CallR X (.builtin "repr") (rRepr X.K) := by
  intro pins s σ H xs us Q I r h
  obtain ⟨x, d, rfl, hd, hc, hdp, hs, hz, q⟩ := h
  cases r with
  | cons rx rn =>
    cases rn
    rename_i u
    obtain ⟨as, rd⟩ := Dp.reads I d x u hd rx
    have fin : ∀ (h' : Heap) (t tk : Nat), (∀ b o, s.heap.get? b = some o → h'.get? b = some o) → EP X pins σ Q (.str d.shown t) { s with heap := h', toks := tk } := fun h' t tk k => ⟨.str d.shown, H, I.kept k, ⟨t, rfl⟩, q⟩
    cases u with
    | ref a =>
      exact repr_of_reads' rd hs (PyData.noDict_hsm (PyData.hasDict_of_canLay d hc)) hg (by omega) (fun _ _ e => e) (fun h' t tk k => fin h' t tk k) hz
    | int i t =>
      cases rd
      have hs' : i.natAbs.log2 < 1920 := by simpa [PyData.showable] using hs
      exact PySem.P.repr_of_int hs' (fin s.heap _ _ fun _ _ e => e)
    | str y t =>
      cases rd
      exact PySem.P.repr_of_str (fin s.heap _ _ fun _ _ e => e) hz
    | bool b =>
      cases rd
      exact PySem.P.repr_of_bool (fin s.heap _ _ fun _ _ e => e)
    | none =>
      cases rd
      exact PySem.P.repr_of_none (fin s.heap _ _ fun _ _ e => e)
    | _ => cases rd
def reprW (d : PyData) : W Str := chk (d.showable = true ∧ d.shown.length ≤ sizeLine ∧ PyData.strOk d.shown = true) (ret d.shown)
theorem sem_repr {K : PySem.W.Frag} (d : DD K r f n) (hn : n ≤ 64) : C1T (rRepr K) r rStr (fun x => reprW (f x)) := fun F H v x P E Q fh ok ⟨⟨c1, c2, c3⟩, hw⟩ k => by
  obtain ⟨k1, k2, k3⟩ := d.ok ok
  exact ⟨v, f x, rfl, Dp.up fh k1, k2, by omega, c1, c2, k _ hw _ F H (Grow.refl fh) ⟨rfl, c2, c3⟩⟩
theorem e_repr {p : Pos} (hu : X.A.units + 100 < cLine) (hgu : X.A.guards = some []) (d : DD X.K r f n) (ha : EE X B env os a r w1) (hm : X.mg "repr" = none) (hn : n ≤ 64 := by decide) (hg : Gl X "repr" := by rfl) (he : starEach [a] X.env = (false, eval a X.env) :: starEach [] X.env := by rfl) (hpl : (backTo pos (starEach [] X.env)).any (·.1) = false := by rfl) :
    EE X B env os (.Call (.Name "repr" p) [a] [] pos) rStr (bnd w1 fun x => reprW (f x)) := e_callB (call_reprD hu hgu) (sem_repr d hn) ha hm hg (by decide +kernel) (by decide) (by decide) he hpl
end
end Mi

namespace Mi
open PySem L2 Evl
open PyProof.Rows (envOfC)

/-! ### defs: the promise by a mirror -/
/-- a def's promise where no repr runs around it -/
structure FnG (P : Program) (w : World) (K : PySem.W.Frag) (mg : Str → Option Value) (base : Heap) (CX : CXT) (k : Nat) (f : Addr) (fd : FuncData) (ps : List Str) (sp : Sp) : Prop where
  lens : ∀ vs H Q E, sp vs H Q E → vs.length = ps.length
  go : ∀ (A : Around) (outer : List PySem.Env) (s : Shared) (H : Hp) (args : Args) (us : List Value) (vs : List V) (Q : VK) (E : XK), A.guards = some [] → Room k A → Env0 P w K mg base A outer s H →
    BindsTo s fd args (ps.zip us) → Vals vs us → sp vs H Q E → codeAny (model P w) A (.call (.ref f) args) (CR CX outer P w H s Q E) s
section
variable {P : Program} {w : World} {K : PySem.W.Frag} {mg : Str → Option Value} {base : Heap} {CX : CXT} {k j : Nat} {f : Addr} {fd : FuncData} {ps N : List Str} {sp sp' : Sp}
theorem FnG.of (F : FnOk P w K mg base CX k f fd ps sp) : FnG P w K mg base CX k f fd ps sp := ⟨F.len, fun A o s H a us vs Q E _ h1 h2 h3 h4 h5 => F.run A o s H a us vs Q E h1 h2 h3 h4 h5⟩
theorem FnG.mono (F : FnG P w K mg base CX j f fd ps sp) (h : j ≤ k) : FnG P w K mg base CX k f fd ps sp := ⟨F.lens, fun A o s H a us vs Q E hg hr => F.go A o s H a us vs Q E hg (hr.mono h)⟩
/-- a def's body keeps the promise; what is raised does not leave it -/
theorem fnG_of {x qual : Str} {st : Stmt} (F : Fun K x qual st f fd) (S : FnScope N ps (defScope st)) (ln : ∀ vs H Q E, sp vs H Q E → vs.length = ps.length)
    (hbody : ∀ (cdv : Value) (A : Around) (outer : List PySem.Env) (s : Shared) (H : Hp) (vs : List V) (Q : VK) (E : XK), Room k (A.deeper (envOfC qual (defScope st) s.heap.objs.size f cdv)) → A.guards = some [] → sp vs H Q E →
      ∃ t, PSs (cxOf CX P w K mg base N qual (defScope st) f cdv A outer s H E).nox (defBody st) t ∧ t { nx := fun _ H' => Q .non H', rt := Q } (L2.start N vs) H) : FnG P w K mg base CX (k + 1) f fd ps sp := by
  obtain ⟨oc, od, kV, doc, pm, an, cdv, ct, osl, rfl, lk, hcd⟩ := F.ex
  refine ⟨ln, fun A outer s H args us vs Q E hgu hr e0 hb r hsp => ?_⟩
  have hl := ln _ _ _ _ hsp
  have hk0 : ∀ b o, base.get? b = some o → s.heap.get? b = some o := fun b o e => (e0.bs b o e).1
  have KX := e0.mod.kin.keeps hk0
  refine codeAny_call_function hr.depth (KX _ _ lk) rfl S.co S.gen rfl (PySem.W.codeRec_of KX hcd) (hb _ _ _ _ ?_)
  refine wpAny_newFunctionEnv_cells S.kind (fun ⟨n, v⟩ hy => ?_) fun env he s1 x => ?_
  · rcases S.par n (List.of_mem_zip hy).1 with q | q
    · exact .inl q
    · exact .inr ⟨q, PySem.W.cellsFrom_some _ _ _ (.inl q)⟩
  subst he
  refine ⟨(e0.mod.nolimit.keeps hk0).keeps x.toInCall.keep, codeAny_func ?_⟩
  obtain ⟨t, ht, hq⟩ := hbody cdv A outer s H vs Q E (hr.deeper _) hgu hsp
  have I := inv_start (CX := CX) (E := E) S hr.hd e0 hl r x
  refine wpAny_mono (ht.nox.run [] s1 (L2.start N vs) H _ I hq) (fun fl s' hs => ?_) fun e s' hs => hs
  cases fl with
  | ret u =>
    obtain ⟨v, σ', H', J, rv, q⟩ := hs
    exact ⟨v, H', J.os, J.bare, J.base, J.hok, rv, q⟩
  | next =>
    obtain ⟨σ', H', J, q⟩ := hs
    exact ⟨.non, H', J.os, J.bare, J.base, J.hok, rfl, q⟩
  | brk =>
    obtain ⟨_, _, _, q⟩ := hs
    exact False.elim q
  | cont =>
    obtain ⟨_, _, _, q⟩ := hs
    exact False.elim q
end

/-- the base at a def's entry -/
abbrev bs0 (F H : Hp) (os : Os) : Bs := { F := F, H := H, M := F, io := os.map (·.1), E0 := fun _ => False }
/-- by the mirror w: the arguments by slots, the objects handed in to be changed -/
def spW {ι ρ : Type} (args : ι → Env) (os : ι → Os) (w : ι → W ρ) (ro : Rp ρ) : Sp := fun vs H Q _ => ∃ (i : ι) (F : Hp) (P : ρ → Prop), Ex F H ∧ EnvOk F (args i) (vs.map some) ∧ (∀ p ∈ os i, F p.1 = none ∧ ∃ o, H p.1 = some o ∧ p.2.ok F o) ∧ ((os i).map (·.1)).Nodup ∧
  w i P (fun _ => False) ∧ ∀ x, P x → ∀ v F' H', Fn (bs0 F H (os i)) F' H' → OsOk (bs0 F H (os i)) F' H' (os i) → ro.ok F' v x → Q v H'
/-- a body's end -/
def pFn (B : Bs) (osR : Os) {ρ : Type} (ro : Rp ρ) : Post ρ := fun D x => (∀ v F H, Fn B F H → OsOk B F H osR → ro.ok F v x → D.rt v H) ∧ ∀ σ F H, Fn B F H → OsOk B F H osR → ro.ok F .non x → D.nx σ H
theorem RtOk.fn {B : Bs} {osR : Os} {ρ : Type} {ro : Rp ρ} : RtOk B (pFn B osR ro) osR ro (fun x => x) := ⟨fun _ _ h => h.1⟩
theorem NxOk.fn {B : Bs} {osR : Os} {env : Env} {os : Os} (ho : OsW os osR) : NxOk B (pFn B osR rNon) env os () := ⟨fun D q σ F H z => q.2 σ F H z.fin (ho.ok z) rfl⟩
theorem bs0_start {F H : Hp} {os : Os} (fh : Ex F H) (h : ∀ p ∈ os, F p.1 = none ∧ ∃ o, H p.1 = some o ∧ p.2.ok F o) : Fn (bs0 F H os) F H :=
  ⟨fh, Ex.refl F, Ex.refl F, fh, fun a ha => by
    obtain ⟨p, hp, e⟩ := List.mem_map.mp ha
    obtain ⟨_, o, ho, _⟩ := h p hp
    exact ⟨o, by rw [← e]; exact ho⟩, fun a o h1 h2 _ => ⟨h2, h1⟩⟩
/-- the slots at the entry -/
def entry (a : Env) (n : Nat) : Env := a ++ List.replicate n sa
theorem entry_ok {F : Hp} {a : Env} {vs : List V} {N : List Str} (h : EnvOk F a (vs.map some)) : EnvOk F (entry a (N.length - vs.length)) (L2.start N vs) := by
  unfold entry L2.start
  refine Paired.app h ?_
  induction N.length - vs.length with
  | zero => exact .nil
  | succ n ih =>
    rw [List.replicate_succ, List.replicate_succ]
    exact .cons trivial ih
section
variable {P : Program} {w : World} {K : PySem.W.Frag} {mg : Str → Option Value} {base : Heap} {k : Nat} {f : Addr} {fd : FuncData} {ps N : List Str} {ι ρ : Type} {args : ι → Env} {os : ι → Os} {wf : ι → W ρ} {ro : Rp ρ}
theorem spW_len (hl : ∀ i, (args i).length = ps.length) : ∀ vs H Q E, spW args os wf ro vs H Q E → vs.length = ps.length := fun vs H Q E ⟨i, F, P, _, he, _⟩ => by
  have := he.len
  rw [List.length_map, hl i] at this
  exact this.symm
theorem fnW {x qual : Str} {st : Stmt} (F : Fun K x qual st f fd) (S : FnScope N ps (defScope st)) (hl : ∀ i, (args i).length = ps.length)
    (body : ∀ (cdv : Value) (A : Around) (outer : List PySem.Env) (s : Shared) (H : Hp) (E : XK) (B : Bs) (i : ι), Room k (A.deeper (envOfC qual (defScope st) s.heap.objs.size f cdv)) → A.guards = some [] →
      BG (cxOf CX0 P w K mg base N qual (defScope st) f cdv A outer s H E).nox B (entry (args i) (N.length - ps.length)) (os i) (defBody st) (pFn B (os i) ro) (wf i)) : FnG P w K mg base CX0 (k + 1) f fd ps (spW args os wf ro) := by
  refine fnG_of F S (spW_len hl) fun cdv A outer s H vs Q E hr hgu hsp => ?_
  have hvl := spW_len hl vs H Q E hsp
  obtain ⟨i, F0, P0, fh, he, ho, nd, hw, hk⟩ := hsp
  refine ⟨_, body cdv A outer s H E (bs0 F0 H (os i)) i hr hgu, F0, P0, ⟨bs0_start fh ho, ?_, fun p hp => ?_, nd⟩, hw, fun y hy => ⟨fun v F' H' fn ow ok => hk y hy v F' H' fn ow ok, fun σ F' H' fn ow ok => hk y hy .non F' H' fn ow ok⟩⟩
  · rw [← hvl]
    exact entry_ok he
  · obtain ⟨h1, o, h2, h3⟩ := ho p hp
    exact ⟨h1, ⟨o, h2, h3⟩, .inr (List.mem_map_of_mem hp)⟩
/-- where the def needs no «no repr around»: the library's own promise -/
theorem okW {x qual : Str} {st : Stmt} (F : Fun K x qual st f fd) (S : FnScope N ps (defScope st)) (hl : ∀ i, (args i).length = ps.length)
    (body : ∀ (cdv : Value) (A : Around) (outer : List PySem.Env) (s : Shared) (H : Hp) (E : XK) (B : Bs) (i : ι), Room k (A.deeper (envOfC qual (defScope st) s.heap.objs.size f cdv)) →
      BG (cxOf CX0 P w K mg base N qual (defScope st) f cdv A outer s H E).nox B (entry (args i) (N.length - ps.length)) (os i) (defBody st) (pFn B (os i) ro) (wf i)) : FnOk P w K mg base CX0 (k + 1) f fd ps (spW args os wf ro) := by
  refine F.ok S (spW_len hl) fun cdv A outer s H vs Q E hr hsp => ?_
  have hvl := spW_len hl vs H Q E hsp
  obtain ⟨i, F0, P0, fh, he, ho, nd, hw, hk⟩ := hsp
  refine ⟨_, body cdv A outer s H E (bs0 F0 H (os i)) i hr, F0, P0, ⟨bs0_start fh ho, ?_, fun p hp => ?_, nd⟩, hw, fun y hy => ⟨fun v F' H' fn ow ok => hk y hy v F' H' fn ow ok, fun σ F' H' fn ow ok => hk y hy .non F' H' fn ow ok⟩⟩
  · rw [← hvl]
    exact entry_ok he
  · obtain ⟨h1, o, h2, h3⟩ := ho p hp
    exact ⟨h1, ⟨o, h2, h3⟩, .inr (List.mem_map_of_mem hp)⟩
end

/-! ### calls -/
def tAA (B : Bs) (env : Env) (os : Os) {ι : Type} (sl : ι → Env) (w : W ι) : TA := fun σ H Q => ∃ F P, Sit B F H σ env os ∧ w P B.E0 ∧ ∀ i, P i → ∀ vs F' H', Sit B F' H' σ env os → Ex F F' → EnvOk F' (sl i) (vs.map some) → Q vs H'
def AA (X : Cx) (B : Bs) (env : Env) (os : Os) (es : List Expr) {ι : Type} (sl : ι → Env) (w : W ι) : Prop := PA X es (tAA B env os sl w)
section
variable {X : Cx} {B : Bs} {env : Env} {os : Os} {pos p : Pos} {α β ι κ ρ : Type} {r : Rp α} {sl : ι → Env} {args : ι → Env} {osf : ι → Os} {wf : ι → W ρ} {ro : Rp ρ} {e : Expr} {es : List Expr} {x : Str} {k : Nat} {f : Addr} {fd : FuncData} {ps : List Str}
theorem aa_nil : AA X B env os [] (fun _ : Unit => []) (ret ()) := PA.imp pa_nil fun σ H Q ⟨F, P, S, hw, k⟩ => k () hw [] F H S (Ex.refl F) .nil
theorem aa_cons {w1 : W α} {w2 : α → W ι} (h : EE X B env os e r w1) (ht : ∀ y, AA X B env os es sl (w2 y)) (hs : starEach (e :: es) X.env = (false, eval e X.env) :: starEach es X.env := by rfl) :
    AA X B env os (e :: es) (fun q : α × ι => sv r q.1 :: sl q.2) (bnd w1 fun y => bnd (w2 y) fun i => ret (y, i)) :=
  PA.imp (pa_cons h (PA.ex ht) hs) fun σ H Q ⟨F, P, S, hw, k⟩ => ⟨F, _, S, hw, fun y hy v F1 H1 S1 e1 ok1 => ⟨y, F1, _, S1, hy, fun i hi vs F2 H2 S2 e2 ok2 => k _ hi (v :: vs) F2 H2 S2 (e1.trans e2) (.cons ⟨v, rfl, r.mono e2 ok1⟩ ok2)⟩⟩
/-- behind a call: the state of the caller -/
theorem Sit.back {F F' H H' : Hp} {σ : L2.St} {osf : Os} (S : Sit B F H σ env os) (ho : OsLe os osf) (fn : Fn (bs0 F H osf) F' H') (ow : OsOk (bs0 F H osf) F' H' osf) : Sit B F' H' σ env os := by
  have e : Ex F F' := fn.bf
  have apart : ∀ a, (∀ p ∈ osf, p.1 ≠ a) → a ∉ osf.map (·.1) := fun a h hm => by
    obtain ⟨p, hp, ep⟩ := List.mem_map.mp hm
    exact h p hp ep
  refine ⟨⟨fn.fh, S.fin.bf.trans e, S.fin.mrk.trans e, S.fin.bb, fun a ha => ?_, fun a o h1 h2 h3 => ?_⟩, S.env.mono e, fun p hp => ?_, S.nd⟩
  · obtain ⟨o, hoa⟩ := S.fin.ios a ha
    by_cases hm : a ∈ osf.map (·.1)
    · exact fn.ios a hm
    · cases ef : F a with
      | none => exact ⟨o, (fn.keep a o ef hoa hm).1⟩
      | some u => exact ⟨u, fn.fh a u (e a u ef)⟩
  · obtain ⟨k1, k2⟩ := S.fin.keep a o h1 h2 h3
    refine fn.keep a o k2 k1 (apart a fun p hp ep => ?_)
    rcases (S.ow p (ho p hp)).2.2 with q | q
    · rw [ep, h2] at q
      cases q
    · exact h3 (ep ▸ q)
  · obtain ⟨h1, ⟨o, h2, h3⟩, h4⟩ := S.ow p hp
    by_cases hm : p.1 ∈ osf.map (·.1)
    · obtain ⟨q, hq, eq⟩ := List.mem_map.mp hm
      have same : q = p := by
        obtain ⟨i, hi⟩ := List.mem_iff_getElem?.mp (ho q hq)
        obtain ⟨j, hj⟩ := List.mem_iff_getElem?.mp hp
        have a1 : (os.map (·.1))[i]? = some p.1 := by rw [List.getElem?_map, hi, ← eq]; rfl
        have a2 : (os.map (·.1))[j]? = some p.1 := by rw [List.getElem?_map, hj]; rfl
        have ij := nd_ix S.nd a1 a2
        subst ij
        rw [hi] at hj
        exact Option.some.inj hj
      subst same
      obtain ⟨z1, z2, _⟩ := ow q hq
      exact ⟨z1, z2, h4⟩
    · obtain ⟨z1, z2⟩ := fn.keep p.1 o h1 h2 hm
      exact ⟨z2, ⟨o, z1, p.2.mono e h3⟩, h4⟩
theorem call_back {w : W ι} {σ : L2.St} {H : Hp} {Q : VK} (ho : ∀ i, OsLe os (osf i)) (hnd : ∀ i, ((osf i).map (·.1)).Nodup) (h : tOf B env os ro (bnd w fun i => noX (wf i)) σ H Q) : tAA B env os args w σ H fun vs H1 => spW args osf wf ro vs H1 Q E0 := by
  obtain ⟨F, P, S, hw, k⟩ := h
  refine ⟨F, _, S, hw, fun i hi vs F1 H1 S1 e1 ok => ⟨i, F1, P, S1.fh, ok, fun p hp => ?_, hnd i, hi, fun y hy v F2 H2 fn ow okv => ?_⟩⟩
  · obtain ⟨h1, h2, _⟩ := S1.ow p (ho i p hp)
    exact ⟨h1, h2⟩
  · exact k y hy v F2 H2 (S1.back (ho i) fn ow) (e1.trans fn.bf) okv
theorem run_fnG {pins : List (Addr × Obj)} {σ : St} {H : Hp} {s : Shared} {Q : VK} {us : List Value} {vs : List V} {sp : Sp} (F : FnG X.prog X.w X.K X.mg X.base CX0 k f fd ps sp) (hgu : X.A.guards = some []) (hr : Room k X.A) (hb : Binds X.K fd ps [])
    (I : Inv X pins σ H s) (r : Vals vs us) (h : sp vs H Q E0) : wpAny (model X.prog X.w) X.A (call (.ref f) us) (EP X pins σ Q) X.xe s := by
  have hl : us.length = ps.length := by rw [← r.length]; exact F.lens _ _ _ _ h
  have b := hb s us I.kIn (by rw [List.append_nil]; exact hl)
  rw [List.append_nil] at b
  refine wpAny_call (codeAny_mono (F.go X.A X.stack s H ⟨us, []⟩ us vs Q E0 hgu hr I.env0 b r h) fun res s' hq => ?_)
  cases res with
  | error e => exact False.elim hq
  | ok fl =>
    cases fl with
    | ret u => exact I.after hq
    | next => exact False.elim hq
    | brk => exact False.elim hq
    | cont => exact False.elim hq
/-- f(e, ..), f a def by its mirror -/
theorem e_callG {w : W ι} (G : FnG X.prog X.w X.K X.mg X.base CX0 k f fd ps (spW args osf wf ro)) (hgu : X.A.guards = some []) (hr : Room k X.A) (hm : X.mg x = some (.ref f)) (hk : PySem.W.keepIn X.K (.ref f) = true) (hb : Binds X.K fd ps [])
    (ha : AA X B env os (e :: es) args w) (ho : ∀ i, OsLe os (osf i)) (hnd : ∀ i, ((osf i).map (·.1)).Nodup) (hg : Gl X x := by rfl) (hdb : (x == ("__debug__" : Str)) = false := by decide)
    (he : starEach (e :: es) X.env = (false, eval e X.env) :: starEach es X.env := by rfl) (hpl : (backTo pos (starEach es X.env)).any (·.1) = false := by rfl) :
    EE X B env os (.Call (.Name x p) (e :: es) [] pos) ro (bnd w fun i => noX (wf i)) := by
  refine ⟨fun pins s σ H Q I h => ?_⟩
  refine wpAny_Call_Name_kw (ld_glob I hg hm ?_ hdb)
  refine PySem.W.callWith_K (h₀ := X.base) I.ok.mod.kin hk (thn (ha.run pos pins s σ H _ I (call_back ho hnd h)) fun us s1 ⟨vs, H1, I1, r, q⟩ => ⟨I1.kIn, ?_⟩) he hpl
  exact run_fnG G hgu hr hb I1 r q
theorem e_call {w : W ι} (G : FnOk X.prog X.w X.K X.mg X.base CX0 k f fd ps (spW args osf wf ro)) (hr : Room k X.A) (hm : X.mg x = some (.ref f)) (hk : PySem.W.keepIn X.K (.ref f) = true) (hb : Binds X.K fd ps [])
    (ha : AA X B env os (e :: es) args w) (ho : ∀ i, OsLe os (osf i)) (hnd : ∀ i, ((osf i).map (·.1)).Nodup) (hg : Gl X x := by rfl) (hdb : (x == ("__debug__" : Str)) = false := by decide)
    (he : starEach (e :: es) X.env = (false, eval e X.env) :: starEach es X.env := by rfl) (hpl : (backTo pos (starEach es X.env)).any (·.1) = false := by rfl) :
    EE X B env os (.Call (.Name x p) (e :: es) [] pos) ro (bnd w fun i => noX (wf i)) :=
  PE.imp (pe_call G hr hg hm hk hb .nil pass0 ha hdb he hpl) fun σ H Q h => by
    have q := call_back (args := args) ho hnd h
    obtain ⟨F, P, S, hw, k⟩ := q
    refine ⟨F, P, S, hw, fun i hi vs F' H' S' e' ok => ?_⟩
    show spW args osf wf ro (vs ++ []) H' Q E0
    rw [List.append_nil]
    exact k i hi vs F' H' S' e' ok
/-- f(), no argument -/
theorem e_call0 {wf0 : Unit → W ρ} (G : FnOk X.prog X.w X.K X.mg X.base CX0 k f fd ps (spW (fun _ : Unit => []) (fun _ => []) wf0 ro)) (hr : Room k X.A) (hm : X.mg x = some (.ref f)) (hk : PySem.W.keepIn X.K (.ref f) = true) (hb : Binds X.K fd ps []) (hg : Gl X x := by rfl) (hdb : (x == ("__debug__" : Str)) = false := by decide) :
    EE X B env os (.Call (.Name x p) [] [] pos) ro (noX (wf0 ())) :=
  PE.imp (pe_call0 G hr hg hm hk hb .nil pass0 hdb) fun σ H Q ⟨F, P, S, hw, k⟩ => by
    refine ⟨(), F, P, S.fh, .nil, fun p hp => absurd hp (by simp), by simp, hw, fun y hy v F2 H2 fn ow okv => ?_⟩
    exact k y hy v F2 H2 (S.back (fun p hp => absurd hp (by simp)) fn ow) fn.bf okv
end
end Mi

namespace Mi
open PySem L2 Evl
open PyProof.Rows (envOfC IntsAre AllBare)

/-! ### the end: the law's own call -/
/-- nothing is tracked but perhaps the script, which is locked -/
theorem law_run {P : Program} {w : World} {K : PySem.W.Frag} {mg mb : Str → Option Value} {k : Nat} {fa a : Addr} {fd : FuncData} {x : Str} {sp : Sp} {s : Shared} {vs : List Value} {H : Hp}
    (KX : K.In s.heap) (hns : s.heap.Ns mainGlobals mg) (hb : s.heap.Ns builtinsNs mb) (hbb : ∀ x : Str, x ≠ "__name__" → mb x = bootBuiltins x) (hlim : s.heap.NoLimit) (hg : s.gens = #[])
    (ha : s.heap.get? a = some { cls := .type "list", data := .seq vs.toArray }) (hr : Room k callerA)
    (F : ∀ base : Heap, K.In base → base.Ns mainGlobals mg → FnG P w K mg base CX0 k fa fd [x] sp) (hbind : ∀ (s : Shared) (u : Value), BindsTo s fd ⟨[u], []⟩ [(x, u)])
    (hO : Only H) (hok : HOk P w H s.heap) (hA : ∀ b, H b ≠ none → b = a ∧ K.lookup a = none) (hsp : sp [.ref a] H (fun v _ => v = .bl true) fun _ _ _ => False) :
    codeAny (model P w) callerA (.call (.ref fa) ⟨[.ref a], []⟩) (fun r s' => r = .ok (.ret (.bool true)) ∧ OldK s.heap s'.heap ∧ s'.os = s.os ∧ AllBare s'.gens) s := by
  have off : ∀ {b : Addr}, b ≠ a → H b = none := fun {b} hb => by
    cases q : H b with
    | none => rfl
    | some u => exact absurd (hA b (by rw [q]; simp)).1 hb
  have here : ∀ {b : Addr} {o : Obj}, s.heap.get? b = some o → H b = none → (hidT s.heap H).get? b = some o := fun e n => hidT_get e n
  have ns_ : ∀ {b : Addr} {m : Str → Option Value}, s.heap.Ns b m → (hidT s.heap H).Ns b m := fun {b m} ⟨o, es, ep, e, d, r⟩ => by
    refine ⟨o, es, ep, here e (off fun z => ?_), d, r⟩
    subst z
    rw [ha] at e
    cases e
    cases d
  have kin : K.In (hidT s.heap H) := fun b o e => here (KX b o e) (by
    cases q : H b with
    | none => rfl
    | some u =>
      obtain ⟨z, n⟩ := hA b (by rw [q]; simp)
      rw [z, n] at e
      cases e)
  have md : Mod K mg (hidT s.heap H) := ⟨kin, ns_ hns, ⟨mb, ns_ hb, hbb⟩, hlim.elim fun mc hm => ⟨mc, ns_ hm.1, hm.2⟩⟩
  have e0 : Env0 P w K mg (hidT s.heap H) callerA [] s H :=
    { frames := rfl, mod := md, bs := fun b o e => of_hidT e, bsz := Nat.le_of_eq (hidT_size _ _), funs := trivial, frf := fun b hb => (by cases hb), hok := hok, bare := .of_eq hg }
  refine codeAny_mono ((F _ kin (ns_ hns)).go callerA [] s H ⟨[.ref a], []⟩ [.ref a] [.ref a] _ _ rfl hr e0 (hbind s (.ref a)) (.cons rfl .nil) hsp) fun r s' h => ?_
  cases r with
  | error e => exact False.elim h
  | ok fl =>
    cases fl with
    | next => exact False.elim h
    | brk => exact False.elim h
    | cont => exact False.elim h
    | ret u =>
      obtain ⟨v, H', os, bare, un, hok', rv, q⟩ := h
      have q : v = .bl true := q
      subst q
      have rv : u = Value.bool true := rv
      subst rv
      refine ⟨rfl, OldK.of_keep fun b o e => ?_, os, bare⟩
      cases q : H b with
      | none => exact un.keep b o e q (fun z => by cases z) (fun z => by cases z)
      | some u =>
        rcases hO b with z | ⟨ob, xs, z⟩
        · rw [q] at z
          cases z
        · have e1 := (hok b _ z).1
          have e2 := (hok' b _ (un.frzs b ob _ z)).1
          rw [e] at e1
          cases e1
          exact e2
theorem law_callG {P : Program} {w : World} {K : PySem.W.Frag} {mg mb : Str → Option Value} {k : Nat} {fa a : Addr} {fd : FuncData} {x : Str} {sp : Sp} {s : Shared} {vs : List Value} {ns : List Int}
    (KX : K.In s.heap) (hns : s.heap.Ns mainGlobals mg) (hb : s.heap.Ns builtinsNs mb) (hbb : ∀ x : Str, x ≠ "__name__" → mb x = bootBuiltins x) (hlim : s.heap.NoLimit) (hg : s.gens = #[])
    (ha : s.heap.get? a = some { cls := .type "list", data := .seq vs.toArray }) (hi : IntsAre vs ns) (hl : ns.length ≤ sizeLine) (hr : Room k callerA)
    (F : ∀ base : Heap, K.In base → base.Ns mainGlobals mg → FnG P w K mg base CX0 k fa fd [x] sp) (hbind : ∀ (s : Shared) (u : Value), BindsTo s fd ⟨[u], []⟩ [(x, u)])
    (hsp : ∀ H : Hp, Only H → SqL K H a (ns.map V.int) → sp [.ref a] H (fun v _ => v = .bl true) fun _ _ _ => False) :
    codeAny (model P w) callerA (.call (.ref fa) ⟨[.ref a], []⟩) (fun r s' => r = .ok (.ret (.bool true)) ∧ OldK s.heap s'.heap ∧ s'.os = s.os ∧ AllBare s'.gens) s := by
  have rv := vals_ints hi
  have lenV := hi.length
  cases hk : K.lookup a with
  | some o =>
    have e := (KX a o hk).symm.trans ha
    have e' := Option.some.inj e
    subst e'
    have O0 : Only fun _ => none := fun _ => .inl rfl
    refine law_run KX hns hb hbb hlim hg ha hr F hbind O0 (fun b u z => by cases z) (fun b z => absurd rfl z) (hsp _ O0 (.inr ⟨_, vs.toArray, _, hk, rfl, rfl, rfl, ?_, ?_⟩))
    · rw [List.size_toArray, lenV]
      exact hl
    · exact rv
  | none =>
    have at_a : (fun b => if b = a then some (HO.frz { cls := .type "list", data := .seq vs.toArray } (.lst (ns.map V.int))) else none : Hp) a = some (HO.frz { cls := .type "list", data := .seq vs.toArray } (.lst (ns.map V.int))) := if_pos rfl
    have O1 : Only fun b => if b = a then some (HO.frz { cls := .type "list", data := .seq vs.toArray } (.lst (ns.map V.int))) else none := fun b => by
      by_cases h : b = a
      · exact .inr ⟨_, _, if_pos h⟩
      · exact .inl (if_neg h)
    refine law_run KX hns hb hbb hlim hg ha hr F hbind O1 (fun b u z => ?_) (fun b z => ?_) (hsp _ O1 (.inl (.inr ⟨_, at_a⟩)))
    · by_cases h : b = a
      · have z' := (if_pos h).symm.trans z
        cases z'
        subst h
        exact ⟨ha, by rw [List.length_map]; exact hl, vs, _, rv, ha⟩
      · have z' := (if_neg h).symm.trans z
        cases z'
    · by_cases h : b = a
      · exact ⟨h, hk⟩
      · exact absurd (if_neg h) z
/-- the goal that the head leaves -/
theorem walk_G {l : PySem.W.OpenLaw} {n k : Nat} {q : Program} {loose : List Str} {XP : (Str → Option Value) → Heap → Prop} {YP : World → Heap → Prop} {d : DefRec} {K : Params → PySem.W.Frag} {sp : PySem.W.Frag → Sp} {x : Str}
    (hn : l.most = some n) (hn2 : n ≤ sizeLine) (hdf : d.params.defaults = []) (hr : Room k callerA) (hY : ∀ (w : World) (h : Heap), YP w h → (K w.params).In h)
    (F : ∀ (w : World) (mg : Str → Option Value) (fa : Addr) (h : Heap), (K w.params).In h → h.Ns mainGlobals mg → mg d.name = some (.ref fa) →
      ∃ fd : FuncData, (∀ (s : Shared) (u : Value), BindsTo s fd ⟨[u], []⟩ [(x, u)]) ∧ ∀ base : Heap, (K w.params).In base → base.Ns mainGlobals mg → FnG l.prog w (K w.params) mg base CX0 k fa fd [x] (sp (K w.params)))
    (hsp : ∀ (K : PySem.W.Frag) (H : Hp) (a : Addr) (ns : List Int), ns.length ≤ n → Only H → SqL K H a (ns.map V.int) → sp K [.ref a] H (fun v _ => v = .bl true) fun _ _ _ => False) :
    PySem.W.WalkO q loose XP YP l.row.toRowW d [] (fun f vs => PySem.call f vs) :=
  Att.attach_call hn hdf fun w s₀ s₁ mg mb fa o pm cd doc a vs ns G Y ho hd hcd hmg hobj hints hlen hg => by
    obtain ⟨fd, hb, hF⟩ := F w mg fa _ (hY w _ Y) G.T.g hmg
    exact law_callG (hY w _ Y) G.T.g G.T.b G.T.builtins G.T.nolimit hg hobj hints (Nat.le_trans hlen hn2) hr hF hb fun H hO hS => hsp _ H a ns hlen hO hS
end Mi

namespace Mi
open PySem L2 Evl

/-! ### a list of unlike things, one's own -/
def oHet (ss : List Slot) : Own := ⟨fun F o => ∃ vs : List V, o = .lst vs ∧ Paired (fun (s : Slot) (v : V) => s.ok F (some v)) ss vs, fun e ⟨vs, h1, h2⟩ => ⟨vs, h1, Paired.imp (fun s _ => s.mono e) h2⟩⟩
section
variable {X : Cx} {B : Bs} {env : Env} {os : Os} {pos : Pos} {α β : Type} {r : Rp α} {e : Expr} {rest : List Stmt} {post : Post β}
theorem Sit.het {F H : Hp} {σ : L2.St} {i j : Nat} {a : Addr} {ss : List Slot} (S : Sit B F H σ env os) (hi : env[i]? = some (sv (rAdr a) ())) (hj : os[j]? = some (a, oHet ss)) : σ[i]? = some (some (.ref a)) ∧ F a = none ∧ ∃ vs, H a = some (.lst vs) ∧ Paired (fun (s : Slot) (v : V) => s.ok F (some v)) ss vs := by
  obtain ⟨ov, g1, v, g2, g3⟩ := S.env.get hi
  have g3' : v = .ref a := g3
  subst g2 g3'
  obtain ⟨z1, ⟨o, z2, vs, z3, z5⟩, _⟩ := S.ow _ (List.mem_of_getElem? hj)
  subst z3
  exact ⟨g1, z1, vs, z2, z5⟩
theorem atI_nat' {α : Type} {xs : List α} {n : Nat} {x : α} {c : Int} (hc : c = (n : Int)) (h : xs[n]? = some x) : atI xs c = some x := by
  rw [hc]
  exact atI_nat h
theorem e_hidx (i j n : Nat) {x : Str} {p2 p3 : Pos} {c : Int} {q} {a : Addr} {ss : List Slot} {y : α} (hi : env[i]? = some (sv (rAdr a) ())) (hj : os[j]? = some (a, oHet ss)) (hn : ss[n]? = some (sv r y)) (hc : c = (n : Int) := by rfl) (hN : X.N[i]? = some x := by rfl)
    (hv : Vis X.env.scope x := by first | exact Or.inl rfl | exact Or.inr (Or.inl rfl) | exact Or.inr (Or.inr rfl)) (hd : (x == ("__debug__" : Str)) = false := by decide) (hcd : (x == ("__classdict__" : Str)) = false := by decide) (hs : PlainIx (.Constant (.int c) q p3) := by exact fun _ _ => rfl) :
    EE X B env os (.Subscript (.Name x p2) (.Constant (.int c) q p3) pos) r (ret y) :=
  PE.imp (pe_ix ix_list (pe_var hN hv hd hcd) pe_int hs) fun σ H Q ⟨F, P, S, hw, k⟩ => by
  obtain ⟨g1, g2, vs, g3, g5⟩ := S.het hi hj
  obtain ⟨v, hv, w, ew, okw⟩ := Paired.get' g5 hn
  cases ew
  exact ⟨.ref a, g1, a, vs, c, v, rfl, rfl, SqL.of g3, atI_nat' hc hv, k y hw v F H S (Ex.refl F) okw⟩
theorem b_hput (i j n : Nat) {x : Str} {p1 p2 p3 : Pos} {c : Int} {q} {a : Addr} {ss : List Slot} {w : W α} {w2 : α → W β} (hi : env[i]? = some (sv (rAdr a) ())) (hj : os[j]? = some (a, oHet ss)) (hn : n < ss.length) (he : EE X B env os e r w)
    (hr : ∀ y, BG X B env (os.set j (a, oHet (ss.set n (sv r y)))) rest post (w2 y)) (hc : c = (n : Int) := by rfl) (hN : X.N[i]? = some x := by rfl)
    (hv : Vis X.env.scope x := by first | exact Or.inl rfl | exact Or.inr (Or.inl rfl) | exact Or.inr (Or.inr rfl)) (hd : (x == ("__debug__" : Str)) = false := by decide) (hcd : (x == ("__classdict__" : Str)) = false := by decide)
    (ha : ∀ v, assign (.Subscript (.Name x p1) (.Constant (.int c) q p3) p2) X.env v = (do
      let ov ← holding [v] (eval (.Name x p1) X.env)
      let iv ← holding [v, ov] (eval (.Constant (.int c) q p3) X.env)
      standAt p2
      holding [v, ov, iv] (setItem ov iv v)
      release [v, ov, iv] []) := by intro _; rfl)
    (hs : swapsWithSole [.Subscript (.Name x p1) (.Constant (.int c) q p3) p2] e pos.line X.env = pure false := by rfl) (hw : swappedStores [.Subscript (.Name x p1) (.Constant (.int c) q p3) p2] e X.env = pure none := by rfl)
    (h1 : (assignEach [.Subscript (.Name x p1) (.Constant (.int c) q p3) p2] X.env).map (·.2) = [assign (.Subscript (.Name x p1) (.Constant (.int c) q p3) p2) X.env] := by rfl) :
    BG X B env os (.Assign [.Subscript (.Name x p1) (.Constant (.int c) q p3) p2] e pos :: rest) post (bnd w w2) :=
  PSs.imp (pss_cons (ps_asg he (pg_sub (pe_var hN hv hd hcd) pe_int set_list ha) hs hw h1) (PSs.ex hr)) fun D σ H ⟨F, P, S, hw, k⟩ => ⟨F, _, S, hw, fun y hy v F1 H1 S1 e1 ok => by
  obtain ⟨g1, g2, vs, g3, g5⟩ := S1.het hi hj
  have hlt : n < vs.length := by rw [← Paired.length g5]; exact hn
  have hix : ixN vs.length c = some n := by
    unfold ixN
    rw [hc, if_pos (by omega), if_pos (by omega)]
    simp
  exact ⟨.ref a, g1, a, vs, c, n, rfl, rfl, g3, hix, y, F1, P, S1.change hj ⟨_, rfl, Paired.setR (R := fun (s : Slot) (v : V) => s.ok F1 (some v)) (x := sv r y) (y := v) ⟨v, rfl, ok⟩ g5⟩, hy, k⟩⟩
/-- an own object is seen in more detail -/
theorem b_open {ι : Type} (j : Nat) {a : Addr} {o : Own} {oi : ι → Own} {w : W β} (hj : os[j]? = some (a, o)) (hop : ∀ F h, o.ok F h → ∃ i, (oi i).ok F h) (hr : ∀ i, BG X B env (os.set j (a, oi i)) rest post w) : BG X B env os rest post w :=
  PSs.imp (PSs.ex hr) fun D σ H ⟨F, P, S, hw, k⟩ => by
  obtain ⟨z1, ⟨h, z2, z3⟩, z4⟩ := S.ow _ (List.mem_of_getElem? hj)
  obtain ⟨i, hi⟩ := hop F h z3
  have S2 := S.change (ow' := oi i) (o' := h) hj hi
  have e : upd H a h = H := by
    funext b
    by_cases hb : b = a
    · subst hb
      rw [upd_same]
      exact z2.symm
    · rw [upd_ne hb]
  rw [e] at S2
  exact ⟨i, F, P, S2, hw, k⟩
end

/-! ### the bag of draws -/
abbrev bagS (cells : List Int) (n : Nat) (d m k : Int) : List Slot := [sv (rLst rInt) cells, sv rInt (n : Int), sv rInt d, sv rInt m, sv rInt k]
def oBag (cells : List Int) : Own := ⟨fun F o => ∃ p : Nat × Int × Int × Int, (oHet (bagS cells p.1 p.2.1 p.2.2.1 p.2.2.2)).ok F o, fun e ⟨p, h⟩ => ⟨p, (oHet _).mono e h⟩⟩
/-- any number below most -/
def drawW (most : Int) : W Int := fun P _ => 0 < most ∧ most.natAbs.log2 < 9000 ∧ ∀ r, 0 ≤ r → r < most → P r
def anyW {α : Type} (xs : List α) : W α := bnd (noX (drawW (xs.length : Int))) fun i => idx xs i
/-- the script, as it was handed in -/
def rScr (K : PySem.W.Frag) : Rp (List Int) := ⟨fun F v xs => ∃ a, v = .ref a ∧ SqL K F a (xs.map V.int) ∧ xs.length ≤ sizeLine, fun e ⟨a, h1, h2, h3⟩ => ⟨a, h1, ex_l e h2, h3⟩⟩
end Mi

namespace Mi
open PySem L2 Evl

/-! ### several targets at once -/
section
variable {X : Cx} {B : Bs} {env : Env} {os : Os} {pos : Pos} {α β γ δ : Type} {r : Rp α} {s : Rp γ} {t : Rp δ} {e a b c : Expr} {rest : List Stmt} {post : Post β} {i j l : Nat} {x y z : Str} {px py pz pt pt2 : Pos} {kt k2 : Nat}
variable {w1 : W α} {w2 : α → W γ} {w3 : α → γ → W δ} {w4 : α → γ → W β} {w5 : α → γ → δ → W β}
abbrev tA2 (B : Bs) (env : Env) (os : Os) (r : Rp α) (s : Rp γ) (w1 : W α) (w2 : α → W γ) : TA := tCons (tOf B env os r w1) (tCons (fun σ H Q => ∃ x, tOf B env os s (w2 x) σ H Q) tNil)
abbrev tA3 (B : Bs) (env : Env) (os : Os) (r : Rp α) (s : Rp γ) (t : Rp δ) (w1 : W α) (w2 : α → W γ) (w3 : α → γ → W δ) : TA := tCons (tOf B env os r w1) (tCons (fun σ H Q => ∃ x, tOf B env os s (w2 x) σ H Q) (tCons (fun σ H Q => ∃ p : α × γ, tOf B env os t (w3 p.1 p.2) σ H Q) tNil))
abbrev tO3 (B : Bs) (env : Env) (os : Os) (r : Rp α) (s : Rp γ) (t : Rp δ) (w1 : W (List α)) (v2 : γ) (v3 : δ) : TA := tCons (tNew B env os r w1) (tCons (fun σ H Q => ∃ p : Addr × List α, tOf B env ((p.1, oLst r p.2) :: os) s (ret v2) σ H Q) (tCons (fun σ H Q => ∃ p : Addr × List α, tOf B env ((p.1, oLst r p.2) :: os) t (ret v3) σ H Q) tNil))
theorem pa2 (ha : EE X B env os a r w1) (hb : ∀ x, EE X B env os b s (w2 x)) (hs : starEach [a, b] X.env = (false, eval a X.env) :: starEach [b] X.env := by rfl) (hs2 : starEach [b] X.env = (false, eval b X.env) :: starEach [] X.env := by rfl) : PA X [a, b] (tA2 B env os r s w1 w2) :=
  pa_cons ha (pa_cons (PE.ex hb) pa_nil hs2) hs
theorem pa3 (ha : EE X B env os a r w1) (hb : ∀ x, EE X B env os b s (w2 x)) (hc : ∀ x y, EE X B env os c t (w3 x y)) (hs : starEach [a, b, c] X.env = (false, eval a X.env) :: starEach [b, c] X.env := by rfl)
    (hs2 : starEach [b, c] X.env = (false, eval b X.env) :: starEach [c] X.env := by rfl) (hs3 : starEach [c] X.env = (false, eval c X.env) :: starEach [] X.env := by rfl) : PA X [a, b, c] (tA3 B env os r s t w1 w2 w3) :=
  pa_cons ha (pa_cons (PE.ex hb) (pa_cons (PE.ex fun p : α × γ => hc p.1 p.2) pa_nil hs3) hs2) hs
/-- a, b = e1, e2, by the statement's rule -/
theorem b_par2 (cc : PS X (.Assign [.Tuple [.Name x px, .Name y py] kt pt] (.Tuple [a, b] k2 pt2) pos) (tPar i j (tA2 B env os r s w1 w2))) (hr : ∀ u v, BG X B ((env.set i (sv r u)).set j (sv s v)) os rest post (w4 u v)) :
    BG X B env os (.Assign [.Tuple [.Name x px, .Name y py] kt pt] (.Tuple [a, b] k2 pt2) pos :: rest) post (bnd w1 fun u => bnd (w2 u) fun v => w4 u v) :=
  PSs.imp (pss_cons cc (PSs.ex fun p : α × γ => hr p.1 p.2)) fun D σ H ⟨F, P, S, hw, k⟩ => ⟨F, _, S, hw, fun u hu v1 F1 H1 S1 e1 ok1 => ⟨u, F1, _, S1, hu, fun v hv v2 F2 H2 S2 e2 ok2 =>
    ⟨v1, v2, rfl, (u, v), F2, P, (S2.store (sl := sv r u) ⟨v1, rfl, r.mono e2 ok1⟩).store (sl := sv s v) ⟨v2, rfl, ok2⟩, hv, k⟩⟩⟩
theorem b_par2T (cc : PS X (.Assign [.Tuple [.Name x px, .Name y py] kt pt] (.Tuple [a, b] k2 pt2) pos) (tAsg (tTup (tA2 B env os r s w1 w2)) (gTup X.K 2 (gCons (gName i) (gCons (gName j) gNil))))) (hr : ∀ u v, BG X B ((env.set i (sv r u)).set j (sv s v)) os rest post (w4 u v)) :
    BG X B env os (.Assign [.Tuple [.Name x px, .Name y py] kt pt] (.Tuple [a, b] k2 pt2) pos :: rest) post (bnd w1 fun u => bnd (w2 u) fun v => w4 u v) :=
  PSs.imp (pss_cons cc (PSs.ex fun p : α × γ => hr p.1 p.2)) fun D σ H ⟨F, P, S, hw, k⟩ => ⟨F, _, S, hw, fun u hu v1 F1 H1 S1 e1 ok1 => ⟨u, F1, _, S1, hu, fun v hv v2 F2 H2 S2 e2 ok2 =>
    ⟨(by show 2 ≤ sizeLine; decide), fun p hp => by
      have g : Grow F2 H2 (upd F2 p (.tup [v1, v2])) (upd H2 p (.tup [v1, v2])) := Grow.alloc S2.fh hp
      have S3 := S2.grow g
      exact ⟨p, [v1, v2], rfl, SqT.of upd_same, rfl, v1, [v2], rfl, v2, [], rfl, rfl, (u, v), _, P, (S3.store (sl := sv r u) ⟨v1, rfl, r.mono (e2.trans g.f) ok1⟩).store (sl := sv s v) ⟨v2, rfl, s.mono g.f ok2⟩, hv, k⟩⟩⟩⟩
theorem b_par3 (cc : PS X (.Assign [.Tuple [.Name x px, .Name y py, .Name z pz] kt pt] (.Tuple [a, b, c] k2 pt2) pos) (tPar3 i j l (tA3 B env os r s t w1 w2 w3))) (hr : ∀ u v q, BG X B (((env.set i (sv r u)).set j (sv s v)).set l (sv t q)) os rest post (w5 u v q)) :
    BG X B env os (.Assign [.Tuple [.Name x px, .Name y py, .Name z pz] kt pt] (.Tuple [a, b, c] k2 pt2) pos :: rest) post (bnd w1 fun u => bnd (w2 u) fun v => bnd (w3 u v) fun q => w5 u v q) :=
  PSs.imp (pss_cons cc (PSs.ex fun p : α × γ × δ => hr p.1 p.2.1 p.2.2)) fun D σ H ⟨F, P, S, hw, k⟩ => ⟨F, _, S, hw, fun u hu v1 F1 H1 S1 e1 ok1 => ⟨u, F1, _, S1, hu, fun v hv v2 F2 H2 S2 e2 ok2 => ⟨(u, v), F2, _, S2, hv, fun q hq v3 F3 H3 S3 e3 ok3 =>
    ⟨v1, v2, v3, rfl, (u, v, q), F3, P, ((S3.store (sl := sv r u) ⟨v1, rfl, r.mono (e2.trans e3) ok1⟩).store (sl := sv s v) ⟨v2, rfl, s.mono e3 ok2⟩).store (sl := sv t q) ⟨v3, rfl, ok3⟩, hq, k⟩⟩⟩⟩
theorem b_par3T (cc : PS X (.Assign [.Tuple [.Name x px, .Name y py, .Name z pz] kt pt] (.Tuple [a, b, c] k2 pt2) pos) (tAsg (tTup (tA3 B env os r s t w1 w2 w3)) (gTup X.K 3 (gCons (gName i) (gCons (gName j) (gCons (gName l) gNil)))))) (hr : ∀ u v q, BG X B (((env.set i (sv r u)).set j (sv s v)).set l (sv t q)) os rest post (w5 u v q)) :
    BG X B env os (.Assign [.Tuple [.Name x px, .Name y py, .Name z pz] kt pt] (.Tuple [a, b, c] k2 pt2) pos :: rest) post (bnd w1 fun u => bnd (w2 u) fun v => bnd (w3 u v) fun q => w5 u v q) :=
  PSs.imp (pss_cons cc (PSs.ex fun p : α × γ × δ => hr p.1 p.2.1 p.2.2)) fun D σ H ⟨F, P, S, hw, k⟩ => ⟨F, _, S, hw, fun u hu v1 F1 H1 S1 e1 ok1 => ⟨u, F1, _, S1, hu, fun v hv v2 F2 H2 S2 e2 ok2 => ⟨(u, v), F2, _, S2, hv, fun q hq v3 F3 H3 S3 e3 ok3 =>
    ⟨(by show 3 ≤ sizeLine; decide), fun p hp => by
      have g : Grow F3 H3 (upd F3 p (.tup [v1, v2, v3])) (upd H3 p (.tup [v1, v2, v3])) := Grow.alloc S3.fh hp
      have S4 := S3.grow g
      exact ⟨p, [v1, v2, v3], rfl, SqT.of upd_same, rfl, v1, [v2, v3], rfl, v2, [v3], rfl, v3, [], rfl, rfl, (u, v, q), _, P, ((S4.store (sl := sv r u) ⟨v1, rfl, r.mono ((e2.trans e3).trans g.f) ok1⟩).store (sl := sv s v) ⟨v2, rfl, s.mono (e3.trans g.f) ok2⟩).store (sl := sv t q) ⟨v3, rfl, t.mono g.f ok3⟩, hq, k⟩⟩⟩⟩⟩
/-- the first a new list of one's own, the others plain -/
theorem b_own3T {w1 : W (List α)} {v2 : γ} {v3 : δ} {w5 : List α → W β} (cc : PS X (.Assign [.Tuple [.Name x px, .Name y py, .Name z pz] kt pt] (.Tuple [a, b, c] k2 pt2) pos) (tAsg (tTup (tO3 B env os r s t w1 v2 v3)) (gTup X.K 3 (gCons (gName i) (gCons (gName j) (gCons (gName l) gNil))))))
    (hr : ∀ u xs, BG X B (((env.set i (sv (rAdr u) ())).set j (sv s v2)).set l (sv t v3)) ((u, oLst r xs) :: os) rest post (w5 xs)) :
    BG X B env os (.Assign [.Tuple [.Name x px, .Name y py, .Name z pz] kt pt] (.Tuple [a, b, c] k2 pt2) pos :: rest) post (bnd w1 w5) :=
  PSs.imp (pss_cons cc (PSs.ex fun p : Addr × List α => hr p.1 p.2)) fun D σ H ⟨F, P, S, hw, k⟩ => ⟨F, _, S, hw, fun xs hx u F1 H1 S1 e1 => ⟨(u, xs), F1, fun q => q = v2, S1, rfl, fun q hq v2' F2 H2 S2 e2 ok2 => ⟨(u, xs), F2, fun q => q = v3, S2, rfl, fun q3 hq3 v3' F3 H3 S3 e3 ok3 => by
    subst hq hq3
    refine ⟨(by show 3 ≤ sizeLine; decide), fun p hp => ?_⟩
    have g : Grow F3 H3 (upd F3 p (.tup [V.ref u, v2', v3'])) (upd H3 p (.tup [V.ref u, v2', v3'])) := Grow.alloc S3.fh hp
    have S4 := S3.grow g
    exact ⟨p, [V.ref u, v2', v3'], rfl, SqT.of upd_same, rfl, V.ref u, [v2', v3'], rfl, v2', [v3'], rfl, v3', [], rfl, rfl, (u, xs), _, P, ((S4.store (sl := sv (rAdr u) ()) ⟨V.ref u, rfl, rfl⟩).store (sl := sv s q) ⟨v2', rfl, s.mono (e3.trans g.f) ok2⟩).store (sl := sv t q3) ⟨v3', rfl, t.mono g.f ok3⟩, hx, k⟩⟩⟩⟩
theorem b_own3 {w1 : W (List α)} {v2 : γ} {v3 : δ} {w5 : List α → W β} (cc : PS X (.Assign [.Tuple [.Name x px, .Name y py, .Name z pz] kt pt] (.Tuple [a, b, c] k2 pt2) pos) (tPar3 i j l (tO3 B env os r s t w1 v2 v3)))
    (hr : ∀ u xs, BG X B (((env.set i (sv (rAdr u) ())).set j (sv s v2)).set l (sv t v3)) ((u, oLst r xs) :: os) rest post (w5 xs)) :
    BG X B env os (.Assign [.Tuple [.Name x px, .Name y py, .Name z pz] kt pt] (.Tuple [a, b, c] k2 pt2) pos :: rest) post (bnd w1 w5) :=
  PSs.imp (pss_cons cc (PSs.ex fun p : Addr × List α => hr p.1 p.2)) fun D σ H ⟨F, P, S, hw, k⟩ => ⟨F, _, S, hw, fun xs hx u F1 H1 S1 e1 => ⟨(u, xs), F1, fun q => q = v2, S1, rfl, fun q hq v2' F2 H2 S2 e2 ok2 => ⟨(u, xs), F2, fun q => q = v3, S2, rfl, fun q3 hq3 v3' F3 H3 S3 e3 ok3 => by
    subst hq hq3
    exact ⟨V.ref u, v2', v3', rfl, (u, xs), F3, P, ((S3.store (sl := sv (rAdr u) ()) ⟨V.ref u, rfl, rfl⟩).store (sl := sv s q) ⟨v2', rfl, s.mono e3 ok2⟩).store (sl := sv t q3) ⟨v3', rfl, ok3⟩, hx, k⟩⟩⟩⟩
theorem paO3 {w1 : W (List α)} {v2 : γ} {v3 : δ} (ha : EN X B env os a r w1) (hb : ∀ u xs, EE X B env ((u, oLst r xs) :: os) b s (ret v2)) (hc : ∀ u xs, EE X B env ((u, oLst r xs) :: os) c t (ret v3)) (hs : starEach [a, b, c] X.env = (false, eval a X.env) :: starEach [b, c] X.env := by rfl)
    (hs2 : starEach [b, c] X.env = (false, eval b X.env) :: starEach [c] X.env := by rfl) (hs3 : starEach [c] X.env = (false, eval c X.env) :: starEach [] X.env := by rfl) : PA X [a, b, c] (tO3 B env os r s t w1 v2 v3) :=
  pa_cons ha (pa_cons (PE.ex fun p : Addr × List α => hb p.1 p.2) (pa_cons (PE.ex fun p : Addr × List α => hc p.1 p.2) pa_nil hs3) hs2) hs
/-- xs[i], xs[j] = e1, e2 for one's own list xs -/
theorem b_swap {a0 : Addr} {xs : List α} {ei ej : Expr} {w1 w2 : W α} {w3 : W Int} {w4 : List α → W Int} {w5 : List α → W β} {i j : Nat} (hi : env[i]? = some (sv (rAdr a0) ())) (hj : os[j]? = some (a0, oLst r xs))
    (hr : ∀ ys, BG X B env (os.set j (a0, oLst r ys)) rest post (w5 ys))
    (cc : PS X (.Assign [.Tuple [.Subscript (.Name x px) ei py, .Subscript (.Name x pz) ej pt] kt pt2] e pos)
      (tAsg (tTup (tCons (tOf B env os r w1) (tCons (tOf B env os r w2) tNil))) (gTup X.K 2 (gCons (gSub (tVar i) (tOf B env os rInt w3) rSetL) (gCons (gSub (tVar i) (fun σ H Q => ∃ ys, tOf B env (os.set j (a0, oLst r ys)) rInt (w4 ys) σ H Q) rSetL) gNil))))) :
    BG X B env os (.Assign [.Tuple [.Subscript (.Name x px) ei py, .Subscript (.Name x pz) ej pt] kt pt2] e pos :: rest) post
      (bnd w1 fun u => bnd w2 fun v => bnd w3 fun k1 => bnd (putL xs k1 u) fun ys => bnd (w4 ys) fun k2 => bnd (putL ys k2 v) w5) :=
  PSs.imp (pss_cons cc (PSs.ex hr)) fun D σ H ⟨F, P, S, hw, k⟩ => ⟨F, _, S, hw, fun u hu v1 F1 H1 S1 e1 ok1 => ⟨F1, _, S1, hu, fun v hv v2 F2 H2 S2 e2 ok2 => ⟨(by show 2 ≤ sizeLine; decide), fun p hp => by
  have g : Grow F2 H2 (upd F2 p (.tup [v1, v2])) (upd H2 p (.tup [v1, v2])) := Grow.alloc S2.fh hp
  have S3 := S2.grow g
  obtain ⟨g1, _, _, _, _, _⟩ := S3.own hi hj
  refine ⟨p, [v1, v2], rfl, SqT.of upd_same, rfl, v1, [v2], rfl, ⟨.ref a0, g1, _, _, S3, hv, fun k1 hk1 vk F4 H4 S4 e4 ok4 => ?_⟩⟩
  obtain ⟨_, _, vs, h3, h4, h5⟩ := S4.own hi hj
  obtain ⟨l1, hl1, pl1⟩ := putL_of hk1
  refine ⟨a0, vs, k1, l1, rfl, ok4, h3, by rw [h5.length]; exact hl1, v2, [], rfl, ?_⟩
  have S5 := S4.change (ow' := oLst r (xs.set l1 u)) (o' := .lst (vs.set l1 v1)) hj ⟨_, rfl, by rw [List.length_set]; exact h4, Paired.setR (r.mono ((e2.trans g.f).trans e4) ok1) h5⟩
  have hjl : j < os.length := (List.getElem?_eq_some_iff.mp hj).1
  have hj5 : (os.set j (a0, oLst r (xs.set l1 u)))[j]? = some (a0, oLst r (xs.set l1 u)) := List.getElem?_set_self hjl
  obtain ⟨g5, _, _, _, _, _⟩ := S5.own hi hj5
  refine ⟨.ref a0, g5, xs.set l1 u, F4, _, S5, pl1, fun k2 hk2 vk2 F6 H6 S6 e6 ok6 => ?_⟩
  obtain ⟨_, _, vs6, h63, h64, h65⟩ := S6.own hi hj5
  obtain ⟨l2, hl2, pl2⟩ := putL_of hk2
  refine ⟨a0, vs6, k2, l2, rfl, ok6, h63, by rw [h65.length]; exact hl2, rfl, ?_⟩
  have S7 := S6.change (ow' := oLst r ((xs.set l1 u).set l2 v)) (o' := .lst (vs6.set l2 v2)) hj5 ⟨_, rfl, by rw [List.length_set]; exact h64, Paired.setR (r.mono ((g.f.trans e4).trans e6) ok2) h65⟩
  rw [List.set_set] at S7
  exact ⟨_, F6, P, S7, pl2, k⟩⟩⟩⟩
end
end Mi

namespace Mi
open PySem L2 Evl

/-! ### calls by keywords alone -/
/-- how keywords ks bind: g puts their values in the parameters' order -/
def KwB (K : PySem.W.Frag) (fd : FuncData) (ps ks : List Str) (g : {α : Type} → List α → List α) : Prop := ∀ (s : Shared) (ws : List Value), K.In s.heap → ws.length = ks.length → BindsTo s fd ⟨[], ks.zip ws⟩ (ps.zip (g ws))
/-- a def without defaults -/
theorem kwB_of {K : PySem.W.Frag} {x qual : Str} {st : Stmt} {f : Addr} {fd : FuncData} {ps ks : List Str} {g : {α : Type} → List α → List α} (F : Fun K x qual st f fd)
    (h : ∀ (kV doc pm : Value) (an : Option Addr) (cdv ct : Value) (ws : List Value), ws.length = ks.length → bindArgs (PySem.W.fnOf x qual (defArgs st) (defBody st) (defScope st) .none kV doc pm an cdv ct) ⟨[], ks.zip ws⟩ = pure (ps.zip (g ws))) : KwB K fd ps ks g := by
  obtain ⟨oc, od, kV, doc, pm, an, cdv, ct, osl, rfl, lk, hcd⟩ := F.ex
  exact fun s ws _ hl => .of_eq (h kV doc pm an cdv ct ws hl)
def tKK (B : Bs) (env : Env) (os : Os) {ι : Type} (sl : ι → Env) (w : W ι) : TA := tAA B env os sl w
def KK (X : Cx) (B : Bs) (env : Env) (os : Os) (kws : List Keyword) {ι : Type} (sl : ι → Env) (w : W ι) : Prop := PK X kws (tKK B env os sl w)
section
variable {X : Cx} {B : Bs} {env : Env} {os : Os} {pos p : Pos} {α β ι κ ρ : Type} {r : Rp α} {sl : κ → Env} {args : ι → Env} {osf : ι → Os} {wf : ι → W ρ} {ro : Rp ρ} {e : Expr} {kws : List Keyword} {x : Str} {k : Nat} {f : Addr} {fd : FuncData} {ps ks : List Str} {g : {α : Type} → List α → List α}
theorem PK.imp {t t' : TA} (h : PK X kws t) (i : ∀ σ H Q, t' σ H Q → t σ H Q) : PK X kws t' := ⟨fun pos pins s σ H Q I q => h.run pos pins s σ H Q I (i _ _ _ q)⟩
theorem PK.ex {ι : Type} {t : ι → TA} (h : ∀ i, PK X kws (t i)) : PK X kws (fun σ H Q => ∃ i, t i σ H Q) := ⟨fun pos pins s σ H Q I ⟨i, q⟩ => (h i).run pos pins s σ H Q I q⟩
theorem kk_nil : KK X B env os [] (fun _ : Unit => []) (ret ()) := PK.imp pk_nil fun σ H Q ⟨F, P, S, hw, k⟩ => k () hw [] F H S (Ex.refl F) .nil
theorem kk_cons {nm : Option Str} {kpos : Pos} {w1 : W α} {w2 : α → W κ} (h : EE X B env os e r w1) (ht : ∀ y, KK X B env os kws sl (w2 y)) : KK X B env os (⟨nm, e, kpos⟩ :: kws) (fun q : α × κ => sv r q.1 :: sl q.2) (bnd w1 fun y => bnd (w2 y) fun i => ret (y, i)) :=
  PK.imp (pk_cons h (PK.ex ht)) fun σ H Q ⟨F, P, S, hw, k⟩ => ⟨F, _, S, hw, fun y hy v F1 H1 S1 e1 ok1 => ⟨y, F1, _, S1, hy, fun i hi vs F2 H2 S2 e2 ok2 => k _ hi (v :: vs) F2 H2 S2 (e1.trans e2) (.cons ⟨v, rfl, r.mono e2 ok1⟩ ok2)⟩⟩
/-- f(k = v, ..) -/
theorem e_callK {w : W κ} {conv : κ → ι} (G : FnOk X.prog X.w X.K X.mg X.base CX0 k f fd ps (spW args osf wf ro)) (hr : Room k X.A) (hm : X.mg x = some (.ref f)) (hk : PySem.W.keepIn X.K (.ref f) = true) (hb : KwB X.K fd ps ks g)
    (hrel : ∀ {vs : List V} {us : List Value}, Vals vs us → Vals (g vs) (g us)) (hconv : ∀ q vs F, EnvOk F (sl q) (vs.map some) → EnvOk F (args (conv q)) ((g vs).map some))
    (hkw : KK X B env os kws sl w) (ho : ∀ i, OsLe os (osf i)) (hnd : ∀ i, ((osf i).map (·.1)).Nodup) (hln : ∀ q, (sl q).length = ks.length) (hall : (backToKw pos (keywordEach kws X.env)).all (·.1.isSome) = true := by rfl) (hks : (backToKw pos (keywordEach kws X.env)).filterMap (·.1) = ks := by rfl)
    (hg : Gl X x := by rfl) (hdb : (x == ("__debug__" : Str)) = false := by decide) (hpl : ((backTo pos (starEach [] X.env)).any (·.1) || (backToKw pos (keywordEach kws X.env)).any (·.1.isNone)) = false := by rfl) :
    EE X B env os (.Call (.Name x p) [] kws pos) ro (bnd w fun q => noX (wf (conv q))) := by
  refine ⟨fun pins s σ H Q I h => ?_⟩
  refine wpAny_Call_Name_kw (ld_glob I hg hm ?_ hdb)
  refine PySem.W.callWith_KW0 (h₀ := X.base) I.ok.mod.kin hk hall ?_ hpl
  obtain ⟨F, P, S, hw, kk⟩ := h
  refine thn (hkw.run pos pins s σ H (fun zs H2 => ∃ us' : Unit, zs.length = ks.length ∧ spW args osf wf ro (g zs) H2 Q E0) I ⟨F, _, S, hw, fun q hq vs F1 H1 S1 e1 ok => ⟨(), ?_, conv q, F1, P, S1.fh, hconv q vs F1 ok, fun p hp => ?_, hnd _, hq, fun y hy v F2 H2 fn ow okv => ?_⟩⟩) fun ws s2 ⟨zs, H2, I2, rz, _, l2, q2⟩ => ⟨I2.kIn, ?_⟩
  · have := ok.len
    rw [List.length_map, hln q] at this
    exact this.symm
  · obtain ⟨h1, h2, _⟩ := S1.ow p (ho _ p hp)
    exact ⟨h1, h2⟩
  · exact kk y hy v F2 H2 (S1.back (ho _) fn ow) (e1.trans fn.bf) okv
  · rw [hks]
    have r2 : Vals (g zs) (g ws) := hrel rz
    have b := hb s2 ws I2.kIn (rz.length.symm.trans l2)
    refine wpAny_call (codeAny_mono (G.run X.A X.stack s2 H2 ⟨[], ks.zip ws⟩ (g ws) (g zs) Q E0 hr I2.env0 b r2 q2) fun res s' hq => ?_)
    cases res with
    | error e => exact False.elim hq
    | ok fl =>
      cases fl with
      | ret u => exact I2.after hq
      | next => exact False.elim hq
      | brk => exact False.elim hq
      | cont => exact False.elim hq
end
theorem swap_vals {vs : List V} {us : List Value} (h : Vals vs us) : Vals vs.reverse us.reverse := by
  induction h with
  | nil => exact .nil
  | cons r t ih =>
    rw [List.reverse_cons, List.reverse_cons]
    exact Vals.append ih (.cons r .nil)

/-! ### small things for printed proofs -/
theorem OsLe.mem {os : Os} {p : Addr × Own} (h : p ∈ os) : OsLe os [p] := fun q hq => by
  rcases List.mem_cons.mp hq with e | e
  · exact e ▸ h
  · cases e
theorem OsLe.none {os : Os} : OsLe os [] := fun q hq => by cases hq
/-- behind a loop that may be left by return -/
def flEnd {S ρ β : Type} (inj : ρ → β) (k : S → W β) : Fl S ρ → W β
  | .rt x => ret (inj x)
  | .nx s => k s
  | .bk _ => fail
  | .ct _ => fail
@[simp] theorem flEnd_rt {S ρ β : Type} (inj : ρ → β) (k : S → W β) (x : ρ) : flEnd inj k (.rt x) = ret (inj x) := rfl
@[simp] theorem flEnd_nx {S ρ β : Type} (inj : ρ → β) (k : S → W β) (s : S) : flEnd inj k (.nx s) = k s := rfl
section
variable {X : Cx} {B : Bs} {env : Env} {os : Os} {pos : Pos} {α β : Type} {r : Rp α} {f : α → PyData} {n : Nat}
theorem eqv_nil {xs : List α} : PyData.eqv (.list (xs.map f)) (.list []) = xs.isEmpty := by
  cases xs <;> simp [PyData.eqv, PyData.eqvAll]
/-- found == [], found != [], found one's own list -/
theorem e_eqNilO (i j : Nat) {x : Str} {p1 p2 : Pos} {a : Addr} {xs : List α} (hu : X.A.units + 64 < cLine) (d : DD X.K r f n) (hi : env[i]? = some (sv (rAdr a) ())) (hj : os[j]? = some (a, oLst r xs)) (hn : n + 1 ≤ 64 := by decide) (hN : X.N[i]? = some x := by rfl)
    (hv : Vis X.env.scope x := by first | exact Or.inl rfl | exact Or.inr (Or.inl rfl) | exact Or.inr (Or.inr rfl)) (hd : (x == ("__debug__" : Str)) = false := by decide) (hcd : (x == ("__classdict__" : Str)) = false := by decide) :
    EE X B env os (.Compare (.Name x p1) [.Eq] [.List [] p2] pos) rBool (ret xs.isEmpty) :=
  PE.imp (pe_cmpR (op_eqD hu) (pe_var hN hv hd hcd) (pe_lst pa_nil) (nomark _)) fun σ H Q ⟨F, P, S, hw, k⟩ => by
  obtain ⟨g1, g2, vs, g3, g4, g5⟩ := S.own hi hj
  refine ⟨.ref a, g1, Nat.zero_le _, fun p hp => ?_⟩
  have g : Grow F H (upd F p (.lst [])) (upd H p (.lst [])) := Grow.alloc S.fh hp
  have S2 := S.grow g
  obtain ⟨k1, k2, k3⟩ := dd_all d (F := upd H p (.lst [])) (Paired.imp (fun _ _ => r.mono (g.f.trans S2.fh)) g5)
  refine ⟨.list (xs.map f), .list [], .lst (SqL.of (Ex.new hp _ _ g3)) k1, .lst (SqL.of upd_same) .nil, shaped_of (n := n + 1) (by rw [PyData.canLay0]; exact k2) (by rw [PyData.depth]; omega) hn, by decide, ?_⟩
  rw [eqv_nil]
  exact k _ hw _ _ _ S2 g.f rfl
theorem e_neNilO (i j : Nat) {x : Str} {p1 p2 : Pos} {a : Addr} {xs : List α} (hu : X.A.units + 64 < cLine) (d : DD X.K r f n) (hi : env[i]? = some (sv (rAdr a) ())) (hj : os[j]? = some (a, oLst r xs)) (hn : n + 1 ≤ 64 := by decide) (hN : X.N[i]? = some x := by rfl)
    (hv : Vis X.env.scope x := by first | exact Or.inl rfl | exact Or.inr (Or.inl rfl) | exact Or.inr (Or.inr rfl)) (hd : (x == ("__debug__" : Str)) = false := by decide) (hcd : (x == ("__classdict__" : Str)) = false := by decide) :
    EE X B env os (.Compare (.Name x p1) [.NotEq] [.List [] p2] pos) rBool (ret (!xs.isEmpty)) :=
  PE.imp (pe_cmpR (op_neD hu) (pe_var hN hv hd hcd) (pe_lst pa_nil) (nomark _)) fun σ H Q ⟨F, P, S, hw, k⟩ => by
  obtain ⟨g1, g2, vs, g3, g4, g5⟩ := S.own hi hj
  refine ⟨.ref a, g1, Nat.zero_le _, fun p hp => ?_⟩
  have g : Grow F H (upd F p (.lst [])) (upd H p (.lst [])) := Grow.alloc S.fh hp
  have S2 := S.grow g
  obtain ⟨k1, k2, k3⟩ := dd_all d (F := upd H p (.lst [])) (Paired.imp (fun _ _ => r.mono (g.f.trans S2.fh)) g5)
  refine ⟨.list (xs.map f), .list [], .lst (SqL.of (Ex.new hp _ _ g3)) k1, .lst (SqL.of upd_same) .nil, shaped_of (n := n + 1) (by rw [PyData.canLay0]; exact k2) (by rw [PyData.depth]; omega) hn, by decide, ?_⟩
  rw [eqv_nil]
  exact k _ hw _ _ _ S2 g.f rfl
end
end Mi

namespace Mi
open PySem L2 Evl

section
variable {X : Cx} {B : Bs} {env : Env} {os : Os} {pos : Pos} {α β γ ρ S : Type} {r : Rp α} {s : Rp β} {f : α → PyData} {g : β → PyData} {n m : Nat} {e a b tg : Expr}
/-! ### other words for the same -/
theorem t_conv {w w' : W Bool} (h : ET X B env os e w) (q : w' = w) : ET X B env os e w' := q ▸ h
theorem n_conv {w w' : W (List α)} (h : EN X B env os e r w) (q : w' = w) : EN X B env os e r w' := q ▸ h
theorem s_conv {w w' : W (List α)} (h : ES X B env os tg e r w) (q : w' = w) : ES X B env os tg e r w' := q ▸ h
/-! the mirror's words put in one line (told so that no unfolding is asked of the kernel) -/
theorem wn_br {α β : Type} (x : α) (f : α → W β) : bnd (ret x) f = f x := funext fun _ => rfl
theorem wn_rb {α : Type} (m : W α) : bnd m ret = m := funext fun _ => rfl
theorem wn_bb {α β γ : Type} (m : W α) (f : α → W β) (g : β → W γ) : bnd (bnd m f) g = bnd m fun x => bnd (f x) g := funext fun _ => rfl
theorem wn_cb {c : Prop} {α β : Type} (w : W α) (f : α → W β) : bnd (chk c w) f = chk c (bnd w f) := funext fun _ => rfl
/-! ### comparisons as tests -/
section
variable {w1 : W Int} {w2 : Int → W Int}
theorem t_lt (ha : EE X B env os a rInt w1) (hb : ∀ x, EE X B env os b rInt (w2 x)) : ET X B env os (.Compare a [.Lt] [b] pos) (bnd w1 fun x => bnd (w2 x) fun y => ret (decide (x < y))) := t_cmp op_lt (r2i fun _ _ _ => rfl) (nomark _) ha hb
theorem t_le (ha : EE X B env os a rInt w1) (hb : ∀ x, EE X B env os b rInt (w2 x)) : ET X B env os (.Compare a [.LtE] [b] pos) (bnd w1 fun x => bnd (w2 x) fun y => ret (decide (x ≤ y))) := t_cmp op_le (r2i fun _ _ _ => rfl) (nomark _) ha hb
theorem t_gt (ha : EE X B env os a rInt w1) (hb : ∀ x, EE X B env os b rInt (w2 x)) : ET X B env os (.Compare a [.Gt] [b] pos) (bnd w1 fun x => bnd (w2 x) fun y => ret (decide (y < x))) := t_cmp op_gt (r2i fun _ _ _ => rfl) (nomark _) ha hb
theorem t_ge (ha : EE X B env os a rInt w1) (hb : ∀ x, EE X B env os b rInt (w2 x)) : ET X B env os (.Compare a [.GtE] [b] pos) (bnd w1 fun x => bnd (w2 x) fun y => ret (decide (y ≤ x))) := t_cmp op_ge (r2i fun _ _ _ => rfl) (nomark _) ha hb
theorem t_eqI (ha : EE X B env os a rInt w1) (hb : ∀ x, EE X B env os b rInt (w2 x)) : ET X B env os (.Compare a [.Eq] [b] pos) (bnd w1 fun x => bnd (w2 x) fun y => ret (decide (x = y))) := t_cmp op_eq sem_eqI (nomark _) ha hb
theorem t_neI (ha : EE X B env os a rInt w1) (hb : ∀ x, EE X B env os b rInt (w2 x)) : ET X B env os (.Compare a [.NotEq] [b] pos) (bnd w1 fun x => bnd (w2 x) fun y => ret (!decide (x = y))) := t_cmp op_ne sem_neI (nomark _) ha hb
end
theorem t_eqS {w1 : W Str} {w2 : Str → W Str} (ha : EE X B env os a rStr w1) (hb : ∀ x, EE X B env os b rStr (w2 x)) : ET X B env os (.Compare a [.Eq] [b] pos) (bnd w1 fun x => bnd (w2 x) fun y => ret (decide (x = y))) := t_cmp op_eq sem_eqS (nomark _) ha hb
theorem t_neS {w1 : W Str} {w2 : Str → W Str} (ha : EE X B env os a rStr w1) (hb : ∀ x, EE X B env os b rStr (w2 x)) : ET X B env os (.Compare a [.NotEq] [b] pos) (bnd w1 fun x => bnd (w2 x) fun y => ret (!decide (x = y))) := t_cmp op_ne sem_neS (nomark _) ha hb
theorem t_eqD {w1 : W α} {w2 : α → W β} (hu : X.A.units + 64 < cLine) (d : DD X.K r f n) (e : DD X.K s g m) (ha : EE X B env os a r w1) (hb : ∀ x, EE X B env os b s (w2 x)) (hn : n ≤ 64 := by decide) (hm : m ≤ 64 := by decide) : ET X B env os (.Compare a [.Eq] [b] pos) (bnd w1 fun x => bnd (w2 x) fun y => ret (PyData.eqv (f x) (g y))) := t_cmp (op_eqD hu) (sem_eqD d e hn hm) (nomark _) ha hb
theorem t_neD {w1 : W α} {w2 : α → W β} (hu : X.A.units + 64 < cLine) (d : DD X.K r f n) (e : DD X.K s g m) (ha : EE X B env os a r w1) (hb : ∀ x, EE X B env os b s (w2 x)) (hn : n ≤ 64 := by decide) (hm : m ≤ 64 := by decide) : ET X B env os (.Compare a [.NotEq] [b] pos) (bnd w1 fun x => bnd (w2 x) fun y => ret (!PyData.eqv (f x) (g y))) := t_cmp (op_neD hu) (sem_neD d e hn hm) (nomark _) ha hb
theorem t_eqNilO (i j : Nat) {x : Str} {p1 p2 : Pos} {a : Addr} {xs : List α} (hu : X.A.units + 64 < cLine) (d : DD X.K r f n) (hi : env[i]? = some (sv (rAdr a) ())) (hj : os[j]? = some (a, oLst r xs)) (hn : n + 1 ≤ 64 := by decide) (hN : X.N[i]? = some x := by rfl)
    (hv : Vis X.env.scope x := by first | exact Or.inl rfl | exact Or.inr (Or.inl rfl) | exact Or.inr (Or.inr rfl)) (hd : (x == ("__debug__" : Str)) = false := by decide) (hcd : (x == ("__classdict__" : Str)) = false := by decide) :
    ET X B env os (.Compare (.Name x p1) [.Eq] [.List [] p2] pos) (ret xs.isEmpty) :=
  PT.imp (pt_cmpR (op_eqD hu) (pe_var hN hv hd hcd) (pe_lst pa_nil) (nomark _)) fun σ H Q ⟨F, P, S, hw, k⟩ => by
  obtain ⟨g1, g2, vs, g3, g4, g5⟩ := S.own hi hj
  refine ⟨.ref a, g1, Nat.zero_le _, fun p hp => ?_⟩
  have g : Grow F H (upd F p (.lst [])) (upd H p (.lst [])) := Grow.alloc S.fh hp
  have S2 := S.grow g
  obtain ⟨k1, k2, k3⟩ := dd_all d (F := upd H p (.lst [])) (Paired.imp (fun _ _ => r.mono (g.f.trans S2.fh)) g5)
  refine ⟨.list (xs.map f), .list [], .lst (SqL.of (Ex.new hp _ _ g3)) k1, .lst (SqL.of upd_same) .nil, shaped_of (n := n + 1) (by rw [PyData.canLay0]; exact k2) (by rw [PyData.depth]; omega) hn, by decide, ?_⟩
  rw [eqv_nil]
  exact ⟨_, rfl, k _ hw _ _ S2 g.f⟩
theorem t_neNilO (i j : Nat) {x : Str} {p1 p2 : Pos} {a : Addr} {xs : List α} (hu : X.A.units + 64 < cLine) (d : DD X.K r f n) (hi : env[i]? = some (sv (rAdr a) ())) (hj : os[j]? = some (a, oLst r xs)) (hn : n + 1 ≤ 64 := by decide) (hN : X.N[i]? = some x := by rfl)
    (hv : Vis X.env.scope x := by first | exact Or.inl rfl | exact Or.inr (Or.inl rfl) | exact Or.inr (Or.inr rfl)) (hd : (x == ("__debug__" : Str)) = false := by decide) (hcd : (x == ("__classdict__" : Str)) = false := by decide) :
    ET X B env os (.Compare (.Name x p1) [.NotEq] [.List [] p2] pos) (ret (!xs.isEmpty)) :=
  PT.imp (pt_cmpR (op_neD hu) (pe_var hN hv hd hcd) (pe_lst pa_nil) (nomark _)) fun σ H Q ⟨F, P, S, hw, k⟩ => by
  obtain ⟨g1, g2, vs, g3, g4, g5⟩ := S.own hi hj
  refine ⟨.ref a, g1, Nat.zero_le _, fun p hp => ?_⟩
  have g : Grow F H (upd F p (.lst [])) (upd H p (.lst [])) := Grow.alloc S.fh hp
  have S2 := S.grow g
  obtain ⟨k1, k2, k3⟩ := dd_all d (F := upd H p (.lst [])) (Paired.imp (fun _ _ => r.mono (g.f.trans S2.fh)) g5)
  refine ⟨.list (xs.map f), .list [], .lst (SqL.of (Ex.new hp _ _ g3)) k1, .lst (SqL.of upd_same) .nil, shaped_of (n := n + 1) (by rw [PyData.canLay0]; exact k2) (by rw [PyData.depth]; omega) hn, by decide, ?_⟩
  rw [eqv_nil]
  exact ⟨_, rfl, k _ hw _ _ S2 g.f⟩
/-! ### texts put together -/
theorem strOk_app {x y : Str} (h1 : PyData.strOk x = true) (h2 : PyData.strOk y = true) : PyData.strOk (x ++ y) = true := by
  unfold PyData.strOk at *
  show (x.cps ++ y.cps).all _ = true
  rw [Array.all_append, h1, h2]
  rfl
def catS (x y : Str) : W Str := chk (x.length + y.length ≤ sizeLine) (ret (x ++ y))
theorem sem_catS : R2T (fun x y H Q => ∃ i j, x = .str i ∧ y = .str j ∧ i.length + j.length ≤ sizeLine ∧ Q (.str (i ++ j)) H) rStr rStr rStr catS := fun F H v u x y P E Q fh ⟨o1, _, o2⟩ ⟨p1, _, p2⟩ ⟨c, hw⟩ k =>
  ⟨x, y, o1, p1, c, k _ hw _ F H (Grow.refl fh) ⟨rfl, by
    show (x.cps ++ y.cps).size ≤ sizeLine
    rw [Array.size_append]
    exact c, strOk_app o2 p2⟩⟩
theorem e_catS {w1 : W Str} {w2 : Str → W Str} (ha : EE X B env os a rStr w1) (hb : ∀ x, EE X B env os b rStr (w2 x)) : EE X B env os (.BinOp a .Add b pos) rStr (bnd w1 fun x => bnd (w2 x) fun y => catS x y) := e_op op_add_str sem_catS ha hb

/-! ### what a loop's turn leaves behind -/
theorem Sit.sub {F H : Hp} {σ : L2.St} {os' : Os} (s : Sit B F H σ env os) (h : os'.Sublist os) : Sit B F H σ env os' := ⟨s.fin, s.env, fun p hp => s.ow p (h.subset hp), s.nd.sublist (h.map _)⟩
theorem NxOk.nxS {envS : S → Env} {osS : S → Os} {s : S} (h : EnvLe env (envS s)) (ho : (osS s).Sublist os) : NxOk B (pNx B envS osS) env os s := ⟨fun D q σ F H z => q σ F H ((z.le h).sub ho)⟩
theorem NxOk.flS {osR : Os} {ro : Rp ρ} {envS : S → Env} {osS : S → Os} {s : S} (h : EnvLe env (envS s)) (ho : (osS s).Sublist os) : NxOk B (pFl B osR ro envS osS) env os (.nx s) := ⟨fun D q σ F H z => q σ F H ((z.le h).sub ho)⟩
end

/-! ### the bag, made -/
/-- bag(script): a new list of the script's first cells and four ints -/
def spBag (K : PySem.W.Frag) : Sp := fun vs H Q _ => ∃ (a : Addr) (ns : List Int), vs = [.ref a] ∧ SqL K H a (ns.map V.int) ∧ ns.length ≤ sizeLine ∧ ∀ (b c : Addr) (cells : List Int) (m : Int) (H' : Hp), Ex H H' → H b = none → H c = none → b ≠ c → cells.length ≤ sizeLine →
  H' c = some (.lst (cells.map V.int)) → H' b = some (.lst [.ref c, .int 0, .int 0, .int m, .int 0]) → Q (.ref b) H'
section
variable {X : Cx} {B : Bs} {env : Env} {os : Os} {pos pos' p : Pos} {β : Type} {e : Expr} {rest : List Stmt} {post : Post β}
theorem ints_paired {F : Hp} : ∀ xs : List Int, Paired (rInt.ok F) (xs.map V.int) xs
  | [] => .nil
  | _ :: xs => .cons rfl (ints_paired xs)
theorem b_bag (i : Nat) {x bagf : Str} {k : Nat} {f : Addr} {fd : FuncData} {ps : List Str} {xs : List Int} {w : W β} (G : FnOk X.prog X.w X.K X.mg X.base CX0 k f fd ps (spBag X.K)) (hr : Room k X.A) (hm : X.mg bagf = some (.ref f)) (hk : PySem.W.keepIn X.K (.ref f) = true) (hb : Binds X.K fd ps [])
    (he : EE X B env os e (rScr X.K) (ret xs)) (hrest : ∀ b cells, BG X B (env.set i (sv (rAdr b) ())) ((b, oBag cells) :: os) rest post w) (hN : X.N.Nodup) (hi : X.N[i]? = some x := by rfl)
    (hx : Loc X.env.scope x := by first | exact Or.inl rfl | exact Or.inr rfl) (hg : Gl X bagf := by rfl) (hdb : (bagf == ("__debug__" : Str)) = false := by decide)
    (hst : starEach [e] X.env = (false, eval e X.env) :: starEach [] X.env := by rfl) (hpl : (backTo p (starEach [] X.env)).any (·.1) = false := by rfl)
    {p0 : Pos} (hs : swapsWith (.Call (.Name bagf p0) [e] [] p) (some (.Name x pos')) pos.line X.env = pure false := by rfl) (hf : X.fn x = true ∨ X.env.scope.names.lookup x = some .local := by first | exact .inl rfl | exact .inr rfl | assumption) :
    BG X B env os (.Assign [.Name x pos'] (.Call (.Name bagf p0) [e] [] p) pos :: rest) post w :=
  PSs.imp (pss_cons (ps_set hN hi hx (pe_call G hr hg hm hk hb .nil pass0 (pa_cons he pa_nil hst) hdb hst hpl) hs hf) (PSs.ex fun q : Addr × List Int => hrest q.1 q.2)) fun D σ H ⟨F, P, S, hw, k⟩ => ⟨F, fun z => z = xs, S, rfl, fun z hz v F1 H1 S1 e1 ⟨a, ev, hsq, hl⟩ => by
  subst hz ev
  refine ⟨a, z, rfl, ex_l S1.fh hsq, hl, fun b c cells m H' hex hb0 hc0 hbc hcl hc' hb' => ?_⟩
  have fc : F1 c = none := fresh_back S1.fh hc0
  have fb : F1 b = none := fresh_back S1.fh hb0
  have eF : Ex F1 (upd F1 c (.lst (cells.map V.int))) := Ex.new fc
  have S2 : Sit B (upd F1 c (.lst (cells.map V.int))) H' σ env ((b, oBag cells) :: os) := by
    refine ⟨⟨fun q u hq => ?_, S1.fin.bf.trans eF, S1.fin.mrk.trans eF, S1.fin.bb, fun q hq => ?_, fun q u k1 k2 k3 => ?_⟩, S1.env.mono eF, fun q hq => ?_, ?_⟩
    · by_cases hqc : q = c
      · rw [hqc, upd_same] at hq
        rw [hqc, hc']
        exact hq
      · rw [upd_ne hqc] at hq
        exact hex q u (S1.fh q u hq)
    · obtain ⟨u, hu⟩ := S1.fin.ios q hq
      exact ⟨u, hex q u hu⟩
    · obtain ⟨z1, z2⟩ := S1.fin.keep q u k1 k2 k3
      have hqc : q ≠ c := ne_of_none z1 hc0
      exact ⟨hex q u z1, by rw [upd_ne hqc]; exact z2⟩
    · rcases List.mem_cons.mp hq with e | hq
      · subst e
        refine ⟨by rw [upd_ne hbc]; exact fb, ⟨_, hb', (0, 0, m, 0), _, rfl, .cons ⟨.ref c, rfl, c, _, rfl, upd_same, by rw [List.length_map]; exact hcl, ints_paired cells⟩ (.cons ⟨_, rfl, rfl⟩ (.cons ⟨_, rfl, rfl⟩ (.cons ⟨_, rfl, rfl⟩ (.cons ⟨_, rfl, rfl⟩ .nil))))⟩, .inl (S1.fin.fresh hb0)⟩
      · obtain ⟨z1, ⟨u, z2, z3⟩, z4⟩ := S1.ow q hq
        have hqc : q.1 ≠ c := ne_of_none z2 hc0
        exact ⟨by rw [upd_ne hqc]; exact z1, ⟨u, hex _ _ z2, q.2.mono eF z3⟩, z4⟩
    · rw [List.map_cons]
      refine List.nodup_cons.mpr ⟨fun hm => ?_, S1.nd⟩
      obtain ⟨q, hq, e⟩ := List.mem_map.mp hm
      obtain ⟨_, ⟨u, h2, _⟩, _⟩ := S1.ow q hq
      have e' : q.1 = b := e
      rw [e', hb0] at h2
      cases h2
  exact ⟨(b, cells), _, P, S2.store ⟨_, rfl, rfl⟩, hw, k⟩⟩
end
/-! ### the bag's own functions -/
theorem bag_in {cells : List Int} : ∀ F h, (oBag cells).ok F h → ∃ p : Nat × Int × Int × Int, (oHet (bagS cells p.1 p.2.1 p.2.2.1 p.2.2.2)).ok F h := fun _ _ h => h
theorem bag_out {cells : List Int} {i : Int} {n : Nat} {d m k : Int} (e : i = (n : Int)) : ∀ F h, (oHet [sv (rLst rInt) cells, sv rInt i, sv rInt d, sv rInt m, sv rInt k]).ok F h → (oBag cells).ok F h := fun _ _ h => ⟨(n, d, m, k), by rw [e] at h; exact h⟩
/-- what a turn of the bag's mixing makes; each draw lies below most -/
theorem BG.imp {X : Cx} {B : Bs} {env : Env} {os : Os} {blk : List Stmt} {β : Type} {post : Post β} {w w' : W β} (h : BG X B env os blk post w) (i : ∀ P E, w' P E → w P E) : BG X B env os blk post w' :=
  PSs.imp h fun D σ H ⟨F, P, S, hw, k⟩ => ⟨F, P, S, i _ _ hw, k⟩
theorem mul_small {a b : Int} (h : b.natAbs < 2 ^ 64) : IntMulOk a b := IntMulOk.of_right (intBits_le_64 (by omega) (by omega))
theorem mul_smallL {a b : Int} (h : a.natAbs < 2 ^ 64) : IntMulOk a b := IntMulOk.of_left (intBits_le_64 (by omega) (by omega))
end Mi

namespace Mi
open PySem L2 Evl

/-! ### a draw, piece by piece: the words that the walk of draw is proved over -/
def drC (cells : List Int) (n : Nat) (d most : Int) : W Bool := bnd (ret (decide (d < most))) fun x => if x = true then bnd (ret (decide ((n : Int) < (cells.length : Int)))) fun z => ret z else ret false
def drA (cells : List Int) (n : Nat) (m : Int) : W Unit :=
  bnd (bnd (idx cells (n : Int)) fun t => ret t) fun cell => bnd (ret ((n : Int) + 1)) fun i1 => chk (i1 = (n : Int) + 1) <|
  bnd (bnd (mulI m 40639) fun t1 => bnd (modI cell 2147483549) fun t2 => bnd (modI (t1 + t2 + 41) 2147483579) fun t3 => ret t3) fun _ =>
  bnd (bnd (powI 10 18) fun t => bnd (if decide (t ≤ cell) = true then ret cell else ret 0) fun z => ret z) fun _ => ret ()
def drB (d most : Int) : W Int := bnd (bnd (modI d most) fun t => ret t) fun digit => bnd (bnd (divI d most) fun t => ret t) fun _ => bnd (ret digit) fun z => ret z
def drR (m k most : Int) : W Int :=
  bnd (ret (k + 1)) fun k1 => bnd (bnd (mulI k1 8353) fun t => bnd (modI (m + t) 2147483543) fun t => ret t) fun base =>
  bnd (bnd (mulI base base) fun t1 => bnd (modI t1 2147483563) fun t2 => bnd (modI base 41039) fun t3 => bnd (mulI t2 (t3 + 13)) fun t4 => ret t4) fun late =>
  bnd (bnd (mulI 30011 base) fun t1 => bnd (modI (late + t1 + 709) 2147483579) fun t2 => ret t2) fun m1 =>
  bnd (bnd (divI m1 79) fun t1 => bnd (modI m1 9011) fun t2 => bnd (mulI t2 59) fun t3 => bnd (modI (t1 + t3) most) fun t4 => ret t4) fun z => ret z
/-- what the mirror checks may be used -/
theorem b_chk {X : Cx} {B : Bs} {env : Env} {os : Os} {blk : List Stmt} {β : Type} {post : Post β} {w : W β} {c : Prop} (h : c → BG X B env os blk post w) : BG X B env os blk post (chk c w) :=
  ⟨fun pins s σ H D I ⟨F, P, S, ⟨hc, hw⟩, k⟩ => (h hc).run pins s σ H D I ⟨F, P, S, hw, k⟩⟩
theorem modI_of {x y : Int} {P : Int → Prop} {E : Er → Prop} (h : 0 < y) (k : ∀ r, 0 ≤ r → r < y → P r) : modI x y P E := ⟨by omega, k _ (Int.fmod_nonneg_of_pos x h) (Int.fmod_lt_of_pos x h)⟩
theorem divI_of {x y : Int} {P : Int → Prop} {E : Er → Prop} (h : y ≠ 0) (h2 : y.natAbs.log2 < 9000) (k : ∀ r, P r) : divI x y P E := ⟨⟨h, h2⟩, k _⟩
theorem mulI_of {x y : Int} {P : Int → Prop} {E : Er → Prop} (h : IntMulOk x y) (k : P (x * y)) : mulI x y P E := ⟨h, k⟩
theorem drC_of {cells : List Int} {n : Nat} {d most : Int} {P : Bool → Prop} {E : Er → Prop} (h1 : n < cells.length → P true) (h2 : P false) : drC cells n d most P E := by
  unfold drC
  show (if decide (d < most) = true then bnd (ret (decide ((n : Int) < (cells.length : Int)))) fun z => ret z else ret false) P E
  by_cases a : d < most
  · rw [if_pos (decide_eq_true a)]
    show P (decide ((n : Int) < (cells.length : Int)))
    by_cases b : n < cells.length
    · rw [decide_eq_true (show (n : Int) < (cells.length : Int) by omega)]
      exact h1 b
    · rw [decide_eq_false (show ¬ (n : Int) < (cells.length : Int) by omega)]
      exact h2
  · rw [if_neg (by simpa using a)]
    exact h2
theorem idx_nat {α : Type} {xs : List α} {n : Nat} {x : α} (h : xs[n]? = some x) : idx xs (n : Int) = ret x := by
  unfold idx
  rw [atI_nat h]
theorem drA_of {cells : List Int} {n : Nat} {m : Int} {P : Unit → Prop} {E : Er → Prop} (h : n < cells.length) (k : P ()) : drA cells n m P E := by
  unfold drA
  rw [idx_nat (List.getElem?_eq_getElem h)]
  refine ⟨rfl, ?_⟩
  refine mulI_of (mul_small (by decide)) ?_
  refine modI_of (by decide) fun r _ _ => ?_
  refine modI_of (by decide) fun r2 _ _ => ?_
  refine ⟨⟨by decide, by decide, by decide⟩, ?_⟩
  show (if _ then ret _ else ret _ : W Int) (fun _ => P ()) E
  split <;> exact k
theorem drB_of {d most : Int} {P : Int → Prop} {E : Er → Prop} (h : 0 < most) (h2 : most.natAbs.log2 < 9000) (k : ∀ r, 0 ≤ r → r < most → P r) : drB d most P E := by
  unfold drB
  refine modI_of h fun r h1 h3 => ?_
  exact divI_of (by omega) h2 fun _ => k r h1 h3
theorem drR_of {m k most : Int} {P : Int → Prop} {E : Er → Prop} (h : 0 < most) (h2 : most.natAbs.log2 < 9000) (kk : ∀ r, 0 ≤ r → r < most → P r) : drR m k most P E := by
  unfold drR
  refine mulI_of (mul_small (by decide)) ?_
  refine modI_of (by decide) fun base b1 b2 => ?_
  refine mulI_of (mul_small (by omega)) ?_
  refine modI_of (by decide) fun t2 c1 c2 => ?_
  refine modI_of (by decide) fun t3 d1 d2 => ?_
  refine mulI_of (mul_small (by omega)) ?_
  refine mulI_of (mul_smallL (by decide)) ?_
  refine modI_of (by decide) fun m1 e1 e2 => ?_
  refine divI_of (by decide) (by decide) fun q => ?_
  refine modI_of (by decide) fun t5 f1 f2 => ?_
  refine mulI_of (mul_small (by decide)) ?_
  exact modI_of h fun r g1 g2 => kk r g1 g2
end Mi
namespace Mi
open PySem L2 Evl
theorem room100 {k : Nat} {A : Around} (hr : Room k A) : A.units + 100 < cLine := by
  have := hr.un
  omega
theorem guards_deeper {A : Around} {q : Str} {sc : Scope} {n : Nat} {f : Addr} {c : Value} (h : A.guards = some []) : (A.deeper (PyProof.Rows.envOfC q sc n f c)).guards = some [] := h
/-- whether two things show themselves alike -/
def sameW {α β : Type} (f : α → PyData) (g : β → PyData) (x : α) (y : β) : W Bool := bnd (reprW (f x)) fun a => bnd (reprW (g y)) fun b => ret (decide (a = b))
end Mi

namespace Mi
open PySem L2 Evl
section
variable {X : Cx} {B : Bs} {env : Env} {os : Os} {pos : Pos} {α β : Type} {r : Rp α} {s : Rp β} {f : α → PyData} {n : Nat} {e a : Expr} {rest : List Stmt} {post : Post β}
theorem bg_nx {S ρ : Type} {env : Env} {blk : List Stmt} {rt : ρ → β} {w : S → W β} {s : S} (h : BG X B env os blk post (w s)) : BG X B env os blk post (flEnd rt w (.nx s)) := h
/-- seen by another reading -/
theorem e_map {w : W α} {g : α → β} (hg : ∀ {F v x}, r.ok F v x → s.ok F v (g x)) (h : EE X B env os e r w) : EE X B env os e s (bnd w fun x => ret (g x)) :=
  PE.imp h fun σ H Q ⟨F, P, S, hw, k⟩ => ⟨F, _, S, hw, fun x hx v F1 H1 S1 e1 ok => k _ hx v F1 H1 S1 e1 (hg ok)⟩
theorem e_toD {w : W α} (d : DD X.K r f n) (h : EE X B env os e r w) (hn : n ≤ 30 := by decide) : EE X B env os e (rD X.K) (bnd w fun x => ret (f x)) :=
  e_map (s := rD X.K) (fun {F v x} ok => ⟨(d.ok ok).1, (d.ok ok).2.1, Nat.le_trans (d.ok ok).2.2 hn⟩) h
/-- a part of the script -/
theorem n_sliceScr {w1 : W (List Int)} {w2 w3 : W (Option Int)} {lo hi : Option Expr} {p2 : Pos} (ha : EE X B env os a (rScr X.K) w1) (hl : EO X B env os lo w2) (hh : EO X B env os hi w3) :
    EN X B env os (.Subscript a (.Slice lo hi none p2) pos) rInt (bnd w1 fun x => bnd w2 fun l => bnd w3 fun h => ret (cutL x l h)) :=
  PE.imp (pe_slice sl_list ha hl hh) fun σ H Q ⟨F, P, S, hw, k⟩ => ⟨F, _, S, hw, fun x hx v F1 H1 S1 e1 ⟨p1, q1, h1, z1⟩ => ⟨F1, _, S1, hx, fun l hl' F2 H2 S2 e2 => ⟨F2, _, S2, hl', fun h hh' F3 H3 S3 e3 => by
  exact ⟨p1, x.map V.int, q1, ex_l S3.fh (ex_l e3 (ex_l e2 h1)), fun p hp => k _ hh' p F3 _ (S3.newOwn hp ⟨_, rfl, Nat.le_trans (cutV_length _ l h) (by rw [List.length_map]; exact z1), cut_paired (ints_paired x) l h⟩) ((e1.trans e2).trans e3)⟩⟩⟩⟩
theorem ints_of {F : Hp} : ∀ {vs : List V} {xs : List Int}, Paired (rInt.ok F) vs xs → vs = xs.map V.int
  | _, _, .nil => rfl
  | _, _, .cons h t => by
    rw [List.map_cons, ← ints_of t]
    have h' : _ = V.int _ := h
    rw [h']
/-- what the bag's maker gives back -/
def pBag (B : Bs) : Post (List Int × Int) := fun D x => ∀ (b c : Addr) (H : Hp), Ex B.F H → B.H b = none → B.H c = none → b ≠ c → x.1.length ≤ sizeLine → H c = some (.lst (x.1.map V.int)) → H b = some (.lst [.ref c, .int 0, .int 0, .int x.2, .int 0]) → D.rt (.ref b) H
theorem b_bagR {w1 : W (List Int)} {w2 : List Int → W Int} {m : Expr} {q1 q2 q4 : Nat} {p1 p2 p4 p5 : Pos} (hio : ∀ a, a ∉ B.io) (ha : EN X B env [] a rInt w1) (hm : ∀ x c, EE X B env [(c, oLst rInt x)] m rInt (w2 x))
    (h1 : starEach [a, .Constant (.int 0) q1 p1, .Constant (.int 0) q2 p2, m, .Constant (.int 0) q4 p4] X.env = (false, eval a X.env) :: starEach [.Constant (.int 0) q1 p1, .Constant (.int 0) q2 p2, m, .Constant (.int 0) q4 p4] X.env := by rfl)
    (h2 : starEach [.Constant (.int 0) q1 p1, .Constant (.int 0) q2 p2, m, .Constant (.int 0) q4 p4] X.env = (false, eval (.Constant (.int 0) q1 p1) X.env) :: starEach [.Constant (.int 0) q2 p2, m, .Constant (.int 0) q4 p4] X.env := by rfl)
    (h3 : starEach [.Constant (.int 0) q2 p2, m, .Constant (.int 0) q4 p4] X.env = (false, eval (.Constant (.int 0) q2 p2) X.env) :: starEach [m, .Constant (.int 0) q4 p4] X.env := by rfl)
    (h4 : starEach [m, .Constant (.int 0) q4 p4] X.env = (false, eval m X.env) :: starEach [.Constant (.int 0) q4 p4] X.env := by rfl)
    (h5 : starEach [.Constant (.int 0) q4 p4] X.env = (false, eval (.Constant (.int 0) q4 p4) X.env) :: starEach [] X.env := by rfl) :
    BG X B env [] [.Return (some (.List [a, .Constant (.int 0) q1 p1, .Constant (.int 0) q2 p2, m, .Constant (.int 0) q4 p4] p5)) pos] (pBag B) (bnd w1 fun x => bnd (w2 x) fun y => ret (x, y)) :=
  PSs.imp (pss_one (ps_ret (pe_lst (pa_cons ha (pa_cons pe_int (pa_cons pe_int (pa_cons (PE.ex (ι := List Int × Addr) fun q => hm q.1 q.2) (pa_cons pe_int pa_nil h5) h4) h3) h2) h1)))) fun D σ H ⟨F, P, S, hw, k⟩ =>
  ⟨F, _, S, hw, fun x hx c F1 H1 S1 e1 => ⟨(x, c), F1, _, S1, hx, fun y hy v F2 H2 S2 e2 hv => ⟨by show 5 ≤ sizeLine; decide, fun b hb => by
    have hv' : v = V.int y := hv
    subst hv'
    obtain ⟨z1, ⟨o, z2, vs, z3, z4, z5⟩, z6⟩ := S2.ow (c, oLst rInt x) (List.mem_cons_self)
    subst z3
    have evs := ints_of z5
    subst evs
    have hbc : b ≠ c := fun e => by
      rw [e] at hb
      rw [hb] at z2
      cases z2
    have eb : Ex B.F H2 := S2.fin.bf.trans S2.fh
    refine k (x, y) hy b c _ (eb.trans (Ex.new hb)) (S2.fin.fresh hb) ?_ hbc (by rw [List.length_map] at z4; exact z4) ?_ upd_same
    · rcases z6 with z | z
      · exact z
      · exact absurd z (hio _)
    · rw [upd_ne (Ne.symm hbc)]
      exact z2⟩⟩⟩
theorem env_swap {F : Hp} {a b : Slot} : ∀ {vs : List V}, EnvOk F [a, b] (vs.map some) → EnvOk F [b, a] (vs.reverse.map some)
  | [_, _], .cons x (.cons y .nil) => .cons y (.cons x .nil)
theorem forW_of {α S : Type} {f : S → α → W S} {E : Er → Prop} {I : S → Prop} : ∀ {xs : List α} {s : S} {P : S → Prop}, (∀ s x Q, I s → (∀ s', I s' → Q s') → f s x Q E) → I s → (∀ s, I s → P s) → forW f s xs P E
  | [], s, P, hf, hs, hp => hp s hs
  | x :: xs, s, P, hf, hs, hp => hf s x _ hs fun s' h' => forW_of hf h' hp
end
end Mi

namespace Mi
open PySem L2 Evl

/-! ### plain reasoning over mirrors -/
/-- every answer of w is one that I allows, and w gives one -/
def Ok {α : Type} (w : W α) (I : α → Prop) : Prop := ∀ (P : α → Prop) (E : Er → Prop), (∀ x, I x → P x) → w P E
section
variable {α β γ S ρ : Type} {I J : α → Prop} {w m : W α}
theorem Ok.ret {x : α} (h : I x) : Ok (ret x) I := fun P E hp => hp x h
theorem Ok.eq {x : α} : Ok (Mi.ret x) (· = x) := fun P E hp => hp x rfl
theorem Ok.bnd {f : α → W β} {I : β → Prop} (h : Ok m J) (k : ∀ x, J x → Ok (f x) I) : Ok (bnd m f) I := fun P E hp => h _ E fun x hx => k x hx P E hp
theorem Ok.chk {c : Prop} (hc : c) (h : Ok w I) : Ok (chk c w) I := fun P E hp => ⟨hc, h P E hp⟩
theorem Ok.noX (h : Ok w I) : Ok (noX w) I := fun P E hp => h P _ hp
theorem Ok.mono (h : Ok w J) (i : ∀ x, J x → I x) : Ok w I := fun P E hp => h P E fun x hx => hp x (i x hx)
theorem Ok.run {P : α → Prop} {E : Er → Prop} (h : Ok w P) : w P E := h P E fun _ hx => hx
theorem Ok.ite {c : Prop} [Decidable c] {w1 w2 : W α} (h1 : c → Ok w1 I) (h2 : ¬ c → Ok w2 I) : Ok (if c then w1 else w2) I := by
  split
  · exact h1 ‹_›
  · exact h2 ‹_›
theorem Ok.bndE {f : α → W β} {I : β → Prop} {x : α} (h : Ok m (· = x)) (k : Ok (f x) I) : Ok (Mi.bnd m f) I := Ok.bnd h fun y hy => by
  subst hy
  exact k
theorem Ok.retB {f : α → W β} {I : β → Prop} {x : α} (k : Ok (f x) I) : Ok (Mi.bnd (Mi.ret x) f) I := k
theorem Ok.draw {k : Int} (h0 : 0 < k) (h : k.natAbs.log2 < 9000) : Ok (drawW k) fun r => 0 ≤ r ∧ r < k := fun P E hp => ⟨h0, h, fun r h1 h2 => hp r ⟨h1, h2⟩⟩
theorem Ok.idxN {xs : List α} {n : Nat} {x : α} (h : xs[n]? = some x) : Ok (idx xs (n : Int)) (· = x) := by
  rw [idx_nat h]
  exact Ok.eq
theorem Ok.any {xs : List α} (h0 : 0 < xs.length) (h1 : xs.length < 2 ^ 64) (h : ∀ x ∈ xs, I x) : Ok (anyW xs) I := by
  refine Ok.bnd (Ok.noX (Ok.draw (by omega) ?_)) fun r ⟨r0, r1⟩ => ?_
  · refine Nat.lt_of_lt_of_le (Nat.log2_lt (by omega) |>.mpr (show _ < 2 ^ 64 from ?_)) (by decide)
    omega
  · obtain ⟨n, rfl⟩ := Int.eq_ofNat_of_zero_le r0
    have hn : n < xs.length := by omega
    exact (Ok.idxN (List.getElem?_eq_getElem hn)).mono fun x e => e ▸ h _ (List.getElem_mem hn)
theorem Ok.map {f : α → W β} {g : α → β} : ∀ {xs : List α}, (∀ x ∈ xs, Ok (f x) (· = g x)) → Ok (mapW f xs) (· = xs.map g)
  | [], _ => Ok.eq
  | x :: xs, h => Ok.bndE (h x List.mem_cons_self) (Ok.bndE (Ok.map fun y hy => h y (List.mem_cons_of_mem _ hy)) Ok.eq)
theorem Ok.mapP {f : α → W β} {I : β → Prop} : ∀ {xs : List α}, (∀ x ∈ xs, Ok (f x) I) → Ok (mapW f xs) (fun ys => ys.length = xs.length ∧ ∀ y ∈ ys, I y)
  | [], _ => Ok.ret ⟨rfl, fun _ h => nomatch h⟩
  | x :: xs, h => Ok.bnd (h x List.mem_cons_self) fun y hy => Ok.bnd (Ok.mapP fun z hz => h z (List.mem_cons_of_mem _ hz)) fun ys ⟨h1, h2⟩ => Ok.ret ⟨by simp [h1], fun z hz => by
    rcases List.mem_cons.mp hz with e | hz
    · exact e ▸ hy
    · exact h2 z hz⟩
theorem Ok.filt {c : α → W Bool} {f : α → W β} {p : α → Bool} {g : α → β} : ∀ {xs : List α}, (∀ x ∈ xs, Ok (c x) (· = p x)) → (∀ x ∈ xs, p x = true → Ok (f x) (· = g x)) → Ok (filtW c f xs) (· = (xs.filter p).map g)
  | [], _, _ => Ok.eq
  | x :: xs, h, k => by
    have ih := Ok.filt (xs := xs) (c := c) (f := f) (p := p) (g := g) (fun y hy => h y (List.mem_cons_of_mem _ hy)) fun y hy => k y (List.mem_cons_of_mem _ hy)
    refine Ok.bndE (h x List.mem_cons_self) ?_
    by_cases q : p x = true
    · rw [if_pos q, List.filter_cons_of_pos q]
      exact Ok.bndE (k x List.mem_cons_self q) (Ok.bndE ih Ok.eq)
    · rw [if_neg q, List.filter_cons_of_neg q]
      exact ih
theorem Ok.forW {f : S → α → W S} {J : S → Prop} : ∀ {xs : List α} {s0 : S} (inv : Nat → S → Prop), inv 0 s0 → (∀ k (hk : k < xs.length) s, inv k s → Ok (f s xs[k]) (inv (k + 1))) → (∀ s, inv xs.length s → J s) → Ok (forW f s0 xs) J
  | [], s0, inv, h0, _, h2 => Ok.ret (h2 _ h0)
  | x :: xs, s0, inv, h0, h1, h2 => Ok.bnd (h1 0 (by simp) s0 h0) fun s hs => Ok.forW (fun k => inv (k + 1)) hs (fun k hk s hs => h1 (k + 1) (by simpa using hk) s hs) fun s hs => h2 s hs
theorem Ok.forF {f : S → α → W (Fl S ρ)} {J : Fl S ρ → Prop} : ∀ {xs : List α} {s0 : S} (inv : Nat → S → Prop) (R : ρ → Prop), inv 0 s0 → (∀ k (hk : k < xs.length) s, inv k s → Ok (f s xs[k]) fun r => match r with | .nx s => inv (k + 1) s | .rt z => R z | _ => False) →
    (∀ s, inv xs.length s → J (.nx s)) → (∀ z, R z → J (.rt z)) → Ok (forF f s0 xs) J
  | [], s0, inv, R, h0, _, h2, _ => Ok.ret (h2 _ h0)
  | x :: xs, s0, inv, R, h0, h1, h2, h3 => Ok.bnd (h1 0 (by simp) s0 h0) fun r hr => by
    cases r with
    | nx s => exact Ok.forF (fun k => inv (k + 1)) R hr (fun k hk s hs => h1 (k + 1) (by simpa using hk) s hs) (fun s hs => h2 s hs) h3
    | rt z => exact Ok.ret (h3 z hr)
    | bk s => exact False.elim hr
    | ct s => exact False.elim hr
/-! numbers -/
theorem Ok.mul {x y : Int} {m : Nat} (hx : x.natAbs < 2 ^ m) (hy : y.natAbs < 2 ^ m) (hm : m ≤ 1048576) : Ok (mulI x y) (· = x * y) :=
  Ok.chk (IntMulOk.of_bits (intBits_le_iff.mpr (Nat.lt_of_lt_of_le hx (Nat.pow_le_pow_right (by decide) hm))) (intBits_le_iff.mpr (Nat.lt_of_lt_of_le hy (Nat.pow_le_pow_right (by decide) hm)))) Ok.eq
theorem Ok.mulR {x y : Int} (hy : y.natAbs < 2 ^ 64) : Ok (mulI x y) (· = x * y) := Ok.chk (mul_small hy) Ok.eq
theorem Ok.mulL {x y : Int} (hx : x.natAbs < 2 ^ 64) : Ok (mulI x y) (· = x * y) := Ok.chk (mul_smallL hx) Ok.eq
theorem log2_lt {n m : Nat} (h : n < 2 ^ m) (hm : 0 < m) : n.log2 < m := by
  by_cases e : n = 0
  · subst e
    exact hm
  · exact (Nat.log2_lt e).mpr h
theorem Ok.div {x y : Int} (h : y ≠ 0) (hy : y.natAbs < 2 ^ 9000) : Ok (divI x y) (· = x.fdiv y) := Ok.chk ⟨h, log2_lt hy (by decide)⟩ Ok.eq
theorem Ok.mod {x y : Int} (h : y ≠ 0) : Ok (modI x y) (· = x.fmod y) := Ok.chk h Ok.eq
theorem Ok.rng1 {n : Nat} (h : n ≤ 16777216) : Ok (rng1 (n : Int)) (· = (List.range n).map fun k : Nat => (k : Int)) := by
  refine Ok.chk ⟨by omega, by omega, by omega, by omega, by omega⟩ (Ok.ret ?_)
  unfold rangeI
  rw [show ((n : Int) - 0).toNat = n by omega]
  exact List.map_congr_left fun k _ => by omega
theorem Ok.rng2 {a n : Nat} (h : a ≤ n) (h2 : n ≤ 16777216) : Ok (rng2 (a : Int) (n : Int)) (· = (List.range (n - a)).map fun k : Nat => ((a + k : Nat) : Int)) := by
  refine Ok.chk ⟨by omega, by omega, by omega, by omega, by omega⟩ (Ok.ret ?_)
  unfold rangeI
  rw [show ((n : Int) - (a : Int)).toNat = n - a by omega]
  exact List.map_congr_left fun k _ => by omega
/-- a map over a range -/
theorem Ok.mapR {f : Int → W β} {g : Nat → β} {n a : Nat} (h : ∀ k, k < n → Ok (f ((a + k : Nat) : Int)) (· = g (a + k))) : Ok (mapW f ((List.range n).map fun k : Nat => ((a + k : Nat) : Int))) (· = (List.range n).map fun k => g (a + k)) := by
  refine (Ok.map (g := fun i : Int => g i.toNat) fun x hx => ?_).mono fun ys e => ?_
  · obtain ⟨k, hk, rfl⟩ := List.mem_map.mp hx
    exact h k (List.mem_range.mp hk)
  · rw [e, List.map_map]
    exact List.map_congr_left fun k _ => rfl
theorem Ok.mapR0 {f : Int → W β} {g : Nat → β} {n : Nat} (h : ∀ k, k < n → Ok (f (k : Int)) (· = g k)) : Ok (mapW f ((List.range n).map fun k : Nat => (k : Int))) (· = (List.range n).map g) := by
  refine (Ok.map (g := fun i : Int => g i.toNat) fun x hx => ?_).mono fun ys e => ?_
  · obtain ⟨k, hk, rfl⟩ := List.mem_map.mp hx
    exact h k (List.mem_range.mp hk)
  · rw [e, List.map_map]
    exact List.map_congr_left fun k _ => rfl
theorem idx_range {g : Nat → β} {n k : Nat} (h : k < n) : idx ((List.range n).map g) (k : Int) = Mi.ret (g k) := idx_nat (by simp [h])
theorem putL_range {g : Nat → β} {n k : Nat} {y : β} (h : k < n) : putL ((List.range n).map g) (k : Int) y = Mi.ret ((List.range n).map fun i => if i = k then y else g i) := by
  unfold putL
  rw [List.length_map, List.length_range, ixN_nat h]
  refine congrArg Mi.ret ?_
  refine List.ext_getElem? fun i => ?_
  rw [List.getElem?_set]
  by_cases hi : i < n
  · by_cases e : k = i
    · subst e
      simp [h]
    · simp [e, hi, show ¬ i = k from fun q => e q.symm]
  · have hk : k ≠ i := fun e => by omega
    rw [if_neg hk]
    simp [hi]
end
/-! ### what a thing shows -/
theorem piled_le {ts : List Str} {m : Nat} (h : ∀ t ∈ ts, t.length ≤ m) : piled ts ≤ ts.length * (m + 2) := by
  induction ts with
  | nil => simp [piled]
  | cons t ts ih =>
    have := ih fun u hu => h u (List.mem_cons_of_mem _ hu)
    have := h t List.mem_cons_self
    rw [piled_cons, List.length_cons, Nat.add_mul]
    omega
theorem textFrom_len_le : ∀ (ts : List Str) (k : Nat) (acc : Str), (textFrom k acc ts).length ≤ acc.length + piled ts
  | [], k, acc => by
    show acc.length ≤ _
    omega
  | t :: r, k, acc => by
    have h := textFrom_len_le r (k + 1) (acc ++ (if k > 0 then ", " else "" : String) ++ t)
    have e : (acc ++ (if k > 0 then ", " else "" : String) ++ t).length = acc.length + (if k > 0 then 2 else 0) + t.length := by
      rw [strLen_append, strLen_append]
      split <;> rfl
    rw [e] at h
    rw [piled_cons]
    show (textFrom (k + 1) _ r).length ≤ _
    have : (if k > 0 then 2 else 0 : Nat) ≤ 2 := by split <;> decide
    omega
theorem listText_len_le (ts : List Str) : (listText ts).length ≤ 2 + piled ts := by
  unfold listText
  rw [strLen_append]
  have := textFrom_len_le ts 0 "["
  have e : ((("[" : String) : Str)).length = 1 := rfl
  have e2 : ((("]" : String) : Str)).length = 1 := rfl
  omega
theorem strOk_str (s : String) : PyData.strOk (Str.ofString s) = true := by
  unfold PyData.strOk
  rw [Str.ofString_eq_toList, ← Array.all_toList, List.all_eq_true]
  intro y hy
  obtain ⟨c, _, rfl⟩ := List.mem_map.mp (by simpa using hy)
  have := c.valid
  simp only [decide_eq_true_eq]
  unfold Char.toNat
  rcases this with h | ⟨_, h⟩
  · exact Nat.lt_trans h (by decide)
  · exact h
theorem textFrom_ok : ∀ (ts : List Str) (k : Nat) (acc : Str), PyData.strOk acc = true → (∀ t ∈ ts, PyData.strOk t = true) → PyData.strOk (textFrom k acc ts) = true
  | [], k, acc, h, _ => h
  | t :: r, k, acc, h, h2 => by
    show PyData.strOk (textFrom (k + 1) _ r) = true
    exact textFrom_ok r (k + 1) _ (strOk_app (strOk_app h (strOk_str _)) (h2 t List.mem_cons_self)) fun u hu => h2 u (List.mem_cons_of_mem _ hu)
theorem listText_ok {ts : List Str} (h : ∀ t ∈ ts, PyData.strOk t = true) : PyData.strOk (listText ts) = true := strOk_app (textFrom_ok ts 0 _ (strOk_str _) h) (strOk_str _)
/-- it can be shown, in at most m signs -/
structure Shw (d : PyData) (m : Nat) : Prop where
  s : d.showable = true
  l : d.shown.length ≤ m
  o : PyData.strOk d.shown = true
theorem Shw.mono {d : PyData} {m n : Nat} (h : Shw d m) (hm : m ≤ n) : Shw d n := ⟨h.s, Nat.le_trans h.l hm, h.o⟩
theorem Shw.int {i : Int} (h : i.natAbs < 2 ^ 1920) : Shw (.int i) 1921 := by
  have q : i.natAbs.log2 < 1920 := log2_lt h (by decide)
  refine ⟨by simp [PyData.showable, q], ?_, ?_⟩
  · rw [PyData.shown]
    exact PyProof.Rows.int_text_len_1921 q
  · rw [PyData.shown]
    exact strOk_str _
theorem Shw.list {ds : List PyData} {m n : Nat} (h : ∀ d ∈ ds, Shw d m) (hn : ds.length ≤ n) : Shw (.list ds) (n * (m + 2) + 2) := by
  have e : ∀ ds : List PyData, PyData.shownAll ds = ds.map PyData.shown := fun ds => by
    induction ds with
    | nil => rfl
    | cons d ds ih => rw [PyData.shownAll, ih, List.map_cons]
  have e2 : ∀ ds : List PyData, (∀ d ∈ ds, d.showable = true) → PyData.showableAll ds = true := fun ds => by
    induction ds with
    | nil => exact fun _ => rfl
    | cons d ds ih => exact fun h => by rw [PyData.showableAll, h d List.mem_cons_self, ih fun u hu => h u (List.mem_cons_of_mem _ hu)]; rfl
  refine ⟨by rw [PyData.showable]; exact e2 ds fun d hd => (h d hd).s, ?_, ?_⟩
  · rw [PyData.shown, e]
    refine Nat.le_trans (listText_len_le _) ?_
    have := piled_le (ts := ds.map PyData.shown) (m := m) fun t ht => by
      obtain ⟨d, hd, rfl⟩ := List.mem_map.mp ht
      exact (h d hd).l
    rw [List.length_map] at this
    have := Nat.mul_le_mul_right (m + 2) hn
    omega
  · rw [PyData.shown, e]
    refine listText_ok fun t ht => ?_
    obtain ⟨d, hd, rfl⟩ := List.mem_map.mp ht
    exact (h d hd).o
theorem Ok.repr {d : PyData} {m : Nat} (h : Shw d m) (hm : m ≤ sizeLine) : Ok (reprW d) (· = d.shown) := Ok.chk ⟨h.s, Nat.le_trans h.l hm, h.o⟩ Ok.eq
theorem Ok.same {α β : Type} {f : α → PyData} {g : β → PyData} {x : α} {y : β} {m : Nat} (h : Shw (f x) m) (hm : m ≤ sizeLine) (e : f x = g y) : Ok (sameW f g x y) (· = true) := by
  unfold sameW
  refine Ok.bndE (Ok.repr h hm) (Ok.bndE (Ok.repr (e ▸ h) hm) (Ok.ret ?_))
  rw [e]
  simp
end Mi

namespace Mi
open PySem L2 Evl
open PyProof.Rows (envOfC)

theorem c_conv {X : Cx} {B : Bs} {env : Env} {os : Os} {α : Type} {r : Rp α} {st : Stmt} {g : TG} {w w' : W (List α)} (h : PS X st (tAsg (tNew B env os r w) g)) (q : w = w') : PS X st (tAsg (tNew B env os r w') g) := q ▸ h
/-! ### objects of own classes -/
def Flds (F : Hp) (fs : List (Str × Slot)) (vs : List (Str × V)) : Prop := Paired (fun (p : Str × Slot) (q : Str × V) => p.1 = q.1 ∧ p.2.ok F (some q.2)) fs vs
theorem Flds.mono {F F' : Hp} {fs : List (Str × Slot)} {vs : List (Str × V)} (e : Ex F F') (h : Flds F fs vs) : Flds F' fs vs := Paired.imp (fun p _ ⟨h1, h2⟩ => ⟨h1, p.2.mono e h2⟩) h
theorem Flds.get {F : Hp} {f : Str} {s : Slot} : ∀ {fs : List (Str × Slot)} {vs : List (Str × V)}, Flds F fs vs → fs.lookup f = some s → ∃ v, vs.lookup f = some v ∧ s.ok F (some v)
  | _, _, .nil, h => by cases h
  | (g, s') :: fs, (g', v) :: vs, .cons ⟨e, h1⟩ t, h => by
    have e : g = g' := e
    subst e
    rw [List.lookup_cons] at h ⊢
    cases q : (f == g) with
    | true =>
      rw [q] at h
      cases h
      exact ⟨v, rfl, h1⟩
    | false =>
      rw [q] at h
      exact Flds.get t h
theorem Flds.none {F : Hp} {f : Str} : ∀ {fs : List (Str × Slot)} {vs : List (Str × V)}, Flds F fs vs → fs.lookup f = none → vs.lookup f = none
  | _, _, .nil, h => rfl
  | (g, s') :: fs, (g', v) :: vs, .cons ⟨e, h1⟩ t, h => by
    have e : g = g' := e
    subst e
    rw [List.lookup_cons] at h ⊢
    cases q : (f == g) with
    | true =>
      rw [q] at h
      cases h
    | false =>
      rw [q] at h
      exact Flds.none t h
theorem Flds.len {F : Hp} {fs : List (Str × Slot)} {vs : List (Str × V)} (h : Flds F fs vs) : fs.length = vs.length := Paired.length h
def putS (f : Str) (s : Slot) : List (Str × Slot) → List (Str × Slot)
  | [] => [(f, s)]
  | (g, x) :: r => if g = f then (g, s) :: r else (g, x) :: putS f s r
theorem Flds.put {F : Hp} {f : Str} {s : Slot} {v : V} (hs : s.ok F (some v)) : ∀ {fs : List (Str × Slot)} {vs : List (Str × V)}, Flds F fs vs → Flds F (putS f s fs) (putF f v vs)
  | _, _, .nil => .cons ⟨rfl, hs⟩ .nil
  | (g, x) :: fs, (g', y) :: vs, .cons ⟨e, h1⟩ t => by
    have e : g = g' := e
    subst e
    unfold putS putF
    by_cases q : g = f
    · rw [if_pos q, if_pos q]
      exact .cons ⟨rfl, hs⟩ t
    · rw [if_neg q, if_neg q]
      exact .cons ⟨rfl, h1⟩ (Flds.put hs t)
/-- an object that will not change: its class, its fields by name -/
def rObj {α : Type} (C : Addr) (fl : α → List (Str × Slot)) : Rp α := ⟨fun F v x => ∃ a dx vs, v = .ref a ∧ F a = some (.ins C dx vs) ∧ Flds F (fl x) vs, fun e ⟨a, dx, vs, h1, h2, h3⟩ => ⟨a, dx, vs, h1, e _ _ h2, h3.mono e⟩⟩
/-- one that is being made -/
def oObj (C : Addr) (fs : List (Str × Slot)) : Own := ⟨fun F o => ∃ dx vs, o = .ins C dx vs ∧ Flds F fs vs, fun e ⟨dx, vs, h1, h2⟩ => ⟨dx, vs, h1, h2.mono e⟩⟩
section
variable {X : Cx} {B : Bs} {env : Env} {os : Os} {pos : Pos} {α β γ : Type} {r : Rp α} {s : Rp β} {C : Addr} {fl : α → List (Str × Slot)} {f : Str} {e : Expr} {rest : List Stmt} {post : Post β}
/-- e.f -/
theorem e_fld {w : W α} {g : α → β} (c : Cls X.K C) (n : NoAttr X.K C f) (he : EE X B env os e (rObj C fl) w) (hg : ∀ x, (fl x).lookup f = some (sv s (g x)) := by exact fun _ => rfl) (hb : attributeBase e f X.env (eval e X.env) = eval e X.env := by rfl) :
    EE X B env os (.Attribute e f pos) s (bnd w fun x => ret (g x)) :=
  PE.imp (pe_fld he hb) fun σ H Q ⟨F, P, S, hw, k⟩ => ⟨F, _, S, hw, fun x hx v F1 H1 S1 e1 ⟨a, dx, vs, ev, ha, hf⟩ => by
    obtain ⟨u, h1, u', h2, h3⟩ := hf.get (hg x)
    cases h2
    exact ⟨a, C, dx, vs, _, ev, S1.fh _ _ ha, c, n, h1, k _ hx _ F1 H1 S1 e1 h3⟩⟩
theorem Sit.obj {F H : Hp} {σ : L2.St} {i j : Nat} {a : Addr} {fs : List (Str × Slot)} (S : Sit B F H σ env os) (hi : env[i]? = some (sv (rAdr a) ())) (hj : os[j]? = some (a, oObj C fs)) : σ[i]? = some (some (.ref a)) ∧ F a = none ∧ ∃ dx vs, H a = some (.ins C dx vs) ∧ Flds F fs vs := by
  obtain ⟨ov, g1, v, g2, g3⟩ := S.env.get hi
  have g3' : v = .ref a := g3
  subst g2 g3'
  obtain ⟨z1, ⟨o, z2, dx, vs, z3, z5⟩, _⟩ := S.ow _ (List.mem_of_getElem? hj)
  subst z3
  exact ⟨g1, z1, dx, vs, z2, z5⟩
/-- self.f, self being made -/
theorem e_fldO (i j : Nat) {x : Str} {p2 : Pos} {a : Addr} {fs : List (Str × Slot)} {y : β} (c : Cls X.K C) (n : NoAttr X.K C f) (hi : env[i]? = some (sv (rAdr a) ())) (hj : os[j]? = some (a, oObj C fs)) (hl : fs.lookup f = some (sv s y)) (hN : X.N[i]? = some x := by rfl)
    (hv : Vis X.env.scope x := by first | exact Or.inl rfl | exact Or.inr (Or.inl rfl) | exact Or.inr (Or.inr rfl)) (hd : (x == ("__debug__" : Str)) = false := by decide) (hcd : (x == ("__classdict__" : Str)) = false := by decide)
    (hb : attributeBase (.Name x p2) f X.env (eval (.Name x p2) X.env) = eval (.Name x p2) X.env := by rfl) :
    EE X B env os (.Attribute (.Name x p2) f pos) s (ret y) :=
  PE.imp (pe_fld (pe_var hN hv hd hcd) hb) fun σ H Q ⟨F, P, S, hw, k⟩ => by
  obtain ⟨g1, g2, dx, vs, g3, g5⟩ := S.obj hi hj
  obtain ⟨u, h1, u', h2, h3⟩ := g5.get hl
  cases h2
  exact ⟨.ref a, g1, a, C, dx, vs, u, rfl, g3, c, n, h1, k _ hw _ F H S (Ex.refl F) h3⟩
/-- self.f = e, self being made -/
theorem b_fldO (i j : Nat) {x : Str} {p1 p2 : Pos} {a : Addr} {fs : List (Str × Slot)} {w : W α} {w2 : α → W β} (c : Cls X.K C) (n : NoAttr X.K C f) (hi : env[i]? = some (sv (rAdr a) ())) (hj : os[j]? = some (a, oObj C fs)) (he : EE X B env os e r w)
    (hr : ∀ y, BG X B env (os.set j (a, oObj C (putS f (sv r y) fs))) rest post (w2 y)) (hz : decide (fs.length < 1000) = true := by rfl) (hN : X.N[i]? = some x := by rfl)
    (hv : Vis X.env.scope x := by first | exact Or.inl rfl | exact Or.inr (Or.inl rfl) | exact Or.inr (Or.inr rfl)) (hd : (x == ("__debug__" : Str)) = false := by decide) (hcd : (x == ("__classdict__" : Str)) = false := by decide)
    (hs : swapsWith e (some (.Attribute (.Name x p1) f p2)) pos.line X.env = pure false := by rfl) :
    BG X B env os (.Assign [.Attribute (.Name x p1) f p2] e pos :: rest) post (bnd w w2) :=
  PSs.imp (pss_cons (ps_fld (pe_var hN hv hd hcd) he hs) (PSs.ex hr)) fun D σ H ⟨F, P, S, hw, k⟩ => ⟨F, _, S, hw, fun y hy v F1 H1 S1 e1 ok => by
  obtain ⟨g1, g2, dx, vs, g3, g5⟩ := S1.obj hi hj
  refine ⟨.ref a, g1, a, C, dx, vs, rfl, g3, c, n, ?_, y, F1, P, S1.change hj ⟨dx, _, rfl, Flds.put (s := sv r y) ⟨v, rfl, ok⟩ g5⟩, hy, k⟩
  rw [← g5.len]
  exact of_decide_eq_true hz⟩
/-- an own object is let go: b_freeze for objects -/
theorem b_frzObj (i j : Nat) {a : Addr} {fs : α → List (Str × Slot)} {x : α} {w : W β} {blk : List Stmt} (hi : env[i]? = some (sv (rAdr a) ())) (hj : os = (a, oObj C (fs x)) :: os.tail) (hr : BG X B (env.set i (sv (rObj C fs) x)) os.tail blk post w) : BG X B env os blk post w :=
  PSs.imp hr fun D σ H ⟨F, P, S, hw, k⟩ => by
  rw [hj] at S
  obtain ⟨ov, g1, v, g2, g3⟩ := S.env.get hi
  obtain ⟨F2, o, e2, h1, ⟨dx, vs, h2, h3⟩, S2⟩ := S.freeze
  subst h2 g2
  have h1' : F2 a = some (.ins C dx vs) := h1
  refine ⟨F2, P, ?_, hw, k⟩
  have okv : (sv (rObj C fs) x).ok F2 (some v) := ⟨v, rfl, a, dx, vs, g3, h1', h3⟩
  have st := Sit.store (i := i) S2 okv
  rwa [set_same g1] at st
end

/-! ### making one -/
/-- a made object's promise: the arguments by slots; the mirror gives the fields -/
def spI {ι ρ : Type} (C : Addr) (args : ι → Env) (w : ι → W ρ) (fl : ρ → List (Str × Slot)) : Sp := fun vs H Q _ => ∃ (i : ι) (F : Hp) (P : ρ → Prop) (x dx : Addr) (us : List V), vs = .ref x :: us ∧ Ex F H ∧ F x = none ∧ H x = some (.ins C dx []) ∧ EnvOk F (args i) (us.map some) ∧
  w i P (fun _ => False) ∧ ∀ r, P r → ∀ F' H', Fn (bs0 F H [(x, oObj C [])]) F' H' → OsOk (bs0 F H [(x, oObj C [])]) F' H' [(x, oObj C (fl r))] → Q .non H'
def pIn {ρ : Type} (B : Bs) (C x : Addr) (fl : ρ → List (Str × Slot)) : Post ρ := fun D r => (∀ F H, Fn B F H → OsOk B F H [(x, oObj C (fl r))] → D.rt .non H) ∧ ∀ σ F H, Fn B F H → OsOk B F H [(x, oObj C (fl r))] → D.nx σ H
theorem NxOk.init {B : Bs} {C x : Addr} {ρ : Type} {fl : ρ → List (Str × Slot)} {r : ρ} {env : Env} {os : Os} (ho : OsW os [(x, oObj C (fl r))]) : NxOk B (pIn B C x fl) env os r := ⟨fun D q σ F H z => q.2 σ F H z.fin (ho.ok z)⟩
section
variable {P : Program} {w : World} {K : PySem.W.Frag} {mg : Str → Option Value} {base : Heap} {k : Nat} {f C : Addr} {fd : FuncData} {ps N : List Str} {ι ρ : Type} {args : ι → Env} {wf : ι → W ρ} {fl : ρ → List (Str × Slot)}
theorem spI_len (hl : ∀ i, (args i).length + 1 = ps.length) : ∀ vs H Q E, spI C args wf fl vs H Q E → vs.length = ps.length := fun vs H Q E ⟨i, F, P, x, dx, us, ev, _, _, _, he, _⟩ => by
  have := he.len
  rw [List.length_map] at this
  rw [ev, List.length_cons, ← this, hl i]
theorem initW {x qual : Str} {st : Stmt} (F : Fun K x qual st f fd) (S : FnScope N ps (defScope st)) (hl : ∀ i, (args i).length + 1 = ps.length)
    (body : ∀ (cdv : Value) (A : Around) (outer : List PySem.Env) (s : Shared) (H : Hp) (E : XK) (B : Bs) (a : Addr) (i : ι), Room k (A.deeper (envOfC qual (defScope st) s.heap.objs.size f cdv)) →
      BG (cxOf CX0 P w K mg base N qual (defScope st) f cdv A outer s H E).nox B (entry (sv (rAdr a) () :: args i) (N.length - ps.length)) [(a, oObj C [])] (defBody st) (pIn B C a fl) (wf i)) : FnOk P w K mg base CX0 (k + 1) f fd ps (spI C args wf fl) := by
  refine F.ok S (spI_len hl) fun cdv A outer s H vs Q E hr hsp => ?_
  have hvl := spI_len hl vs H Q E hsp
  obtain ⟨i, F0, P0, a, dx, us, ev, fh, fa, ha, he, hw, hk⟩ := hsp
  subst ev
  have ow : ∀ p ∈ ([(a, oObj C [])] : Os), F0 p.1 = none ∧ ∃ o, H p.1 = some o ∧ p.2.ok F0 o := fun p hp => by
    rw [List.mem_singleton.mp hp]
    exact ⟨fa, _, ha, dx, [], rfl, .nil⟩
  refine ⟨_, body cdv A outer s H E (bs0 F0 H [(a, oObj C [])]) a i hr, F0, P0, ⟨bs0_start fh ow, ?_, fun p hp => ?_, by simp⟩, hw, fun y hy => ⟨fun F' H' fn ow => hk y hy F' H' fn ow, fun σ F' H' fn ow => hk y hy F' H' fn ow⟩⟩
  · rw [← hvl]
    exact entry_ok (.cons ⟨_, rfl, rfl⟩ he)
  · obtain ⟨h1, o, h2, h3⟩ := ow p hp
    exact ⟨h1, ⟨o, h2, h3⟩, .inr (List.mem_map_of_mem hp)⟩
end
theorem Sit.backI {B : Bs} {F F' H H' : Hp} {σ : L2.St} {env : Env} {os : Os} {x : Addr} {o o2 : Own} (S : Sit B F H σ env ((x, o) :: os)) (fn : Fn (bs0 F H [(x, o)]) F' H') (ow : OsOk (bs0 F H [(x, o)]) F' H' [(x, o2)]) : Sit B F' H' σ env ((x, o2) :: os) := by
  have e : Ex F F' := fn.bf
  obtain ⟨z1, ⟨ob, z2, z3⟩, z4⟩ := S.ow (x, o) (List.mem_cons_self)
  have z1 : F x = none := z1
  obtain ⟨y1, ⟨ob2, y2, y3⟩, _⟩ := ow (x, o2) (List.mem_cons_self)
  have nd := S.nd
  rw [List.map_cons] at nd
  obtain ⟨nd1, nd2⟩ := List.nodup_cons.mp nd
  have nin : ∀ a, a ≠ x → a ∉ ([(x, o)] : Os).map (·.1) := fun a h hm => h (by simpa using hm)
  refine ⟨⟨fn.fh, S.fin.bf.trans e, S.fin.mrk.trans e, S.fin.bb, fun a ha => ?_, fun a u h1 h2 h3 => ?_⟩, S.env.mono e, fun p hp => ?_, ?_⟩
  · by_cases hx : a = x
    · subst hx
      exact ⟨ob2, y2⟩
    · obtain ⟨u, hu⟩ := S.fin.ios a ha
      cases ef : F a with
      | none => exact ⟨u, (fn.keep a u ef hu (nin a hx)).1⟩
      | some q => exact ⟨q, fn.fh a q (e a q ef)⟩
  · obtain ⟨k1, k2⟩ := S.fin.keep a u h1 h2 h3
    refine fn.keep a u k2 k1 (nin a ?_)
    rintro rfl
    rcases z4 with q | q
    · have q' : B.H a = none := q
      rw [h2] at q'
      cases q'
    · exact h3 q
  · rcases List.mem_cons.mp hp with ep | hp
    · subst ep
      exact ⟨y1, ⟨ob2, y2, y3⟩, z4⟩
    · obtain ⟨h1, ⟨u, h2, h3⟩, h4⟩ := S.ow p (List.mem_cons_of_mem _ hp)
      have hx : p.1 ≠ x := fun z => by
        have hm := List.mem_map_of_mem (f := Prod.fst) hp
        rw [z] at hm
        exact nd1 hm
      obtain ⟨k1, k2⟩ := fn.keep p.1 u h1 h2 (nin _ hx)
      exact ⟨k2, ⟨u, k1, p.2.mono e h3⟩, h4⟩
  · rw [List.map_cons]
    exact nd
/-- the reading of a making -/
theorem made {X : Cx} {B : Bs} {env : Env} {os : Os} {ι ρ : Type} {C : Addr} {args : ι → Env} {wf : ι → W ρ} {fl : ρ → List (Str × Slot)} {F H : Hp} {σ : L2.St} {vs : List V} {i : ι} {P : ρ → Prop} {Q : VK} {E : XK} (S : Sit B F H σ env os) (ok : EnvOk F (args i) (vs.map some)) (hw : wf i P (fun _ => False))
    (k : ∀ z, P z → ∀ v F' H', Sit B F' H' σ env os → Ex F F' → (rObj C fl).ok F' v z → Q v H') (x dx : Addr) (hx : H x = none) (hdx : H dx = none) (hne : dx ≠ x) :
    spI C args wf fl (.ref x :: vs) (upd (upd H dx (.own x)) x (.ins C dx [])) (fun v H2 => v = .non ∧ Q (.ref x) H2) E := by
  have g : Grow F H (upd F dx (.own x)) (upd H dx (.own x)) := Grow.alloc S.fh hdx
  have S1 := S.grow g
  have hx1 : upd H dx (.own x) x = none := by rw [upd_ne (Ne.symm hne)]; exact hx
  have S2 := S1.newOwn (o := .ins C dx []) (ow := oObj C []) hx1 ⟨dx, [], rfl, .nil⟩
  refine ⟨i, upd F dx (.own x), P, x, dx, vs, rfl, S2.fh, ?_, upd_same, ok.mono g.f, hw, fun r hr F' H' fn ow => ⟨rfl, ?_⟩⟩
  · exact (S2.ow (x, oObj C []) List.mem_cons_self).1
  · obtain ⟨F2, o, e2, h1, ⟨dx', vs', h2, h3⟩, S4⟩ := (S2.backI fn ow).freeze
    subst h2
    exact k r hr (.ref x) F2 H' S4 ((g.f.trans fn.bf).trans e2) ⟨x, dx', vs', rfl, h1, h3⟩
section
variable {X : Cx} {B : Bs} {env : Env} {os : Os} {pos p : Pos} {ι ρ α : Type} {args : ι → Env} {wf : ι → W ρ} {fl : ρ → List (Str × Slot)} {e : Expr} {es : List Expr} {x : Str} {k : Nat} {f C : Addr} {fd : FuncData} {ps : List Str}
theorem e_make {w : W ι} (M : Mk X.K C f) (G : FnOk X.prog X.w X.K X.mg X.base CX0 k f fd ps (spI C args wf fl)) (hr : Room (k + 1) X.A) (hm : X.mg x = some (.ref C)) (hb : Binds X.K fd ps []) (ha : AA X B env os (e :: es) args w)
    (hg : Gl X x := by rfl) (hdb : (x == ("__debug__" : Str)) = false := by decide) (he : starEach (e :: es) X.env = (false, eval e X.env) :: starEach es X.env := by rfl) (hpl : (backTo pos (starEach es X.env)).any (·.1) = false := by rfl) :
    EE X B env os (.Call (.Name x p) (e :: es) [] pos) (rObj C fl) (bnd w fun i => noX (wf i)) :=
  PE.imp (pe_make M G hr hg hm hb .nil pass0 ha hdb he hpl) fun σ H Q ⟨F, P, S, hw, k⟩ => ⟨F, _, S, hw, fun i hi vs F1 H1 S1 e1 ok y dy h1 h2 h3 => by
    rw [List.append_nil]
    exact made (X := X) S1 ok hi (fun z hz v F' H' S' e' ok' => k z hz v F' H' S' (e1.trans e') ok') y dy h1 h2 h3⟩
theorem e_make0 {wf : Unit → W ρ} (M : Mk X.K C f) (G : FnOk X.prog X.w X.K X.mg X.base CX0 k f fd ps (spI C (fun _ : Unit => []) wf fl)) (hr : Room (k + 1) X.A) (hm : X.mg x = some (.ref C)) (hb : Binds X.K fd ps [])
    (hg : Gl X x := by rfl) (hdb : (x == ("__debug__" : Str)) = false := by decide) :
    EE X B env os (.Call (.Name x p) [] [] pos) (rObj C fl) (noX (wf ())) :=
  PE.imp (pe_make0 M G hr hg hm hb .nil pass0 hdb) fun σ H Q ⟨F, P, S, hw, k⟩ => fun y dy h1 h2 h3 =>
    made (X := X) (args := fun _ : Unit => []) (i := ()) (vs := []) S .nil hw (fun z hz v F' H' S' e' ok' => k z hz v F' H' S' e' ok') y dy h1 h2 h3
end

/-! ### a class whose __init__ has only a star parameter -/
def spIS {α ρ : Type} (C : Addr) (r : Rp α) (wf : List α → W ρ) (fl : ρ → List (Str × Slot)) : Sp := fun vs H Q _ => ∃ (xs : List α) (F : Hp) (P : ρ → Prop) (x dx : Addr) (us : List V), vs = .ref x :: us ∧ Ex F H ∧ F x = none ∧ H x = some (.ins C dx []) ∧ Paired (r.ok F) us xs ∧ xs.length ≤ sizeLine ∧
  wf xs P (fun _ => False) ∧ ∀ r, P r → ∀ F' H', Fn (bs0 F H [(x, oObj C [])]) F' H' → OsOk (bs0 F H [(x, oObj C [])]) F' H' [(x, oObj C (fl r))] → Q .non H'
section
variable {P : Program} {w : World} {K : PySem.W.Frag} {mg : Str → Option Value} {base : Heap} {k : Nat} {f C : Addr} {fd : FuncData} {ps N : List Str} {α ρ : Type} {r : Rp α} {wf : List α → W ρ} {fl : ρ → List (Str × Slot)}
/-- how a def binds self and a star parameter -/
def BindStar (K : PySem.W.Frag) (fd : FuncData) (self pv : Str) : Prop := ∀ us rest : List Value, us.length = [self].length → bindArgs fd ⟨us ++ rest, []⟩ = (newTuple rest >>= fun t => pure ([self].zip us ++ [(pv, t)]))
theorem bindStar_of {K : PySem.W.Frag} {fd : FuncData} {self pv : Str} (h0 : ∀ a, bindArgs fd ⟨[a], []⟩ = (newTuple [] >>= fun t => pure [(self, a), (pv, t)])) (h1 : ∀ a r rs, bindArgs fd ⟨a :: r :: rs, []⟩ = (newTuple (r :: rs) >>= fun t => pure [(self, a), (pv, t)])) : BindStar K fd self pv :=
  StX.bind_star1 (B := fun us => bindArgs fd ⟨us, []⟩) h0 h1
theorem initS {x qual self pv : Str} {st : Stmt} (F : Fun K x qual st f fd) (S : FnScope N [self, pv] (defScope st)) (hb : BindStar K fd self pv)
    (body : ∀ (cdv : Value) (A : Around) (outer : List PySem.Env) (s : Shared) (H : Hp) (E : XK) (B : Bs) (a : Addr) (xs : List α), Room k (A.deeper (envOfC qual (defScope st) s.heap.objs.size f cdv)) →
      BG (cxOf CX0 P w K mg base N qual (defScope st) f cdv A outer s H E).nox B (entry [sv (rAdr a) (), sv (rTup K r) xs] (N.length - 2)) [(a, oObj C [])] (defBody st) (pIn B C a fl) (wf xs)) : FnR P w K mg base CX0 (k + 1) f (spIS C r wf fl) := by
  obtain ⟨oc, od, kV, doc, pm, an, cdv, ct, osl, rfl, lk, hcd⟩ := F.ex
  have z := StX.fn_star (P := P) (w := w) (mg := mg) (base := base) (ps := [self]) (pv := pv) (sp := spI C (fun xs : List α => [sv (rTup K r) xs]) wf fl) (k := k) lk hcd S StX.cxUp_none hb fun A outer s H vs Q E hr hsp => by
    obtain ⟨xs, F0, P0, a, dx, us, ev, fh, fa, ha, he, hw, hk⟩ := hsp
    subst ev
    have ow : ∀ p ∈ ([(a, oObj C [])] : Os), F0 p.1 = none ∧ ∃ o, H p.1 = some o ∧ p.2.ok F0 o := fun p hp => by
      rw [List.mem_singleton.mp hp]
      exact ⟨fa, _, ha, dx, [], rfl, .nil⟩
    have hus : us.length = 1 := by
      have := he.len
      rw [List.length_map] at this
      exact this.symm
    obtain ⟨t, ht, hq⟩ : ∃ t, PSs (cxOf CX0 P w K mg base N qual (defScope st) f cdv A outer s H E).nox (defBody st) t ∧ t { nx := fun _ H' => Q .non H', rt := Q } (L2.start N (.ref a :: us)) H := by
      refine ⟨_, body cdv A outer s H E (bs0 F0 H [(a, oObj C [])]) a xs hr, F0, P0, ⟨bs0_start fh ow, ?_, fun p hp => ?_, by simp⟩, hw, fun y hy => ⟨fun F' H' fn ow => hk y hy F' H' fn ow, fun σ F' H' fn ow => hk y hy F' H' fn ow⟩⟩
      · have h2 : (V.ref a :: us).length = 2 := by rw [List.length_cons, hus]
        rw [← h2]
        exact entry_ok (.cons ⟨_, rfl, rfl⟩ he)
      · obtain ⟨h1, o, h2, h3⟩ := ow p hp
        exact ⟨h1, ⟨o, h2, h3⟩, .inr (List.mem_map_of_mem hp)⟩
    exact ⟨t, ht.nox, hq⟩
  intro A outer s H us vs Q E hr e0 rv hsp
  obtain ⟨xs, F0, P0, a, dx, vs', ev, fh, fa, ha, he, hz, hw, hk⟩ := hsp
  refine z A outer s H us vs Q E hr e0 rv ⟨[.ref a], vs', ev, rfl, by rw [he.length]; exact hz, fun p hp => ?_⟩
  have g : Grow F0 H (upd F0 p (.tup vs')) (upd H p (.tup vs')) := Grow.alloc fh hp
  have fh' := g.fh fh
  have hap : a ≠ p := ne_of_none ha hp
  have fa' : upd F0 p (.tup vs') a = none := by rw [upd_ne hap]; exact fa
  have ha' : upd H p (.tup vs') a = some (.ins C dx []) := by rw [upd_ne hap]; exact ha
  refine ⟨xs, upd F0 p (.tup vs'), P0, a, dx, [.ref p], rfl, fh', fa', ha', .cons ⟨_, rfl, p, vs', rfl, SqT.of upd_same, by rw [he.length]; exact hz, Paired.imp (fun _ _ => r.mono g.f) he⟩ .nil, hw, fun q hq F' H' fn ow => ?_⟩
  refine hk q hq F' H' ⟨fn.fh, g.f.trans fn.bf, g.f.trans fn.mrk, fh, fn.ios, fun b o h1 h2 h3 => ?_⟩ fun y hy => ?_
  · have hbp : b ≠ p := ne_of_none h2 hp
    refine fn.keep b o ?_ ?_ h3
    · show upd F0 p (.tup vs') b = none
      rw [upd_ne hbp]
      exact h1
    · show upd H p (.tup vs') b = some o
      rw [upd_ne hbp]
      exact h2
  · obtain ⟨h1, h2, h3⟩ := ow y hy
    refine ⟨h1, h2, .inr ?_⟩
    rw [List.mem_singleton.mp hy]
    simp
end
section
variable {X : Cx} {B : Bs} {env : Env} {os : Os} {pos p : Pos} {ρ α : Type} {r : Rp α} {wf : List α → W ρ} {fl : ρ → List (Str × Slot)} {e : Expr} {es : List Expr} {x : Str} {k : Nat} {f C : Addr}
theorem madeS {F H : Hp} {σ : L2.St} {vs : List V} {xs : List α} {P : ρ → Prop} {Q : VK} {E : XK} (S : Sit B F H σ env os) (ok : Paired (r.ok F) vs xs) (hz : xs.length ≤ sizeLine) (hw : wf xs P (fun _ => False))
    (k : ∀ z, P z → ∀ v F' H', Sit B F' H' σ env os → Ex F F' → (rObj C fl).ok F' v z → Q v H') (x dx : Addr) (hx : H x = none) (hdx : H dx = none) (hne : dx ≠ x) :
    spIS C r wf fl (.ref x :: vs) (upd (upd H dx (.own x)) x (.ins C dx [])) (fun v H2 => v = .non ∧ Q (.ref x) H2) E := by
  have g : Grow F H (upd F dx (.own x)) (upd H dx (.own x)) := Grow.alloc S.fh hdx
  have S1 := S.grow g
  have hx1 : upd H dx (.own x) x = none := by rw [upd_ne (Ne.symm hne)]; exact hx
  have S2 := S1.newOwn (o := .ins C dx []) (ow := oObj C []) hx1 ⟨dx, [], rfl, .nil⟩
  refine ⟨xs, upd F dx (.own x), P, x, dx, vs, rfl, S2.fh, ?_, upd_same, Paired.imp (fun _ _ => r.mono g.f) ok, hz, hw, fun r hr F' H' fn ow => ⟨rfl, ?_⟩⟩
  · exact (S2.ow (x, oObj C []) List.mem_cons_self).1
  · obtain ⟨F2, o, e2, h1, ⟨dx', vs', h2, h3⟩, S4⟩ := (S2.backI fn ow).freeze
    subst h2
    exact k r hr (.ref x) F2 H' S4 ((g.f.trans fn.bf).trans e2) ⟨x, dx', vs', rfl, h1, h3⟩
/-- C(a, b, ..), C over a star parameter -/
theorem e_makeS {w : W (List α)} (M : Mk X.K C f) (G : FnR X.prog X.w X.K X.mg X.base CX0 k f (spIS C r wf fl)) (hr : Room (k + 1) X.A) (hm : X.mg x = some (.ref C)) (ha : AL X B env os (e :: es) r w) (hz : (e :: es).length ≤ sizeLine := by decide)
    (hg : Gl X x := by rfl) (hdb : (x == ("__debug__" : Str)) = false := by decide) (he : starEach (e :: es) X.env = (false, eval e X.env) :: starEach es X.env := by rfl) (hpl : (backTo pos (starEach es X.env)).any (·.1) = false := by rfl) :
    EE X B env os (.Call (.Name x p) (e :: es) [] pos) (rObj C fl) (bnd w fun i => noX (wf i)) :=
  PE.imp (StX.pe_makeR M G hr hg hm pass0 ha hdb he hpl) fun σ H Q ⟨F, P, S, hw, k⟩ => ⟨F, _, S, hw, fun xs hi vs F1 H1 S1 e1 ok hvl y dy h1 h2 h3 =>
    madeS S1 ok (by rw [← ok.length, hvl]; exact hz) hi (fun z hz v F' H' S' e' ok' => k z hz v F' H' S' (e1.trans e') ok') y dy h1 h2 h3⟩
/-- C() -/
theorem e_makeS0 (M : Mk X.K C f) (G : FnR X.prog X.w X.K X.mg X.base CX0 k f (spIS C r wf fl)) (hr : Room (k + 1) X.A) (hm : X.mg x = some (.ref C)) (hg : Gl X x := by rfl) (hdb : (x == ("__debug__" : Str)) = false := by decide) :
    EE X B env os (.Call (.Name x p) [] [] pos) (rObj C fl) (noX (wf [])) := by
  have z : PE X (.Call (.Name x p) [] [] pos) (StX.tMakeR C (spIS C r wf fl) (fun _ _ _ => False) tNil) := by
    refine ⟨fun pins s σ H Q I h => ?_⟩
    refine wpAny_Call_Name_kw (ld_glob I hg hm ?_ hdb)
    exact PySem.W.callWith_K0 I.kIn M.kp (StX.run_makeR (us := []) M G hr pass0 I .nil h)
  exact PE.imp z fun σ H Q ⟨F, P, S, hw, k⟩ => fun y dy h1 h2 h3 => madeS S .nil (Nat.zero_le _) hw (fun z hz v F' H' S' e' ok' => k z hz v F' H' S' e' ok') y dy h1 h2 h3
/-- C(*xs) -/
theorem e_makeS1 {w : W (List α)} {sp_ : Pos} (M : Mk X.K C f) (G : FnR X.prog X.w X.K X.mg X.base CX0 k f (spIS C r wf fl)) (hr : Room (k + 1) X.A) (hm : X.mg x = some (.ref C)) (he : EE X B env os e (rLst r) w) (hg : Gl X x := by rfl) (hdb : (x == ("__debug__" : Str)) = false := by decide)
    (hst : starEach [.Starred e sp_] X.env = [(true, eval e X.env)] := by rfl) : EE X B env os (.Call (.Name x p) [.Starred e sp_] [] pos) (rObj C fl) (bnd w fun i => noX (wf i)) := by
  refine ⟨fun pins s σ H Q I h => ?_⟩
  obtain ⟨F, P, S, hw, k⟩ := h
  refine wpAny_Call_Name_kw (ld_glob I hg hm ?_ hdb)
  refine PySem.W.callWith_S (h₀ := X.base) I.ok.mod.kin M.kp (thn (he.run pins s σ H (fun v H1 => ∃ a xs, v = V.ref a ∧ SqL X.K H1 a xs ∧ ∀ y dy, H1 y = none → H1 dy = none → dy ≠ y → spIS C r wf fl (.ref y :: xs) (upd (upd H1 dy (.own y)) y (.ins C dy [])) (fun v H2 => v = .non ∧ Q (.ref y) H2) (fun _ _ _ => False)) I ⟨F, _, S, hw, fun xs hxs v F1 H1 S1 e1 ⟨a, vs, ev, h1, z1, ok⟩ => ?_⟩) fun v s1 ⟨y, H1, I1, ry, a, xs, ey, hx, q⟩ => ?_) hst
  · refine ⟨a, vs, ev, SqL.of (S1.fh _ _ h1), fun y dy h1 h2 h3 => ?_⟩
    exact madeS S1 ok (by rw [← ok.length]; exact z1) hxs (fun z hz v F' H' S' e' ok' => k z hz v F' H' S' (e1.trans e') ok') y dy h1 h2 h3
  · subst ey
    obtain rfl : v = Value.ref a := ry
    exact StX.star_lst I1 hx fun us s2 I2 rv => ⟨I2.kIn, StX.run_makeR M G hr pass0 I2 rv q⟩
end
end Mi

namespace Mi
open PySem L2 Evl
open PyProof.Rows (Call_ boot_enumerate)

/-! ### enumerate over a tuple -/
def IteT (K : PySem.W.Frag) (a : Addr) : It :=
  ⟨fun i H => ∃ (vs : List V) (v : V), SqT K H a vs ∧ vs[i]? = some v,
   fun i H u H' => ∃ T v, u = .ref T ∧ H T = none ∧ H' = upd H T (.tup [.int (i : Nat), v]) ∧ ∀ vs, SqT K H a vs → vs[i]? = some v,
   fun i H => ∃ vs : List V, SqT K H a vs ∧ vs.length ≤ i⟩
def EnT (a e it : Addr) (i : Nat) (h : Heap) : Prop := (∃ old, IsEnum h e it ((i : Nat) : Int) old) ∧ h.IsTupleIter it a i ∧ e ≠ it
theorem turn_enumT {P : Program} {w : World} {K : PySem.W.Frag} {elts : List Expr} {kk : Nat} {tpos : Pos} (a e it : Addr) : Turn P w K (.Tuple elts kk tpos) (IteT K a) [e, it] e (EnT a e it) where
  mem := List.mem_cons_self
  obj := by
    rintro i h ⟨⟨old, h1⟩, ⟨o, h2, h3, h4⟩, _⟩ b hb
    rcases List.mem_cons.mp hb with q | q
    · exact ⟨_, q ▸ h1, fun v z => by cases z⟩
    · exact ⟨o, (List.mem_singleton.mp q) ▸ h2, fun v z => by rw [h4] at z; cases z⟩
  keep := by
    rintro i h h' ⟨⟨old, h1⟩, ⟨o, h2, h3, h4⟩, hne⟩ k
    exact ⟨⟨old, k e List.mem_cons_self _ h1⟩, ⟨o, k it (by simp) _ h2, h3, h4⟩, hne⟩
  item := by
    intro X hP hw hK hc i pins s σ H E I hf st ⟨vs, v, hq, hv⟩
    subst hP hw hK
    obtain ⟨⟨old, h1⟩, h2, hne⟩ := st
    obtain ⟨its, rv, p, hz⟩ := I.tuple hq
    obtain ⟨u, hu, ru⟩ := rv.get hv
    have hit : a ≠ it := fun z => by
      obtain ⟨o1, q1, q2, _⟩ := h2
      obtain ⟨o2, q3, q4, _⟩ := p
      rw [z, q1] at q3
      cases q3
      rw [q2] at q4
      exact absurd q4 (by decide)
    have hE : e ≠ a := fun z => by
      obtain ⟨o2, q3, q4, _⟩ := p
      have q1 := h1
      rw [z] at q1
      have q5 := Option.some.inj (q1.symm.trans q3)
      rw [← q5] at q4
      have q4 : Value.type "enumerate" = Value.type "tuple" := q4
      exact absurd q4 (by decide)
    have D := Draws.tuple (prog := X.prog) (w := X.w) (A := X.A.in1) (I.ok.hd hc) it a hit its.toArray
    have lt1 : e < s.heap.objs.size := Heap.lt_size h1
    have lt2 : it < s.heap.objs.size := let ⟨_, q, _⟩ := h2; Heap.lt_size q
    have hi : i < its.toArray.size := by
      rw [List.size_toArray]
      exact (List.getElem?_eq_some_iff.mp hu).1
    refine wpAny_pyNext_enum_itemC D h1 ⟨h2, p⟩ hi hne (by simp [hne, hE]) fun x h' tk hP ho hs hT hsz hk => ?_
    have ex : x = u := by
      have q : its[i]? = some x := by simpa using hP
      rw [q] at hu
      exact Option.some.inj hu
    subst ex
    refine ⟨_, rfl, wpAny_letOwnedTupleGo_enum (s := { s with heap := h', toks := tk + 1 }) ho fun h2' he' sb => ?_⟩
    have hT2 : h2'.get? s.heap.objs.size = some { cls := .type "tuple", data := .seq #[.int i tk, x] } := (sb.2 _ (Nat.ne_of_gt lt1)).trans hT
    have new : ObjOk X.prog X.w (upd H s.heap.objs.size (.tup [.int (i : Nat), v])) h2' s.heap.objs.size (.tup [.int (i : Nat), v]) := ⟨Nat.le_of_lt (by show 2 < sizeLine; decide), [.int i tk, x], .cons ⟨_, rfl⟩ (.cons ru .nil), _, hT2, rfl, _, rfl⟩
    have kept : ∀ b ob, b ∉ [e, it] → s.heap.get? b = some ob → h2'.get? b = some ob := fun b ob hb q => by
      have b1 : b ≠ e := fun z => hb (by simp [z])
      have b2 : b ≠ it := fun z => hb (by simp [z])
      exact (sb.2 b b1).trans (hk b ob b1 b2 q)
    have I1 : Inv X pins σ (upd H s.heap.objs.size (.tup [.int (i : Nat), v])) { s with heap := h2', toks := tk + 1 } := I.turnedNew (ch := [e, it]) kept hf (Nat.le_refl _) new
    refine ⟨.ref s.heap.objs.size, _, I1, rfl, ⟨_, v, rfl, I.hok.fresh (Nat.le_refl _), rfl, fun ys hy => by rw [I.tuple_inj hy hq]; exact hv⟩, ⟨⟨x, ?_⟩, ?_, hne⟩, fun b hb => ?_⟩
    · rw [show ((i + 1 : Nat) : Int) = (i : Int) + 1 from by omega]
      exact he'
    · obtain ⟨o, q1, q2⟩ := hs.1
      exact ⟨o, (sb.2 it (Ne.symm hne)).trans q1, q2⟩
    · have hb' : b < s.heap.objs.size := by
        rcases List.mem_cons.mp hb with z | z
        · exact z ▸ lt1
        · exact (List.mem_singleton.mp z) ▸ lt2
      rw [upd_ne (Nat.ne_of_lt hb')]
      exact (hf b hb).1
  done := by
    intro X hP hw hK hc i pins s σ H E I hf st ⟨vs, hq, hv⟩
    subst hP hw hK
    obtain ⟨⟨old, h1⟩, h2, hne⟩ := st
    obtain ⟨its, rv, p, hz⟩ := I.tuple hq
    obtain ⟨f0, f1, f2, f3, f4, f5⟩ := hf it (by simp)
    have hl := rv.length
    have ty : s.TypeIs (.ref e) "enumerate" := ⟨_, h1, rfl⟩
    unfold pyNext
    refine wpAny_bind (wpAny_attempt ?_)
    refine wpAny_callSpecial?_slot (name := Str.ofString "__next__") ty F.slot_enumerate_next ?_
    refine wpAny_call_entry F.slot_enumerate_next ty F.entry_enumerate_next ?_ (F.args_enumerate_next_1 _)
    show wpAny _ _ (field (.ref e) 2 >>= fun x => _) _ _ s
    refine wpAny_bind (wpAny_field (x := .ref it) h1 rfl rfl ?_)
    refine wpAny_bind (wpAny_nextOf_tuple_end (I.ok.hd hc) h2 p (by simp; omega) fun h' x eb ⟨o, ho, hcls⟩ => ?_)
    refine wpAny_bind (wpAny_isInstance (T := "StopIteration") (b := true) ⟨o, ho, hcls⟩ isSubtype_stop (wpAny_pure ⟨rfl, ?_⟩))
    exact I.turned (t' := s.toks) (fun b o hb q => eb b o hb q) f0 f1 f3 f4 f5
  self := fun A i s Q E st h => by
    obtain ⟨⟨old, h1⟩, _⟩ := st
    exact wpAny_pyIter_enum h1 h
/-- enumerate(v) begins: the iterator of v, the enumerate object -/
abbrev enumObj (it : Addr) : Obj := { cls := .type "enumerate", data := .fields #[.none, .bool false, .ref it, rawInt 0, .none, .none] }
theorem meets_enum1 {v : Value} {o : Obj} {G : Heap → Prop} (B : Begins v o G) :
    Meets (Builtin.«enumerate.__new__» ⟨[.type "enumerate", v], []⟩) (fun _ R s => G s.heap ∧ R (.ok (.ret (.ref (s.heap.push o).objs.size))) { s with heap := (s.heap.push o).push (enumObj s.heap.objs.size) }) :=
  .of_wp fun prog w A R s ⟨g0, k0⟩ => by
    obtain ⟨h0, g0', d0, t0, o0⟩ := s
    have sub0 := sub_enumerate
    have it0 : ∀ {A' : Around} {E : Value → Shared → Prop} {Q : Value → Shared → Prop}, Q (.ref h0.objs.size) ⟨h0.push o, g0', d0, t0, o0⟩ → wpAny (model prog w) A' (pyIter v) Q E ⟨h0, g0', d0, t0, o0⟩ := fun q => B.iter prog w _ _ ⟨h0, g0', d0, t0, o0⟩ _ g0 q
    wp_walk using it0
    refine wpAny_stack_any fun st => wpAny_pure ?_
    split
    · rename_i c _ _ _ _ _
      by_cases hc : (c == Value.type "enumerate") = true
      · wp_walk using it0
        exact ⟨_, rfl, k0⟩
      · wp_walk using it0
        exact ⟨_, rfl, k0⟩
    · wp_walk using it0
      exact ⟨_, rfl, k0⟩
theorem call_enum1 {prog : Program} {w : World} {A : Around} {E : Value → Shared → Prop} {s : Shared} {v : Value} {o : Obj} {G : Heap → Prop} {Q : Value → Shared → Prop} (B : Begins v o G) (hG : G s.heap)
    (k : ∀ h', IsEnum h' (s.heap.objs.size + 1) s.heap.objs.size 0 .none → h'.get? s.heap.objs.size = some o → (∀ b ob, s.heap.get? b = some ob → h'.get? b = some ob) → Q (.ref (s.heap.objs.size + 1)) { s with heap := h' }) :
    wpAny (model prog w) A (call (.type "enumerate") [v]) Q E s := by
  refine callType_new F.called_enumerate (by decide) (F.typeCall_enumerate_1 _) (F.newCall_enumerate_1 _) (fun obj => F.args_object_init_2 obj _) F.entry_enumerate_new (meets_enum1 B) ⟨hG, ?_⟩
  have sz : (s.heap.push o).objs.size = s.heap.objs.size + 1 := Heap.size_push _ _
  have isE : IsEnum ((s.heap.push o).push (enumObj s.heap.objs.size)) (s.heap.objs.size + 1) s.heap.objs.size 0 .none := by
    have z := Heap.get?_push_size (s.heap.push o) (o := enumObj s.heap.objs.size) rfl
    rwa [sz] at z
  show _ ∧ _
  rw [sz]
  exact ⟨⟨_, isE, rfl⟩, k _ isE (Heap.get?_push_of_some _ (Heap.get?_push_size _ B.free)) fun b ob x => Heap.get?_push_of_some _ (Heap.get?_push_of_some _ x)⟩
def iEnumT (K : PySem.W.Frag) (ta : TA) : TI := fun σ H R => ta σ H fun vs H1 => ∃ a xs, vs = [.ref a] ∧ SqT K H1 a xs ∧ R (IteT K a) H1
theorem pi_enumT {X : Cx} {e : Expr} {ta : TA} {p pos tpos : Pos} {elts : List Expr} {kk : Nat} (hg : Gl X "enumerate") (hm : X.mg "enumerate" = none) (ha : PA X [e] ta) (hs : starEach [e] X.env = [(false, eval e X.env)] := by rfl) :
    PI X (.Tuple elts kk tpos) (.Call (.Name "enumerate" p) [e] [] pos) (iEnumT X.K ta) := by
  refine ⟨fun pins s σ H R I h => ?_⟩
  refine Call_ (ld_blt I hg hm boot_enumerate (PyProof.Rows.callWith_type1 (thn (ha.run pos pins s σ H _ I h) fun us s1 ⟨vs, H1, I1, rv, qv⟩ => ?_) hs rfl))
  obtain ⟨a, xs, rfl, hq, q⟩ := qv
  obtain ⟨u, rfl, ru⟩ : ∃ u, us = [u] ∧ RelV (.ref a) u := by
    cases rv with
    | cons r t =>
      cases t
      exact ⟨_, rfl, r⟩
  obtain rfl : u = Value.ref a := ru
  obtain ⟨its, rv', p', hz⟩ := I1.tuple hq
  refine call_enum1 (begins_tuple a its.toArray) p' fun h' he hi hk => wpAny_pyIter_enum he ?_
  have I2 : Inv X pins σ H1 { s1 with heap := h' } := I1.kept (t' := s1.toks) hk
  refine ⟨_, [s1.heap.objs.size + 1, s1.heap.objs.size], _, _, H1, rfl, I2, turn_enumT a _ _, ⟨⟨.none, he⟩, ⟨_, hi, rfl, rfl⟩, Nat.succ_ne_self _⟩, fun b hb => ?_, q⟩
  have le : s1.heap.objs.size ≤ b := by
    rcases List.mem_cons.mp hb with z | z
    · rw [z]; exact Nat.le_succ _
    · rw [List.mem_singleton.mp z]; exact Nat.le_refl _
  exact I1.fpOk le (I1.hok.fresh le)
section
variable {X : Cx} {B : Bs} {env : Env} {os : Os} {pos : Pos} {α β γ : Type} {r : Rp α} {s : Rp β} {t : Rp γ} {e a b c : Expr}
theorem s_enumT {p tpos : Pos} {elts : List Expr} {kk : Nat} {w : W (List α)} (ha : EE X B env os a (rTup X.K r) w) (hm : X.mg "enumerate" = none) (hg : Gl X "enumerate" := by rfl) (hs : starEach [a] X.env = [(false, eval a X.env)] := by rfl)
    (he : starEach [a] X.env = (false, eval a X.env) :: starEach [] X.env := by rfl) :
    ES X B env os (.Tuple elts kk tpos) (.Call (.Name "enumerate" p) [a] [] pos) (rT2 X.K rInt r) (bnd w fun x => ret ((rangeI 0 x.length).zip x)) :=
  PI.imp (pi_enumT hg hm (pa_cons ha pa_nil he) hs) fun σ H R ⟨F, P, S, hw, k⟩ => ⟨F, _, S, hw, fun x hx v F1 H1 S1 e1 ⟨p1, vs, q1, h1, z1, ok1⟩ => by
  subst q1
  refine ⟨p1, vs, rfl, ex_t S1.fh h1, ?_⟩
  have l1 := ok1.length
  have lr : (rangeI 0 (x.length : Int)).length = x.length := by rw [rangeI_len]; omega
  have lz : ((rangeI 0 (x.length : Int)).zip x).length = vs.length := by rw [List.length_zip, lr, l1]; exact Nat.min_self _
  refine k _ hx _ F1 H1 S1 e1 ⟨fun i F3 H3 x1 x2 hi => ?_, fun i F3 H3 u H4 z x1 x2 yy hz => ?_, fun i F3 H3 x1 x2 hi => ?_⟩ (by rw [lz]; exact z1)
  · rw [lz] at hi
    exact ⟨vs, vs[i], ex_t x2 (ex_t x1 h1), List.getElem?_eq_getElem hi⟩
  · obtain ⟨T, v2, ev, hT, eH, y1⟩ := yy
    subst ev eH
    obtain ⟨z1', z2'⟩ := z
    have hz' := List.getElem?_zip_eq_some.mp hz
    obtain ⟨v, hv, rv⟩ := Paired.get ok1 hz'.2
    have q1 := y1 vs (ex_t x2 (ex_t x1 h1))
    rw [q1] at hv
    cases hv
    have hi : z1' = (i : Int) := by
      have h := hz'.1
      unfold rangeI at h
      rw [List.getElem?_map] at h
      obtain ⟨m, hm, em⟩ := Option.map_eq_some_iff.mp h
      rw [List.getElem?_range (by have := (List.getElem?_eq_some_iff.mp hm).1; simpa using this)] at hm
      have := Option.some.inj hm
      omega
    have g : Grow F3 H3 (upd F3 T (.tup [.int (i : Nat), v2])) (upd H3 T (.tup [.int (i : Nat), v2])) := Grow.alloc x2 hT
    exact ⟨_, g, T, _, v2, rfl, SqT.of upd_same, (by show V.int _ = V.int _; rw [hi]), r.mono (x1.trans g.f) rv⟩
  · rw [lz] at hi
    exact ⟨vs, ex_t x2 (ex_t x1 h1), hi⟩⟩
end
end Mi

namespace Mi
open PySem L2 Evl

section
variable {X : Cx} {B : Bs} {env : Env} {os : Os} {pos p : Pos} {α β γ ι ρ : Type} {r : Rp α} {s : Rp β} {t : Rp γ} {e a b c o : Expr} {es : List Expr} {rest : List Stmt} {post : Post β}
/-! ### methods, properties -/
section
variable {args : α × ι → Env} {wf : α × ι → W ρ} {ro : Rp ρ} {sl : ι → Env} {k : Nat} {f C g : Addr} {fd : FuncData} {ps : List Str} {m : Str} {fl : α → List (Str × Slot)} {apos : Pos}
theorem e_meth {w1 : W α} {w2 : α → W ι} {pl : Sem Bool} (G : FnOk X.prog X.w X.K X.mg X.base CX0 k f fd ps (spW (fun q : α × ι => sv (rObj C fl) q.1 :: sl q.2) (fun _ => []) wf ro)) (hr : Room k X.A) (cl : Cls X.K C) (hm : Meth X.K C m f) (hb : Binds X.K fd ps [])
    (ho : EE X B env os o (rObj C fl) w1) (ha : ∀ x, AA X B env os (e :: es) sl (w2 x)) (hn : ∀ x, (fl x).lookup m = none := by exact fun _ => rfl) (hst : starEach (e :: es) X.env = (false, eval e X.env) :: starEach es X.env := by rfl) (hpl : (backTo pos (starEach es X.env)).any (·.1) = false := by rfl)
    (ht : eval (.Call (.Attribute o m apos) (e :: es) [] pos) X.env = (do
      let ov ← eval o X.env
      standAt apos.atName
      let (f, first) ← holding [ov] (getMethod ov m pl)
      callWith pos f first (backTo pos (starEach (e :: es) X.env)) (backToKw pos (keywordEach [] X.env))) := by rfl) :
    EE X B env os (.Call (.Attribute o m apos) (e :: es) [] pos) ro (bnd w1 fun x => bnd (w2 x) fun i => noX (wf (x, i))) :=
  PE.imp (pe_meth (pl := pl) ho cl hm G hr hb .nil pass0 (PA.ex ha) hst hpl ht) fun σ H Q ⟨F, P, S, hw, kk⟩ => ⟨F, _, S, hw, fun x hx v F1 H1 S1 e1 ⟨y, dx, vs, ev, hy, hf⟩ => ⟨y, dx, vs, ev, S1.fh _ _ hy, hf.none (hn x), x, F1, _, S1, hx, fun i hi us F2 H2 S2 e2 ok => by
    subst ev
    rw [List.append_nil]
    refine ⟨(x, i), F2, P, S2.fh, .cons ⟨_, rfl, y, dx, vs, rfl, e2 _ _ hy, hf.mono e2⟩ ok, fun z hz => (by cases hz), List.nodup_nil, hi, fun z hz v F' H' fn ow okz => ?_⟩
    exact kk z hz v F' H' (S2.back OsLe.none fn ow) ((e1.trans e2).trans fn.bf) okz⟩⟩
theorem e_meth0 {wf : α × Unit → W ρ} {w1 : W α} {pl : Sem Bool} (G : FnOk X.prog X.w X.K X.mg X.base CX0 k f fd ps (spW (fun q : α × Unit => [sv (rObj C fl) q.1]) (fun _ => []) wf ro)) (hr : Room k X.A) (cl : Cls X.K C) (hm : Meth X.K C m f) (hb : Binds X.K fd ps [])
    (ho : EE X B env os o (rObj C fl) w1) (hn : ∀ x, (fl x).lookup m = none := by exact fun _ => rfl)
    (ht : eval (.Call (.Attribute o m apos) [] [] pos) X.env = (do
      let ov ← eval o X.env
      standAt apos.atName
      let (f, first) ← holding [ov] (getMethod ov m pl)
      callWith pos f first (backTo pos (starEach [] X.env)) (backToKw pos (keywordEach [] X.env))) := by rfl) :
    EE X B env os (.Call (.Attribute o m apos) [] [] pos) ro (bnd w1 fun x => noX (wf (x, ()))) :=
  PE.imp (pe_meth0 (pl := pl) ho cl hm G hr hb .nil pass0 ht) fun σ H Q ⟨F, P, S, hw, kk⟩ => ⟨F, _, S, hw, fun x hx v F1 H1 S1 e1 ⟨y, dx, vs, ev, hy, hf⟩ => by
    subst ev
    refine ⟨y, dx, vs, rfl, S1.fh _ _ hy, hf.none (hn x), (x, ()), F1, P, S1.fh, .cons ⟨_, rfl, y, dx, vs, rfl, hy, hf⟩ .nil, fun z hz => (by cases hz), List.nodup_nil, hx, fun z hz v F' H' fn ow okz => ?_⟩
    exact kk z hz v F' H' (S1.back OsLe.none fn ow) (e1.trans fn.bf) okz⟩
theorem e_prop {wf : α × Unit → W ρ} {w1 : W α} {pr : Addr} (G : FnOk X.prog X.w X.K X.mg X.base CX0 k g fd ps (spW (fun q : α × Unit => [sv (rObj C fl) q.1]) (fun _ => []) wf ro)) (hr : Room (k + 1) X.A) (cl : Cls X.K C) (hp : PropOf X.K C m pr g) (hb : Binds X.K fd ps [])
    (ho : EE X B env os o (rObj C fl) w1) (hab : attributeBase o m X.env (eval o X.env) = eval o X.env := by rfl) : EE X B env os (.Attribute o m pos) ro (bnd w1 fun x => noX (wf (x, ()))) :=
  PE.imp (pe_prop ho cl hp G hr hb .nil pass0 hab) fun σ H Q ⟨F, P, S, hw, kk⟩ => ⟨F, _, S, hw, fun x hx v F1 H1 S1 e1 ⟨y, dx, vs, ev, hy, hf⟩ => by
    subst ev
    refine ⟨y, dx, vs, rfl, S1.fh _ _ hy, (x, ()), F1, P, S1.fh, .cons ⟨_, rfl, y, dx, vs, rfl, hy, hf⟩ .nil, fun z hz => (by cases hz), List.nodup_nil, hx, fun z hz v F' H' fn ow okz => ?_⟩
    exact kk z hz v F' H' (S1.back OsLe.none fn ow) (e1.trans fn.bf) okz⟩
end
/-! ### operators of own classes -/
/-- what a class must have of an operator of its own -/
structure BinO (K : PySem.W.Frag) (C f : Addr) (op : Operator) : Prop where
  first : PySem.W.selfFirst K C = true
  at_ : PySem.W.findIn K (.ref C) (PySem.dunder op.info.2) = some (some (.ref f))
  fn : PySem.W.isFn K (.ref f) = true
section
variable {k : Nat} {f C : Addr} {fd : FuncData} {ps : List Str} {sp : Sp} {op : Operator}
/-- both of one class -/
theorem op_own (G : FnOk X.prog X.w X.K X.mg X.base CX0 k f fd ps sp) (hr : Room k X.A) (hb : Binds X.K fd ps []) (c : BinO X.K C f op) :
    OpR X (binaryOp op) (fun x y H Q => ∃ a b dx dy fs gs, x = .ref a ∧ y = .ref b ∧ H a = some (.ins C dx fs) ∧ H b = some (.ins C dy gs) ∧ sp [.ref a, .ref b] H Q fun _ _ _ => False) := by
  intro pins s σ H x y v u Q I rx ry ⟨a, b, dx, dy, fs, gs, ex, ey, ha, hb', hsp⟩
  subst ex ey
  cases rx
  cases ry
  obtain ⟨mA, J, _⟩ := ins_get I.hok ha
  obtain ⟨mB, J', _⟩ := ins_get I.hok hb'
  obtain ⟨od, J, _⟩ := J.look
  obtain ⟨od', J', _⟩ := J'.look
  obtain ⟨m, hF⟩ := I.fr
  refine PySem.W.binop_K hF I.ok.mod.kin J J'.type c.first c.at_ c.fn ?_
  refine wpAny_mono (run_fn (us := [.ref a, .ref b]) (vs := [.ref a, .ref b]) G hr hb .nil pass0 I (.cons rfl (.cons rfl .nil)) (by rw [List.append_nil]; exact hsp)) (fun v s' z => ?_) fun _ _ z => z
  obtain ⟨vv, H', I', rv, q⟩ := z
  exact SlX.cmpback rv ⟨vv, H', I', rv, q⟩
/-- what a built-in type says of an operator -/
structure BinT (K : PySem.W.Frag) (C f : Addr) (op : Operator) (T : String) : Prop extends BinO K C f op where
  rv : ∃ rc, PySem.W.findIn K (.ref C) (dunderR op.info.2) = some rc ∧ (rc = none ∨ ∃ g : Addr, rc = some (.ref g))
  t1 : ∃ fo, PySem.W.findIn K (.type T) (PySem.dunder op.info.2) = some fo
  t2 : ∃ ro, PySem.W.findIn K (.type T) (dunderR op.info.2) = some ro
  sub : PySem.W.subIn K (.type T) (.ref C) = some false
/-- an own object and a number -/
theorem op_ownI (G : FnOk X.prog X.w X.K X.mg X.base CX0 k f fd ps sp) (hr : Room k X.A) (hb : Binds X.K fd ps []) (c : BinT X.K C f op "int") :
    OpR X (binaryOp op) (fun x y H Q => ∃ a i dx fs, x = .ref a ∧ y = .int i ∧ H a = some (.ins C dx fs) ∧ sp [.ref a, .int i] H Q fun _ _ _ => False) := by
  intro pins s σ H x y v u Q I rx ry ⟨a, i, dx, fs, ex, ey, ha, hsp⟩
  subst ex ey
  cases rx
  obtain ⟨tk, rfl⟩ := ry
  obtain ⟨mA, J, _⟩ := ins_get I.hok ha
  obtain ⟨od, J, _⟩ := J.look
  obtain ⟨m, hF⟩ := I.fr
  obtain ⟨rc, r1, r2⟩ := c.rv
  obtain ⟨fo, t1⟩ := c.t1
  obtain ⟨ro, t2⟩ := c.t2
  refine PySem.W.ksp_binT hF I.ok.mod.kin J rfl c.first c.at_ c.fn r1 r2 t1 t2 c.sub ?_
  refine wpAny_mono (run_fn (us := [.ref a, .int i tk]) (vs := [.ref a, .int i]) G hr hb .nil pass0 I (.cons rfl (.cons ⟨tk, rfl⟩ .nil)) (by rw [List.append_nil]; exact hsp)) (fun v s' z => ?_) fun _ _ z => z
  obtain ⟨vv, H', I', rv, q⟩ := z
  exact SlX.cmpback rv ⟨vv, H', I', rv, q⟩
theorem un_ownN (G : FnOk X.prog X.w X.K X.mg X.base CX0 k f fd ps sp) (hr : Room k X.A) (hb : Binds X.K fd ps []) (hs : PySem.W.findIn X.K (.ref C) "__neg__" = some (some (.ref f))) (hf : PySem.W.isFn X.K (.ref f) = true) :
    UnR X (unaryOp .USub) (fun x H Q => ∃ a dx fs, x = .ref a ∧ H a = some (.ins C dx fs) ∧ sp [.ref a] H Q fun _ _ _ => False) := by
  intro pins s σ H x v Q I rx ⟨a, dx, fs, ex, ha, hsp⟩
  subst ex
  cases rx
  obtain ⟨mA, J, _⟩ := ins_get I.hok ha
  obtain ⟨od, J, _⟩ := J.look
  obtain ⟨m, hF⟩ := I.fr
  refine PySem.W.ksp_neg hF I.ok.mod.kin J hs hf ?_
  exact run_fn (us := [.ref a]) (vs := [.ref a]) G hr hb .nil pass0 I (.cons rfl .nil) (by rw [List.append_nil]; exact hsp)
end
section
variable {fl : α → List (Str × Slot)} {gl : β → List (Str × Slot)} {ro : Rp ρ} {k : Nat} {f C : Addr} {fd : FuncData} {ps : List Str} {op : Operator}
theorem e_binO {fl2 : α → List (Str × Slot)} {wf : α × α × Unit → W ρ} {w1 : W α} {w2 : α → W α} (G : FnOk X.prog X.w X.K X.mg X.base CX0 k f fd ps (spW (fun q : α × α × Unit => [sv (rObj C fl) q.1, sv (rObj C fl) q.2.1]) (fun _ => []) wf ro)) (hr : Room k X.A) (hb : Binds X.K fd ps []) (c : BinO X.K C f op)
    (ha : EE X B env os a (rObj C fl) w1) (hb' : ∀ x, EE X B env os b (rObj C fl) (w2 x)) : EE X B env os (.BinOp a op b pos) ro (bnd w1 fun x => bnd (w2 x) fun y => noX (wf (x, y, ()))) :=
  PE.imp (pe_op (op_own G hr hb c) ha (PE.ex hb')) fun σ H Q ⟨F, P, S, hw, kk⟩ => ⟨F, _, S, hw, fun x hx v F1 H1 S1 e1 ⟨y, dx, vs, ev, hy, hf⟩ => ⟨x, F1, _, S1, hx, fun x2 hx2 u F2 H2 S2 e2 ⟨z, dz, us, eu, hz, hg⟩ => by
    subst ev eu
    refine ⟨y, z, dx, dz, vs, us, rfl, rfl, S2.fh _ _ (e2 _ _ hy), S2.fh _ _ hz, (x, x2, ()), F2, P, S2.fh, .cons ⟨_, rfl, y, dx, vs, rfl, e2 _ _ hy, hf.mono e2⟩ (.cons ⟨_, rfl, z, dz, us, rfl, hz, hg⟩ .nil), fun z hz => (by cases hz), List.nodup_nil, hx2, fun z hz v F' H' fn ow okz => ?_⟩
    exact kk z hz v F' H' (S2.back OsLe.none fn ow) ((e1.trans e2).trans fn.bf) okz⟩⟩
theorem e_binI {wf : α × Int × Unit → W ρ} {w1 : W α} {w2 : α → W Int} (G : FnOk X.prog X.w X.K X.mg X.base CX0 k f fd ps (spW (fun q : α × Int × Unit => [sv (rObj C fl) q.1, sv rInt q.2.1]) (fun _ => []) wf ro)) (hr : Room k X.A) (hb : Binds X.K fd ps []) (c : BinT X.K C f op "int")
    (ha : EE X B env os a (rObj C fl) w1) (hb' : ∀ x, EE X B env os b rInt (w2 x)) : EE X B env os (.BinOp a op b pos) ro (bnd w1 fun x => bnd (w2 x) fun y => noX (wf (x, y, ()))) :=
  PE.imp (pe_op (op_ownI G hr hb c) ha (PE.ex hb')) fun σ H Q ⟨F, P, S, hw, kk⟩ => ⟨F, _, S, hw, fun x hx v F1 H1 S1 e1 ⟨y, dx, vs, ev, hy, hf⟩ => ⟨x, F1, _, S1, hx, fun i hi u F2 H2 S2 e2 eu => by
    have eu : u = .int i := eu
    subst ev eu
    refine ⟨y, i, dx, vs, rfl, rfl, S2.fh _ _ (e2 _ _ hy), (x, i, ()), F2, P, S2.fh, .cons ⟨_, rfl, y, dx, vs, rfl, e2 _ _ hy, hf.mono e2⟩ (.cons ⟨_, rfl, rfl⟩ .nil), fun z hz => (by cases hz), List.nodup_nil, hi, fun z hz v F' H' fn ow okz => ?_⟩
    exact kk z hz v F' H' (S2.back OsLe.none fn ow) ((e1.trans e2).trans fn.bf) okz⟩⟩
theorem e_negO {wf : α × Unit → W ρ} {w1 : W α} (G : FnOk X.prog X.w X.K X.mg X.base CX0 k f fd ps (spW (fun q : α × Unit => [sv (rObj C fl) q.1]) (fun _ => []) wf ro)) (hr : Room k X.A) (hb : Binds X.K fd ps []) (hs : PySem.W.findIn X.K (.ref C) "__neg__" = some (some (.ref f))) (hf : PySem.W.isFn X.K (.ref f) = true)
    (ha : EE X B env os a (rObj C fl) w1) : EE X B env os (.UnaryOp .USub a pos) ro (bnd w1 fun x => noX (wf (x, ()))) :=
  PE.imp (pe_un (un_ownN G hr hb hs hf) ha) fun σ H Q ⟨F, P, S, hw, kk⟩ => ⟨F, _, S, hw, fun x hx v F1 H1 S1 e1 ⟨y, dx, vs, ev, hy, hf⟩ => by
    subst ev
    refine ⟨y, dx, vs, rfl, S1.fh _ _ hy, (x, ()), F1, P, S1.fh, .cons ⟨_, rfl, y, dx, vs, rfl, hy, hf⟩ .nil, fun z hz => (by cases hz), List.nodup_nil, hx, fun z hz v F' H' fn ow okz => ?_⟩
    exact kk z hz v F' H' (S1.back OsLe.none fn ow) (e1.trans fn.bf) okz⟩
end
/-! ### isinstance -/
/-- what type all of a kind have -/
def TyR (K : PySem.W.Frag) {α : Type} (r : Rp α) (t : Value) : Prop := ∀ (F H : Hp) (v : V) (x : α), r.ok F v x → Ex F H → TyX K H v t
theorem ty_int {K : PySem.W.Frag} : TyR K rInt (.type "int") := fun F H v x e _ => by
  have e : v = .int x := e
  rw [e]
  exact .base (.int x)
theorem ty_bool {K : PySem.W.Frag} : TyR K rBool (.type "bool") := fun F H v x e _ => by
  have e : v = .bl x := e
  rw [e]
  exact .base (.bl x)
theorem ty_str {K : PySem.W.Frag} : TyR K rStr (.type "str") := fun F H v x e _ => by
  rw [e.1]
  exact .base (.str x)
theorem ty_non {K : PySem.W.Frag} : TyR K rNon (.type "NoneType") := fun F H v x e _ => by
  have e : v = .non := e
  rw [e]
  exact .base .non
theorem ty_lst {K : PySem.W.Frag} {r : Rp α} : TyR K (rLst r) (.type "list") := fun F H v x ⟨a, vs, e, h, _⟩ q => by
  rw [e]
  exact .base (.lst (q _ _ h))
theorem ty_obj {K : PySem.W.Frag} {C : Addr} {fl : α → List (Str × Slot)} (c : C8.InsC K C) : TyR K (rObj C fl) (.ref C) := fun F H v x ⟨a, dx, vs, e, h, _⟩ q => by
  rw [e]
  exact .base (.ins (q _ _ h) c.cl c.ha c.hn c.htk c.hm)
theorem kit_refl {K : PySem.W.Frag} {C : Addr} : PySem.W.kitOne K (.ref C) (.ref C) = some true := by
  unfold PySem.W.kitOne
  rw [if_pos (by simp)]
theorem kit_up {K : PySem.W.Frag} {C : Addr} {T : String} {k : Bool} (hs : PySem.W.subIn K (.ref C) (.type T) = some k) (hm : PySem.W.kitMeta T = true := by decide +kernel) : PySem.W.kitOne K (.ref C) (.type T) = some k := by
  unfold PySem.W.kitOne
  rw [if_neg (by intro h; cases beq_iff_eq.mp h)]
  unfold PySem.W.kitCls
  dsimp only
  rw [if_pos hm]
  exact hs
theorem kit_down {K : PySem.W.Frag} {C : Addr} {t : Value} {k : Bool} (ht : PySem.W.typeIn K (.ref C) = some (.type "type")) (hc : PySem.W.isClsIn K C = true) (hs : PySem.W.subIn K t (.ref C) = some k) (hne : (t == Value.ref C) = false) : PySem.W.kitOne K t (.ref C) = some k := by
  unfold PySem.W.kitOne
  rw [if_neg (by rw [hne]; decide)]
  unfold PySem.W.kitCls
  dsimp only
  rw [if_pos (by rw [ht, show (PySem.W.clsIn K C).isSome = true from hc]; rfl)]
  exact hs
/-- isinstance(e, T), T a built-in type -/
theorem e_isB {w : W α} {t : Value} {x : Str} {T : String} {k : Bool} {p1 p2 : Pos} (ty : TyR X.K r t) (hk : PySem.W.kitOne X.K t (.type T) = some k) (ha : EE X B env os a r w) (hm : X.mg "isinstance" = none) (hx : X.mg x = none)
    (hv : bootBuiltins x = some (.type T) := by decide +kernel) (hn : x ≠ "__name__" := by decide) (hd : (x == ("__debug__" : Str)) = false := by decide)
    (hg : Gl X "isinstance" := by rfl) (hgx : Gl X x := by rfl) (hs : starEach [a, .Name x p2] X.env = (false, eval a X.env) :: starEach [.Name x p2] X.env := by rfl) (hs2 : starEach [.Name x p2] X.env = (false, eval (.Name x p2) X.env) :: starEach [] X.env := by rfl) (hpl : (backTo pos (starEach [.Name x p2] X.env)).any (·.1) = false := by rfl) :
    EE X B env os (.Call (.Name "isinstance" p1) [a, .Name x p2] [] pos) rBool (bnd w fun _ => ret k) :=
  PE.imp (pe_callB call_isi hg hm (by decide +kernel) (pa_cons ha (pa_cons (pe_bltn (v := .ty T) hgx hx hv rfl hn hd) pa_nil hs2) hs) (by decide) (by decide) hs hpl) fun σ H Q ⟨F, P, S, hw, kk⟩ => ⟨F, _, S, hw, fun x hx v F1 H1 S1 e1 ok =>
    ⟨v, .ty T, t, .type T, k, rfl, .ty T, ty F1 H1 v x ok S1.fh, hk, kk k hx (.bl k) F1 H1 S1 e1 rfl⟩⟩
/-- isinstance(e, C), C an own class -/
theorem e_isC {w : W α} {t : Value} {x : Str} {C : Addr} {k : Bool} {p1 p2 : Pos} (ty : TyR X.K r t) (hk : PySem.W.kitOne X.K t (.ref C) = some k) (ha : EE X B env os a r w) (hm : X.mg "isinstance" = none) (hx : X.mg x = some (.ref C)) (hd : (x == ("__debug__" : Str)) = false := by decide)
    (hg : Gl X "isinstance" := by rfl) (hgx : Gl X x := by rfl) (hs : starEach [a, .Name x p2] X.env = (false, eval a X.env) :: starEach [.Name x p2] X.env := by rfl) (hs2 : starEach [.Name x p2] X.env = (false, eval (.Name x p2) X.env) :: starEach [] X.env := by rfl) (hpl : (backTo pos (starEach [.Name x p2] X.env)).any (·.1) = false := by rfl) :
    EE X B env os (.Call (.Name "isinstance" p1) [a, .Name x p2] [] pos) rBool (bnd w fun _ => ret k) :=
  PE.imp (pe_callB call_isi hg hm (by decide +kernel) (pa_cons ha (pa_cons (pe_glob (v := .ref C) hgx hx rfl hd) pa_nil hs2) hs) (by decide) (by decide) hs hpl) fun σ H Q ⟨F, P, S, hw, kk⟩ => ⟨F, _, S, hw, fun x hx v F1 H1 S1 e1 ok =>
    ⟨v, .ref C, t, .ref C, k, rfl, .own C, ty F1 H1 v x ok S1.fh, hk, kk k hx (.bl k) F1 H1 S1 e1 rfl⟩⟩
end
end Mi

namespace Mi
open PySem L2 Evl

section
variable {X : Cx} {B : Bs} {env : Env} {os : Os} {pos p : Pos} {α β γ : Type} {r : Rp α} {s : Rp β} {e a b c tg : Expr} {es : List Expr} {rest : List Stmt} {post : Post β}
/-! ### texts of numbers, f-strings -/
def intS (i : Int) : W Str := chk (i.natAbs < 2 ^ 1920) (ret (Str.ofString (toString i)))
theorem intS_log {i : Int} (h : i.natAbs < 2 ^ 1920) : i.natAbs.log2 < 1920 := log2_lt h (by decide)
theorem intS_ok {F : Hp} {i : Int} (h : i.natAbs < 2 ^ 1920) : rStr.ok F (.str (Str.ofString (toString i))) (Str.ofString (toString i)) :=
  ⟨rfl, Nat.le_trans (PyProof.Rows.int_text_len_1921 (intS_log h)) (by decide), strOk_str _⟩
theorem e_fmtI {w : W Int} (h : EE X B env os e rInt w) : EE X B env os (.FormattedValue e (-1) none pos) rStr (bnd w intS) :=
  PE.imp (pe_fmt h) fun σ H Q ⟨F, P, S, hw, k⟩ => ⟨F, _, S, hw, fun i ⟨hi, hp⟩ v F1 H1 S1 e1 ok => .inr ⟨i, ok, intS_log hi, k _ hp _ F1 H1 S1 e1 (intS_ok hi)⟩⟩
theorem e_fmtS {w : W Str} (h : EE X B env os e rStr w) : EE X B env os (.FormattedValue e (-1) none pos) rStr w :=
  PE.imp (pe_fmt h) fun σ H Q ⟨F, P, S, hw, k⟩ => ⟨F, P, S, hw, fun x hx v F1 H1 S1 e1 ok => .inl ⟨x, ok.1, ok.2.1, by rw [← ok.1]; exact k x hx v F1 H1 S1 e1 ok⟩⟩
/-- the parts of an f-string, behind what is there -/
def EJ (X : Cx) (B : Bs) (env : Env) (os : Os) (es : List Expr) (w : Str → W Str) : Prop := ∃ ts, PJ X es ts ∧ ∀ acc σ H (Q : Str → Hp → Prop) F P, Sit B F H σ env os → acc.length ≤ sizeLine → PyData.strOk acc = true → w acc P B.E0 →
  (∀ z, P z → z.length ≤ sizeLine → PyData.strOk z = true → ∀ F' H', Sit B F' H' σ env os → Ex F F' → Q z H') → tJs ts acc σ H Q
theorem j_nil : EJ X B env os [] ret := ⟨[], .nil, fun acc σ H Q F P S h1 h2 hw k => k acc hw h1 h2 F H S (Ex.refl F)⟩
def joinS (acc y : Str) : W Str := chk ((acc ++ y).length ≤ sizeLine) (ret (acc ++ y))
theorem j_cons {w1 : W Str} {w2 : Str → W Str} (h : EE X B env os e rStr w1) (t : EJ X B env os es w2) : EJ X B env os (e :: es) (fun acc => bnd w1 fun y => bnd (joinS acc y) w2) := by
  obtain ⟨ts, h1, h2⟩ := t
  refine ⟨_ :: ts, .cons h h1, fun acc σ H Q F P S hz ho hw k => ⟨F, _, S, hw, fun y ⟨hy, hp⟩ v F1 H1 S1 e1 ok => ⟨y, ok.1, hy, h2 (acc ++ y) σ H1 Q F1 P S1 hy (strOk_app ho ok.2.2) hp fun z hz hz1 hz2 F2 H2 S2 e2 => k z hz hz1 hz2 F2 H2 S2 (e1.trans e2)⟩⟩⟩
theorem e_fstr {v1 v2 : Expr} {w : Str → W Str} (h : EJ X B env os (v1 :: v2 :: es) w) : EE X B env os (.JoinedStr (v1 :: v2 :: es) pos) rStr (w Str.empty) := by
  obtain ⟨ts, h1, h2⟩ := h
  exact PE.imp (pe_joined h1) fun σ H Q ⟨F, P, S, hw, k⟩ => h2 Str.empty σ H _ F P S (Nat.zero_le _) (by decide +kernel) hw fun z hz h1 h2 F' H' S' e' => k z hz _ F' H' S' e' ⟨rfl, h1, h2⟩
theorem e_fstr1 {w : W Str} (h : EE X B env os e rStr w) : EE X B env os (.JoinedStr [e] pos) rStr w := PE.imp (pe_joined1 h) fun _ _ _ q => q
theorem sem_strI {K : PySem.W.Frag} : C1T (fun xs H Q => ∃ i, xs = [.int i] ∧ i.natAbs.log2 < 1920 ∧ Q (.str (toString i)) H) rInt rStr intS := fun F H v i P E Q fh ok ⟨hi, hp⟩ k => by
  have ok : v = .int i := ok
  subst ok
  exact ⟨i, rfl, intS_log hi, k _ hp _ F H (Grow.refl fh) (intS_ok hi)⟩
theorem e_strI {w : W Int} (ha : EE X B env os a rInt w) (hm : X.mg "str" = none) (hg : Gl X "str" := by rfl) (he : starEach [a] X.env = (false, eval a X.env) :: starEach [] X.env := by rfl) (hpl : (backTo pos (starEach [] X.env)).any (·.1) = false := by rfl) :
    EE X B env os (.Call (.Name "str" p) [a] [] pos) rStr (bnd w intS) := e_callTy call_str_int (sem_strI (K := X.K)) ha hm hg (by decide +kernel) (by decide) (by decide) he hpl
/-! ### max(a, b), min(a, b) -/
theorem e_max2 {w1 : W Int} {w2 : Int → W Int} (hc : X.calm = true) (ha : EE X B env os a rInt w1) (hb : ∀ x, EE X B env os b rInt (w2 x)) (hm : X.mg "max" = none) (hg : Gl X "max" := by rfl) (he : starEach [a, b] X.env = (false, eval a X.env) :: starEach [b] X.env := by rfl) (he2 : starEach [b] X.env = (false, eval b X.env) :: starEach [] X.env := by rfl)
    (hpl : (backTo pos (starEach [b] X.env)).any (·.1) = false := by rfl) : EE X B env os (.Call (.Name "max" p) [a, b] [] pos) rInt (bnd w1 fun x => bnd (w2 x) fun y => ret (if y > x then y else x)) :=
  PE.imp (pe_callB (call_max2 hc) hg hm (by decide +kernel) (pa_cons ha (pa_cons (PE.ex hb) pa_nil he2) he) (by decide) (by decide) he hpl) fun σ H Q ⟨F, P, S, hw, k⟩ => ⟨F, _, S, hw, fun x hx v F1 H1 S1 e1 ok1 => ⟨x, F1, _, S1, hx, fun y hy u F2 H2 S2 e2 ok2 =>
    ⟨x, y, by rw [show v = .int x from ok1, show u = .int y from ok2], k _ hy _ F2 H2 S2 (e1.trans e2) rfl⟩⟩⟩
theorem e_min2 {w1 : W Int} {w2 : Int → W Int} (hc : X.calm = true) (ha : EE X B env os a rInt w1) (hb : ∀ x, EE X B env os b rInt (w2 x)) (hm : X.mg "min" = none) (hg : Gl X "min" := by rfl) (he : starEach [a, b] X.env = (false, eval a X.env) :: starEach [b] X.env := by rfl) (he2 : starEach [b] X.env = (false, eval b X.env) :: starEach [] X.env := by rfl)
    (hpl : (backTo pos (starEach [b] X.env)).any (·.1) = false := by rfl) : EE X B env os (.Call (.Name "min" p) [a, b] [] pos) rInt (bnd w1 fun x => bnd (w2 x) fun y => ret (if y < x then y else x)) :=
  PE.imp (pe_callB (call_min2 hc) hg hm (by decide +kernel) (pa_cons ha (pa_cons (PE.ex hb) pa_nil he2) he) (by decide) (by decide) he hpl) fun σ H Q ⟨F, P, S, hw, k⟩ => ⟨F, _, S, hw, fun x hx v F1 H1 S1 e1 ok1 => ⟨x, F1, _, S1, hx, fun y hy u F2 H2 S2 e2 ok2 =>
    ⟨x, y, by rw [show v = .int x from ok1, show u = .int y from ok2], k _ hy _ F2 H2 S2 (e1.trans e2) rfl⟩⟩⟩
/-! ### range(a, b, -1) -/
def downI (lo hi : Int) : List Int := (List.range (lo - hi).toNat).map fun (k : Nat) => lo - (k : Int)
def rngD (lo hi : Int) : W (List Int) := chk (RgOk hi lo) (ret (downI lo hi))
theorem downI_len (lo hi : Int) : (downI lo hi).length = (lo - hi).toNat := by
  unfold downI
  rw [List.length_map, List.length_range]
theorem walks_down {lo hi : Int} {F : Hp} : Walks (Itc lo (-1) (lo - hi).toNat) F rInt (downI lo hi) := by
  refine ⟨fun i F1 H1 _ _ h => ?_, fun i F1 H1 v H2 x _ fh y hx => ?_, fun i F1 H1 _ _ h => ?_⟩
  · rw [downI_len] at h
    exact h
  · obtain ⟨e1, e2⟩ := y
    subst e1
    refine ⟨F1, Grow.refl fh, ?_⟩
    unfold downI at hx
    rw [List.getElem?_map] at hx
    obtain ⟨k, hk, ek⟩ := Option.map_eq_some_iff.mp hx
    have hki : k = i := by
      rw [List.getElem?_range (by have := (List.getElem?_eq_some_iff.mp hk).1; simpa using this)] at hk
      exact (Option.some.inj hk).symm
    subst hki
    show v = .int x
    rw [e2, ← ek]
    exact congrArg V.int (by omega)
  · rw [downI_len] at h
    exact h
theorem s_rngD {p1 p2 : Pos} {q : Nat} {w : W Int} {w2 : Int → W Int} (ha : EE X B env os a rInt w) (hb : ∀ x, EE X B env os b rInt (w2 x)) (hm : X.mg "range" = none) (hg : Gl X "range" := by rfl)
    (hs : starEach [a, b, .UnaryOp .USub (.Constant (.int 1) q p1) p2] X.env = (false, eval a X.env) :: starEach [b, .UnaryOp .USub (.Constant (.int 1) q p1) p2] X.env := by rfl) (hs2 : starEach [b, .UnaryOp .USub (.Constant (.int 1) q p1) p2] X.env = (false, eval b X.env) :: starEach [.UnaryOp .USub (.Constant (.int 1) q p1) p2] X.env := by rfl)
    (hs3 : starEach [.UnaryOp .USub (.Constant (.int 1) q p1) p2] X.env = (false, eval (.UnaryOp .USub (.Constant (.int 1) q p1) p2) X.env) :: starEach [] X.env := by rfl) (hpl : (backTo pos (starEach [b, .UnaryOp .USub (.Constant (.int 1) q p1) p2] X.env)).any (·.1) = false := by rfl) :
    ES X B env os tg (.Call (.Name "range" p) [a, b, .UnaryOp .USub (.Constant (.int 1) q p1) p2] [] pos) rInt (bnd w fun x => bnd (w2 x) fun y => rngD x y) :=
  PI.imp (pi_range3 hg hm (pa_cons ha (pa_cons (PE.ex hb) (pa_cons (pe_un un_neg pe_int) pa_nil hs3) hs2) hs) hs hpl) fun σ H R ⟨F, P, S, hw, k⟩ => ⟨F, _, S, hw, fun x hx v F1 H1 S1 e1 ok1 => ⟨x, F1, _, S1, hx, fun y ⟨c, hy⟩ u F2 H2 S2 e2 ok2 => by
  obtain ⟨c1, c2, c3, c4, c5⟩ := c
  refine ⟨1, rfl, x, y, -1, (x - y).toNat, by rw [show v = .int x from ok1, show u = .int y from ok2], RgC.neg c3 c4 c1 c2, k _ hy _ F2 H2 S2 (e1.trans e2) walks_down ?_⟩
  rw [downI_len]
  refine Nat.le_trans (show (x - y).toNat ≤ 16777216 by omega) (by decide)⟩⟩
theorem pair_rev {R : V → α → Prop} : ∀ {vs : List V} {xs : List α}, Paired R vs xs → Paired R vs.reverse xs.reverse
  | _, _, .nil => .nil
  | _, _, .cons h t => by
    rw [List.reverse_cons, List.reverse_cons]
    exact Paired.app (pair_rev t) (.cons h .nil)
theorem pair_last {R : V → α → Prop} {vs : List V} {xs : List α} (h : Paired R vs xs) : Paired R vs.dropLast xs.dropLast := by
  rw [List.dropLast_eq_take, List.dropLast_eq_take, h.length]
  exact Paired.takeR _ h
/-! ### xs[::-1] -/
theorem n_rev {w : W (List α)} {q : Nat} {p1 p2 p3 : Pos} (ha : EE X B env os a (rLst r) w) : EN X B env os (.Subscript a (.Slice none none (some (.UnaryOp .USub (.Constant (.int 1) q p1) p2)) p3) pos) r (bnd w fun x => ret x.reverse) :=
  PE.imp (pe_revL ha) fun σ H Q ⟨F, P, S, hw, k⟩ => ⟨F, _, S, hw, fun x hx v F1 H1 S1 e1 ⟨p1, vs, q1, h1, z1, ok⟩ => ⟨p1, vs, q1, SqL.of (S1.fh _ _ h1), fun l hl =>
    k _ hx l F1 _ (S1.newOwn hl ⟨_, rfl, by rw [List.length_reverse]; exact z1, pair_rev ok⟩) e1⟩⟩
/-! ### xs.pop(), xs one's own -/
theorem b_pop (i j : Nat) {x : Str} {p1 p2 p3 : Pos} {a : Addr} {xs : List α} {w : W β} (hi : env[i]? = some (sv (rAdr a) ())) (hj : os[j]? = some (a, oLst r xs)) (hr : BG X B env (os.set j (a, oLst r xs.dropLast)) rest post w) (hN : X.N[i]? = some x := by rfl)
    (hv : Vis X.env.scope x := by first | exact Or.inl rfl | exact Or.inr (Or.inl rfl) | exact Or.inr (Or.inr rfl)) (hd : (x == ("__debug__" : Str)) = false := by decide) (hcd : (x == ("__classdict__" : Str)) = false := by decide)
    (hbase : attributeBase (.Name x p1) "pop" X.env (eval (.Name x p1) X.env) = eval (.Name x p1) X.env := by rfl) (hline : (p2.endLine == p3.line) = true := by rfl) (hsw : swapsWith (.Call (.Attribute (.Name x p1) "pop" p2) [] [] p3) none pos.line X.env = pure false := by rfl) :
    BG X B env os (.Expr (.Call (.Attribute (.Name x p1) "pop" p2) [] [] p3) pos :: rest) post (chk (xs ≠ []) w) :=
  PSs.imp (pss_cons (ps_expr (pe_bm0 PySem.F.plainAttrs_list PySem.F.slot_list_pop PySem.F.type_list_pop mt_pop (pe_var hN hv hd hcd) hbase hline) hsw) hr) fun D σ H ⟨F, P, S, ⟨hne, hw⟩, k⟩ => by
  obtain ⟨g1, g2, vs, g3, g4, g5⟩ := S.own hi hj
  have hl : 0 < vs.length := by rw [g5.length]; exact List.length_pos_iff.mpr hne
  refine ⟨.ref a, g1, .inl ⟨rfl, vs, SqL.of g3⟩, a, vs, vs[vs.length - 1], rfl, rfl, g3, List.getElem?_eq_getElem (by omega), F, P, S.change hj ⟨_, rfl, ?_, pair_last g5⟩, hw, k⟩
  rw [List.length_dropLast]
  omega
/-! ### a < b < c of numbers -/
theorem t_chain {op op' : CmpOp} {q q' : R2} {f g : Int → Int → Bool} {w1 : W Int} {w2 w3 : Int → W Int} (ho : OpR X (compareOp op) q) (ho' : OpR X (compareOp op') q') (sf : R2T q rInt rInt rBool fun x y => ret (f x y)) (sg : R2T q' rInt rInt rBool fun x y => ret (g x y))
    (ha : EE X B env os a rInt w1) (hb : ∀ x, EE X B env os b rInt (w2 x)) (hc : ∀ y, EE X B env os c rInt (w3 y)) (hm : lastMarks [op, op'] [b, c] = false := by with_unfolding_all rfl) :
    ET X B env os (.Compare a [op, op'] [b, c] pos) (bnd w1 fun x => bnd (w2 x) fun y => if f x y = true then bnd (w3 y) fun z => ret (g y z) else ret false) :=
  PT.imp (pt_chain ho ho' ha (PE.ex hb) (PE.ex hc) hm) fun σ H Q ⟨F, P, S, hw, k⟩ => ⟨F, _, S, hw, fun x hx v F1 H1 S1 e1 ok1 => ⟨x, F1, _, S1, hx, fun y hy u F2 H2 S2 e2 ok2 => by
  refine sf F2 H2 v u x y (fun b => b = f x y) B.E0 _ S2.fh ok1 ok2 rfl fun d hd v' F' H' gr okd => ?_
  subst hd
  refine ⟨f x y, okd, ?_⟩
  have hy : (if f x y = true then bnd (w3 y) fun z => ret (g y z) else ret false : W Bool) P B.E0 := hy
  by_cases h : f x y = true
  · rw [if_pos h] at hy
    rw [if_pos h]
    refine ⟨y, F', _, S2.grow gr, hy, fun z hz u3 F3 H3 S3 e3 ok3 => ?_⟩
    refine sg F3 H3 u u3 y z (fun b => P b) B.E0 _ S3.fh (by have e : u = .int y := ok2; exact e) ok3 hz fun d hd v4 F4 H4 gr4 ok4 => ?_
    exact ⟨d, ok4, k d hd F4 H4 (S3.grow gr4) ((((e1.trans e2).trans gr.f).trans e3).trans gr4.f)⟩
  · rw [if_neg h] at hy
    rw [if_neg h]
    exact ⟨false, rfl, k false hy F' H' (S2.grow gr) ((e1.trans e2).trans gr.f)⟩⟩⟩
end
end Mi

namespace Mi
open PySem L2 Evl

/-! ### plain reasoning, more -/
section
variable {α β γ S : Type}
theorem Ok.while {c : S → W Bool} {b : S → W S} {J : S → Prop} (inv : S → Prop) (m : S → Nat) (step : ∀ s, inv s → ∃ v : Bool, Ok (c s) (· = v) ∧ (v = true → Ok (b s) fun s' => inv s' ∧ m s' < m s) ∧ (v = false → J s)) : ∀ {s0 : S}, inv s0 → Ok (whileW c b s0) J := by
  intro s0 h0 P E hp
  have all : ∀ (k : Nat) (s : S), m s < k → inv s → whileN c b k s P E := by
    intro k
    induction k with
    | zero => exact fun s h => absurd h (Nat.not_lt_zero _)
    | succ k ih =>
      intro s hk hs
      obtain ⟨v, h1, h2, h3⟩ := step s hs
      refine h1 _ E fun x hx => ?_
      subst hx
      cases x with
      | false => exact hp _ (h3 rfl)
      | true => exact h2 rfl _ E fun s' ⟨q1, q2⟩ => ih s' (by omega) q1
  exact ⟨_, all _ s0 (Nat.lt_succ_self _) h0⟩
theorem Ok.intS {i : Int} (h : i.natAbs < 2 ^ 1920) : Ok (intS i) (· = Str.ofString (toString i)) := Ok.chk h Ok.eq
theorem Ok.joinS {x y : Str} (h : x.length + y.length ≤ sizeLine) : Ok (joinS x y) (· = x ++ y) := Ok.chk (by rw [strLen_append]; exact h) Ok.eq
theorem Ok.catS {x y : Str} (h : x.length + y.length ≤ sizeLine) : Ok (catS x y) (· = x ++ y) := Ok.chk h Ok.eq
/-- what a text shows -/
theorem hex_ok (c : Nat) : ∀ d ∈ (Nat.toDigits 16 c).map Char.toNat, d < 0x110000 := fun d hd => by
  obtain ⟨ch, _, rfl⟩ := List.mem_map.mp hd
  have := ch.valid
  unfold Char.toNat
  rcases this with h | ⟨_, h⟩
  · exact Nat.lt_trans h (by decide)
  · exact h
theorem reprChar_ok {q c : Nat} (hc : c < 0x110000) : ∀ d ∈ Builtin.Str.reprChar q c, d < 0x110000 := by
  intro d hd
  have small : ∀ {l : List Nat}, (∀ x ∈ l, x < 0x110000) → d ∈ l → d < 0x110000 := fun h m => h d m
  unfold Builtin.Str.reprChar at hd
  have hexs : ∀ (n : Nat), d ∈ List.replicate n 48 ++ (Nat.toDigits 16 c).map Char.toNat → d < 0x110000 := fun n m => by
    rcases List.mem_append.mp m with m | m
    · rw [(List.mem_replicate.mp m).2]
      decide
    · exact hex_ok c d m
  dsimp only at hd
  split at hd
  · exact small (fun x hx => by simp at hx; rcases hx with rfl | rfl <;> omega) hd
  · split at hd
    · exact small (fun x hx => by simp at hx; rcases hx with rfl | rfl <;> decide) hd
    · split at hd
      · exact small (fun x hx => by simp at hx; rcases hx with rfl | rfl <;> decide) hd
      · split at hd
        · exact small (fun x hx => by simp at hx; rcases hx with rfl | rfl <;> decide) hd
        · split at hd
          · rw [List.mem_singleton.mp hd]
            exact hc
          · split at hd
            · rcases List.mem_append.mp hd with m | m
              · exact small (fun x hx => by simp at hx; rcases hx with rfl | rfl <;> decide) m
              · exact hexs _ m
            · split at hd
              · rcases List.mem_append.mp hd with m | m
                · exact small (fun x hx => by simp at hx; rcases hx with rfl | rfl <;> decide) m
                · exact hexs _ m
              · rcases List.mem_append.mp hd with m | m
                · exact small (fun x hx => by simp at hx; rcases hx with rfl | rfl <;> decide) m
                · exact hexs _ m
theorem reprText_okS {x : Str} (h : PyData.strOk x = true) : PyData.strOk (reprText x) = true := by
  have hx : ∀ c ∈ x.cps.toList, c < 0x110000 := fun c hc => by
    unfold PyData.strOk at h
    rw [← Array.all_toList, List.all_eq_true] at h
    exact of_decide_eq_true (h c hc)
  have hq : reprQuote x < 0x110000 := by
    unfold reprQuote
    split <;> decide
  have acc : ∀ (l : List Nat) (a : Array Nat), (∀ c ∈ l, c < 0x110000) → (∀ c ∈ a.toList, c < 0x110000) → ∀ c ∈ (l.foldl (fun out c => out ++ (Builtin.Str.reprChar (reprQuote x) c).toArray) a).toList, c < 0x110000 := by
    intro l
    induction l with
    | nil => exact fun a _ h2 => h2
    | cons c l ih =>
      intro a h1 h2
      refine ih _ (fun d hd => h1 d (List.mem_cons_of_mem _ hd)) fun d hd => ?_
      simp only [Array.toList_append] at hd
      rcases List.mem_append.mp hd with m | m
      · exact h2 d m
      · exact reprChar_ok (h1 c List.mem_cons_self) d m
  unfold PyData.strOk
  rw [← Array.all_toList, List.all_eq_true]
  intro d hd
  refine decide_eq_true ?_
  unfold reprText at hd
  rw [Array.toList_push, ← Array.foldl_toList] at hd
  rcases List.mem_append.mp hd with m | m
  · exact acc _ _ hx (fun c hc => by simp at hc; rw [hc]; exact hq) d m
  · rw [List.mem_singleton.mp m]
    exact hq
theorem Shw.str {x : Str} {n : Nat} (h : PyData.strOk x = true) (hn : x.length ≤ n) : Shw (.str x) (10 * n + 2) := by
  refine ⟨by simp [PyData.showable], ?_, ?_⟩
  · rw [PyData.shown]
    have hx : ∀ c ∈ x.cps.toList, c < 16 ^ 8 := fun c hc => by
      unfold PyData.strOk at h
      rw [← Array.all_toList, List.all_eq_true] at h
      have := of_decide_eq_true (h c hc)
      omega
    have := StrLaws.reprText_len x hx
    omega
  · rw [PyData.shown]
    exact reprText_okS h
end
end Mi

local macro_rules | `(tactic| walk_at "wn") => `(tactic| first | with_reducible rfl | simp only [Mi.wn_bb, Mi.wn_br, Mi.wn_rb])
local macro_rules | `(tactic| walk_at "lev") => `(tactic| first | decide | exact Nat.le_refl _ | exact Nat.le_trans (by decide) (Nat.le_add_right _ _))
local macro_rules | `(tactic| walk_at "loc") => `(tactic| first | exact Or.inl rfl | exact Or.inr rfl)
namespace K16
open PySem L2 Evl Mi
def topS (i : Nat) : Stmt := PySem.Challenge.pw_anydial_k16_texts_of_polynomials.main.body.getD i (.Pass ⟨0, 0, 0, 0⟩)
abbrev s_is_whole : Stmt := topS 6
abbrev N_is_whole : List Str := ["value"]
theorem sc_is_whole : FnScope N_is_whole ["value"] (defScope s_is_whole) := ⟨rfl, rfl, rfl, by decide +kernel, rfl, by decide +kernel, by decide +kernel⟩
abbrev s_term_word : Stmt := topS 12
abbrev N_term_word : List Str := ["many", "exponent", "word"]
theorem sc_term_word : FnScope N_term_word ["many", "exponent"] (defScope s_term_word) := ⟨rfl, rfl, rfl, by decide +kernel, rfl, by decide +kernel, by decide +kernel⟩
abbrev s_padded : Stmt := topS 11
abbrev N_padded : List Str := ["row", "many"]
theorem sc_padded : FnScope N_padded ["row", "many"] (defScope s_padded) := ⟨rfl, rfl, rfl, by decide +kernel, rfl, by decide +kernel, by decide +kernel⟩
abbrev s_multiplied : Stmt := topS 10
abbrev N_multiplied : List Str := ["one", "other", "found", "k", "at", "left", "place", "right"]
theorem sc_multiplied : FnScope N_multiplied ["one", "other"] (defScope s_multiplied) := ⟨rfl, rfl, rfl, by decide +kernel, rfl, by decide +kernel, by decide +kernel⟩
abbrev s_Poly_init : Stmt := inClass (topS 8) 0
abbrev N_Poly_init : List Str := ["self", "coefs", "at", "coef", "row"]
theorem sc_Poly_init : FnScope N_Poly_init ["self", "coefs"] (defScope s_Poly_init) := ⟨rfl, rfl, rfl, by decide +kernel, rfl, by decide +kernel, by decide +kernel⟩
abbrev s_poly_of : Stmt := topS 9
abbrev N_poly_of : List Str := ["row"]
theorem sc_poly_of : FnScope N_poly_of ["row"] (defScope s_poly_of) := ⟨rfl, rfl, rfl, by decide +kernel, rfl, by decide +kernel, by decide +kernel⟩
abbrev s_Poly_degree : Stmt := inClass (topS 8) 1
abbrev N_Poly_degree : List Str := ["self"]
theorem sc_Poly_degree : FnScope N_Poly_degree ["self"] (defScope s_Poly_degree) := ⟨rfl, rfl, rfl, by decide +kernel, rfl, by decide +kernel, by decide +kernel⟩
abbrev s_Poly_text : Stmt := inClass (topS 8) 5
abbrev N_Poly_text : List Str := ["self", "found", "exponent", "coef", "word", "sign"]
theorem sc_Poly_text : FnScope N_Poly_text ["self"] (defScope s_Poly_text) := ⟨rfl, rfl, rfl, by decide +kernel, rfl, by decide +kernel, by decide +kernel⟩
abbrev s_Poly_add : Stmt := inClass (topS 8) 7
abbrev N_Poly_add : List Str := ["self", "other", "many", "one", "late", "left", "right"]
theorem sc_Poly_add : FnScope N_Poly_add ["self", "other"] (defScope s_Poly_add) := ⟨rfl, rfl, rfl, by decide +kernel, rfl, by decide +kernel, by decide +kernel⟩
abbrev s_Poly_mul : Stmt := inClass (topS 8) 9
abbrev N_Poly_mul : List Str := ["self", "other", "coef"]
theorem sc_Poly_mul : FnScope N_Poly_mul ["self", "other"] (defScope s_Poly_mul) := ⟨rfl, rfl, rfl, by decide +kernel, rfl, by decide +kernel, by decide +kernel⟩
abbrev s_law_bag : Stmt := topS 14
abbrev N_law_bag : List Str := ["_law_script", "_law_mark", "_law_cell"]
theorem sc_law_bag : FnScope N_law_bag ["_law_script"] (defScope s_law_bag) := ⟨rfl, rfl, rfl, by decide +kernel, rfl, by decide +kernel, by decide +kernel⟩
abbrev s_law_draw : Stmt := topS 15
abbrev N_law_draw : List Str := ["_law_bag_here", "_law_most", "_law_cell", "_law_digit", "_law_base", "_law_late"]
theorem sc_law_draw : FnScope N_law_draw ["_law_bag_here", "_law_most"] (defScope s_law_draw) := ⟨rfl, rfl, rfl, by decide +kernel, rfl, by decide +kernel, by decide +kernel⟩
abbrev s_law_any : Stmt := topS 16
abbrev N_law_any : List Str := ["_law_bag_here", "_law_some"]
theorem sc_law_any : FnScope N_law_any ["_law_bag_here", "_law_some"] (defScope s_law_any) := ⟨rfl, rfl, rfl, by decide +kernel, rfl, by decide +kernel, by decide +kernel⟩
abbrev s_law_same : Stmt := topS 17
abbrev N_law_same : List Str := ["_law_found", "_law_due"]
theorem sc_law_same : FnScope N_law_same ["_law_found", "_law_due"] (defScope s_law_same) := ⟨rfl, rfl, rfl, by decide +kernel, rfl, by decide +kernel, by decide +kernel⟩
abbrev s_law_trim : Stmt := topS 18
abbrev N_law_trim : List Str := ["_law_coefs", "_law_many", "_law_at"]
theorem sc_law_trim : FnScope N_law_trim ["_law_coefs"] (defScope s_law_trim) := ⟨rfl, rfl, rfl, by decide +kernel, rfl, by decide +kernel, by decide +kernel⟩
abbrev s_law_power : Stmt := topS 20
abbrev N_law_power : List Str := ["_law_times", "_law_found", "_law_turn"]
theorem sc_law_power : FnScope N_law_power ["_law_times"] (defScope s_law_power) := ⟨rfl, rfl, rfl, by decide +kernel, rfl, by decide +kernel, by decide +kernel⟩
abbrev s_law_poly : Stmt := topS 19
abbrev N_law_poly : List Str := ["_law_coefs", "_law_found", "_law_at"]
theorem sc_law_poly : FnScope N_law_poly ["_law_coefs"] (defScope s_law_poly) := ⟨rfl, rfl, rfl, by decide +kernel, rfl, by decide +kernel, by decide +kernel⟩
abbrev s_law_poly_text : Stmt := topS 21
abbrev N_law_poly_text : List Str := ["_law_row", "_law_found", "_law_late", "_law_at", "_law_word", "_law_size", "_law_sign"]
theorem sc_law_poly_text : FnScope N_law_poly_text ["_law_row"] (defScope s_law_poly_text) := ⟨rfl, rfl, rfl, by decide +kernel, rfl, by decide +kernel, by decide +kernel⟩
abbrev s_law : Stmt := topS 22
abbrev N_law : List Str := ["_law_script", "_law_bag_here", "_law_turn", "_law_row", "_law_k", "_law_found"]
theorem sc_law : FnScope N_law ["_law_script"] (defScope s_law) := ⟨rfl, rfl, rfl, by decide +kernel, rfl, by decide +kernel, by decide +kernel⟩
/-- where the defs stand -/
structure Ad where
  f_is_whole : Addr
  d_is_whole : FuncData
  f_term_word : Addr
  d_term_word : FuncData
  f_padded : Addr
  d_padded : FuncData
  f_multiplied : Addr
  d_multiplied : FuncData
  f_Poly_init : Addr
  d_Poly_init : FuncData
  f_poly_of : Addr
  d_poly_of : FuncData
  f_Poly_degree : Addr
  d_Poly_degree : FuncData
  f_Poly_text : Addr
  d_Poly_text : FuncData
  f_Poly_add : Addr
  d_Poly_add : FuncData
  f_Poly_mul : Addr
  d_Poly_mul : FuncData
  f_law_bag : Addr
  d_law_bag : FuncData
  f_law_draw : Addr
  d_law_draw : FuncData
  f_law_any : Addr
  d_law_any : FuncData
  f_law_same : Addr
  d_law_same : FuncData
  f_law_trim : Addr
  d_law_trim : FuncData
  f_law_power : Addr
  d_law_power : FuncData
  f_law_poly : Addr
  d_law_poly : FuncData
  f_law_poly_text : Addr
  d_law_poly_text : FuncData
  f_law : Addr
  d_law : FuncData
  c_Poly : Addr
  p_Poly_degree : Addr
structure Poly_ where
  own_coefs : (List Int)
abbrev fl_Poly (K : PySem.W.Frag) (ad : Ad) (x : Poly_) : List (Str × Slot) := [("own_coefs", sv (rLst rInt) x.own_coefs)]
structure Txt (K : PySem.W.Frag) (mg : Str → Option Value) (ad : Ad) : Prop where
  b_abs : mg "abs" = none
  b_bool : mg "bool" = none
  b_enumerate : mg "enumerate" = none
  b_int : mg "int" = none
  b_isinstance : mg "isinstance" = none
  b_len : mg "len" = none
  b_list : mg "list" = none
  b_max : mg "max" = none
  b_range : mg "range" = none
  b_repr : mg "repr" = none
  b_str : mg "str" = none
  b_zip : mg "zip" = none
  m_is_whole : mg "is_whole" = some (.ref ad.f_is_whole)
  F_is_whole : Fun K "is_whole" "is_whole" s_is_whole ad.f_is_whole ad.d_is_whole
  bd_is_whole : Binds K ad.d_is_whole ["value"] []
  m_term_word : mg "term_word" = some (.ref ad.f_term_word)
  F_term_word : Fun K "term_word" "term_word" s_term_word ad.f_term_word ad.d_term_word
  bd_term_word : Binds K ad.d_term_word ["many", "exponent"] []
  m_padded : mg "padded" = some (.ref ad.f_padded)
  F_padded : Fun K "padded" "padded" s_padded ad.f_padded ad.d_padded
  bd_padded : Binds K ad.d_padded ["row", "many"] []
  m_multiplied : mg "multiplied" = some (.ref ad.f_multiplied)
  F_multiplied : Fun K "multiplied" "multiplied" s_multiplied ad.f_multiplied ad.d_multiplied
  bd_multiplied : Binds K ad.d_multiplied ["one", "other"] []
  F_Poly_init : Fun K "__init__" "Poly.__init__" s_Poly_init ad.f_Poly_init ad.d_Poly_init
  bs_Poly_init : BindStar K ad.d_Poly_init "self" "coefs"
  m_poly_of : mg "poly_of" = some (.ref ad.f_poly_of)
  F_poly_of : Fun K "poly_of" "poly_of" s_poly_of ad.f_poly_of ad.d_poly_of
  bd_poly_of : Binds K ad.d_poly_of ["row"] []
  F_Poly_degree : Fun K "degree" "Poly.degree" s_Poly_degree ad.f_Poly_degree ad.d_Poly_degree
  bd_Poly_degree : Binds K ad.d_Poly_degree ["self"] []
  F_Poly_text : Fun K "text" "Poly.text" s_Poly_text ad.f_Poly_text ad.d_Poly_text
  bd_Poly_text : Binds K ad.d_Poly_text ["self"] []
  F_Poly_add : Fun K "__add__" "Poly.__add__" s_Poly_add ad.f_Poly_add ad.d_Poly_add
  bd_Poly_add : Binds K ad.d_Poly_add ["self", "other"] []
  F_Poly_mul : Fun K "__mul__" "Poly.__mul__" s_Poly_mul ad.f_Poly_mul ad.d_Poly_mul
  bd_Poly_mul : Binds K ad.d_Poly_mul ["self", "other"] []
  m_law_bag : mg "_law_bag" = some (.ref ad.f_law_bag)
  F_law_bag : Fun K "_law_bag" "_law_bag" s_law_bag ad.f_law_bag ad.d_law_bag
  bd_law_bag : Binds K ad.d_law_bag ["_law_script"] []
  m_law_draw : mg "_law_draw" = some (.ref ad.f_law_draw)
  F_law_draw : Fun K "_law_draw" "_law_draw" s_law_draw ad.f_law_draw ad.d_law_draw
  bd_law_draw : Binds K ad.d_law_draw ["_law_bag_here", "_law_most"] []
  m_law_any : mg "_law_any" = some (.ref ad.f_law_any)
  F_law_any : Fun K "_law_any" "_law_any" s_law_any ad.f_law_any ad.d_law_any
  bd_law_any : Binds K ad.d_law_any ["_law_bag_here", "_law_some"] []
  m_law_same : mg "_law_same" = some (.ref ad.f_law_same)
  F_law_same : Fun K "_law_same" "_law_same" s_law_same ad.f_law_same ad.d_law_same
  bd_law_same : Binds K ad.d_law_same ["_law_found", "_law_due"] []
  m_law_trim : mg "_law_trim" = some (.ref ad.f_law_trim)
  F_law_trim : Fun K "_law_trim" "_law_trim" s_law_trim ad.f_law_trim ad.d_law_trim
  bd_law_trim : Binds K ad.d_law_trim ["_law_coefs"] []
  m_law_power : mg "_law_power" = some (.ref ad.f_law_power)
  F_law_power : Fun K "_law_power" "_law_power" s_law_power ad.f_law_power ad.d_law_power
  bd_law_power : Binds K ad.d_law_power ["_law_times"] []
  m_law_poly : mg "_law_poly" = some (.ref ad.f_law_poly)
  F_law_poly : Fun K "_law_poly" "_law_poly" s_law_poly ad.f_law_poly ad.d_law_poly
  bd_law_poly : Binds K ad.d_law_poly ["_law_coefs"] []
  m_law_poly_text : mg "_law_poly_text" = some (.ref ad.f_law_poly_text)
  F_law_poly_text : Fun K "_law_poly_text" "_law_poly_text" s_law_poly_text ad.f_law_poly_text ad.d_law_poly_text
  bd_law_poly_text : Binds K ad.d_law_poly_text ["_law_row"] []
  m_law : mg "law" = some (.ref ad.f_law)
  F_law : Fun K "law" "law" s_law ad.f_law ad.d_law
  bd_law : Binds K ad.d_law ["_law_script"] []
  n_Poly : mg "Poly" = some (.ref ad.c_Poly)
  cl_Poly : Cls K ad.c_Poly
  mk_Poly : Mk K ad.c_Poly ad.f_Poly_init
  na_Poly_own_coefs : NoAttr K ad.c_Poly "own_coefs"
  mt_Poly_text : Meth K ad.c_Poly "text" ad.f_Poly_text
  pr_Poly_degree : PropOf K ad.c_Poly "degree" ad.p_Poly_degree ad.f_Poly_degree
  bo_Poly_add : BinO K ad.c_Poly ad.f_Poly_add .Add
  bi_Poly_mul : BinT K ad.c_Poly ad.f_Poly_mul .Mult "int"
  bo_Poly_mul : BinO K ad.c_Poly ad.f_Poly_mul .Mult
  ic_Poly : C8.InsC K ad.c_Poly
  k_Poly_Poly : PySem.W.kitOne K (.ref ad.c_Poly) (.ref ad.c_Poly) = some true
  k_Poly_bool : PySem.W.kitOne K (.ref ad.c_Poly) (.type "bool") = some false
  k_Poly_int : PySem.W.kitOne K (.ref ad.c_Poly) (.type "int") = some false
section
variable {P : Program} {w : World} {K : PySem.W.Frag} {mg : Str → Option Value} {base : Heap} {ad : Ad}
def m_is_whole_v0 (a_value : Int) : W Bool :=
  bnd (bnd (ret (true)) fun c1 => if c1 = true then (ret (!false)) else ret false) fun z => ret z
theorem ok_is_whole_v0 (T : Txt K mg ad) : FnOk P w K mg base CX0 1 ad.f_is_whole ad.d_is_whole ["value"] (spW (fun i : Int × Unit => [sv rInt i.1]) (fun _ => []) (fun i => m_is_whole_v0 i.1) rBool) := by
  refine okW T.F_is_whole sc_is_whole (fun _ => rfl) fun cdv A outer s0 H0 E0 B i hr => ?_
  obtain ⟨a_value, _⟩ := i
  have hu := hr.units
  have hu2 := room100 hr
  show BG _ _ _ _ _ _ (m_is_whole_v0 a_value)
  unfold m_is_whole_v0
  exact b_ret RtOk.fn OsW.nil (e_conv (e_and (e_isB (T := "int") (k := true) ty_int (kit_ty (by decide +kernel)) (e_name 0) T.b_isinstance T.b_int) (e_one (e_not (e_isB (T := "bool") (k := false) ty_int (kit_ty (by decide +kernel)) (e_name 0) T.b_isinstance T.b_bool)))) (by walk_at "wn"))
def m_is_whole_v1 (a_value : Poly_) : W Bool :=
  bnd (bnd (ret (false)) fun c1 => if c1 = true then (ret (!false)) else ret false) fun z => ret z
theorem ok_is_whole_v1 (T : Txt K mg ad) : FnOk P w K mg base CX0 1 ad.f_is_whole ad.d_is_whole ["value"] (spW (fun i : Poly_ × Unit => [sv (rObj ad.c_Poly (fl_Poly K ad)) i.1]) (fun _ => []) (fun i => m_is_whole_v1 i.1) rBool) := by
  refine okW T.F_is_whole sc_is_whole (fun _ => rfl) fun cdv A outer s0 H0 E0 B i hr => ?_
  obtain ⟨a_value, _⟩ := i
  have hu := hr.units
  have hu2 := room100 hr
  show BG _ _ _ _ _ _ (m_is_whole_v1 a_value)
  unfold m_is_whole_v1
  exact b_ret RtOk.fn OsW.nil (e_conv (e_and (e_isB (T := "int") (k := false) (ty_obj T.ic_Poly) T.k_Poly_int (e_name 0) T.b_isinstance T.b_int) (e_one (e_not (e_isB (T := "bool") (k := false) (ty_obj T.ic_Poly) T.k_Poly_bool (e_name 0) T.b_isinstance T.b_bool)))) (by walk_at "wn"))
def m_term_word (a_many : Int) (a_exponent : Int) : W Str :=
  bnd (ret (decide (a_exponent = (0 : Int)))) fun b1 => if b1 = true then (bnd (intS a_many) fun z => ret z) else (bnd (bnd (ret (decide (a_exponent = (1 : Int)))) fun c => if c = true then ret (("n" : Str)) else bnd (joinS Str.empty (("n^" : Str))) fun u5 => bnd (intS a_exponent) fun t4 => joinS u5 t4) fun word_3 => bnd (bnd (ret (decide (a_many = (1 : Int)))) fun c => if c = true then ret (word_3) else bnd (intS a_many) fun t8 => bnd (joinS Str.empty t8) fun u9 => bnd (joinS u9 (("*" : Str))) fun u10 => joinS u10 word_3) fun z => ret z)
theorem ok_term_word (T : Txt K mg ad) : FnOk P w K mg base CX0 1 ad.f_term_word ad.d_term_word ["many", "exponent"] (spW (fun i : Int × Int × Unit => [sv rInt i.1, sv rInt i.2.1]) (fun _ => []) (fun i => m_term_word i.1 i.2.1) rStr) := by
  refine okW T.F_term_word sc_term_word (fun _ => rfl) fun cdv A outer s0 H0 E0 B i hr => ?_
  obtain ⟨a_many, a_exponent, _⟩ := i
  have hu := hr.units
  have hu2 := room100 hr
  show BG _ _ _ _ _ _ (m_term_word a_many a_exponent)
  unfold m_term_word
  refine b_ifA (t_conv (t_eqI (e_name 1) fun _ => e_int) (by walk_at "wn")) ?_ ?_
  · exact b_ret (RtOk.x RtOk.fn) OsW.nil (e_conv (e_strI (e_name 0) T.b_str) (by walk_at "wn"))
  · refine b_set 2 (e_conv (e_if (t_eqI (e_name 1) fun _ => e_int) e_str (e_fstr (j_cons e_str (j_cons (e_fmtI (e_name 1)) j_nil)))) (by walk_at "wn")) (fun word_3 => ?_) sc_term_word.nd
    exact b_ret RtOk.fn OsW.nil (e_conv (e_if (t_eqI (e_name 0) fun _ => e_int) (e_name 2) (e_fstr (j_cons (e_fmtI (e_name 0)) (j_cons e_str (j_cons (e_fmtS (e_name 2)) j_nil))))) (by walk_at "wn"))
def m_padded (a_row : (List Int)) (a_many : Int) : W (List Int) :=
  bnd (bnd (repL ([(0 : Int)]) (a_many - ((a_row.length : Int)))) fun t1 => catL a_row t1) fun z => ret z
theorem ok_padded (T : Txt K mg ad) : FnOk P w K mg base CX0 1 ad.f_padded ad.d_padded ["row", "many"] (spW (fun i : (List Int) × Int × Unit => [sv (rLst rInt) i.1, sv rInt i.2.1]) (fun _ => []) (fun i => m_padded i.1 i.2.1) (rLst rInt)) := by
  refine okW T.F_padded sc_padded (fun _ => rfl) fun cdv A outer s0 H0 E0 B i hr => ?_
  obtain ⟨a_row, a_many, _⟩ := i
  have hu := hr.units
  have hu2 := room100 hr
  show BG _ _ _ _ _ _ (m_padded a_row a_many)
  unfold m_padded
  exact b_ret RtOk.fn OsW.nil (e_conv (e_new (n_cat (e_name 0) fun _ => (e_new (n_rep (e_new (n_list (al_cons e_int al_nil))) fun _ => (e_sub (e_name 1) fun _ => (e_len (e_name 0) T.b_len)))))) (by walk_at "wn"))
def m_multiplied_l2 (x6 : (Int × Int)) (s9 : (List Int)) (x8 : (Int × Int)) : W (List Int) :=
  bnd (bnd (idx s9 (x6.1 + x8.1)) fun t10 => bnd (mulI x6.2 x8.2) fun t11 => ret (t10 + t11)) fun y13 => bnd (ret (x6.1 + x8.1)) fun k14 => bnd (putL s9 k14 y13) fun found_12 => ret (found_12)
def m_multiplied_l1 (a_other : (List Int)) (s7 : (List Int)) (x6 : (Int × Int)) : W (List Int) :=
  bnd (ret ((rangeI 0 a_other.length).zip a_other)) fun xs15 => bnd (forW (m_multiplied_l2 x6) (s7) xs15) fun (s16 : (List Int)) => ret (s16)
def m_multiplied (a_one : (List Int)) (a_other : (List Int)) : W (List Int) :=
  bnd (bnd (rng1 (((a_one.length : Int)) + ((a_other.length : Int)))) fun l2 => mapW (fun (x3 : Int) => ret ((0 : Int))) l2) fun found_1 => bnd (ret ((rangeI 0 a_one.length).zip a_one)) fun xs17 => bnd (forW (m_multiplied_l1 a_other) (found_1) xs17) fun (s18 : (List Int)) => bnd (ret (s18)) fun z => ret z
theorem ok_multiplied (T : Txt K mg ad) : FnOk P w K mg base CX0 1 ad.f_multiplied ad.d_multiplied ["one", "other"] (spW (fun i : (List Int) × (List Int) × Unit => [sv (rLst rInt) i.1, sv (rLst rInt) i.2.1]) (fun _ => []) (fun i => m_multiplied i.1 i.2.1) (rLst rInt)) := by
  refine okW T.F_multiplied sc_multiplied (fun _ => rfl) fun cdv A outer s0 H0 E0 B i hr => ?_
  obtain ⟨a_one, a_other, _⟩ := i
  have hu := hr.units
  have hu2 := room100 hr
  show BG _ _ _ _ _ _ (m_multiplied a_one a_other)
  unfold m_multiplied
  first | refine b_ownC 2 (c_conv (c_comp rfl sc_multiplied.nd (s_rng1 (e_add (e_len (e_name 0) T.b_len) fun _ => (e_len (e_name 1) T.b_len)) T.b_range) (blkOk_by (own := [("k", 3)]) rfl) (tg_name (i := 3)) (fun _ _ _ _ _ => (pg_name (i := 3) sc_multiplied.nd rfl (by walk_at "loc"))) (by decide) (fun _ _ _ _ _ _ _ _ _ => e_int) rfl rfl (sw_true rfl rfl rfl (by decide +kernel))) (by walk_at "wn")) (fun p5 found_1 => ?_) | refine b_own 2 (n_conv (n_comp rfl sc_multiplied.nd (s_rng1 (e_add (e_len (e_name 0) T.b_len) fun _ => (e_len (e_name 1) T.b_len)) T.b_range) (blkOk_by (own := [("k", 3)]) rfl) (tg_name (i := 3)) (fun _ _ _ _ _ => (pg_name (i := 3) sc_multiplied.nd rfl (by walk_at "loc"))) (by decide) (fun _ _ _ _ _ _ _ _ _ => e_int)) (by walk_at "wn")) (fun p5 found_1 => ?_) sc_multiplied.nd
  refine b_for (S := (List Int)) (fun s => [sv (rLst rInt) a_one, sv (rLst rInt) a_other, sv (rAdr p5) (), sa, sa, sa, sa, sa]) (fun s => [(p5, oLst rInt s)]) (found_1 : (List Int)) rfl PassesOwn.never (s_conv (s_enum (e_name 0) T.b_enumerate) (by walk_at "wn")) (tg_pair (i := 4) (j := 5)) (pg_tup rfl (pgs_cons (pg_name (i := 4) sc_multiplied.nd rfl (by walk_at "loc")) (pgs_cons (pg_name (i := 5) sc_multiplied.nd rfl (by walk_at "loc")) pgs_nil))) (fun M s7 x6 => ?_) (fun s18 => ?_) ⟨.inl rfl, .inl rfl, .inl rfl, .inr rfl, .inr rfl, .inr rfl, .inr rfl, .inr rfl, trivial⟩ rfl
  · unfold m_multiplied_l1
    refine b_for (S := (List Int)) (fun s => [sv (rLst rInt) a_one, sv (rLst rInt) a_other, sv (rAdr p5) (), sa, sv rInt x6.1, sv rInt x6.2, sa, sa]) (fun s => [(p5, oLst rInt s)]) (s7 : (List Int)) rfl PassesOwn.never (s_conv (s_enum (e_name 1) T.b_enumerate) (by walk_at "wn")) (tg_pair (i := 6) (j := 7)) (pg_tup rfl (pgs_cons (pg_name (i := 6) sc_multiplied.nd rfl (by walk_at "loc")) (pgs_cons (pg_name (i := 7) sc_multiplied.nd rfl (by walk_at "loc")) pgs_nil))) (fun M s9 x8 => ?_) (fun s16 => ?_) ⟨.inl rfl, .inl rfl, .inl rfl, .inr rfl, .inl rfl, .inl rfl, .inr rfl, .inr rfl, trivial⟩ rfl
    · unfold m_multiplied_l2
      refine b_put 2 0 rfl rfl (e_conv (e_add (e_idxO 2 0 rfl rfl (e_add (e_name 4) fun _ => (e_name 6))) fun _ => (e_mul (e_name 5) fun _ => (e_name 7))) (by walk_at "wn")) (fun _ => e_conv (e_add (e_name 4) fun _ => (e_name 6)) rfl) (fun found_12 => ?_)
      exact b_end (NxOk.nxS (s := (found_12 : (List Int))) ⟨.inl rfl, .inl rfl, .inl rfl, .inr rfl, .inl rfl, .inl rfl, .inr rfl, .inr rfl, trivial⟩ (.cons_cons _ .slnil))
    · exact b_end (NxOk.nxS (s := (s16 : (List Int))) ⟨.inl rfl, .inl rfl, .inl rfl, .inr rfl, .inr rfl, .inr rfl, .inr rfl, .inr rfl, trivial⟩ (.cons_cons _ .slnil))
  · refine b_freeze 2 0 rfl rfl ?_
    exact b_ret RtOk.fn OsW.nil (e_conv (e_name 2) (by walk_at "wn"))
def m_Poly_init_l2c (s9 : (List Int)) : W Bool :=
  bnd (ret (!s9.isEmpty)) fun c11 => if c11 = true then (bnd (idx s9 (-((1 : Int)))) fun t10 => ret (decide (t10 = (0 : Int)))) else ret false
def m_Poly_init_l2 (s9 : (List Int)) : W (List Int) :=
  chk (s9 ≠ []) (ret (s9.dropLast))
def m_Poly_init_l1 (s2 : Unit) (x1 : (Int × Int)) : W Unit :=
  bnd (bnd (noX (m_is_whole_v0 x1.2)) fun r3 => ret (!r3)) fun b4 => if b4 = true then (fail) else (ret (()))
def m_Poly_init (a_coefs : (List Int)) : W Poly_ :=
  bnd (ret ((rangeI 0 a_coefs.length).zip a_coefs)) fun xs5 => bnd (forW m_Poly_init_l1 (()) xs5) fun (s6 : Unit) => bnd (ret (a_coefs)) fun row_7 => bnd (whileW (m_Poly_init_l2c) (m_Poly_init_l2) (row_7)) fun (s13 : (List Int)) => bnd (ret (s13)) fun own_coefs_14 => ret (⟨own_coefs_14⟩ : Poly_)
theorem ok_Poly_init (T : Txt K mg ad) : FnR P w K mg base CX0 2 ad.f_Poly_init (spIS ad.c_Poly rInt m_Poly_init (fl_Poly K ad)) := by
  refine initS T.F_Poly_init sc_Poly_init T.bs_Poly_init fun cdv A outer s0 H0 E0 B self0 a_coefs hr => ?_
  have hu := hr.units
  have hu2 := room100 hr
  show BG _ _ _ _ _ _ (m_Poly_init a_coefs)
  unfold m_Poly_init
  refine b_for (S := Unit) (fun s => [sv (rAdr self0) (), sv (rTup K rInt) a_coefs, sa, sa, sa]) (fun s => [(self0, oObj ad.c_Poly [])]) (() : Unit) rfl PassesOwn.never (s_conv (s_enumT (e_name 1) T.b_enumerate) (by walk_at "wn")) (tg_pair (i := 2) (j := 3)) (pg_tup rfl (pgs_cons (pg_name (i := 2) sc_Poly_init.nd rfl (by walk_at "loc")) (pgs_cons (pg_name (i := 3) sc_Poly_init.nd rfl (by walk_at "loc")) pgs_nil))) (fun M s2 x1 => ?_) (fun s6 => ?_) ⟨.inl rfl, .inl rfl, .inr rfl, .inr rfl, .inr rfl, trivial⟩ rfl
  · unfold m_Poly_init_l1
    refine b_ifA (t_conv (t_not (t_val (e_call (ok_is_whole_v0 T) (hr.mono (by walk_at "lev")) T.m_is_whole T.F_is_whole.kp T.bd_is_whole (aa_cons (e_name 3) fun _ => aa_nil) (fun _ => OsLe.none) (fun _ => List.nodup_nil)))) (by walk_at "wn")) ?_ ?_
    · exact b_never
    · exact b_end (NxOk.nxS (s := (() : Unit)) ⟨.inl rfl, .inl rfl, .inr rfl, .inr rfl, .inr rfl, trivial⟩ (.cons_cons _ .slnil))
  · refine b_own 4 (n_conv (n_listT (e_name 1) T.b_list) (by walk_at "wn")) (fun p8 row_7 => ?_) sc_Poly_init.nd
    refine b_while (S := (List Int)) (fun s => [sv (rAdr self0) (), sv (rTup K rInt) a_coefs, sa, sa, sv (rAdr p8) ()]) (fun s => [(p8, oLst rInt s), (self0, oObj ad.c_Poly [])]) (row_7 : (List Int)) PassesOwn.never (fun s9 => t_conv (t_pw (w_and (t_neNilO 4 0 hu dd_int rfl rfl) (w_and1 (t_eqI (e_idxO 4 0 rfl rfl (e_neg e_int)) fun _ => e_int)))) rfl) (fun s9 => ?_) (fun s13 => ?_) ⟨.inl rfl, .inl rfl, .inr rfl, .inr rfl, .inl rfl, trivial⟩ rfl
    · unfold m_Poly_init_l2
      refine b_pop 4 0 rfl rfl ?_
      exact b_end (NxOk.nxS (s := (s9.dropLast : (List Int))) ⟨.inl rfl, .inl rfl, .inr rfl, .inr rfl, .inl rfl, trivial⟩ (.cons_cons _ (.cons_cons _ .slnil)))
    · refine b_freeze 4 0 rfl rfl ?_
      refine b_fldO 0 0 T.cl_Poly T.na_Poly_own_coefs rfl rfl (e_conv (e_name 4) (by walk_at "wn")) (fun own_coefs_14 => ?_)
      exact b_end (NxOk.init (r := (⟨own_coefs_14⟩ : Poly_)) (OsW.one fun _ _ h => h))
def m_poly_of (a_row : (List Int)) : W Poly_ :=
  bnd (noX (m_Poly_init a_row)) fun z => ret z
theorem ok_poly_of (T : Txt K mg ad) : FnOk P w K mg base CX0 4 ad.f_poly_of ad.d_poly_of ["row"] (spW (fun i : (List Int) × Unit => [sv (rLst rInt) i.1]) (fun _ => []) (fun i => m_poly_of i.1) (rObj ad.c_Poly (fl_Poly K ad))) := by
  refine okW T.F_poly_of sc_poly_of (fun _ => rfl) fun cdv A outer s0 H0 E0 B i hr => ?_
  obtain ⟨a_row, _⟩ := i
  have hu := hr.units
  have hu2 := room100 hr
  show BG _ _ _ _ _ _ (m_poly_of a_row)
  unfold m_poly_of
  exact b_ret RtOk.fn OsW.nil (e_conv (e_makeS1 T.mk_Poly (ok_Poly_init T) (hr.mono (by walk_at "lev")) T.n_Poly (e_name 0)) (by walk_at "wn"))
def m_Poly_degree (a_self : Poly_) : W Int :=
  bnd (ret (((a_self.own_coefs.length : Int)) - ((1 : Int)))) fun z => ret z
theorem ok_Poly_degree (T : Txt K mg ad) : FnOk P w K mg base CX0 1 ad.f_Poly_degree ad.d_Poly_degree ["self"] (spW (fun i : Poly_ × Unit => [sv (rObj ad.c_Poly (fl_Poly K ad)) i.1]) (fun _ => []) (fun i => m_Poly_degree i.1) rInt) := by
  refine okW T.F_Poly_degree sc_Poly_degree (fun _ => rfl) fun cdv A outer s0 H0 E0 B i hr => ?_
  obtain ⟨a_self, _⟩ := i
  have hu := hr.units
  have hu2 := room100 hr
  show BG _ _ _ _ _ _ (m_Poly_degree a_self)
  unfold m_Poly_degree
  exact b_ret RtOk.fn OsW.nil (e_conv (e_sub (e_len (e_fld (g := fun q : Poly_ => q.own_coefs) T.cl_Poly T.na_Poly_own_coefs (e_name 0)) T.b_len) fun _ => e_int) (by walk_at "wn"))
def m_Poly_text_l1 (a_self : Poly_) (s5 : Str) (x4 : Int) : W Str :=
  bnd (idx a_self.own_coefs x4) fun coef_6 => bnd (ret (!decide (coef_6 = (0 : Int)))) fun b8 => bnd (if b8 = true then (bnd (noX (m_term_word ((coef_6.natAbs : Int)) x4)) fun word_9 => bnd (bnd (ret (decide (coef_6 < ((0 : Int))))) fun c => if c = true then ret (("-" : Str)) else ret (("+" : Str))) fun sign_11 => bnd (bnd (ret (!decide (s5 = ("" : Str)))) fun c => if c = true then bnd (joinS Str.empty s5) fun u14 => bnd (joinS u14 ((" " : Str))) fun u15 => bnd (joinS u15 sign_11) fun u16 => bnd (joinS u16 ((" " : Str))) fun u17 => joinS u17 word_9 else bnd (ret (decide (((0 : Int)) < coef_6))) fun c => if c = true then ret (word_9) else bnd (joinS Str.empty (("-" : Str))) fun u19 => joinS u19 word_9) fun found_13 => ret (found_13)) else (ret (s5))) fun (s23 : Str) => ret (s23)
def m_Poly_text (a_self : Poly_) : W Str :=
  bnd (ret (("" : Str))) fun found_1 => bnd (bnd (noX (m_Poly_degree a_self)) fun r2 => rngD r2 (-((1 : Int)))) fun xs24 => bnd (forW (m_Poly_text_l1 a_self) (found_1) xs24) fun (s25 : Str) => bnd (bnd (ret (!decide (s25 = ("" : Str)))) fun c => if c = true then ret (s25) else ret (("0" : Str))) fun z => ret z
theorem ok_Poly_text (T : Txt K mg ad) : FnOk P w K mg base CX0 3 ad.f_Poly_text ad.d_Poly_text ["self"] (spW (fun i : Poly_ × Unit => [sv (rObj ad.c_Poly (fl_Poly K ad)) i.1]) (fun _ => []) (fun i => m_Poly_text i.1) rStr) := by
  refine okW T.F_Poly_text sc_Poly_text (fun _ => rfl) fun cdv A outer s0 H0 E0 B i hr => ?_
  obtain ⟨a_self, _⟩ := i
  have hu := hr.units
  have hu2 := room100 hr
  show BG _ _ _ _ _ _ (m_Poly_text a_self)
  unfold m_Poly_text
  refine b_set 1 (e_conv e_str (by walk_at "wn")) (fun found_1 => ?_) sc_Poly_text.nd
  refine b_for (S := Str) (fun s => [sv (rObj ad.c_Poly (fl_Poly K ad)) a_self, sv rStr s, sa, sa, sa, sa]) (fun s => []) (found_1 : Str) rfl PassesOwn.never (s_conv (s_rngD (e_prop (ok_Poly_degree T) (hr.mono (by walk_at "lev")) T.cl_Poly T.pr_Poly_degree T.bd_Poly_degree (e_name 0)) (fun _ => (e_neg e_int)) T.b_range) (by walk_at "wn")) (tg_name (i := 2)) (pg_name (i := 2) sc_Poly_text.nd rfl (by walk_at "loc")) (fun M s5 x4 => ?_) (fun s25 => ?_) ⟨.inl rfl, .inl rfl, .inr rfl, .inr rfl, .inr rfl, .inr rfl, trivial⟩ rfl
  · unfold m_Poly_text_l1
    refine b_set 3 (e_conv (e_idx (e_fld (g := fun q : Poly_ => q.own_coefs) T.cl_Poly T.na_Poly_own_coefs (e_name 0)) fun _ => (e_name 2)) (by walk_at "wn")) (fun coef_6 => ?_) sc_Poly_text.nd
    refine b_ifJ (S := Str) (fun s => [sv (rObj ad.c_Poly (fl_Poly K ad)) a_self, sv rStr s, sv rInt x4, sv rInt coef_6, sa, sa]) (fun s => []) (t_conv (t_neI (e_name 3) fun _ => e_int) (by walk_at "wn")) ?_ ?_ (fun s23 => ?_)
    · refine b_set 4 (e_conv (e_call (ok_term_word T) (hr.mono (by walk_at "lev")) T.m_term_word T.F_term_word.kp T.bd_term_word (aa_cons (e_abs (e_name 3) T.b_abs) fun _ => (aa_cons (e_name 2) fun _ => aa_nil)) (fun _ => OsLe.none) (fun _ => List.nodup_nil)) (by walk_at "wn")) (fun word_9 => ?_) sc_Poly_text.nd
      refine b_set 5 (e_conv (e_if (t_lt (e_name 3) fun _ => e_int) e_str e_str) (by walk_at "wn")) (fun sign_11 => ?_) sc_Poly_text.nd
      refine b_set 1 (e_conv (e_if (t_neS (e_name 1) fun _ => e_str) (e_fstr (j_cons (e_fmtS (e_name 1)) (j_cons e_str (j_cons (e_fmtS (e_name 5)) (j_cons e_str (j_cons (e_fmtS (e_name 4)) j_nil)))))) (e_if (t_gt (e_name 3) fun _ => e_int) (e_name 4) (e_fstr (j_cons e_str (j_cons (e_fmtS (e_name 4)) j_nil))))) (by walk_at "wn")) (fun found_13 => ?_) sc_Poly_text.nd
      exact b_end (NxOk.nxS (s := (found_13 : Str)) ⟨.inl rfl, .inl rfl, .inl rfl, .inl rfl, .inr rfl, .inr rfl, trivial⟩ .slnil)
    · exact b_end (NxOk.nxS (s := (s5 : Str)) ⟨.inl rfl, .inl rfl, .inl rfl, .inl rfl, .inr rfl, .inr rfl, trivial⟩ .slnil)
    · exact b_end (NxOk.nxS (s := (s23 : Str)) ⟨.inl rfl, .inl rfl, .inr rfl, .inr rfl, .inr rfl, .inr rfl, trivial⟩ .slnil)
  · exact b_ret RtOk.fn OsW.nil (e_conv (e_if (t_neS (e_name 1) fun _ => e_str) (e_name 1) e_str) (by walk_at "wn"))
def m_Poly_add (a_self : Poly_) (a_other : Poly_) : W Poly_ :=
  bnd (ret (!true)) fun b1 => if b1 = true then (fail) else (bnd (ret ((if ((a_other.own_coefs.length : Int)) > ((a_self.own_coefs.length : Int)) then ((a_other.own_coefs.length : Int)) else ((a_self.own_coefs.length : Int))))) fun many_2 => bnd (noX (m_padded a_self.own_coefs many_2)) fun one_3 => bnd (noX (m_padded a_other.own_coefs many_2)) fun late_4 => bnd (bnd (mapW (fun (x8 : (Int × Int)) => ret (x8.1 + x8.2)) (one_3.zip late_4)) fun ys9 => noX (m_poly_of ys9)) fun z => ret z)
theorem ok_Poly_add (T : Txt K mg ad) : FnOk P w K mg base CX0 5 ad.f_Poly_add ad.d_Poly_add ["self", "other"] (spW (fun i : Poly_ × Poly_ × Unit => [sv (rObj ad.c_Poly (fl_Poly K ad)) i.1, sv (rObj ad.c_Poly (fl_Poly K ad)) i.2.1]) (fun _ => []) (fun i => m_Poly_add i.1 i.2.1) (rObj ad.c_Poly (fl_Poly K ad))) := by
  refine okW T.F_Poly_add sc_Poly_add (fun _ => rfl) fun cdv A outer s0 H0 E0 B i hr => ?_
  obtain ⟨a_self, a_other, _⟩ := i
  have hu := hr.units
  have hu2 := room100 hr
  show BG _ _ _ _ _ _ (m_Poly_add a_self a_other)
  unfold m_Poly_add
  refine b_ifA (t_conv (t_not (t_val (e_isC (k := true) (ty_obj T.ic_Poly) T.k_Poly_Poly (e_name 1) T.b_isinstance T.n_Poly))) (by walk_at "wn")) ?_ ?_
  · exact b_never
  · refine b_set 2 (e_conv (e_max2 rfl (e_len (e_fld (g := fun q : Poly_ => q.own_coefs) T.cl_Poly T.na_Poly_own_coefs (e_name 0)) T.b_len) (fun _ => (e_len (e_fld (g := fun q : Poly_ => q.own_coefs) T.cl_Poly T.na_Poly_own_coefs (e_name 1)) T.b_len)) T.b_max) (by walk_at "wn")) (fun many_2 => ?_) sc_Poly_add.nd
    first | refine b_par2 (ps_par (i := 3) (j := 4) rfl sc_Poly_add.nd rfl rfl (by decide) rfl rfl (pa2 (e_conv (e_call (ok_padded T) (hr.mono (by walk_at "lev")) T.m_padded T.F_padded.kp T.bd_padded (aa_cons (e_fld (g := fun q : Poly_ => q.own_coefs) T.cl_Poly T.na_Poly_own_coefs (e_name 0)) fun _ => (aa_cons (e_name 2) fun _ => aa_nil)) (fun _ => OsLe.none) (fun _ => List.nodup_nil)) (by walk_at "wn")) (fun _ => e_conv (e_call (ok_padded T) (hr.mono (by walk_at "lev")) T.m_padded T.F_padded.kp T.bd_padded (aa_cons (e_fld (g := fun q : Poly_ => q.own_coefs) T.cl_Poly T.na_Poly_own_coefs (e_name 1)) fun _ => (aa_cons (e_name 2) fun _ => aa_nil)) (fun _ => OsLe.none) (fun _ => List.nodup_nil)) rfl)) rfl) (fun one_3 late_4 => ?_) | refine b_par2T (ps_asg (pe_tup (pa2 (e_conv (e_call (ok_padded T) (hr.mono (by walk_at "lev")) T.m_padded T.F_padded.kp T.bd_padded (aa_cons (e_fld (g := fun q : Poly_ => q.own_coefs) T.cl_Poly T.na_Poly_own_coefs (e_name 0)) fun _ => (aa_cons (e_name 2) fun _ => aa_nil)) (fun _ => OsLe.none) (fun _ => List.nodup_nil)) (by walk_at "wn")) (fun _ => e_conv (e_call (ok_padded T) (hr.mono (by walk_at "lev")) T.m_padded T.F_padded.kp T.bd_padded (aa_cons (e_fld (g := fun q : Poly_ => q.own_coefs) T.cl_Poly T.na_Poly_own_coefs (e_name 1)) fun _ => (aa_cons (e_name 2) fun _ => aa_nil)) (fun _ => OsLe.none) (fun _ => List.nodup_nil)) rfl))) (pg_tup rfl (pgs_cons (pg_name (i := 3) sc_Poly_add.nd rfl (by walk_at "loc")) (pgs_cons (pg_name (i := 4) sc_Poly_add.nd rfl (by walk_at "loc")) pgs_nil)))) (fun one_3 late_4 => ?_)
    exact b_ret RtOk.fn OsW.nil (e_conv (e_call (ok_poly_of T) (hr.mono (by walk_at "lev")) T.m_poly_of T.F_poly_of.kp T.bd_poly_of (aa_cons (e_new (n_comp rfl sc_Poly_add.nd (s_zip (e_name 3) (fun _ => (e_name 4)) T.b_zip) (blkOk_by (own := [("left", 5), ("right", 6)]) rfl) (tg_pair (i := 5) (j := 6)) (fun _ _ _ _ _ => (pg_tup rfl (pgs_cons (pg_name (i := 5) sc_Poly_add.nd rfl (by walk_at "loc")) (pgs_cons (pg_name (i := 6) sc_Poly_add.nd rfl (by walk_at "loc")) pgs_nil)))) (by decide) (fun _ _ _ _ _ _ _ _ _ => (e_add (e_name 5) fun _ => (e_name 6))))) fun _ => aa_nil) (fun _ => OsLe.none) (fun _ => List.nodup_nil)) (by walk_at "wn"))
def m_Poly_mul_v0 (a_self : Poly_) (a_other : Int) : W Poly_ :=
  bnd (noX (m_is_whole_v0 a_other)) fun b2 => if b2 = true then (bnd (bnd (mapW (fun (x3 : Int) => mulI x3 a_other) a_self.own_coefs) fun ys5 => noX (m_poly_of ys5)) fun z => ret z) else (fail)
theorem ok_Poly_mul_v0 (T : Txt K mg ad) : FnOk P w K mg base CX0 5 ad.f_Poly_mul ad.d_Poly_mul ["self", "other"] (spW (fun i : Poly_ × Int × Unit => [sv (rObj ad.c_Poly (fl_Poly K ad)) i.1, sv rInt i.2.1]) (fun _ => []) (fun i => m_Poly_mul_v0 i.1 i.2.1) (rObj ad.c_Poly (fl_Poly K ad))) := by
  refine okW T.F_Poly_mul sc_Poly_mul (fun _ => rfl) fun cdv A outer s0 H0 E0 B i hr => ?_
  obtain ⟨a_self, a_other, _⟩ := i
  have hu := hr.units
  have hu2 := room100 hr
  show BG _ _ _ _ _ _ (m_Poly_mul_v0 a_self a_other)
  unfold m_Poly_mul_v0
  refine b_ifA (t_conv (t_val (e_call (ok_is_whole_v0 T) (hr.mono (by walk_at "lev")) T.m_is_whole T.F_is_whole.kp T.bd_is_whole (aa_cons (e_name 1) fun _ => aa_nil) (fun _ => OsLe.none) (fun _ => List.nodup_nil))) (by walk_at "wn")) ?_ ?_
  · exact b_ret (RtOk.x RtOk.fn) OsW.nil (e_conv (e_call (ok_poly_of T) (hr.mono (by walk_at "lev")) T.m_poly_of T.F_poly_of.kp T.bd_poly_of (aa_cons (e_new (n_comp rfl sc_Poly_mul.nd (s_list (e_fld (g := fun q : Poly_ => q.own_coefs) T.cl_Poly T.na_Poly_own_coefs (e_name 0))) (blkOk_by (own := [("coef", 2)]) rfl) (tg_name (i := 2)) (fun _ _ _ _ _ => (pg_name (i := 2) sc_Poly_mul.nd rfl (by walk_at "loc"))) (by decide) (fun _ _ _ _ _ _ _ _ _ => (e_mul (e_name 2) fun _ => (e_name 1))))) fun _ => aa_nil) (fun _ => OsLe.none) (fun _ => List.nodup_nil)) (by walk_at "wn"))
  · exact b_never
def m_Poly_mul_v1 (a_self : Poly_) (a_other : Poly_) : W Poly_ :=
  bnd (noX (m_is_whole_v1 a_other)) fun b2 => if b2 = true then (fail) else (bnd (ret (!true)) fun b3 => if b3 = true then (fail) else (bnd (bnd (noX (m_multiplied a_self.own_coefs a_other.own_coefs)) fun r4 => noX (m_poly_of r4)) fun z => ret z))
theorem ok_Poly_mul_v1 (T : Txt K mg ad) : FnOk P w K mg base CX0 5 ad.f_Poly_mul ad.d_Poly_mul ["self", "other"] (spW (fun i : Poly_ × Poly_ × Unit => [sv (rObj ad.c_Poly (fl_Poly K ad)) i.1, sv (rObj ad.c_Poly (fl_Poly K ad)) i.2.1]) (fun _ => []) (fun i => m_Poly_mul_v1 i.1 i.2.1) (rObj ad.c_Poly (fl_Poly K ad))) := by
  refine okW T.F_Poly_mul sc_Poly_mul (fun _ => rfl) fun cdv A outer s0 H0 E0 B i hr => ?_
  obtain ⟨a_self, a_other, _⟩ := i
  have hu := hr.units
  have hu2 := room100 hr
  show BG _ _ _ _ _ _ (m_Poly_mul_v1 a_self a_other)
  unfold m_Poly_mul_v1
  refine b_ifA (t_conv (t_val (e_call (ok_is_whole_v1 T) (hr.mono (by walk_at "lev")) T.m_is_whole T.F_is_whole.kp T.bd_is_whole (aa_cons (e_name 1) fun _ => aa_nil) (fun _ => OsLe.none) (fun _ => List.nodup_nil))) (by walk_at "wn")) ?_ ?_
  · exact b_never
  · refine b_ifA (t_conv (t_not (t_val (e_isC (k := true) (ty_obj T.ic_Poly) T.k_Poly_Poly (e_name 1) T.b_isinstance T.n_Poly))) (by walk_at "wn")) ?_ ?_
    · exact b_never
    · exact b_ret RtOk.fn OsW.nil (e_conv (e_call (ok_poly_of T) (hr.mono (by walk_at "lev")) T.m_poly_of T.F_poly_of.kp T.bd_poly_of (aa_cons (e_call (ok_multiplied T) (hr.mono (by walk_at "lev")) T.m_multiplied T.F_multiplied.kp T.bd_multiplied (aa_cons (e_fld (g := fun q : Poly_ => q.own_coefs) T.cl_Poly T.na_Poly_own_coefs (e_name 0)) fun _ => (aa_cons (e_fld (g := fun q : Poly_ => q.own_coefs) T.cl_Poly T.na_Poly_own_coefs (e_name 1)) fun _ => aa_nil)) (fun _ => OsLe.none) (fun _ => List.nodup_nil)) fun _ => aa_nil) (fun _ => OsLe.none) (fun _ => List.nodup_nil)) (by walk_at "wn"))
def m_law_bag_l1 (s : Int) (x : Int) : W Int :=
  bnd (bnd (mulI s 50147) fun t1 => bnd (modI x 2147483543) fun t2 => bnd (modI (t1 + t2 + 31) 2147483563) fun t3 => ret t3) fun m => ret m
def m_law_bag (ns : List Int) : W (List Int × Int) :=
  bnd (ret 12021) fun m => bnd (ret (cutL ns none (some 63))) fun xs => bnd (forW m_law_bag_l1 m xs) fun s : Int => bnd (ret (cutL ns none (some 63))) fun c => bnd (ret s) fun y => ret (c, y)
theorem ok_law_bag (T : Txt K mg ad) : FnOk P w K mg base CX0 1 ad.f_law_bag ad.d_law_bag ["_law_script"] (spBag K) := by
  refine T.F_law_bag.ok sc_law_bag (fun vs H Q E ⟨a, ns, e, _⟩ => by rw [e]; rfl) fun cdv A outer s H vs Q E hr hsp => ?_
  obtain ⟨a, ns, rfl, hsq, hlen, hk⟩ := hsp
  refine ⟨_, (?_ : BG _ (bs0 H H []) [sv (rScr K) ns, sa, sa] [] _ (pBag (bs0 H H [])) (m_law_bag ns)), H, fun _ => True, ⟨bs0_start (Ex.refl H) (fun p hp => nomatch hp), .cons ⟨_, rfl, a, rfl, hsq, hlen⟩ (.cons trivial (.cons trivial .nil)), (fun p hp => nomatch hp), List.nodup_nil⟩, ?_, fun y hy b c H' h1 h2 h3 h4 h5 h6 h7 => hk b c _ _ H' h1 h2 h3 h4 h5 h6 h7⟩
  · unfold m_law_bag
    refine b_set 1 e_int (fun m => ?_) sc_law_bag.nd
    refine b_for (S := Int) (fun s => [sv (rScr K) ns, sv rInt s, sa]) (fun _ => []) (m : Int) rfl PassesOwn.never (s_conv (s_list (e_new (n_sliceScr (e_name 0) o_none (o_some e_int)))) (by walk_at "wn")) (tg_name (i := 2)) (pg_name (i := 2) sc_law_bag.nd rfl (by walk_at "loc")) (fun M s x => ?_) (fun s => ?_) ⟨.inl rfl, .inl rfl, .inr rfl, trivial⟩ rfl
    · unfold m_law_bag_l1
      refine b_set 1 (e_conv (e_mod (e_intI (e_add (e_add (e_mul (e_name 1) fun _ => e_int) fun _ => e_mod (e_intI (e_name 2) T.b_int) fun _ => e_int) fun _ => e_int) T.b_int) fun _ => e_int) (by walk_at "wn")) (fun m => ?_) sc_law_bag.nd
      exact b_end (NxOk.nxS (s := m) ⟨.inl rfl, .inl rfl, .inr rfl, trivial⟩ .slnil)
    · exact b_bagR (w1 := ret (cutL ns none (some 63))) (w2 := fun _ => ret s) (fun _ h => nomatch h) (n_conv (n_listL (e_new (n_sliceScr (e_name 0) o_none (o_some e_int))) T.b_list) (by walk_at "wn")) (fun _ _ => e_name 1)
  · unfold m_law_bag
    show forW m_law_bag_l1 12021 _ (fun _ => True) (fun _ => False)
    refine forW_of (I := fun _ => True) (fun s x Q _ h => ?_) trivial (fun _ _ => trivial)
    unfold m_law_bag_l1
    refine mulI_of (mul_small (by decide)) ?_
    refine modI_of (by decide) fun _ _ _ => ?_
    exact modI_of (by decide) fun _ _ _ => h _ trivial
theorem ok_law_draw (T : Txt K mg ad) (b : Addr) (cells : List Int) : FnOk P w K mg base CX0 1 ad.f_law_draw ad.d_law_draw ["_law_bag_here", "_law_most"] (spW (fun i : Unit × Int × Unit => [sv (rAdr b) i.1, sv rInt i.2.1]) (fun _ => [(b, oBag cells)]) (fun i => drawW i.2.1) rInt) := by
  refine okW T.F_law_draw sc_law_draw (fun _ => rfl) fun cdv A outer s H E B i hr => ?_
  obtain ⟨_, most, _⟩ := i
  refine b_open 0 rfl bag_in fun p => ?_
  obtain ⟨n, d, m, k⟩ := p
  refine BG.imp (w := bnd (drC cells n d most) fun b => bnd (if b = true then drA cells n m else ret ()) fun _ : Unit => drawW most) ?_ ?_
  · unfold drC
    refine b_ifJ (S := Unit) (fun _ => [sv (rAdr b) (), sv rInt most, sa, sa, sa, sa]) (fun _ => [(b, oBag cells)])
      (t_conv (t_pw (w_and (t_lt (e_hidx 0 0 2 rfl rfl rfl) fun _ => e_name 1) (w_and1 (t_lt (e_hidx 0 0 1 rfl rfl rfl) fun _ => e_len (e_hidx 0 0 0 rfl rfl rfl) T.b_len)))) (by walk_at "wn")) ?_ ?_ (fun _ => ?_)
    · unfold drA
      refine b_set 2 (e_conv (e_idx (e_hidx 0 0 0 rfl rfl rfl) fun _ => e_hidx 0 0 1 rfl rfl rfl) (by walk_at "wn")) (fun cell => ?_) sc_law_draw.nd
      refine b_hput 0 0 1 rfl rfl (by show (1 : Nat) < 5; decide) (e_conv (e_add (e_hidx 0 0 1 rfl rfl rfl) fun _ => e_int) (by walk_at "wn")) (fun i1 => ?_)
      refine b_chk fun hi1 => ?_
      refine b_hput 0 0 3 rfl rfl (by show (3 : Nat) < 5; decide) (e_conv (e_mod (e_intI (e_add (e_add (e_mul (e_hidx 0 0 3 rfl rfl rfl) fun _ => e_int) fun _ => e_mod (e_intI (e_name 2) T.b_int) fun _ => e_int) fun _ => e_int) T.b_int) fun _ => e_int) (by walk_at "wn")) (fun m1 => ?_)
      refine b_hput 0 0 2 rfl rfl (by show (2 : Nat) < 5; decide) (e_conv (e_if (t_ge (e_name 2) fun _ => e_pow e_int fun _ => e_int) (e_name 2) e_int) (by walk_at "wn")) (fun d1 => ?_)
      exact b_end (NxOk.one rfl ⟨.inl rfl, .inl rfl, .inr rfl, .inr rfl, .inr rfl, .inr rfl, trivial⟩ (bag_out (n := n + 1) (by omega)))
    · exact b_end (NxOk.one rfl ⟨.inl rfl, .inl rfl, .inr rfl, .inr rfl, .inr rfl, .inr rfl, trivial⟩ (bag_out rfl))
    · refine b_open 0 rfl bag_in fun p => ?_
      obtain ⟨n, d, m, k⟩ := p
      refine BG.imp (w := bnd (ret (decide (most ≤ d))) fun b => if b = true then drB d most else drR m k most) ?_ ?_
      · refine b_ifA (t_conv (t_ge (e_hidx 0 0 2 rfl rfl rfl) fun _ => e_name 1) (by walk_at "wn")) ?_ ?_
        · unfold drB
          refine b_set 3 (e_conv (e_mod (e_intI (e_hidx 0 0 2 rfl rfl rfl) T.b_int) fun _ => e_name 1) (by walk_at "wn")) (fun digit => ?_) sc_law_draw.nd
          refine b_hput 0 0 2 rfl rfl (by show (2 : Nat) < 5; decide) (e_conv (e_div (e_hidx 0 0 2 rfl rfl rfl) fun _ => e_name 1) (by walk_at "wn")) (fun d1 => ?_)
          exact b_ret (RtOk.x RtOk.fn) (OsW.one (bag_out rfl)) (e_name 3)
        · unfold drR
          refine b_hput 0 0 4 rfl rfl (by show (4 : Nat) < 5; decide) (e_conv (e_add (e_hidx 0 0 4 rfl rfl rfl) fun _ => e_int) (by walk_at "wn")) (fun k1 => ?_)
          refine b_set 4 (e_conv (e_mod (e_intI (e_add (e_hidx 0 0 3 rfl rfl rfl) fun _ => e_mul (e_hidx 0 0 4 rfl rfl rfl) fun _ => e_int) T.b_int) fun _ => e_int) (by walk_at "wn")) (fun base => ?_) sc_law_draw.nd
          refine b_set 5 (e_conv (e_mul (e_mod (e_intI (e_mul (e_name 4) fun _ => e_name 4) T.b_int) fun _ => e_int) fun _ => e_add (e_mod (e_intI (e_name 4) T.b_int) fun _ => e_int) fun _ => e_int) (by walk_at "wn")) (fun late => ?_) sc_law_draw.nd
          refine b_hput 0 0 3 rfl rfl (by show (3 : Nat) < 5; decide) (e_conv (e_mod (e_intI (e_add (e_add (e_name 5) fun _ => e_mul e_int fun _ => e_name 4) fun _ => e_int) T.b_int) fun _ => e_int) (by walk_at "wn")) (fun m1 => ?_)
          exact b_ret RtOk.fn (OsW.one (bag_out rfl)) (e_conv (e_mod (e_intI (e_add (e_div (e_hidx 0 0 3 rfl rfl rfl) fun _ => e_int) fun _ => e_mul (e_mod (e_intI (e_hidx 0 0 3 rfl rfl rfl) T.b_int) fun _ => e_int) fun _ => e_int) T.b_int) fun _ => e_name 1) (by walk_at "wn"))
      · rintro P E ⟨h1, h2, h3⟩
        show (if decide (most ≤ d) = true then drB d most else drR m k most) P E
        split
        · exact drB_of h1 h2 h3
        · exact drR_of h1 h2 h3
  · intro P E h
    refine drC_of (fun hn => drA_of hn ?_) ?_
    · exact h
    · exact h
theorem ok_law_any {α : Type} (T : Txt K mg ad) (b : Addr) (cells : List Int) (r : Rp α) : FnOk P w K mg base CX0 2 ad.f_law_any ad.d_law_any ["_law_bag_here", "_law_some"] (spW (fun i : Unit × List α × Unit => [sv (rAdr b) i.1, sv (rLst r) i.2.1]) (fun _ => [(b, oBag cells)]) (fun i => anyW i.2.1) r) := by
  refine okW T.F_law_any sc_law_any (fun _ => rfl) fun cdv A outer s H E B i hr => ?_
  obtain ⟨_, xs, _⟩ := i
  show BG _ _ _ _ _ _ (anyW xs)
  refine b_conv (b_ret RtOk.fn (OsW.of (OsLe.mem (List.Mem.head _))) (e_idx (e_name 1) fun _ => e_call (ok_law_draw T b cells) (hr.mono (by walk_at "lev")) T.m_law_draw T.F_law_draw.kp T.bd_law_draw (aa_cons (e_name 0) fun _ => aa_cons (e_len (e_name 1) T.b_len) fun _ => aa_nil) (fun _ => OsLe.mem (List.Mem.head _)) (fun _ => by simp))) ?_
  unfold anyW
  simp only [Mi.wn_bb, Mi.wn_br, Mi.wn_rb]
theorem ok_law_same {α β : Type} {r : Rp α} {s : Rp β} {f : α → PyData} {g : β → PyData} {n m : Nat} (T : Txt K mg ad) (d : DD K r f n) (e : DD K s g m) (hn : n ≤ 64 := by decide) (hm : m ≤ 64 := by decide) :
    FnG P w K mg base CX0 1 ad.f_law_same ad.d_law_same ["_law_found", "_law_due"] (spW (fun i : α × β × Unit => [sv r i.1, sv s i.2.1]) (fun _ => []) (fun i => sameW f g i.1 i.2.1) rBool) := by
  refine fnW T.F_law_same sc_law_same (fun _ => rfl) fun cdv A outer s0 H E B i hr hgu0 => ?_
  obtain ⟨x, y, _⟩ := i
  have hu2 := room100 hr
  have hgu := guards_deeper (q := "_law_same") (sc := defScope s_law_same) (n := s0.heap.objs.size) (f := ad.f_law_same) (c := cdv) hgu0
  show BG _ _ _ _ _ _ (sameW f g x y)
  refine b_conv (b_ret RtOk.fn OsW.nil (e_eqS (e_repr hu2 hgu d (e_name 0) T.b_repr hn) fun _ => e_repr hu2 hgu e (e_name 1) T.b_repr hm)) ?_
  unfold sameW
  simp only [Mi.wn_bb, Mi.wn_br, Mi.wn_rb]
def m_law_trim (a_law_coefs : (List Int)) : W (List Int) :=
  bnd (bnd (rng1 ((a_law_coefs.length : Int))) fun l2 => bnd (filtW (fun (x3 : Int) => bnd (idx a_law_coefs x3) fun t5 => ret (!decide (t5 = (0 : Int)))) (fun (x3 : Int) => ret (x3 + ((1 : Int)))) l2) fun ys4 => bnd (catL ([(0 : Int)]) ys4) fun t6 => chk (t6 ≠ []) (ret (maxL t6))) fun many_1 => bnd (ret (cutL a_law_coefs none (some many_1))) fun z => ret z
theorem ok_law_trim (T : Txt K mg ad) : FnOk P w K mg base CX0 1 ad.f_law_trim ad.d_law_trim ["_law_coefs"] (spW (fun i : (List Int) × Unit => [sv (rLst rInt) i.1]) (fun _ => []) (fun i => m_law_trim i.1) (rLst rInt)) := by
  refine okW T.F_law_trim sc_law_trim (fun _ => rfl) fun cdv A outer s0 H0 E0 B i hr => ?_
  obtain ⟨a_law_coefs, _⟩ := i
  have hu := hr.units
  have hu2 := room100 hr
  show BG _ _ _ _ _ _ (m_law_trim a_law_coefs)
  unfold m_law_trim
  refine b_set 1 (e_conv (e_max rfl (e_new (n_cat (e_new (n_list (al_cons e_int al_nil))) fun _ => (e_new (n_compF rfl sc_law_trim.nd (s_rng1 (e_len (e_name 0) T.b_len) T.b_range) (blkOk_by (own := [("_law_at", 2)]) rfl) (tg_name (i := 2)) (fun _ _ _ _ _ => (pg_name (i := 2) sc_law_trim.nd rfl (by walk_at "loc"))) (by decide) (fun _ _ _ _ _ _ _ _ _ => (t_neI (e_idx (e_name 0) fun _ => (e_name 2)) fun _ => e_int)) (fun _ _ _ _ _ _ _ _ _ => (e_add (e_name 2) fun _ => e_int)))))) T.b_max) (by walk_at "wn")) (fun many_1 => ?_) sc_law_trim.nd
  exact b_ret RtOk.fn OsW.nil (e_conv (e_new (n_listL (e_new (n_slice (e_name 0) o_none (o_some (e_name 1)))) T.b_list)) (by walk_at "wn"))
def m_law_power_l1 (s5 : Poly_) (x4 : Int) : W Poly_ :=
  bnd (bnd (noX (m_Poly_init [(0 : Int), (1 : Int)])) fun r7 => noX (m_Poly_mul_v1 s5 r7)) fun found_6 => ret (found_6)
def m_law_power (a_law_times : Int) : W Poly_ :=
  bnd (noX (m_Poly_init [(1 : Int)])) fun found_1 => bnd (rng1 a_law_times) fun xs9 => bnd (forW m_law_power_l1 (found_1) xs9) fun (s10 : Poly_) => bnd (ret (s10)) fun z => ret z
theorem ok_law_power (T : Txt K mg ad) : FnOk P w K mg base CX0 6 ad.f_law_power ad.d_law_power ["_law_times"] (spW (fun i : Int × Unit => [sv rInt i.1]) (fun _ => []) (fun i => m_law_power i.1) (rObj ad.c_Poly (fl_Poly K ad))) := by
  refine okW T.F_law_power sc_law_power (fun _ => rfl) fun cdv A outer s0 H0 E0 B i hr => ?_
  obtain ⟨a_law_times, _⟩ := i
  have hu := hr.units
  have hu2 := room100 hr
  show BG _ _ _ _ _ _ (m_law_power a_law_times)
  unfold m_law_power
  refine b_set 1 (e_conv (e_makeS T.mk_Poly (ok_Poly_init T) (hr.mono (by walk_at "lev")) T.n_Poly (al_cons e_int al_nil) (by decide)) (by walk_at "wn")) (fun found_1 => ?_) sc_law_power.nd
  refine b_for (S := Poly_) (fun s => [sv rInt a_law_times, sv (rObj ad.c_Poly (fl_Poly K ad)) s, sa]) (fun s => []) (found_1 : Poly_) rfl PassesOwn.never (s_conv (s_rng1 (e_name 0) T.b_range) (by walk_at "wn")) (tg_name (i := 2)) (pg_name (i := 2) sc_law_power.nd rfl (by walk_at "loc")) (fun M s5 x4 => ?_) (fun s10 => ?_) ⟨.inl rfl, .inl rfl, .inr rfl, trivial⟩ rfl
  · unfold m_law_power_l1
    refine b_set 1 (e_conv (e_binO (fl2 := fl_Poly K ad) (ok_Poly_mul_v1 T) (hr.mono (by walk_at "lev")) T.bd_Poly_mul T.bo_Poly_mul (e_name 1) fun _ => (e_makeS T.mk_Poly (ok_Poly_init T) (hr.mono (by walk_at "lev")) T.n_Poly (al_cons e_int (al_cons e_int al_nil)) (by decide))) (by walk_at "wn")) (fun found_6 => ?_) sc_law_power.nd
    exact b_end (NxOk.nxS (s := (found_6 : Poly_)) ⟨.inl rfl, .inl rfl, .inr rfl, trivial⟩ .slnil)
  · exact b_ret RtOk.fn OsW.nil (e_conv (e_name 1) (by walk_at "wn"))
def m_law_poly_l1 (a_law_coefs : (List Int)) (s5 : Poly_) (x4 : Int) : W Poly_ :=
  bnd (bnd (noX (m_law_power x4)) fun r7 => bnd (idx a_law_coefs x4) fun t8 => bnd (noX (m_Poly_mul_v0 r7 t8)) fun r9 => noX (m_Poly_add s5 r9)) fun found_6 => ret (found_6)
def m_law_poly (a_law_coefs : (List Int)) : W Poly_ :=
  bnd (noX (m_Poly_init [])) fun found_1 => bnd (rng1 ((a_law_coefs.length : Int))) fun xs11 => bnd (forW (m_law_poly_l1 a_law_coefs) (found_1) xs11) fun (s12 : Poly_) => bnd (ret (s12)) fun z => ret z
theorem ok_law_poly (T : Txt K mg ad) : FnOk P w K mg base CX0 7 ad.f_law_poly ad.d_law_poly ["_law_coefs"] (spW (fun i : (List Int) × Unit => [sv (rLst rInt) i.1]) (fun _ => []) (fun i => m_law_poly i.1) (rObj ad.c_Poly (fl_Poly K ad))) := by
  refine okW T.F_law_poly sc_law_poly (fun _ => rfl) fun cdv A outer s0 H0 E0 B i hr => ?_
  obtain ⟨a_law_coefs, _⟩ := i
  have hu := hr.units
  have hu2 := room100 hr
  show BG _ _ _ _ _ _ (m_law_poly a_law_coefs)
  unfold m_law_poly
  refine b_set 1 (e_conv (e_makeS0 T.mk_Poly (ok_Poly_init T) (hr.mono (by walk_at "lev")) T.n_Poly) (by walk_at "wn")) (fun found_1 => ?_) sc_law_poly.nd
  refine b_for (S := Poly_) (fun s => [sv (rLst rInt) a_law_coefs, sv (rObj ad.c_Poly (fl_Poly K ad)) s, sa]) (fun s => []) (found_1 : Poly_) rfl PassesOwn.never (s_conv (s_rng1 (e_len (e_name 0) T.b_len) T.b_range) (by walk_at "wn")) (tg_name (i := 2)) (pg_name (i := 2) sc_law_poly.nd rfl (by walk_at "loc")) (fun M s5 x4 => ?_) (fun s12 => ?_) ⟨.inl rfl, .inl rfl, .inr rfl, trivial⟩ rfl
  · unfold m_law_poly_l1
    refine b_set 1 (e_conv (e_binO (fl2 := fl_Poly K ad) (ok_Poly_add T) (hr.mono (by walk_at "lev")) T.bd_Poly_add T.bo_Poly_add (e_name 1) fun _ => (e_binI (ok_Poly_mul_v0 T) (hr.mono (by walk_at "lev")) T.bd_Poly_mul T.bi_Poly_mul (e_call (ok_law_power T) (hr.mono (by walk_at "lev")) T.m_law_power T.F_law_power.kp T.bd_law_power (aa_cons (e_name 2) fun _ => aa_nil) (fun _ => OsLe.none) (fun _ => List.nodup_nil)) fun _ => (e_idx (e_name 0) fun _ => (e_name 2)))) (by walk_at "wn")) (fun found_6 => ?_) sc_law_poly.nd
    exact b_end (NxOk.nxS (s := (found_6 : Poly_)) ⟨.inl rfl, .inl rfl, .inr rfl, trivial⟩ .slnil)
  · exact b_ret RtOk.fn OsW.nil (e_conv (e_name 1) (by walk_at "wn"))
def m_law_poly_text_l1 (a_law_row : (List Int)) (s4 : Str) (x3 : Int) : W Str :=
  bnd (ret ((((a_law_row.length : Int)) - ((1 : Int))) - x3)) fun at_5 => bnd (bnd (ret (decide (at_5 = (0 : Int)))) fun c => if c = true then ret (("" : Str)) else bnd (ret (decide (at_5 = (1 : Int)))) fun c => if c = true then ret (("n" : Str)) else bnd (intS at_5) fun t7 => catS (("n^" : Str)) t7) fun word_6 => bnd (bnd (idx a_law_row at_5) fun t12 => ret ((t12.natAbs : Int))) fun size_11 => bnd (bnd (ret (decide (word_6 = ("" : Str)))) fun c => if c = true then intS size_11 else bnd (ret (decide (size_11 = (1 : Int)))) fun c => if c = true then ret (word_6) else bnd (intS size_11) fun t15 => bnd (catS t15 (("*" : Str))) fun t16 => catS t16 word_6) fun word_13 => bnd (bnd (idx a_law_row at_5) fun t20 => ret (!decide (t20 = (0 : Int)))) fun b21 => bnd (if b21 = true then (bnd (bnd (bnd (idx a_law_row at_5) fun t23 => ret (decide (t23 < ((0 : Int))))) fun c => if c = true then ret (("-" : Str)) else ret (("+" : Str))) fun sign_22 => bnd (bnd (ret (!decide (s4 = ("" : Str)))) fun c => if c = true then bnd (catS s4 ((" " : Str))) fun t26 => bnd (catS t26 sign_22) fun t27 => bnd (catS t27 ((" " : Str))) fun t28 => catS t28 word_13 else bnd (bnd (idx a_law_row at_5) fun t30 => ret (decide (t30 < ((0 : Int))))) fun c => if c = true then catS (("-" : Str)) word_13 else ret (word_13)) fun found_25 => ret (found_25)) else (ret (s4))) fun (s34 : Str) => ret (s34)
def m_law_poly_text (a_law_row : (List Int)) : W Str :=
  bnd (ret (("" : Str))) fun found_1 => bnd (rng1 ((a_law_row.length : Int))) fun xs35 => bnd (forW (m_law_poly_text_l1 a_law_row) (found_1) xs35) fun (s36 : Str) => bnd (bnd (ret (!decide (s36 = ("" : Str)))) fun c => if c = true then ret (s36) else ret (("0" : Str))) fun z => ret z
theorem ok_law_poly_text (T : Txt K mg ad) : FnOk P w K mg base CX0 1 ad.f_law_poly_text ad.d_law_poly_text ["_law_row"] (spW (fun i : (List Int) × Unit => [sv (rLst rInt) i.1]) (fun _ => []) (fun i => m_law_poly_text i.1) rStr) := by
  refine okW T.F_law_poly_text sc_law_poly_text (fun _ => rfl) fun cdv A outer s0 H0 E0 B i hr => ?_
  obtain ⟨a_law_row, _⟩ := i
  have hu := hr.units
  have hu2 := room100 hr
  show BG _ _ _ _ _ _ (m_law_poly_text a_law_row)
  unfold m_law_poly_text
  refine b_set 1 (e_conv e_str (by walk_at "wn")) (fun found_1 => ?_) sc_law_poly_text.nd
  refine b_for (S := Str) (fun s => [sv (rLst rInt) a_law_row, sv rStr s, sa, sa, sa, sa, sa]) (fun s => []) (found_1 : Str) rfl PassesOwn.never (s_conv (s_rng1 (e_len (e_name 0) T.b_len) T.b_range) (by walk_at "wn")) (tg_name (i := 2)) (pg_name (i := 2) sc_law_poly_text.nd rfl (by walk_at "loc")) (fun M s4 x3 => ?_) (fun s36 => ?_) ⟨.inl rfl, .inl rfl, .inr rfl, .inr rfl, .inr rfl, .inr rfl, .inr rfl, trivial⟩ rfl
  · unfold m_law_poly_text_l1
    refine b_set 3 (e_conv (e_sub (e_sub (e_len (e_name 0) T.b_len) fun _ => e_int) fun _ => (e_name 2)) (by walk_at "wn")) (fun at_5 => ?_) sc_law_poly_text.nd
    refine b_set 4 (e_conv (e_if (t_eqI (e_name 3) fun _ => e_int) e_str (e_if (t_eqI (e_name 3) fun _ => e_int) e_str (e_catS e_str fun _ => (e_strI (e_name 3) T.b_str)))) (by walk_at "wn")) (fun word_6 => ?_) sc_law_poly_text.nd
    refine b_set 5 (e_conv (e_abs (e_idx (e_name 0) fun _ => (e_name 3)) T.b_abs) (by walk_at "wn")) (fun size_11 => ?_) sc_law_poly_text.nd
    refine b_set 4 (e_conv (e_if (t_eqS (e_name 4) fun _ => e_str) (e_strI (e_name 5) T.b_str) (e_if (t_eqI (e_name 5) fun _ => e_int) (e_name 4) (e_catS (e_catS (e_strI (e_name 5) T.b_str) fun _ => e_str) fun _ => (e_name 4)))) (by walk_at "wn")) (fun word_13 => ?_) sc_law_poly_text.nd
    refine b_ifJ (S := Str) (fun s => [sv (rLst rInt) a_law_row, sv rStr s, sv rInt x3, sv rInt at_5, sv rStr word_13, sv rInt size_11, sa]) (fun s => []) (t_conv (t_neI (e_idx (e_name 0) fun _ => (e_name 3)) fun _ => e_int) (by walk_at "wn")) ?_ ?_ (fun s34 => ?_)
    · refine b_set 6 (e_conv (e_if (t_lt (e_idx (e_name 0) fun _ => (e_name 3)) fun _ => e_int) e_str e_str) (by walk_at "wn")) (fun sign_22 => ?_) sc_law_poly_text.nd
      refine b_set 1 (e_conv (e_if (t_neS (e_name 1) fun _ => e_str) (e_catS (e_catS (e_catS (e_catS (e_name 1) fun _ => e_str) fun _ => (e_name 6)) fun _ => e_str) fun _ => (e_name 4)) (e_if (t_lt (e_idx (e_name 0) fun _ => (e_name 3)) fun _ => e_int) (e_catS e_str fun _ => (e_name 4)) (e_name 4))) (by walk_at "wn")) (fun found_25 => ?_) sc_law_poly_text.nd
      exact b_end (NxOk.nxS (s := (found_25 : Str)) ⟨.inl rfl, .inl rfl, .inl rfl, .inl rfl, .inl rfl, .inl rfl, .inr rfl, trivial⟩ .slnil)
    · exact b_end (NxOk.nxS (s := (s4 : Str)) ⟨.inl rfl, .inl rfl, .inl rfl, .inl rfl, .inl rfl, .inl rfl, .inr rfl, trivial⟩ .slnil)
    · exact b_end (NxOk.nxS (s := (s34 : Str)) ⟨.inl rfl, .inl rfl, .inr rfl, .inr rfl, .inr rfl, .inr rfl, .inr rfl, trivial⟩ .slnil)
  · exact b_ret RtOk.fn OsW.nil (e_conv (e_if (t_neS (e_name 1) fun _ => e_str) (e_name 1) e_str) (by walk_at "wn"))
def m_law_l1 (s4 : Unit) (x3 : Int) : W (Fl Unit Bool) :=
  bnd (bnd (noX (drawW ((6 : Int)))) fun r6 => bnd (rng1 r6) fun l7 => mapW (fun (x8 : Int) => bnd (noX (drawW ((19 : Int)))) fun r9 => bnd (powI ((10 : Int)) ((20 : Int))) fun t10 => bnd (noX (drawW t10)) fun r11 => noX (anyW ([(0 : Int), (0 : Int), (1 : Int), -((1 : Int)), r9 - ((9 : Int)), r11]))) l7) fun row_5 => bnd (bnd (noX (m_law_poly row_5)) fun r14 => bnd (noX (m_Poly_text r14)) fun r15 => bnd (noX (m_law_trim row_5)) fun r16 => bnd (noX (m_law_poly_text r16)) fun r17 => bnd (noX (sameW .str .str r15 r17)) fun r18 => ret (!r18)) fun b19 => if b19 = true then (bnd (ret (false)) fun z => ret (.rt z)) else (ret (.nx (())))
def m_law (a_law_script : (List Int)) : W Bool :=
  bnd (rng1 ((8 : Int))) fun xs20 => bnd (forF m_law_l1 (()) xs20) (flEnd (fun z => z) fun (s21 : Unit) => bnd (bnd (noX (m_Poly_init [(1 : Int), -((3 : Int)), (1 : Int)])) fun r23 => bnd (noX (m_Poly_text r23)) fun r24 => bnd (noX (m_Poly_init [(0 : Int), -((1 : Int))])) fun r25 => bnd (noX (m_Poly_text r25)) fun r26 => bnd (noX (m_Poly_init [])) fun r27 => bnd (noX (m_Poly_text r27)) fun r28 => bnd (noX (m_Poly_init [-((5 : Int))])) fun r29 => bnd (noX (m_Poly_text r29)) fun r30 => bnd (noX (m_Poly_init [(0 : Int), (0 : Int), -((2 : Int)), (0 : Int), (1 : Int)])) fun r31 => bnd (noX (m_Poly_text r31)) fun r32 => ret ([r24, r26, r28, r30, r32])) fun found_22 => bnd (noX (sameW (fun xs => PyData.list (xs.map .str)) (fun xs => PyData.list (xs.map .str)) found_22 ([("n^2 - 3*n + 1" : Str), ("-n" : Str), ("0" : Str), ("-5" : Str), ("n^4 - 2*n^2" : Str)]))) fun z => ret z)
theorem ok_law (T : Txt K mg ad) : FnG P w K mg base CX0 8 ad.f_law ad.d_law ["_law_script"] (spW (fun i : (List Int) × Unit => [sv (rScr K) i.1]) (fun _ => []) (fun i => m_law i.1) rBool) := by
  refine fnW T.F_law sc_law (fun _ => rfl) fun cdv A outer s0 H0 E0 B i hr hgu0 => ?_
  obtain ⟨a_law_script, _⟩ := i
  have hu := hr.units
  have hu2 := room100 hr
  have hgu := guards_deeper (q := "law") (sc := defScope s_law) (n := s0.heap.objs.size) (f := ad.f_law) (c := cdv) hgu0
  show BG _ _ _ _ _ _ (m_law a_law_script)
  unfold m_law
  refine b_bag 1 (ok_law_bag T) (hr.mono (by walk_at "lev")) T.m_law_bag T.F_law_bag.kp T.bd_law_bag (e_name 0) (fun b cells => ?_) sc_law.nd
  refine b_forG (S := Unit) (osR := []) (ro := rBool) (fun z => z) (fun s => [sv (rScr K) a_law_script, sv (rAdr b) (()), sa, sa, sa, sa]) (fun s => [(b, oBag cells)]) (() : Unit) rfl PassesOwn.never (s_conv (s_rng1 e_int T.b_range) (by walk_at "wn")) (tg_name (i := 2)) (pg_name (i := 2) sc_law.nd rfl (by walk_at "loc")) (fun M s4 x3 => ?_) (fun s21 => ?_) (fun _ => rfl) RtOk.fn ⟨.inl rfl, .inl rfl, .inr rfl, .inr rfl, .inr rfl, .inr rfl, trivial⟩ rfl
  · unfold m_law_l1
    first | refine b_setC 3 (c_conv (c_comp rfl sc_law.nd (s_rng1 (e_call (ok_law_draw T b cells) (hr.mono (by walk_at "lev")) T.m_law_draw T.F_law_draw.kp T.bd_law_draw (aa_cons (e_name 1) fun _ => (aa_cons e_int fun _ => aa_nil)) (fun _ => OsLe.mem (List.Mem.head _)) (fun _ => by simp)) T.b_range) (blkOk_by (own := [("_law_k", 4)]) rfl) (tg_name (i := 4)) (fun _ _ _ _ _ => (pg_name (i := 4) sc_law.nd rfl (by walk_at "loc"))) (by decide) (fun _ _ _ _ _ _ _ _ _ => (e_call (ok_law_any T b cells rInt) (hr.mono (by walk_at "lev")) T.m_law_any T.F_law_any.kp T.bd_law_any (aa_cons (e_name 1) fun _ => (aa_cons (e_new (n_list (al_cons e_int (al_cons e_int (al_cons e_int (al_cons (e_neg e_int) (al_cons (e_sub (e_call (ok_law_draw T b cells) (hr.mono (by walk_at "lev")) T.m_law_draw T.F_law_draw.kp T.bd_law_draw (aa_cons (e_name 1) fun _ => (aa_cons e_int fun _ => aa_nil)) (fun _ => OsLe.mem (List.Mem.tail _ (List.Mem.head _))) (fun _ => by simp)) fun _ => e_int) (al_cons (e_call (ok_law_draw T b cells) (hr.mono (by walk_at "lev")) T.m_law_draw T.F_law_draw.kp T.bd_law_draw (aa_cons (e_name 1) fun _ => (aa_cons (e_pow e_int fun _ => e_int) fun _ => aa_nil)) (fun _ => OsLe.mem (List.Mem.tail _ (List.Mem.head _))) (fun _ => by simp)) al_nil)))))))) fun _ => aa_nil)) (fun _ => OsLe.mem (List.Mem.tail _ (List.Mem.head _))) (fun _ => by simp))) rfl rfl (sw_true rfl rfl rfl (by decide +kernel))) (by walk_at "wn")) (fun row_5 => ?_) | refine b_set 3 (e_conv (e_new (n_comp rfl sc_law.nd (s_rng1 (e_call (ok_law_draw T b cells) (hr.mono (by walk_at "lev")) T.m_law_draw T.F_law_draw.kp T.bd_law_draw (aa_cons (e_name 1) fun _ => (aa_cons e_int fun _ => aa_nil)) (fun _ => OsLe.mem (List.Mem.head _)) (fun _ => by simp)) T.b_range) (blkOk_by (own := [("_law_k", 4)]) rfl) (tg_name (i := 4)) (fun _ _ _ _ _ => (pg_name (i := 4) sc_law.nd rfl (by walk_at "loc"))) (by decide) (fun _ _ _ _ _ _ _ _ _ => (e_call (ok_law_any T b cells rInt) (hr.mono (by walk_at "lev")) T.m_law_any T.F_law_any.kp T.bd_law_any (aa_cons (e_name 1) fun _ => (aa_cons (e_new (n_list (al_cons e_int (al_cons e_int (al_cons e_int (al_cons (e_neg e_int) (al_cons (e_sub (e_call (ok_law_draw T b cells) (hr.mono (by walk_at "lev")) T.m_law_draw T.F_law_draw.kp T.bd_law_draw (aa_cons (e_name 1) fun _ => (aa_cons e_int fun _ => aa_nil)) (fun _ => OsLe.mem (List.Mem.tail _ (List.Mem.head _))) (fun _ => by simp)) fun _ => e_int) (al_cons (e_call (ok_law_draw T b cells) (hr.mono (by walk_at "lev")) T.m_law_draw T.F_law_draw.kp T.bd_law_draw (aa_cons (e_name 1) fun _ => (aa_cons (e_pow e_int fun _ => e_int) fun _ => aa_nil)) (fun _ => OsLe.mem (List.Mem.tail _ (List.Mem.head _))) (fun _ => by simp)) al_nil)))))))) fun _ => aa_nil)) (fun _ => OsLe.mem (List.Mem.tail _ (List.Mem.head _))) (fun _ => by simp))))) (by walk_at "wn")) (fun row_5 => ?_) sc_law.nd
    refine b_ifA (t_conv (t_not (t_val (e_callG (ok_law_same T dd_str dd_str) hgu (hr.mono (by walk_at "lev")) T.m_law_same T.F_law_same.kp T.bd_law_same (aa_cons (e_meth0 (ok_Poly_text T) (hr.mono (by walk_at "lev")) T.cl_Poly T.mt_Poly_text T.bd_Poly_text (e_call (ok_law_poly T) (hr.mono (by walk_at "lev")) T.m_law_poly T.F_law_poly.kp T.bd_law_poly (aa_cons (e_name 3) fun _ => aa_nil) (fun _ => OsLe.none) (fun _ => List.nodup_nil))) fun _ => (aa_cons (e_call (ok_law_poly_text T) (hr.mono (by walk_at "lev")) T.m_law_poly_text T.F_law_poly_text.kp T.bd_law_poly_text (aa_cons (e_call (ok_law_trim T) (hr.mono (by walk_at "lev")) T.m_law_trim T.F_law_trim.kp T.bd_law_trim (aa_cons (e_name 3) fun _ => aa_nil) (fun _ => OsLe.none) (fun _ => List.nodup_nil)) fun _ => aa_nil) (fun _ => OsLe.none) (fun _ => List.nodup_nil)) fun _ => aa_nil)) (fun _ => OsLe.none) (fun _ => List.nodup_nil)))) (by walk_at "wn")) ?_ ?_
    · exact b_ret (RtOk.x RtOk.fl) OsW.nil (e_conv e_bl (by walk_at "wn"))
    · exact b_end (NxOk.flS (s := (() : Unit)) ⟨.inl rfl, .inl rfl, .inr rfl, .inr rfl, .inr rfl, .inr rfl, trivial⟩ (.cons_cons _ .slnil))
  · refine bg_nx ?_
    refine b_set 5 (e_conv (e_new (n_list (al_cons (e_meth0 (ok_Poly_text T) (hr.mono (by walk_at "lev")) T.cl_Poly T.mt_Poly_text T.bd_Poly_text (e_makeS T.mk_Poly (ok_Poly_init T) (hr.mono (by walk_at "lev")) T.n_Poly (al_cons e_int (al_cons (e_neg e_int) (al_cons e_int al_nil))) (by decide))) (al_cons (e_meth0 (ok_Poly_text T) (hr.mono (by walk_at "lev")) T.cl_Poly T.mt_Poly_text T.bd_Poly_text (e_makeS T.mk_Poly (ok_Poly_init T) (hr.mono (by walk_at "lev")) T.n_Poly (al_cons e_int (al_cons (e_neg e_int) al_nil)) (by decide))) (al_cons (e_meth0 (ok_Poly_text T) (hr.mono (by walk_at "lev")) T.cl_Poly T.mt_Poly_text T.bd_Poly_text (e_makeS0 T.mk_Poly (ok_Poly_init T) (hr.mono (by walk_at "lev")) T.n_Poly)) (al_cons (e_meth0 (ok_Poly_text T) (hr.mono (by walk_at "lev")) T.cl_Poly T.mt_Poly_text T.bd_Poly_text (e_makeS T.mk_Poly (ok_Poly_init T) (hr.mono (by walk_at "lev")) T.n_Poly (al_cons (e_neg e_int) al_nil) (by decide))) (al_cons (e_meth0 (ok_Poly_text T) (hr.mono (by walk_at "lev")) T.cl_Poly T.mt_Poly_text T.bd_Poly_text (e_makeS T.mk_Poly (ok_Poly_init T) (hr.mono (by walk_at "lev")) T.n_Poly (al_cons e_int (al_cons e_int (al_cons (e_neg e_int) (al_cons e_int (al_cons e_int al_nil))))) (by decide))) al_nil))))))) (by walk_at "wn")) (fun found_22 => ?_) sc_law.nd
    exact b_ret RtOk.fn OsW.nil (e_conv (e_callG (ok_law_same T (dd_lst dd_str) (dd_lst dd_str)) hgu (hr.mono (by walk_at "lev")) T.m_law_same T.F_law_same.kp T.bd_law_same (aa_cons (e_name 5) fun _ => (aa_cons (e_new (n_list (al_cons e_str (al_cons e_str (al_cons e_str (al_cons e_str (al_cons e_str al_nil))))))) fun _ => aa_nil)) (fun _ => OsLe.none) (fun _ => List.nodup_nil)) (by walk_at "wn"))
end
end K16

namespace K16
open PySem L2 Evl Mi

/-! ### coefficients without noughts at the end -/
def trim (xs : List Int) : List Int := (xs.reverse.dropWhile (· == 0)).reverse
theorem trim_nil : trim [] = [] := rfl
theorem trim_snoc_zero (xs : List Int) : trim (xs ++ [0]) = trim xs := by
  unfold trim
  rw [List.reverse_append]
  rfl
theorem trim_snoc {xs : List Int} {x : Int} (h : x ≠ 0) : trim (xs ++ [x]) = xs ++ [x] := by
  unfold trim
  rw [List.reverse_append]
  show (List.dropWhile _ (x :: xs.reverse)).reverse = _
  rw [List.dropWhile_cons_of_neg (by simpa using h)]
  simp
theorem snoc_of {xs : List Int} (h : xs ≠ []) : ∃ ys y, xs = ys ++ [y] := ⟨xs.dropLast, xs.getLast h, (List.dropLast_concat_getLast h).symm⟩
theorem getD_app (xs ys : List Int) (k : Nat) : (xs ++ ys).getD k 0 = if k < xs.length then xs.getD k 0 else ys.getD (k - xs.length) 0 := by
  simp only [List.getD_eq_getElem?_getD, List.getElem?_append]
  split <;> rfl
theorem getD_out {xs : List Int} {k : Nat} (h : xs.length ≤ k) : xs.getD k 0 = 0 := by simp [List.getD_eq_getElem?_getD, List.getElem?_eq_none h]
theorem getD_in {xs : List Int} {k : Nat} (h : k < xs.length) : xs.getD k 0 = xs[k] := by simp [List.getD_eq_getElem?_getD, h]
theorem getD_trim : ∀ (n : Nat) (xs : List Int), xs.length = n → ∀ k, (trim xs).getD k 0 = xs.getD k 0
  | 0, xs, h, k => by
    rw [List.length_eq_zero_iff.mp h]
    rfl
  | n + 1, xs, h, k => by
    obtain ⟨ys, y, rfl⟩ := snoc_of (xs := xs) (fun e => by rw [e] at h; cases h)
    by_cases hy : y = 0
    · subst hy
      rw [trim_snoc_zero, getD_trim n ys (by simpa using h) k, getD_app]
      split
      · rfl
      · rename_i q
        rw [getD_out (by omega)]
        by_cases e : k - ys.length = 0
        · rw [e]
          rfl
        · exact (getD_out (xs := [0]) (by simp; omega)).symm
    · rw [trim_snoc hy]
/-- the same coefficients, the same trimmed -/
theorem trim_eq : ∀ (n : Nat) (xs ys : List Int), xs.length + ys.length = n → (∀ k, xs.getD k 0 = ys.getD k 0) → trim xs = trim ys := by
  intro n
  induction n using Nat.strongRecOn with
  | ind n ih =>
    intro xs ys hn h
    by_cases hx : xs = []
    · subst hx
      by_cases hy : ys = []
      · rw [hy]
      · obtain ⟨zs, z, rfl⟩ := snoc_of hy
        have hz : z = 0 := by
          have := h zs.length
          rw [getD_app, if_neg (Nat.lt_irrefl _), Nat.sub_self] at this
          exact this.symm
        subst hz
        rw [trim_snoc_zero]
        exact ih _ (by simp at hn ⊢; omega) [] zs rfl fun k => by
          rw [h k, getD_app]
          split
          · rfl
          · rw [getD_out (xs := zs) (by omega)]
            by_cases e : k - zs.length = 0
            · rw [e]
              rfl
            · exact getD_out (by simp; omega)
    · obtain ⟨as, a, rfl⟩ := snoc_of hx
      by_cases ha : a = 0
      · subst ha
        rw [trim_snoc_zero]
        exact ih _ (by simp at hn ⊢; omega) as ys rfl fun k => by
          rw [← h k, getD_app]
          split
          · rfl
          · rw [getD_out (xs := as) (by omega)]
            by_cases e : k - as.length = 0
            · rw [e]
              rfl
            · exact (getD_out (by simp; omega)).symm
      · by_cases hl : ys.length = as.length + 1
        · obtain ⟨zs, z, rfl⟩ := snoc_of (xs := ys) (fun e => by rw [e] at hl; cases hl)
          have hzl : zs.length = as.length := by simpa using hl
          refine congrArg trim (List.ext_getElem (by simp [hzl]) fun k h1 h2 => ?_)
          have := h k
          rwa [getD_in h1, getD_in h2] at this
        · by_cases hy : ys = []
          · subst hy
            have := h as.length
            rw [getD_app, if_neg (Nat.lt_irrefl _), Nat.sub_self] at this
            exact absurd this ha
          · obtain ⟨zs, z, rfl⟩ := snoc_of hy
            by_cases hz : z = 0
            · subst hz
              rw [trim_snoc_zero]
              exact ih _ (by simp at hn ⊢; omega) (as ++ [a]) zs rfl fun k => by
                rw [h k, getD_app]
                split
                · rfl
                · rw [getD_out (xs := zs) (by omega)]
                  by_cases e : k - zs.length = 0
                  · rw [e]
                    rfl
                  · exact getD_out (by simp; omega)
            · exfalso
              rcases Nat.lt_or_ge as.length zs.length with q | q
              · have := h zs.length
                rw [getD_out (xs := as ++ [a]) (by simp; omega), getD_app, if_neg (Nat.lt_irrefl _), Nat.sub_self] at this
                exact hz this.symm
              · have hl' : ¬ zs.length = as.length := fun e => hl (by simp [e])
                have := h as.length
                rw [getD_app, if_neg (Nat.lt_irrefl _), Nat.sub_self, getD_out (xs := zs ++ [z]) (by simp; omega)] at this
                exact ha this
theorem trim_len (xs : List Int) : (trim xs).length ≤ xs.length := by
  unfold trim
  rw [List.length_reverse]
  refine Nat.le_trans (List.dropWhile_sublist _).length_le ?_
  rw [List.length_reverse]
  exact Nat.le_refl _
theorem trim_mem {xs : List Int} {x : Int} (h : x ∈ trim xs) : x ∈ xs := by
  unfold trim at h
  have := List.mem_reverse.mp h
  exact List.mem_reverse.mp ((List.dropWhile_sublist _).subset this)
/-! ### the class -/
theorem init_ok (xs : List Int) : Ok (m_Poly_init xs) (· = ⟨trim xs⟩) := by
  unfold m_Poly_init
  rw [bnd_ret]
  refine Ok.bnd (J := fun _ => True) (Ok.forW (fun _ _ => True) trivial (fun k hk s _ => Ok.ret trivial) fun _ _ => trivial) fun _ _ => ?_
  rw [bnd_ret]
  refine Ok.bnd (J := fun ys => ys = trim xs) (Ok.while (fun ys => trim ys = trim xs) List.length (fun ys hys => ?_) rfl) fun ys e => Ok.ret (by rw [e])
  by_cases he : ys = []
  · subst he
    exact ⟨false, Ok.eq, (fun h => absurd h (by decide)), fun _ => hys⟩
  · obtain ⟨zs, z, rfl⟩ := snoc_of he
    have i1 : idx (zs ++ [z]) (-1) = ret z := by
      have : atI (zs ++ [z]) (-1) = some z := by
        unfold atI ixN
        rw [if_neg (by decide), if_pos (by simp; omega)]
        simp
        rw [show ((-1 : Int) + ((zs.length : Int) + 1)).toNat = zs.length by omega]
        simp
      unfold idx
      rw [this]
    refine ⟨decide (z = 0), ?_, fun h => ?_, fun h => ?_⟩
    · unfold m_Poly_init_l2c
      have : (zs ++ [z]).isEmpty = false := by cases zs <;> rfl
      rw [this]
      show Ok (bnd (idx (zs ++ [z]) (-1)) _) _
      rw [i1]
      exact Ok.eq
    · have hz : z = 0 := of_decide_eq_true h
      subst hz
      refine Ok.chk he (Ok.ret ⟨?_, ?_⟩)
      · rw [List.dropLast_concat, ← trim_snoc_zero]
        exact hys
      · simp
    · rw [← hys, trim_snoc (of_decide_eq_false h)]
theorem poly_of_ok (xs : List Int) : Ok (m_poly_of xs) (· = ⟨trim xs⟩) := Ok.bndE (Ok.noX (init_ok xs)) Ok.eq
theorem padded_ok {xs : List Int} {n : Nat} (h : xs.length ≤ n) (hn : n ≤ 1000) : Ok (m_padded xs (n : Int)) (· = xs ++ List.replicate (n - xs.length) 0) := by
  unfold m_padded
  have e : ((n : Int) - (xs.length : Int)) = ((n - xs.length : Nat) : Int) := by omega
  rw [e]
  refine Ok.bndE (x := xs ++ List.replicate (n - xs.length) 0) ?_ Ok.eq
  refine Ok.bndE (x := List.replicate (n - xs.length) 0) (Ok.chk ⟨by omega, by omega, ?_⟩ (Ok.ret ?_)) (Ok.chk ?_ Ok.eq)
  · exact Nat.le_trans (show [(0 : Int)].length * ((n - xs.length : Nat) : Int).toNat ≤ 1000 by simp; omega) (by decide)
  · simp
  · exact Nat.le_trans (show _ ≤ 1000 by simp; omega) (by decide)
theorem add_ok {a b : List Int} (ha : a.length ≤ 1000) (hb : b.length ≤ 1000) : Ok (m_Poly_add ⟨a⟩ ⟨b⟩) fun p => ∃ l : List Int, p = ⟨trim l⟩ ∧ l.length = max a.length b.length ∧ ∀ k, l.getD k 0 = a.getD k 0 + b.getD k 0 := by
  unfold m_Poly_add
  rw [bnd_ret, if_neg (by decide), bnd_ret]
  have e : (if ((b.length : Int)) > ((a.length : Int)) then ((b.length : Int)) else ((a.length : Int))) = ((max a.length b.length : Nat) : Int) := by
    split <;> omega
  show Ok (bnd (noX (m_padded a (if ((b.length : Int)) > ((a.length : Int)) then ((b.length : Int)) else ((a.length : Int))))) _) _
  rw [e]
  refine Ok.bndE (Ok.noX (padded_ok (by omega) (by omega))) ?_
  refine Ok.bndE (Ok.noX (padded_ok (by show b.length ≤ _; omega) (by omega))) ?_
  refine Ok.bndE (Ok.bndE (Ok.map (g := fun x : Int × Int => x.1 + x.2) fun x _ => Ok.eq) (Ok.noX (poly_of_ok _))) (Ok.ret ⟨_, rfl, ?_, fun k => ?_⟩)
  · simp
    omega
  · have gz : ∀ (xs : List Int) (n : Nat), (xs ++ List.replicate n 0).getD k 0 = xs.getD k 0 := fun xs n => by
      rw [getD_app]
      split
      · rfl
      · rw [getD_out (xs := xs) (by omega)]
        simp only [List.getD_eq_getElem?_getD, List.getElem?_replicate]
        split <;> rfl
    rw [← gz a (max a.length b.length - a.length), ← gz b (max a.length b.length - b.length)]
    generalize hA : a ++ List.replicate (max a.length b.length - a.length) 0 = A
    generalize hB : b ++ List.replicate (max a.length b.length - b.length) 0 = B
    have lA : A.length = max a.length b.length := by rw [← hA]; simp; omega
    have lB : B.length = max a.length b.length := by rw [← hB]; simp; omega
    by_cases q : k < max a.length b.length
    · rw [getD_in (xs := A) (by omega), getD_in (xs := B) (by omega), getD_in (by simp; omega)]
      simp
    · rw [getD_out (xs := A) (by omega), getD_out (xs := B) (by omega), getD_out (by simp; omega)]
      rfl
end K16

namespace K16
open PySem L2 Evl Mi
theorem set_getD {xs : List Int} {i k : Nat} {y : Int} (h : i < xs.length) : (xs.set i y).getD k 0 = if k = i then y else xs.getD k 0 := by
  simp only [List.getD_eq_getElem?_getD, List.getElem?_set]
  by_cases e : i = k
  · subst e
    simp [h]
  · rw [if_neg e, if_neg (Ne.symm e)]
theorem putL_ok {xs : List Int} {i : Nat} {y : Int} (h : i < xs.length) : putL xs (i : Int) y = ret (xs.set i y) := by
  unfold putL
  rw [ixN_nat h]
theorem idx_ok {xs : List Int} {i : Nat} (h : i < xs.length) : idx xs (i : Int) = ret (xs.getD i 0) := by
  rw [getD_in h]
  exact idx_nat (List.getElem?_eq_getElem h)
theorem zipR {α : Type} {xs : List α} {k : Nat} (hk : k < ((rangeI 0 (xs.length : Int)).zip xs).length) : ((rangeI 0 (xs.length : Int)).zip xs)[k] = ((k : Int), xs[k]'(by rw [List.length_zip] at hk; omega)) := by
  rw [List.getElem_zip]
  unfold rangeI
  simp
theorem zipR_len {α : Type} {xs : List α} : ((rangeI 0 (xs.length : Int)).zip xs).length = xs.length := by
  rw [List.length_zip, rangeI_len]
  omega
/-- what a product's coefficient is, of the first i of one -/
def cv (a b : List Int) (k : Nat) : Nat → Int
  | 0 => 0
  | i + 1 => cv a b k i + if i ≤ k then a.getD i 0 * b.getD (k - i) 0 else 0
theorem mult_in {a b : List Int} {found : List Int} {i : Nat} (hi : i < a.length) (hl : found.length = a.length + b.length) (hb : ∀ x ∈ a, ∀ y ∈ b, IntMulOk x y) :
    Ok (forW (m_multiplied_l2 ((i : Int), a[i])) found ((rangeI 0 (b.length : Int)).zip b)) fun l => l.length = a.length + b.length ∧ ∀ k, l.getD k 0 = found.getD k 0 + if i ≤ k then a.getD i 0 * b.getD (k - i) 0 else 0 := by
  refine Ok.forW (fun j l => l.length = a.length + b.length ∧ ∀ k, l.getD k 0 = found.getD k 0 + if i ≤ k ∧ k - i < j then a.getD i 0 * b.getD (k - i) 0 else 0) ⟨hl, fun k => by rw [if_neg (by omega)]; omega⟩ ?_ ?_
  · rintro j hj l ⟨h1, h2⟩
    have hj' : j < b.length := by rw [zipR_len] at hj; exact hj
    rw [zipR]
    unfold m_multiplied_l2
    have e1 : ((i : Int) + (j : Int)) = ((i + j : Nat) : Int) := by omega
    show Ok (bnd (bnd (idx l ((i : Int) + (j : Int))) fun t10 => bnd (mulI a[i] b[j]) fun t11 => ret (t10 + t11)) fun y13 => bnd (ret ((i : Int) + (j : Int))) fun k14 => bnd (putL l k14 y13) fun found_12 => ret (found_12)) _
    rw [e1, idx_ok (by omega), bnd_ret]
    refine Ok.bndE (Ok.bndE (x := a[i] * b[j]) (Ok.chk (hb _ (List.getElem_mem hi) _ (List.getElem_mem hj')) Ok.eq) Ok.eq) ?_
    rw [bnd_ret, putL_ok (by omega), bnd_ret]
    refine Ok.ret ⟨by rw [List.length_set]; exact h1, fun k => ?_⟩
    rw [set_getD (by omega)]
    by_cases e : k = i + j
    · subst e
      rw [if_pos rfl, h2, if_neg (by omega), if_pos (by omega), getD_in hi, show i + j - i = j by omega, getD_in hj']
      omega
    · rw [if_neg e, h2]
      by_cases q : i ≤ k ∧ k - i < j
      · rw [if_pos q, if_pos (by omega)]
      · rw [if_neg q, if_neg (by omega)]
  · rintro l ⟨h1, h2⟩
    refine ⟨h1, fun k => ?_⟩
    rw [h2, zipR_len]
    by_cases q : i ≤ k
    · rw [if_pos q]
      by_cases q2 : k - i < b.length
      · rw [if_pos ⟨q, q2⟩]
      · rw [if_neg (fun z => q2 z.2), getD_out (xs := b) (by omega)]
        simp
    · rw [if_neg q, if_neg (fun z => q z.1)]
theorem mult_ok {a b : List Int} (hn : a.length + b.length ≤ 1000) (hb : ∀ x ∈ a, ∀ y ∈ b, IntMulOk x y) : Ok (m_multiplied a b) fun l => l.length = a.length + b.length ∧ ∀ k, l.getD k 0 = cv a b k a.length := by
  unfold m_multiplied
  have e : ((a.length : Int) + (b.length : Int)) = ((a.length + b.length : Nat) : Int) := by omega
  rw [e]
  refine Ok.bndE (x := (List.range (a.length + b.length)).map fun _ => (0 : Int)) (Ok.bndE (Ok.rng1 (by omega)) (Ok.mapR0 fun k _ => Ok.eq)) ?_
  rw [bnd_ret]
  refine Ok.bnd (J := fun l : List Int => l.length = a.length + b.length ∧ ∀ k, l.getD k 0 = cv a b k a.length) (Ok.forW (fun i l => l.length = a.length + b.length ∧ ∀ k, l.getD k 0 = cv a b k i) ⟨by simp, fun k => ?_⟩ ?_ ?_) fun l hl => Ok.ret hl
  · show List.getD _ k 0 = 0
    simp only [List.getD_eq_getElem?_getD, List.getElem?_map]
    cases (List.range (a.length + b.length))[k]? <;> rfl
  · rintro i hi l ⟨h1, h2⟩
    have hi' : i < a.length := by rw [zipR_len] at hi; exact hi
    rw [zipR]
    unfold m_multiplied_l1
    rw [bnd_ret]
    show Ok (bnd _ fun s => ret s) _
    rw [ret_bnd]
    refine (mult_in hi' h1 hb).mono fun l2 ⟨g1, g2⟩ => ⟨g1, fun k => ?_⟩
    rw [g2, h2]
    rfl
  · rintro l ⟨h1, h2⟩
    rw [zipR_len] at h2
    exact ⟨h1, h2⟩
theorem mul1_ok {a b : List Int} (hn : a.length + b.length ≤ 1000) (hb : ∀ x ∈ a, ∀ y ∈ b, IntMulOk x y) : Ok (m_Poly_mul_v1 ⟨a⟩ ⟨b⟩) fun p => ∃ l : List Int, p = ⟨trim l⟩ ∧ l.length = a.length + b.length ∧ ∀ k, l.getD k 0 = cv a b k a.length := by
  unfold m_Poly_mul_v1
  refine Ok.bndE (x := false) (Ok.noX Ok.eq) ?_
  rw [if_neg (by decide), bnd_ret, if_neg (by decide)]
  refine Ok.bnd (J := fun p : Poly_ => ∃ l : List Int, p = ⟨trim l⟩ ∧ l.length = a.length + b.length ∧ ∀ k, l.getD k 0 = cv a b k a.length) ?_ fun p hp => Ok.ret hp
  exact Ok.bnd (Ok.noX (mult_ok hn hb)) fun l hl => (Ok.noX (poly_of_ok l)).mono fun p hp => ⟨l, hp, hl⟩
theorem mul0_ok {a : List Int} {c : Int} (hb : ∀ x ∈ a, IntMulOk x c) : Ok (m_Poly_mul_v0 ⟨a⟩ c) (· = ⟨trim (a.map (· * c))⟩) := by
  unfold m_Poly_mul_v0
  refine Ok.bndE (x := true) (Ok.noX Ok.eq) ?_
  rw [if_pos rfl]
  refine Ok.bndE (x := ⟨trim (a.map (· * c))⟩) ?_ Ok.eq
  exact Ok.bndE (Ok.map (g := fun x => x * c) fun x hx => Ok.chk (hb x hx) Ok.eq) (Ok.noX (poly_of_ok _))
/-! ### the law's own polynomials -/
def mono (n : Nat) (c : Int) : List Int := List.replicate n 0 ++ [c]
theorem mono_getD {n k : Nat} {c : Int} : (mono n c).getD k 0 = if k = n then c else 0 := by
  unfold mono
  rw [getD_app]
  by_cases e : k = n
  · subst e
    simp
  · rw [if_neg e]
    split
    · simp only [List.getD_eq_getElem?_getD, List.getElem?_replicate]
      split <;> rfl
    · rename_i q
      rw [List.length_replicate] at q ⊢
      exact getD_out (by simp; omega)
theorem trim_mono {n : Nat} {c : Int} (h : c ≠ 0) : trim (mono n c) = mono n c := trim_snoc h
theorem cv_x {a : List Int} {k : Nat} : ∀ {n : Nat}, cv a [0, 1] k n = if 1 ≤ k ∧ k ≤ n then a.getD (k - 1) 0 else 0
  | 0 => by
    rw [if_neg (by omega)]
    rfl
  | n + 1 => by
    show cv a [0, 1] k n + _ = _
    rw [cv_x (n := n)]
    have b2 : ∀ j, ([0, 1] : List Int).getD j 0 = if j = 1 then 1 else 0 := fun j => by
      match j with
      | 0 => rfl
      | 1 => rfl
      | j + 2 => simp
    rw [b2]
    have sc : (if n ≤ k then a.getD n 0 * (if k - n = 1 then 1 else 0) else 0) = if k = n + 1 then a.getD n 0 else 0 := by
      by_cases q : k = n + 1
      · subst q
        rw [if_pos (by omega), if_pos (by omega), if_pos rfl, Int.mul_one]
      · rw [if_neg q]
        by_cases q2 : n ≤ k
        · rw [if_pos q2, if_neg (by omega), Int.mul_zero]
        · rw [if_neg q2]
    rw [sc]
    by_cases q : k = n + 1
    · subst q
      rw [if_neg (by omega), if_pos rfl, if_pos (by omega)]
      simp
    · rw [if_neg q, Int.add_zero]
      by_cases q2 : 1 ≤ k ∧ k ≤ n
      · rw [if_pos q2, if_pos (by omega)]
      · rw [if_neg q2, if_neg (by omega)]
theorem power_ok {n : Nat} (hn : n ≤ 100) : Ok (m_law_power (n : Int)) (· = ⟨mono n 1⟩) := by
  unfold m_law_power
  refine Ok.bndE (Ok.noX (init_ok _)) ?_
  refine Ok.bndE (Ok.rng1 (by omega)) ?_
  refine Ok.bnd (J := fun p : Poly_ => p = ⟨mono n 1⟩) (Ok.forW (fun i p => p = ⟨mono i 1⟩) rfl ?_ ?_) fun p hp => Ok.ret hp
  · rintro i hi p rfl
    rw [List.length_map, List.length_range] at hi
    unfold m_law_power_l1
    rw [ret_bnd]
    refine Ok.bndE (x := ⟨[0, 1]⟩) ((Ok.noX (init_ok _)).mono fun p hp => hp) ?_
    refine (Ok.noX (mul1_ok (a := mono i 1) (b := [0, 1]) (by simp [mono]; omega) fun x hx y hy => mul_small ?_)).mono ?_
    · simp only [List.mem_cons, List.not_mem_nil, or_false] at hy
      rcases hy with rfl | rfl <;> decide
    · rintro p ⟨l, rfl, hl, hk⟩
      refine congrArg Poly_.mk ?_
      rw [← trim_mono (n := i + 1) (c := 1) (by decide)]
      refine trim_eq _ _ _ rfl fun k => ?_
      rw [hk, cv_x, mono_getD, mono_getD]
      have : (mono i 1).length = i + 1 := by simp [mono]
      rw [this]
      by_cases e : k = i + 1
      · subst e
        rw [if_pos (by omega), if_pos (by omega), if_pos rfl]
      · rw [if_neg e]
        split
        · rw [if_neg (by omega)]
        · rfl
  · intro p hp
    rw [List.length_map, List.length_range] at hp
    exact hp
theorem poly_ok {row : List Int} (hn : row.length ≤ 100) : Ok (m_law_poly row) (· = ⟨trim row⟩) := by
  unfold m_law_poly
  refine Ok.bndE (Ok.noX (init_ok _)) ?_
  refine Ok.bndE (Ok.rng1 (by omega)) ?_
  refine Ok.bnd (J := fun p : Poly_ => p = ⟨trim row⟩) (Ok.forW (fun i p => p = ⟨trim (row.take i)⟩) rfl ?_ ?_) fun p hp => Ok.ret hp
  · rintro i hi p rfl
    rw [List.length_map, List.length_range] at hi
    have hx : ((List.range row.length).map fun k : Nat => (k : Int))[i]'(by simpa using hi) = (i : Int) := by simp
    rw [hx]
    unfold m_law_poly_l1
    rw [ret_bnd]
    refine Ok.bndE (Ok.noX (power_ok (by omega))) ?_
    rw [idx_ok hi, bnd_ret]
    refine Ok.bndE (Ok.noX (mul0_ok (a := mono i 1) (c := row.getD i 0) fun x hx => mul_smallL ?_)) ?_
    · unfold mono at hx
      rcases List.mem_append.mp hx with h | h
      · rw [(List.mem_replicate.mp h).2]
        decide
      · rw [List.mem_singleton.mp h]
        decide
    · have em : (mono i 1).map (· * row.getD i 0) = mono i (row.getD i 0) := by
        unfold mono
        simp
      rw [em]
      refine (Ok.noX (add_ok ?_ ?_)).mono ?_
      · exact Nat.le_trans (trim_len _) (by rw [List.length_take]; omega)
      · exact Nat.le_trans (trim_len _) (by simp [mono]; omega)
      · rintro p ⟨l, rfl, hl, hk⟩
        refine congrArg Poly_.mk (trim_eq _ _ _ rfl fun k => ?_)
        rw [hk, getD_trim _ _ rfl, getD_trim _ _ rfl, mono_getD]
        have t : ∀ (j : Nat), (row.take j).getD k 0 = if k < j then row.getD k 0 else 0 := fun j => by
          simp only [List.getD_eq_getElem?_getD, List.getElem?_take]
          split <;> rfl
        rw [t, t]
        by_cases e : k = i
        · subst e
          rw [if_neg (by omega), if_pos rfl, if_pos (by omega)]
          omega
        · rw [if_neg e]
          by_cases q : k < i
          · rw [if_pos q, if_pos (by omega)]
            omega
          · rw [if_neg q, if_neg (by omega)]
            rfl
  · intro p hp
    rw [List.length_map, List.length_range, List.take_length] at hp
    exact hp
end K16

namespace K16
open PySem L2 Evl Mi
theorem has_max : ∀ {l : List Int}, l ≠ [] → ∃ m ∈ l, ∀ y ∈ l, y ≤ m
  | [x], _ => ⟨x, List.mem_cons_self, fun y hy => by rw [List.mem_singleton.mp hy]; omega⟩
  | x :: y :: r, _ => by
    obtain ⟨m, h1, h2⟩ := has_max (l := y :: r) (by simp)
    by_cases q : x ≤ m
    · exact ⟨m, List.mem_cons_of_mem _ h1, fun z hz => (List.mem_cons.mp hz).elim (fun e => e ▸ q) (h2 z)⟩
    · exact ⟨x, List.mem_cons_self, fun z hz => (List.mem_cons.mp hz).elim (fun e => by omega) fun hz => by have := h2 z hz; omega⟩
theorem trim_ok {xs : List Int} (hn : xs.length ≤ 1000) : Ok (m_law_trim xs) (· = trim xs) := by
  unfold m_law_trim
  generalize hL : ([(0 : Int)] ++ (((List.range xs.length).map fun k : Nat => (k : Int)).filter fun x => !decide (xs.getD x.toNat 0 = 0)).map fun x => x + 1) = L
  have hne : L ≠ [] := by
    rw [← hL]
    simp
  obtain ⟨m, h1, h2⟩ := has_max hne
  have hmem : ∀ y, y ∈ L ↔ y = 0 ∨ ∃ k : Nat, k < xs.length ∧ xs.getD k 0 ≠ 0 ∧ y = (k : Int) + 1 := fun y => by
    rw [← hL]
    constructor
    · intro h
      rcases List.mem_append.mp h with h | h
      · exact .inl (List.mem_singleton.mp h)
      · obtain ⟨x, hx, rfl⟩ := List.mem_map.mp h
        obtain ⟨h3, h4⟩ := List.mem_filter.mp hx
        obtain ⟨k, hk, rfl⟩ := List.mem_map.mp h3
        refine .inr ⟨k, List.mem_range.mp hk, ?_, rfl⟩
        simpa using h4
    · rintro (rfl | ⟨k, hk, hx, rfl⟩)
      · exact List.mem_append_left _ List.mem_cons_self
      · refine List.mem_append_right _ (List.mem_map.mpr ⟨(k : Int), List.mem_filter.mpr ⟨List.mem_map.mpr ⟨k, List.mem_range.mpr hk, rfl⟩, by simpa using hx⟩, rfl⟩)
  obtain ⟨n, rfl⟩ : ∃ n : Nat, m = (n : Int) := by
    rcases (hmem m).mp h1 with e | ⟨k, _, _, e⟩
    · exact ⟨0, e⟩
    · exact ⟨k + 1, by omega⟩
  have hn1 : n ≤ xs.length := by
    rcases (hmem _).mp h1 with e | ⟨k, hk, _, e⟩ <;> omega
  refine Ok.bndE (x := (n : Int)) ?_ ?_
  · refine Ok.bndE (Ok.rng1 (by omega)) ?_
    refine Ok.bndE (x := (((List.range xs.length).map fun k : Nat => (k : Int)).filter fun x => !decide (xs.getD x.toNat 0 = 0)).map fun x => x + 1) (Ok.filt (fun x hx => ?_) fun x _ _ => Ok.eq) ?_
    · obtain ⟨k, hk, rfl⟩ := List.mem_map.mp hx
      rw [idx_ok (List.mem_range.mp hk), bnd_ret]
      exact Ok.eq
    · refine Ok.bndE (x := L) (Ok.chk ?_ (Ok.ret hL)) (Ok.chk hne (Ok.ret (maxL_is h1 h2)))
      refine Nat.le_trans (show _ ≤ 1001 from ?_) (by decide)
      rw [List.length_map]
      have := List.length_filter_le (fun x : Int => !decide (xs.getD x.toNat 0 = 0)) ((List.range xs.length).map fun k : Nat => (k : Int))
      rw [List.length_map, List.length_range] at this
      simp at this ⊢
      omega
  · rw [bnd_ret]
    refine Ok.ret ?_
    have e1 : cutL xs none (some (n : Int)) = xs.take n := by
      unfold cutL HT.sIx
      simp
      rw [if_neg (by omega)]
      omega
    rw [e1]
    have e2 : trim xs = trim (xs.take n) := trim_eq _ _ _ rfl fun k => by
      simp only [List.getD_eq_getElem?_getD, List.getElem?_take]
      by_cases q : k < n
      · rw [if_pos q]
      · rw [if_neg q]
        by_cases q2 : k < xs.length
        · have : xs.getD k 0 = 0 := by
            refine Classical.byContradiction fun z => ?_
            have := h2 _ ((hmem _).mpr (.inr ⟨k, q2, z, rfl⟩))
            omega
          rwa [List.getD_eq_getElem?_getD] at this
        · rw [List.getElem?_eq_none (by omega)]
    rw [e2]
    by_cases hz : n = 0
    · subst hz
      rfl
    · rcases (hmem _).mp h1 with e | ⟨k, hk, hx, e⟩
      · omega
      · have hk' : n = k + 1 := by omega
        subst hk'
        rw [List.take_add_one, List.getElem?_eq_getElem hk]
        rw [getD_in hk] at hx
        exact (trim_snoc hx).symm
/-! ### the texts -/
def sI (i : Int) : Str := Str.ofString (toString i)
def term (c e : Int) : Str := if e = 0 then sI c else
  let w : Str := if e = 1 then "n" else ("n^" : Str) ++ sI e
  if c = 1 then w else (sI c ++ ("*" : Str)) ++ w
def step (found : Str) (c e : Int) : Str := if c = 0 then found else
  if found ≠ ("" : Str) then (((found ++ (" " : Str)) ++ (if c < 0 then ("-" : Str) else "+")) ++ (" " : Str)) ++ term (c.natAbs : Int) e else
  if c < 0 then ("-" : Str) ++ term (c.natAbs : Int) e else term (c.natAbs : Int) e
def acc (cs : List Int) : Nat → Str
  | 0 => ""
  | i + 1 => step (acc cs i) (cs.getD (cs.length - 1 - i) 0) ((cs.length - 1 - i : Nat) : Int)
def txt (cs : List Int) : Str := if acc cs cs.length ≠ ("" : Str) then acc cs cs.length else "0"
theorem app_len (x y : Str) : (x ++ y).length = x.length + y.length := strLen_append x y
theorem empty_app (x : Str) : Str.empty ++ x = x := by
  show (⟨#[] ++ x.cps⟩ : Str) = x
  rw [Array.empty_append]
theorem sI_len {i : Int} (h : i.natAbs < 2 ^ 1920) : (sI i).length ≤ 1921 := PyProof.Rows.int_text_len_1921 (intS_log h)
theorem line_ok {n : Nat} (h : n ≤ 100000) : n ≤ sizeLine := Nat.le_trans h (by decide)
theorem term_len {c e : Int} (hc : c.natAbs < 2 ^ 1920) (he : e.natAbs < 2 ^ 1920) : (term c e).length ≤ 4000 := by
  have := sI_len hc
  have := sI_len he
  have l1 : ("n" : Str).length = 1 := rfl
  have l2 : ("n^" : Str).length = 2 := rfl
  have l3 : ("*" : Str).length = 1 := rfl
  unfold term
  dsimp only
  (repeat' split) <;> (try simp only [app_len]) <;> omega
theorem step_len {f : Str} {c e : Int} (hc : c.natAbs < 2 ^ 1920) (he : e.natAbs < 2 ^ 1920) : (step f c e).length ≤ f.length + 4003 := by
  have := term_len (c := (c.natAbs : Int)) (by simpa using hc) he
  have l1 : (" " : Str).length = 1 := rfl
  have l2 : ("-" : Str).length = 1 := rfl
  have l3 : ("+" : Str).length = 1 := rfl
  unfold step
  (repeat' split) <;> (try simp only [app_len]) <;> omega
theorem acc_len {cs : List Int} (hc : ∀ k, (cs.getD k 0).natAbs < 2 ^ 1920) (hn : cs.length ≤ 20) : ∀ i, (acc cs i).length ≤ 4003 * i
  | 0 => Nat.le_refl _
  | i + 1 => by
    have := acc_len hc hn i
    have := step_len (f := acc cs i) (c := cs.getD (cs.length - 1 - i) 0) (e := ((cs.length - 1 - i : Nat) : Int)) (hc _) (Nat.lt_of_le_of_lt (show _ ≤ 20 by omega) (by decide))
    show (step _ _ _).length ≤ _
    omega
theorem sI_ok (i : Int) : PyData.strOk (sI i) = true := strOk_str _
theorem term_okS (c e : Int) : PyData.strOk (term c e) = true := by
  unfold term
  dsimp only
  repeat' split
  all_goals first | exact strOk_str _ | exact strOk_app (strOk_str _) (strOk_str _) | exact strOk_app (strOk_app (strOk_str _) (strOk_str _)) (strOk_str _) | exact strOk_app (strOk_app (strOk_str _) (strOk_str _)) (strOk_app (strOk_str _) (strOk_str _))
theorem step_okS {f : Str} (hf : PyData.strOk f = true) (c e : Int) : PyData.strOk (step f c e) = true := by
  have ht := term_okS (c.natAbs : Int) e
  unfold step
  repeat' split
  all_goals first | exact hf | exact ht | exact strOk_app (strOk_str _) ht | exact strOk_app (strOk_app (strOk_app (strOk_app hf (strOk_str _)) (strOk_str _)) (strOk_str _)) ht
theorem acc_okS (cs : List Int) : ∀ i, PyData.strOk (acc cs i) = true
  | 0 => strOk_str _
  | i + 1 => step_okS (acc_okS cs i) _ _
theorem word_ok {c e : Int} (hc : c.natAbs < 2 ^ 1920) (he : e.natAbs < 2 ^ 1920) : Ok (m_term_word c e) (· = term c e) := by
  have s1 := sI_len hc
  have s2 := sI_len he
  unfold m_term_word term
  rw [bnd_ret]
  by_cases q : e = 0
  · rw [if_pos (by simpa using q), if_pos q]
    exact Ok.bndE (Ok.intS hc) Ok.eq
  · rw [if_neg (by simpa using q), if_neg q]
    refine Ok.bndE (x := if e = 1 then ("n" : Str) else ("n^" : Str) ++ sI e) ?_ ?_
    · rw [bnd_ret]
      by_cases q1 : e = 1
      · rw [if_pos (by simpa using q1), if_pos q1]
        exact Ok.eq
      · rw [if_neg (by simpa using q1), if_neg q1]
        refine Ok.bndE (x := ("n^" : Str)) (Ok.chk (by decide +kernel) (Ok.ret (empty_app _))) ?_
        refine Ok.bndE (Ok.intS he) (Ok.joinS (line_ok ?_))
        have : ("n^" : Str).length = 2 := rfl
        have : (Str.ofString (toString e)).length ≤ 1921 := s2
        omega
    · dsimp only
      generalize hw : (if e = 1 then ("n" : Str) else ("n^" : Str) ++ sI e) = w
      have lw : w.length ≤ 1923 := by
        rw [← hw]
        have l1 : ("n" : Str).length = 1 := rfl
        have l2 : ("n^" : Str).length = 2 := rfl
        split
        · omega
        · rw [app_len]
          omega
      refine Ok.bndE (x := if c = 1 then w else (sI c ++ ("*" : Str)) ++ w) ?_ Ok.eq
      rw [bnd_ret]
      by_cases q2 : c = 1
      · rw [if_pos (by simpa using q2), if_pos q2]
        exact Ok.eq
      · rw [if_neg (by simpa using q2), if_neg q2]
        have l3 : ("*" : Str).length = 1 := rfl
        have hs : (Str.ofString (toString c)).length ≤ 1921 := s1
        refine Ok.bndE (Ok.intS hc) ?_
        refine Ok.bndE (x := Str.ofString (toString c)) (Ok.chk (by rw [empty_app]; exact line_ok (by omega)) (Ok.ret (empty_app _))) ?_
        refine Ok.bndE (Ok.joinS (line_ok (by omega))) (Ok.joinS (line_ok ?_))
        rw [app_len]
        omega
end K16

namespace K16
open PySem L2 Evl Mi
structure Sm (cs : List Int) : Prop where
  n : cs.length ≤ 20
  c : ∀ k, (cs.getD k 0).natAbs < 2 ^ 1920
theorem exp_small {k : Nat} (h : k ≤ 20) : ((k : Nat) : Int).natAbs < 2 ^ 1920 := Nat.lt_of_le_of_lt (show ((k : Nat) : Int).natAbs ≤ 20 by omega) (by decide)
theorem text_step {cs : List Int} (s : Sm cs) {f : Str} {k : Nat} (hk : k < cs.length) (hf : f.length ≤ 90000) : Ok (m_Poly_text_l1 ⟨cs⟩ f (k : Int)) (· = step f (cs.getD k 0) (k : Int)) := by
  have hn := s.n
  have hc := s.c k
  have he := exp_small (k := k) (by omega)
  unfold m_Poly_text_l1
  show Ok (bnd (idx cs (k : Int)) _) _
  rw [idx_ok hk, bnd_ret, bnd_ret]
  generalize cs.getD k 0 = c at *
  have hct : ((c.natAbs : Nat) : Int).natAbs < 2 ^ 1920 := by simpa using hc
  have lt := term_len (c := (c.natAbs : Int)) (e := (k : Int)) hct he
  have l1 : (" " : Str).length = 1 := rfl
  have l2 : ("-" : Str).length = 1 := rfl
  have l3 : ("+" : Str).length = 1 := rfl
  unfold step
  by_cases q : c = 0
  · rw [if_neg (by simp [q]), if_pos q]
    exact Ok.eq
  · rw [if_pos (by simp [q]), if_neg q]
    refine Ok.bndE ?_ Ok.eq
    refine Ok.bndE (Ok.noX (word_ok hct he)) ?_
    refine Ok.bndE (x := if c < 0 then ("-" : Str) else "+") ?_ ?_
    · rw [bnd_ret]
      by_cases z : c < 0
      · rw [if_pos (by simpa using z), if_pos z]
        exact Ok.eq
      · rw [if_neg (by simpa using z), if_neg z]
        exact Ok.eq
    · have ls : (if c < 0 then ("-" : Str) else "+").length = 1 := by split <;> rfl
      rw [ret_bnd, bnd_ret]
      by_cases e0 : f = ("" : Str)
      · rw [if_neg (by simp [e0]), if_neg (by simp [e0]), bnd_ret]
        by_cases z : 0 < c
        · rw [if_pos (by simpa using z), if_neg (by omega)]
          exact Ok.eq
        · rw [if_neg (by simpa using z), if_pos (by omega)]
          refine Ok.bndE (x := ("-" : Str)) (Ok.chk (by decide +kernel) (Ok.ret (empty_app _))) (Ok.joinS (line_ok (by omega)))
      · rw [if_pos (by simp [e0]), if_pos e0]
        refine Ok.bndE (x := f) (Ok.chk (by rw [empty_app]; exact line_ok (by omega)) (Ok.ret (empty_app _))) ?_
        refine Ok.bndE (Ok.joinS (line_ok (by omega))) ?_
        refine Ok.bndE (Ok.joinS (line_ok (by rw [app_len]; omega))) ?_
        refine Ok.bndE (Ok.joinS (line_ok (by rw [app_len, app_len]; omega))) ?_
        exact Ok.joinS (line_ok (by rw [app_len, app_len, app_len]; omega))
theorem text_ok {cs : List Int} (s : Sm cs) : Ok (m_Poly_text ⟨cs⟩) (· = txt cs) := by
  have hn := s.n
  unfold m_Poly_text
  rw [bnd_ret]
  refine Ok.bndE (x := (List.range cs.length).map fun i : Nat => ((cs.length : Int) - 1) - (i : Int)) ?_ ?_
  · refine Ok.bndE (x := (cs.length : Int) - 1) (Ok.noX Ok.eq) (Ok.chk ⟨by omega, by omega, by omega, by omega, by omega⟩ (Ok.ret ?_))
    unfold downI
    rw [show ((cs.length : Int) - 1 - -1).toNat = cs.length by omega]
  refine Ok.bnd (J := fun f : Str => f = acc cs cs.length) (Ok.forW (fun i f => f = acc cs i) rfl ?_ ?_) fun f hf => ?_
  · rintro i hi f rfl
    rw [List.length_map, List.length_range] at hi
    have hx : ((List.range cs.length).map fun i : Nat => ((cs.length : Int) - 1) - (i : Int))[i]'(by simpa using hi) = ((cs.length - 1 - i : Nat) : Int) := by
      simp
      omega
    rw [hx]
    have := acc_len s.c hn i
    exact text_step s (by omega) (by omega)
  · intro f hf
    rw [List.length_map, List.length_range] at hf
    exact hf
  · subst hf
    unfold txt
    rw [bnd_ret]
    refine Ok.bndE ?_ Ok.eq
    by_cases q : acc cs cs.length = ("" : Str)
    · rw [if_neg (by simp [q]), if_neg (by simp [q])]
      exact Ok.eq
    · rw [if_pos (by simp [q]), if_pos q]
      exact Ok.eq
theorem npow_ne (x : Str) : ¬ (("n^" : Str) ++ x) = ("" : Str) := fun h => by
  have := congrArg Str.length h
  rw [app_len] at this
  have l2 : ("n^" : Str).length = 2 := rfl
  have l0 : ("" : Str).length = 0 := rfl
  omega
theorem ltext_step {cs : List Int} (s : Sm cs) {f : Str} {i : Nat} (hi : i < cs.length) (hf : f.length ≤ 90000) : Ok (m_law_poly_text_l1 cs f (i : Int)) (· = step f (cs.getD (cs.length - 1 - i) 0) ((cs.length - 1 - i : Nat) : Int)) := by
  have hn := s.n
  obtain ⟨k, hk⟩ : ∃ k, k = cs.length - 1 - i := ⟨_, rfl⟩
  rw [← hk]
  have hkl : k < cs.length := by omega
  have hc := s.c k
  have he := exp_small (k := k) (by omega)
  unfold m_law_poly_text_l1
  have ea : (((cs.length : Int)) - ((1 : Int))) - (i : Int) = (k : Int) := by omega
  rw [ea, bnd_ret]
  rw [idx_ok hkl]
  simp only [bnd_ret]
  generalize cs.getD k 0 = c at *
  have hct : ((c.natAbs : Nat) : Int).natAbs < 2 ^ 1920 := by simpa using hc
  have lt := term_len (c := (c.natAbs : Int)) (e := (k : Int)) hct he
  have s1 : (Str.ofString (toString ((c.natAbs : Nat) : Int))).length ≤ 1921 := sI_len hct
  have s2 : (Str.ofString (toString (k : Int))).length ≤ 1921 := sI_len he
  have l1 : (" " : Str).length = 1 := rfl
  have l2 : ("-" : Str).length = 1 := rfl
  have l3 : ("+" : Str).length = 1 := rfl
  have l4 : ("n" : Str).length = 1 := rfl
  have l5 : ("n^" : Str).length = 2 := rfl
  have l6 : ("*" : Str).length = 1 := rfl
  refine Ok.bndE (x := if (k : Int) = 0 then ("" : Str) else if (k : Int) = 1 then "n" else ("n^" : Str) ++ sI k) ?_ ?_
  · by_cases q : (k : Int) = 0
    · rw [if_pos (by simpa using q), if_pos q]
      exact Ok.eq
    · rw [if_neg (by simpa using q), if_neg q]
      by_cases q1 : (k : Int) = 1
      · rw [if_pos (by simpa using q1), if_pos q1]
        exact Ok.eq
      · rw [if_neg (by simpa using q1), if_neg q1]
        exact Ok.bndE (Ok.intS he) (Ok.catS (line_ok (by omega)))
  refine Ok.bndE (x := term (c.natAbs : Int) (k : Int)) ?_ ?_
  · unfold term
    by_cases q : (k : Int) = 0
    · rw [if_pos q, if_pos q, if_pos (by simp)]
      exact Ok.intS hct
    · rw [if_neg q, if_neg q]
      dsimp only
      generalize hw : (if (k : Int) = 1 then ("n" : Str) else ("n^" : Str) ++ sI k) = w
      have hw0 : ¬ w = ("" : Str) := by
        rw [← hw]
        split
        · decide
        · exact npow_ne _
      have lw : w.length ≤ 1923 := by
        rw [← hw]
        split
        · omega
        · rw [app_len]
          show 2 + (Str.ofString (toString (k : Int))).length ≤ _
          omega
      rw [if_neg (by simpa using hw0)]
      by_cases q2 : ((c.natAbs : Nat) : Int) = 1
      · rw [if_pos (by simpa using q2), if_pos q2]
        exact Ok.eq
      · rw [if_neg (by simpa using q2), if_neg q2]
        refine Ok.bndE (Ok.intS hct) ?_
        refine Ok.bndE (Ok.catS (line_ok (by omega))) (Ok.catS (line_ok ?_))
        rw [app_len]
        omega
  unfold step
  by_cases q : c = 0
  · rw [if_neg (by simp [q]), if_pos q]
    exact Ok.eq
  · rw [if_pos (by simp [q]), if_neg q]
    refine Ok.bndE ?_ Ok.eq
    refine Ok.bndE (x := if c < 0 then ("-" : Str) else "+") ?_ ?_
    · by_cases z : c < 0
      · rw [if_pos (by simpa using z), if_pos z]
        exact Ok.eq
      · rw [if_neg (by simpa using z), if_neg z]
        exact Ok.eq
    · have ls : (if c < 0 then ("-" : Str) else "+").length = 1 := by split <;> rfl
      rw [ret_bnd]
      by_cases e0 : f = ("" : Str)
      · rw [if_neg (show ¬ (!decide (f = ("" : Str))) = true by simp [e0]), if_neg (show ¬ (f ≠ ("" : Str)) from fun z => z e0)]
        by_cases z : c < 0
        · rw [if_pos (by simpa using z), if_pos z]
          exact Ok.catS (line_ok (by omega))
        · rw [if_neg (by simpa using z), if_neg z]
          exact Ok.eq
      · rw [if_pos (by simp [e0]), if_pos e0]
        refine Ok.bndE (Ok.catS (line_ok (by omega))) ?_
        refine Ok.bndE (Ok.catS (line_ok (by rw [app_len]; omega))) ?_
        refine Ok.bndE (Ok.catS (line_ok (by rw [app_len, app_len]; omega))) ?_
        exact Ok.catS (line_ok (by rw [app_len, app_len, app_len]; omega))
theorem ltext_ok {cs : List Int} (s : Sm cs) : Ok (m_law_poly_text cs) (· = txt cs) := by
  have hn := s.n
  unfold m_law_poly_text
  rw [bnd_ret]
  refine Ok.bndE (Ok.rng1 (by omega)) ?_
  refine Ok.bnd (J := fun f : Str => f = acc cs cs.length) (Ok.forW (fun i f => f = acc cs i) rfl ?_ ?_) fun f hf => ?_
  · rintro i hi f rfl
    rw [List.length_map, List.length_range] at hi
    have hx : ((List.range cs.length).map fun i : Nat => (i : Int))[i]'(by simpa using hi) = (i : Int) := by simp
    rw [hx]
    have := acc_len s.c hn i
    exact ltext_step s hi (by omega)
  · intro f hf
    rw [List.length_map, List.length_range] at hf
    exact hf
  · subst hf
    unfold txt
    rw [bnd_ret]
    refine Ok.bndE ?_ Ok.eq
    by_cases q : acc cs cs.length = ("" : Str)
    · rw [if_neg (by simp [q]), if_neg (by simp [q])]
      exact Ok.eq
    · rw [if_pos (by simp [q]), if_pos q]
      exact Ok.eq
theorem txt_okS (cs : List Int) : PyData.strOk (txt cs) = true := by
  unfold txt
  split
  · exact acc_okS cs _
  · exact strOk_str _
theorem txt_len {cs : List Int} (s : Sm cs) : (txt cs).length ≤ 100000 := by
  have := acc_len s.c s.n cs.length
  have := s.n
  unfold txt
  split
  · omega
  · have : ("0" : Str).length = 1 := rfl
    omega
theorem sm_of {xs : List Int} (hn : xs.length ≤ 20) (h : ∀ x ∈ xs, x.natAbs < 2 ^ 1000) : Sm xs := ⟨hn, fun k => by
  by_cases q : k < xs.length
  · rw [getD_in q]
    exact Nat.lt_trans (h _ (List.getElem_mem q)) (Nat.pow_lt_pow_right (by decide) (by decide))
  · rw [getD_out (by omega)]
    decide⟩
theorem turn_ok (x : Int) : Ok (m_law_l1 () x) (· = .nx ()) := by
  unfold m_law_l1
  refine Ok.bnd (J := fun row : List Int => row.length ≤ 5 ∧ ∀ x ∈ row, x.natAbs < 2 ^ 1000) ?_ fun row ⟨h1, h2⟩ => ?_
  · refine Ok.bnd (Ok.noX (Ok.draw (by decide) (by decide))) fun n ⟨n0, n1⟩ => ?_
    obtain ⟨n, rfl⟩ := Int.eq_ofNat_of_zero_le n0
    refine Ok.bndE (Ok.rng1 (by omega)) ?_
    refine (Ok.mapP (I := fun y : Int => y.natAbs < 2 ^ 1000) fun k _ => ?_).mono fun ys ⟨e1, e2⟩ => ⟨by rw [e1, List.length_map, List.length_range]; omega, e2⟩
    refine Ok.bnd (Ok.noX (Ok.draw (by decide) (by decide))) fun r ⟨r0, r1⟩ => ?_
    refine Ok.bnd (J := fun t : Int => t = 100000000000000000000) (Ok.chk ⟨by decide, by decide, by decide⟩ (Ok.ret rfl)) fun t ht => ?_
    subst ht
    refine Ok.bnd (Ok.noX (Ok.draw (by decide) (by decide))) fun r2 ⟨q0, q1⟩ => ?_
    refine Ok.noX (Ok.any (by simp) (by simp) fun y hy => ?_)
    have big : y.natAbs ≤ 100000000000000000000 → y.natAbs < 2 ^ 1000 := fun h => Nat.lt_of_le_of_lt h (by decide)
    refine big ?_
    simp only [List.mem_cons, List.not_mem_nil, or_false] at hy
    rcases hy with rfl | rfl | rfl | rfl | rfl | rfl <;> omega
  have hs : Sm (trim row) := sm_of (Nat.le_trans (trim_len row) (by omega)) fun x hx => h2 x (trim_mem hx)
  refine Ok.bndE (x := false) ?_ ?_
  · refine Ok.bndE (Ok.noX (poly_ok (by omega))) ?_
    refine Ok.bndE (Ok.noX (text_ok hs)) ?_
    refine Ok.bndE (Ok.noX (trim_ok (by omega))) ?_
    refine Ok.bndE (Ok.noX (ltext_ok hs)) ?_
    exact Ok.bndE (Ok.noX (Ok.same (Shw.str (txt_okS _) (txt_len hs)) (by decide) rfl)) (Ok.ret rfl)
  rw [if_neg Bool.false_ne_true]
  exact Ok.eq
theorem law_ok (ns : List Int) : Ok (m_law ns) (· = true) := by
  unfold m_law
  refine Ok.bndE (Ok.rng1 (n := 8) (by decide)) ?_
  refine Ok.bnd (J := fun q => q = .nx ()) (Ok.forF (fun _ _ => True) (fun _ => False) trivial (fun k hk s _ => ?_) (fun _ _ => rfl) fun _ h => h.elim) fun q hq => ?_
  · refine (turn_ok _).mono fun r hr => ?_
    subst hr
    trivial
  subst hq
  rw [flEnd_nx]
  have one : ∀ (xs : List Int) (t : Str), xs.length ≤ 20 → (∀ x ∈ xs, x.natAbs < 2 ^ 1000) → txt (trim xs) = t → Ok (noX (m_Poly_init xs)) (· = ⟨trim xs⟩) ∧ Ok (noX (m_Poly_text ⟨trim xs⟩)) (· = t) := fun xs t h1 h2 h3 =>
    ⟨Ok.noX (init_ok xs), h3 ▸ Ok.noX (text_ok (sm_of (Nat.le_trans (trim_len xs) h1) fun x hx => h2 x (trim_mem hx)))⟩
  refine Ok.bndE (x := [("n^2 - 3*n + 1" : Str), "-n", "0", "-5", "n^4 - 2*n^2"]) ?_ ?_
  · obtain ⟨a1, a2⟩ := one [1, -3, 1] "n^2 - 3*n + 1" (by decide) (by decide) (by decide +kernel)
    obtain ⟨b1, b2⟩ := one [0, -1] "-n" (by decide) (by decide) (by decide +kernel)
    obtain ⟨c1, c2⟩ := one [] "0" (by decide) (by decide) (by decide +kernel)
    obtain ⟨d1, d2⟩ := one [-5] "-5" (by decide) (by decide) (by decide +kernel)
    obtain ⟨e1, e2⟩ := one [0, 0, -2, 0, 1] "n^4 - 2*n^2" (by decide) (by decide) (by decide +kernel)
    refine Ok.bndE a1 (Ok.bndE a2 (Ok.bndE b1 (Ok.bndE b2 (Ok.bndE c1 (Ok.bndE c2 (Ok.bndE d1 (Ok.bndE d2 (Ok.bndE e1 (Ok.bndE e2 Ok.eq)))))))))
  refine Ok.bndE (x := true) (Ok.noX (Ok.same (m := 1000) ⟨by decide +kernel, by decide +kernel, by decide +kernel⟩ (by decide) rfl)) Ok.eq
theorem law_true (ns : List Int) : m_law ns (fun x => x = true) (fun _ => False) := (law_ok ns).run
end K16

namespace K16
open PySem L2 Evl Mi
abbrev spL (K : PySem.W.Frag) : Sp := spW (fun i : List Int × Unit => [sv (rScr K) i.1]) (fun _ => []) (fun i => m_law i.1) rBool
set_option maxHeartbeats 0 in
theorem all_mk {P : Program} {w : World} {K : PySem.W.Frag} {h : Heap} {mg : Str → Option Value} {fa f_is_whole f_term_word f_padded f_multiplied f_Poly_init f_poly_of f_Poly_degree f_Poly_text f_Poly_add f_Poly_mul f_law_bag f_law_draw f_law_any f_law_same f_law_trim f_law_power f_law_poly f_law_poly_text f_law c_Poly p_Poly_degree : Addr} (X : K.In h) (G : h.Ns mainGlobals mg) (hfa : mg "law" = some (.ref fa))
    {od_is_whole an_is_whole od_term_word an_term_word od_padded an_padded od_multiplied an_multiplied od_Poly_init an_Poly_init od_poly_of an_poly_of od_Poly_degree an_Poly_degree od_Poly_text an_Poly_text od_Poly_add an_Poly_add od_Poly_mul an_Poly_mul od_law_bag an_law_bag od_law_draw an_law_draw od_law_any an_law_any od_law_same an_law_same od_law_trim an_law_trim od_law_power an_law_power od_law_poly an_law_poly od_law_poly_text an_law_poly_text od_law an_law : Option Addr} {sl_is_whole sl_term_word sl_padded sl_multiplied sl_Poly_init sl_poly_of sl_Poly_degree sl_Poly_text sl_Poly_add sl_Poly_mul sl_law_bag sl_law_draw sl_law_any sl_law_same sl_law_trim sl_law_power sl_law_poly sl_law_poly_text sl_law : Array (Option Value)} {oc_is_whole kV_is_whole dc_is_whole pm_is_whole cd_is_whole ct_is_whole oc_term_word kV_term_word dc_term_word pm_term_word cd_term_word ct_term_word oc_padded kV_padded dc_padded pm_padded cd_padded ct_padded oc_multiplied kV_multiplied dc_multiplied pm_multiplied cd_multiplied ct_multiplied oc_Poly_init kV_Poly_init dc_Poly_init pm_Poly_init cd_Poly_init ct_Poly_init oc_poly_of kV_poly_of dc_poly_of pm_poly_of cd_poly_of ct_poly_of oc_Poly_degree kV_Poly_degree dc_Poly_degree pm_Poly_degree cd_Poly_degree ct_Poly_degree oc_Poly_text kV_Poly_text dc_Poly_text pm_Poly_text cd_Poly_text ct_Poly_text oc_Poly_add kV_Poly_add dc_Poly_add pm_Poly_add cd_Poly_add ct_Poly_add oc_Poly_mul kV_Poly_mul dc_Poly_mul pm_Poly_mul cd_Poly_mul ct_Poly_mul oc_law_bag kV_law_bag dc_law_bag pm_law_bag cd_law_bag ct_law_bag oc_law_draw kV_law_draw dc_law_draw pm_law_draw cd_law_draw ct_law_draw oc_law_any kV_law_any dc_law_any pm_law_any cd_law_any ct_law_any oc_law_same kV_law_same dc_law_same pm_law_same cd_law_same ct_law_same oc_law_trim kV_law_trim dc_law_trim pm_law_trim cd_law_trim ct_law_trim oc_law_power kV_law_power dc_law_power pm_law_power cd_law_power ct_law_power oc_law_poly kV_law_poly dc_law_poly pm_law_poly cd_law_poly ct_law_poly oc_law_poly_text kV_law_poly_text dc_law_poly_text pm_law_poly_text cd_law_poly_text ct_law_poly_text oc_law kV_law dc_law pm_law cd_law ct_law : Value} {rs_Poly_degree : List Value}
    (a_Poly : PySem.W.nsIn K mainGlobals "Poly" = some (some (.ref c_Poly)))
    (a_is_whole : PySem.W.nsIn K mainGlobals "is_whole" = some (some (.ref f_is_whole)))
    (l_is_whole : K.lookup f_is_whole = some ⟨oc_is_whole, od_is_whole, .func (PySem.W.fnOf "is_whole" "is_whole" (defArgs s_is_whole) (defBody s_is_whole) (defScope s_is_whole) .none kV_is_whole dc_is_whole pm_is_whole an_is_whole cd_is_whole ct_is_whole), sl_is_whole⟩)
    (c_is_whole : PySem.W.codeIn K cd_is_whole "is_whole" = true)
    (k_is_whole : PySem.W.keepIn K (.ref f_is_whole) = true)
    (a_term_word : PySem.W.nsIn K mainGlobals "term_word" = some (some (.ref f_term_word)))
    (l_term_word : K.lookup f_term_word = some ⟨oc_term_word, od_term_word, .func (PySem.W.fnOf "term_word" "term_word" (defArgs s_term_word) (defBody s_term_word) (defScope s_term_word) .none kV_term_word dc_term_word pm_term_word an_term_word cd_term_word ct_term_word), sl_term_word⟩)
    (c_term_word : PySem.W.codeIn K cd_term_word "term_word" = true)
    (k_term_word : PySem.W.keepIn K (.ref f_term_word) = true)
    (a_padded : PySem.W.nsIn K mainGlobals "padded" = some (some (.ref f_padded)))
    (l_padded : K.lookup f_padded = some ⟨oc_padded, od_padded, .func (PySem.W.fnOf "padded" "padded" (defArgs s_padded) (defBody s_padded) (defScope s_padded) .none kV_padded dc_padded pm_padded an_padded cd_padded ct_padded), sl_padded⟩)
    (c_padded : PySem.W.codeIn K cd_padded "padded" = true)
    (k_padded : PySem.W.keepIn K (.ref f_padded) = true)
    (a_multiplied : PySem.W.nsIn K mainGlobals "multiplied" = some (some (.ref f_multiplied)))
    (l_multiplied : K.lookup f_multiplied = some ⟨oc_multiplied, od_multiplied, .func (PySem.W.fnOf "multiplied" "multiplied" (defArgs s_multiplied) (defBody s_multiplied) (defScope s_multiplied) .none kV_multiplied dc_multiplied pm_multiplied an_multiplied cd_multiplied ct_multiplied), sl_multiplied⟩)
    (c_multiplied : PySem.W.codeIn K cd_multiplied "multiplied" = true)
    (k_multiplied : PySem.W.keepIn K (.ref f_multiplied) = true)
    (a_Poly_init : PySem.W.findIn K (.ref c_Poly) "__init__" = some (some (.ref f_Poly_init)))
    (i_Poly_init : PySem.W.isFn K (.ref f_Poly_init) = true)
    (l_Poly_init : K.lookup f_Poly_init = some ⟨oc_Poly_init, od_Poly_init, .func (PySem.W.fnOf "__init__" "Poly.__init__" (defArgs s_Poly_init) (defBody s_Poly_init) (defScope s_Poly_init) .none kV_Poly_init dc_Poly_init pm_Poly_init an_Poly_init cd_Poly_init ct_Poly_init), sl_Poly_init⟩)
    (c_Poly_init : PySem.W.codeIn K cd_Poly_init "Poly.__init__" = true)
    (k_Poly_init : PySem.W.keepIn K (.ref f_Poly_init) = true)
    (a_poly_of : PySem.W.nsIn K mainGlobals "poly_of" = some (some (.ref f_poly_of)))
    (l_poly_of : K.lookup f_poly_of = some ⟨oc_poly_of, od_poly_of, .func (PySem.W.fnOf "poly_of" "poly_of" (defArgs s_poly_of) (defBody s_poly_of) (defScope s_poly_of) .none kV_poly_of dc_poly_of pm_poly_of an_poly_of cd_poly_of ct_poly_of), sl_poly_of⟩)
    (c_poly_of : PySem.W.codeIn K cd_poly_of "poly_of" = true)
    (k_poly_of : PySem.W.keepIn K (.ref f_poly_of) = true)
    (pa_Poly_degree : PySem.W.findIn K (.ref c_Poly) "degree" = some (some (.ref p_Poly_degree)))
    (pg_Poly_degree : PySem.W.specialIn K (.ref p_Poly_degree) "__get__" = some (some (.builtin "property.__get__")))
    (pt_Poly_degree : PySem.W.takesIn K (.ref p_Poly_degree) = some true)
    (pr_Poly_degree : PySem.W.recIn K p_Poly_degree "property" = some (.ref f_Poly_degree :: rs_Poly_degree))
    (l_Poly_degree : K.lookup f_Poly_degree = some ⟨oc_Poly_degree, od_Poly_degree, .func (PySem.W.fnOf "degree" "Poly.degree" (defArgs s_Poly_degree) (defBody s_Poly_degree) (defScope s_Poly_degree) .none kV_Poly_degree dc_Poly_degree pm_Poly_degree an_Poly_degree cd_Poly_degree ct_Poly_degree), sl_Poly_degree⟩)
    (c_Poly_degree : PySem.W.codeIn K cd_Poly_degree "Poly.degree" = true)
    (k_Poly_degree : PySem.W.keepIn K (.ref f_Poly_degree) = true)
    (a_Poly_text : PySem.W.findIn K (.ref c_Poly) "text" = some (some (.ref f_Poly_text)))
    (i_Poly_text : PySem.W.isFn K (.ref f_Poly_text) = true)
    (l_Poly_text : K.lookup f_Poly_text = some ⟨oc_Poly_text, od_Poly_text, .func (PySem.W.fnOf "text" "Poly.text" (defArgs s_Poly_text) (defBody s_Poly_text) (defScope s_Poly_text) .none kV_Poly_text dc_Poly_text pm_Poly_text an_Poly_text cd_Poly_text ct_Poly_text), sl_Poly_text⟩)
    (c_Poly_text : PySem.W.codeIn K cd_Poly_text "Poly.text" = true)
    (k_Poly_text : PySem.W.keepIn K (.ref f_Poly_text) = true)
    (a_Poly_add : PySem.W.findIn K (.ref c_Poly) "__add__" = some (some (.ref f_Poly_add)))
    (i_Poly_add : PySem.W.isFn K (.ref f_Poly_add) = true)
    (l_Poly_add : K.lookup f_Poly_add = some ⟨oc_Poly_add, od_Poly_add, .func (PySem.W.fnOf "__add__" "Poly.__add__" (defArgs s_Poly_add) (defBody s_Poly_add) (defScope s_Poly_add) .none kV_Poly_add dc_Poly_add pm_Poly_add an_Poly_add cd_Poly_add ct_Poly_add), sl_Poly_add⟩)
    (c_Poly_add : PySem.W.codeIn K cd_Poly_add "Poly.__add__" = true)
    (k_Poly_add : PySem.W.keepIn K (.ref f_Poly_add) = true)
    (a_Poly_mul : PySem.W.findIn K (.ref c_Poly) "__mul__" = some (some (.ref f_Poly_mul)))
    (i_Poly_mul : PySem.W.isFn K (.ref f_Poly_mul) = true)
    (l_Poly_mul : K.lookup f_Poly_mul = some ⟨oc_Poly_mul, od_Poly_mul, .func (PySem.W.fnOf "__mul__" "Poly.__mul__" (defArgs s_Poly_mul) (defBody s_Poly_mul) (defScope s_Poly_mul) .none kV_Poly_mul dc_Poly_mul pm_Poly_mul an_Poly_mul cd_Poly_mul ct_Poly_mul), sl_Poly_mul⟩)
    (c_Poly_mul : PySem.W.codeIn K cd_Poly_mul "Poly.__mul__" = true)
    (k_Poly_mul : PySem.W.keepIn K (.ref f_Poly_mul) = true)
    (a_law_bag : PySem.W.nsIn K mainGlobals "_law_bag" = some (some (.ref f_law_bag)))
    (l_law_bag : K.lookup f_law_bag = some ⟨oc_law_bag, od_law_bag, .func (PySem.W.fnOf "_law_bag" "_law_bag" (defArgs s_law_bag) (defBody s_law_bag) (defScope s_law_bag) .none kV_law_bag dc_law_bag pm_law_bag an_law_bag cd_law_bag ct_law_bag), sl_law_bag⟩)
    (c_law_bag : PySem.W.codeIn K cd_law_bag "_law_bag" = true)
    (k_law_bag : PySem.W.keepIn K (.ref f_law_bag) = true)
    (a_law_draw : PySem.W.nsIn K mainGlobals "_law_draw" = some (some (.ref f_law_draw)))
    (l_law_draw : K.lookup f_law_draw = some ⟨oc_law_draw, od_law_draw, .func (PySem.W.fnOf "_law_draw" "_law_draw" (defArgs s_law_draw) (defBody s_law_draw) (defScope s_law_draw) .none kV_law_draw dc_law_draw pm_law_draw an_law_draw cd_law_draw ct_law_draw), sl_law_draw⟩)
    (c_law_draw : PySem.W.codeIn K cd_law_draw "_law_draw" = true)
    (k_law_draw : PySem.W.keepIn K (.ref f_law_draw) = true)
    (a_law_any : PySem.W.nsIn K mainGlobals "_law_any" = some (some (.ref f_law_any)))
    (l_law_any : K.lookup f_law_any = some ⟨oc_law_any, od_law_any, .func (PySem.W.fnOf "_law_any" "_law_any" (defArgs s_law_any) (defBody s_law_any) (defScope s_law_any) .none kV_law_any dc_law_any pm_law_any an_law_any cd_law_any ct_law_any), sl_law_any⟩)
    (c_law_any : PySem.W.codeIn K cd_law_any "_law_any" = true)
    (k_law_any : PySem.W.keepIn K (.ref f_law_any) = true)
    (a_law_same : PySem.W.nsIn K mainGlobals "_law_same" = some (some (.ref f_law_same)))
    (l_law_same : K.lookup f_law_same = some ⟨oc_law_same, od_law_same, .func (PySem.W.fnOf "_law_same" "_law_same" (defArgs s_law_same) (defBody s_law_same) (defScope s_law_same) .none kV_law_same dc_law_same pm_law_same an_law_same cd_law_same ct_law_same), sl_law_same⟩)
    (c_law_same : PySem.W.codeIn K cd_law_same "_law_same" = true)
    (k_law_same : PySem.W.keepIn K (.ref f_law_same) = true)
    (a_law_trim : PySem.W.nsIn K mainGlobals "_law_trim" = some (some (.ref f_law_trim)))
    (l_law_trim : K.lookup f_law_trim = some ⟨oc_law_trim, od_law_trim, .func (PySem.W.fnOf "_law_trim" "_law_trim" (defArgs s_law_trim) (defBody s_law_trim) (defScope s_law_trim) .none kV_law_trim dc_law_trim pm_law_trim an_law_trim cd_law_trim ct_law_trim), sl_law_trim⟩)
    (c_law_trim : PySem.W.codeIn K cd_law_trim "_law_trim" = true)
    (k_law_trim : PySem.W.keepIn K (.ref f_law_trim) = true)
    (a_law_power : PySem.W.nsIn K mainGlobals "_law_power" = some (some (.ref f_law_power)))
    (l_law_power : K.lookup f_law_power = some ⟨oc_law_power, od_law_power, .func (PySem.W.fnOf "_law_power" "_law_power" (defArgs s_law_power) (defBody s_law_power) (defScope s_law_power) .none kV_law_power dc_law_power pm_law_power an_law_power cd_law_power ct_law_power), sl_law_power⟩)
    (c_law_power : PySem.W.codeIn K cd_law_power "_law_power" = true)
    (k_law_power : PySem.W.keepIn K (.ref f_law_power) = true)
    (a_law_poly : PySem.W.nsIn K mainGlobals "_law_poly" = some (some (.ref f_law_poly)))
    (l_law_poly : K.lookup f_law_poly = some ⟨oc_law_poly, od_law_poly, .func (PySem.W.fnOf "_law_poly" "_law_poly" (defArgs s_law_poly) (defBody s_law_poly) (defScope s_law_poly) .none kV_law_poly dc_law_poly pm_law_poly an_law_poly cd_law_poly ct_law_poly), sl_law_poly⟩)
    (c_law_poly : PySem.W.codeIn K cd_law_poly "_law_poly" = true)
    (k_law_poly : PySem.W.keepIn K (.ref f_law_poly) = true)
    (a_law_poly_text : PySem.W.nsIn K mainGlobals "_law_poly_text" = some (some (.ref f_law_poly_text)))
    (l_law_poly_text : K.lookup f_law_poly_text = some ⟨oc_law_poly_text, od_law_poly_text, .func (PySem.W.fnOf "_law_poly_text" "_law_poly_text" (defArgs s_law_poly_text) (defBody s_law_poly_text) (defScope s_law_poly_text) .none kV_law_poly_text dc_law_poly_text pm_law_poly_text an_law_poly_text cd_law_poly_text ct_law_poly_text), sl_law_poly_text⟩)
    (c_law_poly_text : PySem.W.codeIn K cd_law_poly_text "_law_poly_text" = true)
    (k_law_poly_text : PySem.W.keepIn K (.ref f_law_poly_text) = true)
    (a_law : PySem.W.nsIn K mainGlobals "law" = some (some (.ref f_law)))
    (l_law : K.lookup f_law = some ⟨oc_law, od_law, .func (PySem.W.fnOf "law" "law" (defArgs s_law) (defBody s_law) (defScope s_law) .none kV_law dc_law pm_law an_law cd_law ct_law), sl_law⟩)
    (c_law : PySem.W.codeIn K cd_law "law" = true)
    (k_law : PySem.W.keepIn K (.ref f_law) = true)
    (z_abs : PySem.W.nsIn K mainGlobals "abs" = some none)
    (z_bool : PySem.W.nsIn K mainGlobals "bool" = some none)
    (z_enumerate : PySem.W.nsIn K mainGlobals "enumerate" = some none)
    (z_int : PySem.W.nsIn K mainGlobals "int" = some none)
    (z_isinstance : PySem.W.nsIn K mainGlobals "isinstance" = some none)
    (z_len : PySem.W.nsIn K mainGlobals "len" = some none)
    (z_list : PySem.W.nsIn K mainGlobals "list" = some none)
    (z_max : PySem.W.nsIn K mainGlobals "max" = some none)
    (z_range : PySem.W.nsIn K mainGlobals "range" = some none)
    (z_repr : PySem.W.nsIn K mainGlobals "repr" = some none)
    (z_str : PySem.W.nsIn K mainGlobals "str" = some none)
    (z_zip : PySem.W.nsIn K mainGlobals "zip" = some none)
    (g1_Poly : PySem.W.plainGet K c_Poly Str.empty = true)
    (g2_Poly : PySem.W.hasDictIn K c_Poly = true)
    (g3_Poly : PySem.W.plainOver K c_Poly = true)
    (g4_Poly : PySem.W.findIn K (.ref c_Poly) "__setattr__" = some (some (.builtin "object.__setattr__")))
    (g5_Poly : PySem.W.makesIn K c_Poly = true)
    (g6_Poly : PySem.W.keepIn K (.ref c_Poly) = true)
    (na_Poly_own_coefs : PySem.W.findIn K (.ref c_Poly) "own_coefs" = some none)
    (sf_Poly : PySem.W.selfFirst K c_Poly = true)
    (r1_Poly_mul : ∃ rc, PySem.W.findIn K (.ref c_Poly) (dunderR "mul") = some rc ∧ (rc = none ∨ ∃ g : Addr, rc = some (.ref g)))
    (r2_Poly_mul : ∃ fo, PySem.W.findIn K (.type "int") (PySem.dunder "mul") = some fo)
    (r3_Poly_mul : ∃ ro, PySem.W.findIn K (.type "int") (dunderR "mul") = some ro)
    (r4_Poly_mul : PySem.W.subIn K (.type "int") (.ref c_Poly) = some false)
    (j1_Poly : PySem.W.findIn K (.ref c_Poly) "__class__" = some (some (.builtin "object.__class__")))
    (j2 : PySem.W.specialIn K (.builtin "object.__class__") "__get__" = some (some (.builtin "getset_descriptor.__get__")))
    (j3 : PySem.W.takesIn K (.builtin "object.__class__") = some true)
    (j4_Poly : PySem.W.mroIn K c_Poly (.type "object") = some true)
    (ks_Poly_bool : PySem.W.subIn K (.ref c_Poly) (.type "bool") = some false)
    (ks_Poly_int : PySem.W.subIn K (.ref c_Poly) (.type "int") = some false)
    : ∃ fd : FuncData, (∀ (s : Shared) (u : Value), BindsTo s fd ⟨[u], []⟩ [("_law_script", u)]) ∧ ∀ base : Heap, K.In base → base.Ns mainGlobals mg → FnG P w K mg base CX0 8 fa fd ["_law_script"] (spL K) := by
  have e := hfa.symm.trans (PySem.W.mg_of X G a_law)
  cases e
  have F_is_whole := fun_mk (st := s_is_whole) l_is_whole c_is_whole k_is_whole
  have F_term_word := fun_mk (st := s_term_word) l_term_word c_term_word k_term_word
  have F_padded := fun_mk (st := s_padded) l_padded c_padded k_padded
  have F_multiplied := fun_mk (st := s_multiplied) l_multiplied c_multiplied k_multiplied
  have F_Poly_init := fun_mk (st := s_Poly_init) l_Poly_init c_Poly_init k_Poly_init
  have F_poly_of := fun_mk (st := s_poly_of) l_poly_of c_poly_of k_poly_of
  have F_Poly_degree := fun_mk (st := s_Poly_degree) l_Poly_degree c_Poly_degree k_Poly_degree
  have F_Poly_text := fun_mk (st := s_Poly_text) l_Poly_text c_Poly_text k_Poly_text
  have F_Poly_add := fun_mk (st := s_Poly_add) l_Poly_add c_Poly_add k_Poly_add
  have F_Poly_mul := fun_mk (st := s_Poly_mul) l_Poly_mul c_Poly_mul k_Poly_mul
  have F_law_bag := fun_mk (st := s_law_bag) l_law_bag c_law_bag k_law_bag
  have F_law_draw := fun_mk (st := s_law_draw) l_law_draw c_law_draw k_law_draw
  have F_law_any := fun_mk (st := s_law_any) l_law_any c_law_any k_law_any
  have F_law_same := fun_mk (st := s_law_same) l_law_same c_law_same k_law_same
  have F_law_trim := fun_mk (st := s_law_trim) l_law_trim c_law_trim k_law_trim
  have F_law_power := fun_mk (st := s_law_power) l_law_power c_law_power k_law_power
  have F_law_poly := fun_mk (st := s_law_poly) l_law_poly c_law_poly k_law_poly
  have F_law_poly_text := fun_mk (st := s_law_poly_text) l_law_poly_text c_law_poly_text k_law_poly_text
  have F_law := fun_mk (st := s_law) l_law c_law k_law
  have cl_Poly : Cls K c_Poly := ⟨g1_Poly, g2_Poly, g3_Poly, g4_Poly⟩
  have T : Txt K mg ⟨f_is_whole, PySem.W.fnOf "is_whole" "is_whole" (defArgs s_is_whole) (defBody s_is_whole) (defScope s_is_whole) .none kV_is_whole dc_is_whole pm_is_whole an_is_whole cd_is_whole ct_is_whole, f_term_word, PySem.W.fnOf "term_word" "term_word" (defArgs s_term_word) (defBody s_term_word) (defScope s_term_word) .none kV_term_word dc_term_word pm_term_word an_term_word cd_term_word ct_term_word, f_padded, PySem.W.fnOf "padded" "padded" (defArgs s_padded) (defBody s_padded) (defScope s_padded) .none kV_padded dc_padded pm_padded an_padded cd_padded ct_padded, f_multiplied, PySem.W.fnOf "multiplied" "multiplied" (defArgs s_multiplied) (defBody s_multiplied) (defScope s_multiplied) .none kV_multiplied dc_multiplied pm_multiplied an_multiplied cd_multiplied ct_multiplied, f_Poly_init, PySem.W.fnOf "__init__" "Poly.__init__" (defArgs s_Poly_init) (defBody s_Poly_init) (defScope s_Poly_init) .none kV_Poly_init dc_Poly_init pm_Poly_init an_Poly_init cd_Poly_init ct_Poly_init, f_poly_of, PySem.W.fnOf "poly_of" "poly_of" (defArgs s_poly_of) (defBody s_poly_of) (defScope s_poly_of) .none kV_poly_of dc_poly_of pm_poly_of an_poly_of cd_poly_of ct_poly_of, f_Poly_degree, PySem.W.fnOf "degree" "Poly.degree" (defArgs s_Poly_degree) (defBody s_Poly_degree) (defScope s_Poly_degree) .none kV_Poly_degree dc_Poly_degree pm_Poly_degree an_Poly_degree cd_Poly_degree ct_Poly_degree, f_Poly_text, PySem.W.fnOf "text" "Poly.text" (defArgs s_Poly_text) (defBody s_Poly_text) (defScope s_Poly_text) .none kV_Poly_text dc_Poly_text pm_Poly_text an_Poly_text cd_Poly_text ct_Poly_text, f_Poly_add, PySem.W.fnOf "__add__" "Poly.__add__" (defArgs s_Poly_add) (defBody s_Poly_add) (defScope s_Poly_add) .none kV_Poly_add dc_Poly_add pm_Poly_add an_Poly_add cd_Poly_add ct_Poly_add, f_Poly_mul, PySem.W.fnOf "__mul__" "Poly.__mul__" (defArgs s_Poly_mul) (defBody s_Poly_mul) (defScope s_Poly_mul) .none kV_Poly_mul dc_Poly_mul pm_Poly_mul an_Poly_mul cd_Poly_mul ct_Poly_mul, f_law_bag, PySem.W.fnOf "_law_bag" "_law_bag" (defArgs s_law_bag) (defBody s_law_bag) (defScope s_law_bag) .none kV_law_bag dc_law_bag pm_law_bag an_law_bag cd_law_bag ct_law_bag, f_law_draw, PySem.W.fnOf "_law_draw" "_law_draw" (defArgs s_law_draw) (defBody s_law_draw) (defScope s_law_draw) .none kV_law_draw dc_law_draw pm_law_draw an_law_draw cd_law_draw ct_law_draw, f_law_any, PySem.W.fnOf "_law_any" "_law_any" (defArgs s_law_any) (defBody s_law_any) (defScope s_law_any) .none kV_law_any dc_law_any pm_law_any an_law_any cd_law_any ct_law_any, f_law_same, PySem.W.fnOf "_law_same" "_law_same" (defArgs s_law_same) (defBody s_law_same) (defScope s_law_same) .none kV_law_same dc_law_same pm_law_same an_law_same cd_law_same ct_law_same, f_law_trim, PySem.W.fnOf "_law_trim" "_law_trim" (defArgs s_law_trim) (defBody s_law_trim) (defScope s_law_trim) .none kV_law_trim dc_law_trim pm_law_trim an_law_trim cd_law_trim ct_law_trim, f_law_power, PySem.W.fnOf "_law_power" "_law_power" (defArgs s_law_power) (defBody s_law_power) (defScope s_law_power) .none kV_law_power dc_law_power pm_law_power an_law_power cd_law_power ct_law_power, f_law_poly, PySem.W.fnOf "_law_poly" "_law_poly" (defArgs s_law_poly) (defBody s_law_poly) (defScope s_law_poly) .none kV_law_poly dc_law_poly pm_law_poly an_law_poly cd_law_poly ct_law_poly, f_law_poly_text, PySem.W.fnOf "_law_poly_text" "_law_poly_text" (defArgs s_law_poly_text) (defBody s_law_poly_text) (defScope s_law_poly_text) .none kV_law_poly_text dc_law_poly_text pm_law_poly_text an_law_poly_text cd_law_poly_text ct_law_poly_text, fa, PySem.W.fnOf "law" "law" (defArgs s_law) (defBody s_law) (defScope s_law) .none kV_law dc_law pm_law an_law cd_law ct_law, c_Poly, p_Poly_degree⟩ := ⟨PySem.W.mg_none_of X G z_abs, PySem.W.mg_none_of X G z_bool, PySem.W.mg_none_of X G z_enumerate, PySem.W.mg_none_of X G z_int, PySem.W.mg_none_of X G z_isinstance, PySem.W.mg_none_of X G z_len, PySem.W.mg_none_of X G z_list, PySem.W.mg_none_of X G z_max, PySem.W.mg_none_of X G z_range, PySem.W.mg_none_of X G z_repr, PySem.W.mg_none_of X G z_str, PySem.W.mg_none_of X G z_zip, PySem.W.mg_of X G a_is_whole, F_is_whole, F_is_whole.binds fun _ _ _ _ _ _ us hl => match us, hl with | [_], _ => rfl, PySem.W.mg_of X G a_term_word, F_term_word, F_term_word.binds fun _ _ _ _ _ _ us hl => match us, hl with | [_, _], _ => rfl, PySem.W.mg_of X G a_padded, F_padded, F_padded.binds fun _ _ _ _ _ _ us hl => match us, hl with | [_, _], _ => rfl, PySem.W.mg_of X G a_multiplied, F_multiplied, F_multiplied.binds fun _ _ _ _ _ _ us hl => match us, hl with | [_, _], _ => rfl, F_Poly_init, bindStar_of (fun _ => rfl) (fun _ _ _ => rfl), PySem.W.mg_of X G a_poly_of, F_poly_of, F_poly_of.binds fun _ _ _ _ _ _ us hl => match us, hl with | [_], _ => rfl, F_Poly_degree, F_Poly_degree.binds fun _ _ _ _ _ _ us hl => match us, hl with | [_], _ => rfl, F_Poly_text, F_Poly_text.binds fun _ _ _ _ _ _ us hl => match us, hl with | [_], _ => rfl, F_Poly_add, F_Poly_add.binds fun _ _ _ _ _ _ us hl => match us, hl with | [_, _], _ => rfl, F_Poly_mul, F_Poly_mul.binds fun _ _ _ _ _ _ us hl => match us, hl with | [_, _], _ => rfl, PySem.W.mg_of X G a_law_bag, F_law_bag, F_law_bag.binds fun _ _ _ _ _ _ us hl => match us, hl with | [_], _ => rfl, PySem.W.mg_of X G a_law_draw, F_law_draw, F_law_draw.binds fun _ _ _ _ _ _ us hl => match us, hl with | [_, _], _ => rfl, PySem.W.mg_of X G a_law_any, F_law_any, F_law_any.binds fun _ _ _ _ _ _ us hl => match us, hl with | [_, _], _ => rfl, PySem.W.mg_of X G a_law_same, F_law_same, F_law_same.binds fun _ _ _ _ _ _ us hl => match us, hl with | [_, _], _ => rfl, PySem.W.mg_of X G a_law_trim, F_law_trim, F_law_trim.binds fun _ _ _ _ _ _ us hl => match us, hl with | [_], _ => rfl, PySem.W.mg_of X G a_law_power, F_law_power, F_law_power.binds fun _ _ _ _ _ _ us hl => match us, hl with | [_], _ => rfl, PySem.W.mg_of X G a_law_poly, F_law_poly, F_law_poly.binds fun _ _ _ _ _ _ us hl => match us, hl with | [_], _ => rfl, PySem.W.mg_of X G a_law_poly_text, F_law_poly_text, F_law_poly_text.binds fun _ _ _ _ _ _ us hl => match us, hl with | [_], _ => rfl, PySem.W.mg_of X G a_law, F_law, F_law.binds fun _ _ _ _ _ _ us hl => match us, hl with | [_], _ => rfl, PySem.W.mg_of X G a_Poly, cl_Poly, ⟨g5_Poly, a_Poly_init, i_Poly_init, g6_Poly⟩, na_Poly_own_coefs, ⟨a_Poly_text, i_Poly_text, k_Poly_text⟩, ⟨pa_Poly_degree, pg_Poly_degree, pt_Poly_degree, _, pr_Poly_degree⟩, ⟨sf_Poly, a_Poly_add, i_Poly_add⟩, ⟨⟨sf_Poly, a_Poly_mul, i_Poly_mul⟩, r1_Poly_mul, r2_Poly_mul, r3_Poly_mul, r4_Poly_mul⟩, ⟨sf_Poly, a_Poly_mul, i_Poly_mul⟩, ⟨cl_Poly, j1_Poly, j2, j3, j4_Poly, kit_refl⟩, kit_refl, kit_up ks_Poly_bool, kit_up ks_Poly_int⟩
  exact ⟨_, fun s u => .of_eq rfl, fun base _ _ => ok_law T⟩
theorem sp_law {K : PySem.W.Frag} {H : Hp} {a : Addr} {ns : List Int} (hl : ns.length ≤ 63) (hS : SqL K H a (ns.map V.int)) : spL K [.ref a] H (fun v _ => v = .bl true) fun _ _ _ => False :=
  ⟨(ns, ()), H, fun x => x = true, Ex.refl H, .cons ⟨_, rfl, a, rfl, hS, Nat.le_trans hl (by decide)⟩ .nil, (fun p hp => nomatch hp), List.nodup_nil, law_true ns, fun x hx v F' H' _ _ ok => by subst hx; exact ok⟩
end K16
open PySem PySem.W PyProof.Rows
set_option maxHeartbeats 0 in
theorem PySem.Challenge.cw_anydial_k16_texts_of_polynomials_holds : PySem.Challenge.rw_anydial_k16_texts_of_polynomials.Holds := by
  w_on; o_law; k_head; (case hw => w_witness2)
  k_fill
  refine Mi.walk_G (l := PySem.Challenge.rw_anydial_k16_texts_of_polynomials) (n := 63) (k := 8) (x := "_law_script") (sp := K16.spL) rfl (by decide) rfl ⟨rfl, by decide, by decide⟩ (fun w h Y => PySem.W.kIn_of Y) ?F (fun K H a ns hl _ hS => K16.sp_law hl hS)
  case F =>
    intro w mg fa h KX G hmg
    refine' K16.all_mk KX G hmg ?a_Poly ?a_is_whole ?l_is_whole ?c_is_whole ?k_is_whole ?a_term_word ?l_term_word ?c_term_word ?k_term_word ?a_padded ?l_padded ?c_padded ?k_padded ?a_multiplied ?l_multiplied ?c_multiplied ?k_multiplied ?a_Poly_init ?i_Poly_init ?l_Poly_init ?c_Poly_init ?k_Poly_init ?a_poly_of ?l_poly_of ?c_poly_of ?k_poly_of ?pa_Poly_degree ?pg_Poly_degree ?pt_Poly_degree ?pr_Poly_degree ?l_Poly_degree ?c_Poly_degree ?k_Poly_degree ?a_Poly_text ?i_Poly_text ?l_Poly_text ?c_Poly_text ?k_Poly_text ?a_Poly_add ?i_Poly_add ?l_Poly_add ?c_Poly_add ?k_Poly_add ?a_Poly_mul ?i_Poly_mul ?l_Poly_mul ?c_Poly_mul ?k_Poly_mul ?a_law_bag ?l_law_bag ?c_law_bag ?k_law_bag ?a_law_draw ?l_law_draw ?c_law_draw ?k_law_draw ?a_law_any ?l_law_any ?c_law_any ?k_law_any ?a_law_same ?l_law_same ?c_law_same ?k_law_same ?a_law_trim ?l_law_trim ?c_law_trim ?k_law_trim ?a_law_power ?l_law_power ?c_law_power ?k_law_power ?a_law_poly ?l_law_poly ?c_law_poly ?k_law_poly ?a_law_poly_text ?l_law_poly_text ?c_law_poly_text ?k_law_poly_text ?a_law ?l_law ?c_law ?k_law ?z_abs ?z_bool ?z_enumerate ?z_int ?z_isinstance ?z_len ?z_list ?z_max ?z_range ?z_repr ?z_str ?z_zip ?g1_Poly ?g2_Poly ?g3_Poly ?g4_Poly ?g5_Poly ?g6_Poly ?na_Poly_own_coefs ?sf_Poly ?r1_Poly_mul ?r2_Poly_mul ?r3_Poly_mul ?r4_Poly_mul ?j1_Poly ?j2 ?j3 ?j4_Poly ?ks_Poly_bool ?ks_Poly_int
    (case a_Poly => k_is)
    (case a_is_whole => k_is)
    (case l_is_whole => k_is)
    (case c_is_whole => k_is)
    (case k_is_whole => k_is)
    (case a_term_word => k_is)
    (case l_term_word => k_is)
    (case c_term_word => k_is)
    (case k_term_word => k_is)
    (case a_padded => k_is)
    (case l_padded => k_is)
    (case c_padded => k_is)
    (case k_padded => k_is)
    (case a_multiplied => k_is)
    (case l_multiplied => k_is)
    (case c_multiplied => k_is)
    (case k_multiplied => k_is)
    (case a_Poly_init => k_is)
    (case i_Poly_init => k_is)
    (case l_Poly_init => k_is)
    (case c_Poly_init => k_is)
    (case k_Poly_init => k_is)
    (case a_poly_of => k_is)
    (case l_poly_of => k_is)
    (case c_poly_of => k_is)
    (case k_poly_of => k_is)
    (case pa_Poly_degree => k_is)
    (case pg_Poly_degree => k_is)
    (case pt_Poly_degree => k_is)
    (case pr_Poly_degree => k_is)
    (case l_Poly_degree => k_is)
    (case c_Poly_degree => k_is)
    (case k_Poly_degree => k_is)
    (case a_Poly_text => k_is)
    (case i_Poly_text => k_is)
    (case l_Poly_text => k_is)
    (case c_Poly_text => k_is)
    (case k_Poly_text => k_is)
    (case a_Poly_add => k_is)
    (case i_Poly_add => k_is)
    (case l_Poly_add => k_is)
    (case c_Poly_add => k_is)
    (case k_Poly_add => k_is)
    (case a_Poly_mul => k_is)
    (case i_Poly_mul => k_is)
    (case l_Poly_mul => k_is)
    (case c_Poly_mul => k_is)
    (case k_Poly_mul => k_is)
    (case a_law_bag => k_is)
    (case l_law_bag => k_is)
    (case c_law_bag => k_is)
    (case k_law_bag => k_is)
    (case a_law_draw => k_is)
    (case l_law_draw => k_is)
    (case c_law_draw => k_is)
    (case k_law_draw => k_is)
    (case a_law_any => k_is)
    (case l_law_any => k_is)
    (case c_law_any => k_is)
    (case k_law_any => k_is)
    (case a_law_same => k_is)
    (case l_law_same => k_is)
    (case c_law_same => k_is)
    (case k_law_same => k_is)
    (case a_law_trim => k_is)
    (case l_law_trim => k_is)
    (case c_law_trim => k_is)
    (case k_law_trim => k_is)
    (case a_law_power => k_is)
    (case l_law_power => k_is)
    (case c_law_power => k_is)
    (case k_law_power => k_is)
    (case a_law_poly => k_is)
    (case l_law_poly => k_is)
    (case c_law_poly => k_is)
    (case k_law_poly => k_is)
    (case a_law_poly_text => k_is)
    (case l_law_poly_text => k_is)
    (case c_law_poly_text => k_is)
    (case k_law_poly_text => k_is)
    (case a_law => k_is)
    (case l_law => k_is)
    (case c_law => k_is)
    (case k_law => k_is)
    (case z_abs => k_is)
    (case z_bool => k_is)
    (case z_enumerate => k_is)
    (case z_int => k_is)
    (case z_isinstance => k_is)
    (case z_len => k_is)
    (case z_list => k_is)
    (case z_max => k_is)
    (case z_range => k_is)
    (case z_repr => k_is)
    (case z_str => k_is)
    (case z_zip => k_is)
    (case g1_Poly => k_is)
    (case g2_Poly => k_is)
    (case g3_Poly => k_is)
    (case g4_Poly => k_is)
    (case g5_Poly => k_is)
    (case g6_Poly => k_is)
    (case na_Poly_own_coefs => k_is)
    (case sf_Poly => k_is)
    (case r1_Poly_mul => first | exact ⟨none, by k_is, .inl rfl⟩ | exact ⟨some (.ref _), by k_is, .inr ⟨_, rfl⟩⟩)
    (case r2_Poly_mul => exact ⟨_, by k_is⟩)
    (case r3_Poly_mul => exact ⟨_, by k_is⟩)
    (case r4_Poly_mul => k_is)
    (case j1_Poly => k_is)
    (case j2 => k_is)
    (case j3 => k_is)
    (case j4_Poly => k_is)
    (case ks_Poly_bool => k_is)
    (case ks_Poly_int => k_is)

