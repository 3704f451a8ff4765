import PyProof.Rows.All
import Wide.All
import OpenK.AllK
import Wide.FinOn
import HandS.ForMost
import HandS.Evl
import HandS.Wide
import HandS.Style
import PySem.Challenge.RW_anydial_k07_products_and_determinants
set_option Elab.async false
set_option linter.all false
set_option maxRecDepth 100000
set_option maxHeartbeats 4000000
set_option exponentiation.threshold 2000
/-! Mi: a program's mirror as a predicate transformer (W), and the rules that tie it to the text -/
namespace Mi
open PySem L2 Evl

/-! ### the mirror's monad -/
structure Er where
  cls : String
  vals : List PyData
def W (α : Type) : Type := (α → Prop) → (Er → Prop) → Prop
def ret {α : Type} (x : α) : W α := fun P _ => P x
def bnd {α β : Type} (m : W α) (f : α → W β) : W β := fun P E => m (fun x => f x P E) E
def fail {α : Type} : W α := fun _ _ => False
def thr {α : Type} (e : Er) : W α := fun _ E => E e
/-- go on only if c holds -/
def chk (c : Prop) {α : Type} (w : W α) : W α := fun P E => c ∧ w P E
/-- what is raised is not wanted -/
def noX {α : Type} (m : W α) : W α := fun P _ => m P fun _ => False
@[simp] theorem noX_ret {α : Type} (x : α) : noX (ret x) = ret x := rfl
@[simp] theorem noX_chk {α : Type} (c : Prop) (m : W α) : noX (chk c m) = chk c (noX m) := rfl
@[simp] theorem noX_noX {α : Type} (m : W α) : noX (noX m) = noX m := rfl
@[simp] theorem noX_bnd {α β : Type} (m : W α) (f : α → W β) : noX (bnd m f) = bnd (noX m) fun x => noX (f x) := rfl
@[simp] theorem noX_fail {α : Type} : noX (fail : W α) = fail := rfl
@[simp] theorem bnd_ret {α β : Type} (x : α) (f : α → W β) : bnd (ret x) f = f x := rfl
@[simp] theorem ret_bnd {α : Type} (m : W α) : bnd m ret = m := rfl
@[simp] theorem bnd_bnd {α β γ : Type} (m : W α) (f : α → W β) (g : β → W γ) : bnd (bnd m f) g = bnd m fun x => bnd (f x) g := rfl
@[simp] theorem bnd_fail {α β : Type} (f : α → W β) : bnd (fail : W α) f = fail := rfl
@[simp] theorem bnd_thr {α β : Type} (e : Er) (f : α → W β) : bnd (thr e : W α) f = thr e := rfl
theorem chk_true {c : Prop} {α : Type} {w : W α} (h : c) : chk c w = w := by
  funext P E
  exact propext ⟨fun q => q.2, fun q => ⟨h, q⟩⟩
@[simp] theorem chk_bnd {c : Prop} {α β : Type} (w : W α) (f : α → W β) : bnd (chk c w) f = chk c (bnd w f) := rfl
@[simp] theorem ite_bnd {c : Prop} [Decidable c] {α β : Type} (w1 w2 : W α) (f : α → W β) : bnd (if c then w1 else w2) f = if c then bnd w1 f else bnd w2 f := by
  by_cases h : c
  · rw [if_pos h, if_pos h]
  · rw [if_neg h, if_neg h]
def mapW {α β : Type} (f : α → W β) : List α → W (List β)
  | [] => ret []
  | x :: xs => bnd (f x) fun y => bnd (mapW f xs) fun ys => ret (y :: ys)
def filtW {α β : Type} (c : α → W Bool) (f : α → W β) : List α → W (List β)
  | [] => ret []
  | x :: xs => bnd (c x) fun b => if b = true then bnd (f x) fun y => bnd (filtW c f xs) fun ys => ret (y :: ys) else filtW c f xs
/-- a loop that is never left early -/
def forW {α S : Type} (f : S → α → W S) : S → List α → W S
  | s, [] => ret s
  | s, x :: xs => bnd (f s x) fun s' => forW f s' xs
/-- how a block ends -/
inductive Fl (S ρ : Type) where
  | nx (s : S) | rt (x : ρ) | bk (s : S) | ct (s : S)
/-- behind a turn -/
def flGo {S ρ : Type} (k : S → W (Fl S ρ)) : Fl S ρ → W (Fl S ρ)
  | .nx s => k s
  | .ct s => k s
  | .bk s => ret (.nx s)
  | .rt z => ret (.rt z)
/-- a loop that may be left: by return (.rt), by break or at its end (.nx) -/
def forF {α S ρ : Type} (f : S → α → W (Fl S ρ)) : S → List α → W (Fl S ρ)
  | s, [] => ret (.nx s)
  | s, x :: xs => bnd (f s x) (flGo fun s' => forF f s' xs)
theorem mapW_ret {α β : Type} {f : α → W β} {g : α → β} : ∀ {xs : List α}, (∀ x, x ∈ xs → f x = ret (g x)) → mapW f xs = ret (xs.map g)
  | [], _ => rfl
  | x :: xs, h => by
    show bnd (f x) _ = _
    rw [h x (List.mem_cons_self ..), bnd_ret, mapW_ret (xs := xs) fun y hy => h y (List.mem_cons_of_mem _ hy)]
    rfl

/-! ### what stands for what -/
structure Rp (α : Type) where
  ok : Hp → V → α → Prop
  mono : ∀ {F F' : Hp} {v : V} {x : α}, Ex F F' → ok F v x → ok F' v x
def rInt : Rp Int := ⟨fun _ v x => v = .int x, fun _ h => h⟩
def rBool : Rp Bool := ⟨fun _ v x => v = .bl x, fun _ h => h⟩
def rStr : Rp Str := ⟨fun _ v x => v = .str x ∧ x.length ≤ sizeLine ∧ PyData.strOk x = true, fun _ h => h⟩
def rNon : Rp Unit := ⟨fun _ v _ => v = .non, fun _ h => h⟩
def rAdr (a : Addr) : Rp Unit := ⟨fun _ v _ => v = .ref a, fun _ h => h⟩
theorem Paired.imp {α β : Type} {R S : α → β → Prop} : ∀ {l : List α} {m : List β}, (∀ a b, R a b → S a b) → Paired R l m → Paired S l m
  | _, _, _, .nil => .nil
  | _, _, f, .cons r t => .cons (f _ _ r) (Paired.imp f t)
def rLst {α : Type} (r : Rp α) : Rp (List α) :=
  ⟨fun F v xs => ∃ a vs, v = .ref a ∧ F a = some (.lst vs) ∧ vs.length ≤ sizeLine ∧ Paired (r.ok F) vs xs, fun e ⟨a, vs, h1, h2, h3, h4⟩ => ⟨a, vs, h1, e _ _ h2, h3, Paired.imp (fun _ _ => r.mono e) h4⟩⟩
/-- a tuple of things of one kind -/
def rTup (K : PySem.W.Frag) {α : Type} (r : Rp α) : Rp (List α) :=
  ⟨fun F v xs => ∃ a vs, v = .ref a ∧ SqT K F a vs ∧ vs.length ≤ sizeLine ∧ Paired (r.ok F) vs xs, fun e ⟨a, vs, h1, h2, h3, h4⟩ => ⟨a, vs, h1, ex_t e h2, h3, Paired.imp (fun _ _ => r.mono e) h4⟩⟩
/-- a pair, a triple as a tuple -/
def rT2 (K : PySem.W.Frag) {α β : Type} (r : Rp α) (s : Rp β) : Rp (α × β) :=
  ⟨fun F v x => ∃ a v1 v2, v = .ref a ∧ SqT K F a [v1, v2] ∧ r.ok F v1 x.1 ∧ s.ok F v2 x.2, fun e ⟨a, v1, v2, h1, h2, h3, h4⟩ => ⟨a, v1, v2, h1, ex_t e h2, r.mono e h3, s.mono e h4⟩⟩
def rT3 (K : PySem.W.Frag) {α β γ : Type} (r : Rp α) (s : Rp β) (t : Rp γ) : Rp (α × β × γ) :=
  ⟨fun F v x => ∃ a v1 v2 v3, v = .ref a ∧ SqT K F a [v1, v2, v3] ∧ r.ok F v1 x.1 ∧ s.ok F v2 x.2.1 ∧ t.ok F v3 x.2.2, fun e ⟨a, v1, v2, v3, h1, h2, h3, h4, h5⟩ => ⟨a, v1, v2, v3, h1, ex_t e h2, r.mono e h3, s.mono e h4, t.mono e h5⟩⟩
def rOpt {α : Type} (r : Rp α) : Rp (Option α) :=
  ⟨fun F v x => match x with | none => v = .non | some y => v ≠ .non ∧ r.ok F v y, fun {F F' v x} e h => by
    cases x with
    | none => exact h
    | some y => exact ⟨h.1, r.mono e h.2⟩⟩
/-- data of any kind -/
def rD (K : PySem.W.Frag) : Rp PyData := ⟨fun F v d => Dp K F v d ∧ d.canLay0 = true ∧ d.depth ≤ 30, fun e ⟨h, hc⟩ => ⟨by
  refine (show ∀ {v d}, Dp K _ v d → Dp K _ v d from ?_) h
  intro v d h
  refine Dp.rec (K := K) (H := _) (motive_1 := fun v d _ => Dp K _ v d) (motive_2 := fun vs ds _ => DpAll K _ vs ds) .non .bl .int .str (fun h1 _ ih => .lst (ex_l e h1) ih) (fun h1 _ ih => .tup (ex_t e h1) ih) .nil (fun _ _ i1 i2 => .cons i1 i2) h, hc⟩⟩
end Mi

namespace Mi
open PySem L2 Evl

/-! ### the state: slots, owned objects -/
structure Slot where
  ok : Hp → Option V → Prop
  mono : ∀ {F F' : Hp} {v : Option V}, Ex F F' → ok F v → ok F' v
def sv {α : Type} (r : Rp α) (x : α) : Slot := ⟨fun F ov => ∃ v, ov = some v ∧ r.ok F v x, fun e ⟨v, h1, h2⟩ => ⟨v, h1, r.mono e h2⟩⟩
/-- anything, or nothing -/
def sa : Slot := ⟨fun _ _ => True, fun _ _ => trivial⟩
structure Own where
  ok : Hp → HO → Prop
  mono : ∀ {F F' : Hp} {o : HO}, Ex F F' → ok F o → ok F' o
def oLst {α : Type} (r : Rp α) (xs : List α) : Own := ⟨fun F o => ∃ vs, o = .lst vs ∧ vs.length ≤ sizeLine ∧ Paired (r.ok F) vs xs, fun e ⟨vs, h1, h2, h3⟩ => ⟨vs, h1, h2, Paired.imp (fun _ _ => r.mono e) h3⟩⟩
/-- the base: the heap at the def's entry (F: what never changes of it), the objects handed in to be changed, what is allowed of errors -/
structure Bs where
  F : Hp
  H : Hp
  M : Hp
  io : List Addr
  E0 : Er → Prop
/-- a mark within a body: what a loop's source leans on -/
abbrev Bs.at (B : Bs) (M : Hp) : Bs := { B with M := M }
structure Fn (B : Bs) (F H : Hp) : Prop where
  fh : Ex F H
  bf : Ex B.F F
  mrk : Ex B.M F
  bb : Ex B.F B.H
  ios : ∀ a ∈ B.io, ∃ o, H a = some o
  keep : ∀ a o, B.F a = none → B.H a = some o → a ∉ B.io → H a = some o ∧ F a = none
abbrev Env := List Slot
abbrev Os := List (Addr × Own)
def EnvOk (F : Hp) (env : Env) (σ : L2.St) : Prop := Paired (fun (s : Slot) (ov : Option V) => s.ok F ov) env σ
structure Sit (B : Bs) (F H : Hp) (σ : L2.St) (env : Env) (os : Os) : Prop where
  fin : Fn B F H
  env : EnvOk F env σ
  ow : ∀ p ∈ os, F p.1 = none ∧ (∃ o, H p.1 = some o ∧ p.2.ok F o) ∧ (B.H p.1 = none ∨ p.1 ∈ B.io)
  nd : (os.map (·.1)).Nodup
theorem EnvOk.mono {F F' : Hp} {env : Env} {σ : L2.St} (e : Ex F F') (h : EnvOk F env σ) : EnvOk F' env σ := Paired.imp (fun s _ => s.mono e) h
theorem EnvOk.get {F : Hp} : ∀ {env : Env} {σ : L2.St} {i : Nat} {s : Slot}, EnvOk F env σ → env[i]? = some s → ∃ ov, σ[i]? = some ov ∧ s.ok F ov
  | _, _, i, s, .nil, h => by simp at h
  | _, _, 0, s, .cons r t, h => by
    simp at h
    subst h
    exact ⟨_, rfl, r⟩
  | _, _, i + 1, s, .cons r t, h => by
    obtain ⟨ov, h1, h2⟩ := EnvOk.get (i := i) t (by simpa using h)
    exact ⟨ov, by simpa using h1, h2⟩
theorem EnvOk.set {F : Hp} {s : Slot} {ov : Option V} (r : s.ok F ov) : ∀ {env : Env} {σ : L2.St} {i : Nat}, EnvOk F env σ → EnvOk F (env.set i s) (σ.set i ov)
  | _, _, _, .nil => .nil
  | _, _, 0, .cons _ t => .cons r t
  | _, _, i + 1, .cons q t => .cons q (EnvOk.set r (i := i) t)
theorem EnvOk.len {F : Hp} {env : Env} {σ : L2.St} (h : EnvOk F env σ) : env.length = σ.length := Paired.length h

/-! ### new objects that will never change -/
structure Grow (F H F' H' : Hp) : Prop where
  f : Ex F F'
  h : Ex H H'
  new : ∀ a, H a = none → F' a = H' a
  old : ∀ a o, H a = some o → F' a = F a
theorem Grow.refl {F H : Hp} (fh : Ex F H) : Grow F H F H := by
  refine ⟨Ex.refl F, Ex.refl H, fun a h => ?_, fun _ _ _ => rfl⟩
  rw [h]
  exact fresh_back fh h
theorem Grow.trans {F H F1 H1 F2 H2 : Hp} (a : Grow F H F1 H1) (b : Grow F1 H1 F2 H2) : Grow F H F2 H2 := by
  refine ⟨a.f.trans b.f, a.h.trans b.h, fun p hp => ?_, fun p o hp => ?_⟩
  · cases e : H1 p with
    | none => exact b.new p e
    | some o =>
      have e2 : F1 p = some o := (a.new p hp).trans e
      rw [b.f p o e2, b.h p o e]
  · rw [b.old p o (a.h p o hp), a.old p o hp]
theorem Grow.fh {F H F' H' : Hp} (g : Grow F H F' H') (fh : Ex F H) : Ex F' H' := fun a o h => by
  cases e : H a with
  | none => exact (g.new a e).symm.trans h
  | some u =>
    have z := (g.old a u e).symm.trans h
    exact g.h a o (fh a o z)
theorem upd_apply {H : Hp} {a b : Addr} {o : HO} : upd H a o b = if b = a then some o else H b := rfl
theorem Grow.alloc {F H : Hp} {p : Addr} {o : HO} (fh : Ex F H) (hp : H p = none) : Grow F H (upd F p o) (upd H p o) := by
  have fp : F p = none := fresh_back fh hp
  refine ⟨Ex.new fp, Ex.new hp, fun a ha => ?_, fun a u ha => ?_⟩
  · by_cases e : a = p
    · rw [e, upd_same, upd_same]
    · rw [upd_ne e, upd_ne e, ha]
      exact fresh_back fh ha
  · have e : a ≠ p := ne_of_none ha hp
    rw [upd_ne e]
section
variable {B : Bs} {F H F' H' : Hp} {σ : L2.St} {env : Env} {os : Os}
theorem Fn.grow (s : Fn B F H) (g : Grow F H F' H') : Fn B F' H' :=
  ⟨g.fh s.fh, s.bf.trans g.f, s.mrk.trans g.f, s.bb, fun a ha => let ⟨o, h⟩ := s.ios a ha; ⟨o, g.h a o h⟩, fun a o h1 h2 h3 => by
    obtain ⟨k1, k2⟩ := s.keep a o h1 h2 h3
    exact ⟨g.h a o k1, (g.old a o k1).trans k2⟩⟩
theorem Sit.grow (s : Sit B F H σ env os) (g : Grow F H F' H') : Sit B F' H' σ env os :=
  ⟨s.fin.grow g, s.env.mono g.f, fun p hp => by
    obtain ⟨h1, ⟨o, h2, h3⟩, h4⟩ := s.ow p hp
    exact ⟨(g.old _ o h2).trans h1, ⟨o, g.h _ _ h2, p.2.mono g.f h3⟩, h4⟩, s.nd⟩
theorem Sit.fh (s : Sit B F H σ env os) : Ex F H := s.fin.fh
theorem Sit.store {i : Nat} {sl : Slot} {v : V} (s : Sit B F H σ env os) (r : sl.ok F (some v)) : Sit B F H (σ.set i (some v)) (env.set i sl) os := ⟨s.fin, s.env.set r, s.ow, s.nd⟩
end

/-! ### the judgement of an expression -/
def tOf (B : Bs) (env : Env) (os : Os) {α : Type} (r : Rp α) (w : W α) : TE := fun σ H Q => ∃ F P, Sit B F H σ env os ∧ w P B.E0 ∧ ∀ x, P x → ∀ v F' H', Sit B F' H' σ env os → Ex F F' → r.ok F' v x → Q v H'
def EE (X : Cx) (B : Bs) (env : Env) (os : Os) (e : Expr) {α : Type} (r : Rp α) (w : W α) : Prop := PE X e (tOf B env os r w)
theorem PE.imp {X : Cx} {e : Expr} {t t' : TE} (h : PE X e t) (i : ∀ σ H Q, t' σ H Q → t σ H Q) : PE X e t' := ⟨fun pins s σ H Q I q => h.run pins s σ H Q I (i _ _ _ q)⟩
theorem PE.ex {X : Cx} {e : Expr} {ι : Type} {t : ι → TE} (h : ∀ i, PE X e (t i)) : PE X e (fun σ H Q => ∃ i, t i σ H Q) := ⟨fun pins s σ H Q I ⟨i, q⟩ => (h i).run pins s σ H Q I q⟩
section
variable {X : Cx} {B : Bs} {env : Env} {os : Os} {pos : Pos} {α β γ : Type} {r : Rp α} {s : Rp β} {t : Rp γ} {e a b : Expr}
theorem e_conv {w w' : W α} (h : EE X B env os e r w) (q : w' = w) : EE X B env os e r w' := q ▸ h
theorem e_name (i : Nat) {x : Str} {y : α} (he : env[i]? = some (sv r y) := by rfl) (hN : X.N[i]? = some x := by rfl) (hv : Vis X.env.scope x := by first | exact Or.inl rfl | exact Or.inr (Or.inl rfl) | exact Or.inr (Or.inr rfl))
    (hd : (x == ("__debug__" : Str)) = false := by decide) (hcd : (x == ("__classdict__" : Str)) = false := by decide) : EE X B env os (.Name x pos) r (ret y) :=
  PE.imp (pe_var hN hv hd hcd) fun σ H Q ⟨F, P, S, hw, k⟩ => by
    obtain ⟨ov, h1, v, h2, h3⟩ := S.env.get he
    subst h2
    exact ⟨v, h1, k y hw v F H S (Ex.refl F) h3⟩
theorem tc_of {v : V} {y : α} (h : ∀ F, r.ok F v y) {σ : L2.St} {H : Hp} {Q : VK} (q : tOf B env os r (ret y) σ H Q) : tC v σ H Q := by
  obtain ⟨F, P, S, hw, k⟩ := q
  exact k y hw v F H S (Ex.refl F) (h F)
theorem e_int {i : Int} {j} : EE X B env os (.Constant (.int i) j pos) rInt (ret i) := PE.imp pe_int fun _ _ _ q => tc_of (r := rInt) (fun _ => rfl) q
theorem e_bl {b : Bool} {j} : EE X B env os (.Constant (.bool b) j pos) rBool (ret b) := PE.imp pe_bl fun _ _ _ q => tc_of (r := rBool) (fun _ => rfl) q
theorem e_non {j} : EE X B env os (.Constant .none j pos) rNon (ret ()) := PE.imp pe_non fun _ _ _ q => tc_of (r := rNon) (fun _ => rfl) q
theorem e_str {x : Str} {j} (h : x.length ≤ sizeLine := by decide +kernel) (h2 : PyData.strOk x = true := by decide +kernel) : EE X B env os (.Constant (.str x) j pos) rStr (ret x) := PE.imp pe_str fun _ _ _ q => tc_of (r := rStr) (fun _ => ⟨rfl, h, h2⟩) q
/-- a name of the module -/
theorem e_glob {x : Str} {v : V} {u : Value} {y : α} (hg : Gl X x) (hm : X.mg x = some u) (rv : RelV v u) (h : ∀ F, r.ok F v y) (hd : (x == ("__debug__" : Str)) = false := by decide) : EE X B env os (.Name x pos) r (ret y) :=
  PE.imp (pe_glob hg hm rv hd) fun _ _ _ q => tc_of (r := r) h q

/-- what a two-place operation on values is worth -/
def R2T (q : R2) (r : Rp α) (s : Rp β) (t : Rp γ) (f : α → β → W γ) : Prop := ∀ (F H : Hp) (v u : V) (x : α) (y : β) (P : γ → Prop) (E : Er → Prop) (Q : VK), Ex F H → r.ok F v x → s.ok F u y → f x y P E →
  (∀ z, P z → ∀ v' F' H', Grow F H F' H' → t.ok F' v' z → Q v' H') → q v u H Q
theorem two {q : R2} {f : α → β → W γ} {w1 : W α} {w2 : α → W β} (sem : R2T q r s t f) {σ : L2.St} {H : Hp} {Q : VK}
    (h : tOf B env os t (bnd w1 fun x => bnd (w2 x) fun y => f x y) σ H Q) : tOp q (tOf B env os r w1) (fun σ H Q => ∃ x, tOf B env os s (w2 x) σ H Q) σ H Q := by
  obtain ⟨F, P, S, hw, k⟩ := h
  refine ⟨F, _, S, hw, fun x hx v F1 H1 S1 e1 ok1 => ⟨x, F1, _, S1, hx, fun y hy u F2 H2 S2 e2 ok2 => ?_⟩⟩
  exact sem F2 H2 v u x y P B.E0 Q S2.fh (r.mono e2 ok1) ok2 hy fun z hz v' F3 H3 g ok3 => k z hz v' F3 H3 (S2.grow g) ((e1.trans e2).trans g.f) ok3
theorem e_op {op : Operator} {q : R2} {f : α → β → W γ} {w1 : W α} {w2 : α → W β} (ho : OpR X (binaryOp op) q) (sem : R2T q r s t f) (ha : EE X B env os a r w1) (hb : ∀ x, EE X B env os b s (w2 x)) :
    EE X B env os (.BinOp a op b pos) t (bnd w1 fun x => bnd (w2 x) fun y => f x y) := PE.imp (pe_op ho ha (PE.ex hb)) fun _ _ _ h => two sem h
theorem e_cmp {op : CmpOp} {q : R2} {f : α → β → W γ} {w1 : W α} {w2 : α → W β} (ho : OpR X (compareOp op) q) (sem : R2T q r s t f) (hm : behindInMarks op b = false) (ha : EE X B env os a r w1) (hb : ∀ x, EE X B env os b s (w2 x)) :
    EE X B env os (.Compare a [op] [b] pos) t (bnd w1 fun x => bnd (w2 x) fun y => f x y) := PE.imp (pe_cmpR ho ha (PE.ex hb) hm) fun _ _ _ h => two sem h
theorem e_ix {q : R2} {f : α → β → W γ} {w1 : W α} {w2 : α → W β} (hr : IxR X q) (sem : R2T q r s t f) (hs : PlainIx b) (ha : EE X B env os a r w1) (hb : ∀ x, EE X B env os b s (w2 x)) :
    EE X B env os (.Subscript a b pos) t (bnd w1 fun x => bnd (w2 x) fun y => f x y) := PE.imp (pe_ix hr ha (PE.ex hb) hs) fun _ _ _ h => two sem h
def R1T (q : V → Hp → VK → Prop) (r : Rp α) (t : Rp γ) (f : α → W γ) : Prop := ∀ (F H : Hp) (v : V) (x : α) (P : γ → Prop) (E : Er → Prop) (Q : VK), Ex F H → r.ok F v x → f x P E → (∀ z, P z → ∀ v' F' H', Grow F H F' H' → t.ok F' v' z → Q v' H') → q v H Q
theorem e_un {op : UnaryOp} {q : V → Hp → VK → Prop} {f : α → W γ} {w1 : W α} (ho : UnR X (unaryOp op) q) (sem : R1T q r t f) (ha : EE X B env os a r w1) : EE X B env os (.UnaryOp op a pos) t (bnd w1 f) :=
  PE.imp (pe_un ho ha) fun σ H Q ⟨F, P, S, hw, k⟩ => ⟨F, _, S, hw, fun x hx v F1 H1 S1 e1 ok1 => sem F1 H1 v x P B.E0 Q S1.fh ok1 hx fun z hz v' F3 H3 g ok3 => k z hz v' F3 H3 (S1.grow g) (e1.trans g.f) ok3⟩
end

/-! ### ints -/
section
variable {X : Cx} {B : Bs} {env : Env} {os : Os} {pos : Pos} {a b : Expr} {w1 : W Int} {w2 : Int → W Int}
theorem r2i {γ : Type} {t : Rp γ} {g : Int → Int → V} {f : Int → Int → γ} (h : ∀ F i j, t.ok F (g i j) (f i j)) : R2T (rI0 g) rInt rInt t fun i j => ret (f i j) := fun F H v u x y P E Q fh e1 e2 hw k =>
  ⟨x, y, e1, e2, k _ hw _ F H (Grow.refl fh) (h F x y)⟩
theorem r2c {γ : Type} {t : Rp γ} {C : Int → Int → Prop} {g : Int → Int → V} {f : Int → Int → γ} (h : ∀ F i j, t.ok F (g i j) (f i j)) : R2T (rI C g) rInt rInt t fun i j => chk (C i j) (ret (f i j)) := fun F H v u x y P E Q fh e1 e2 ⟨hc, hw⟩ k =>
  ⟨x, y, e1, e2, hc, k _ hw _ F H (Grow.refl fh) (h F x y)⟩
theorem e_add (ha : EE X B env os a rInt w1) (hb : ∀ x, EE X B env os b rInt (w2 x)) : EE X B env os (.BinOp a .Add b pos) rInt (bnd w1 fun x => bnd (w2 x) fun y => ret (x + y)) := e_op op_add (r2i fun _ _ _ => rfl) ha hb
theorem e_sub (ha : EE X B env os a rInt w1) (hb : ∀ x, EE X B env os b rInt (w2 x)) : EE X B env os (.BinOp a .Sub b pos) rInt (bnd w1 fun x => bnd (w2 x) fun y => ret (x - y)) := e_op op_sub (r2i fun _ _ _ => rfl) ha hb
/-- of any size, together below a million bits -/
theorem op_mulG : OpR X (binaryOp .Mult) (rI IntMulOk fun i j => .int (i * j)) := opI fun _ _ _ _ _ _ _ hc q => PyProof.Rows.mul_int q hc
def mulI (x y : Int) : W Int := chk (IntMulOk x y) (ret (x * y))
theorem e_mul (ha : EE X B env os a rInt w1) (hb : ∀ x, EE X B env os b rInt (w2 x)) : EE X B env os (.BinOp a .Mult b pos) rInt (bnd w1 fun x => bnd (w2 x) fun y => mulI x y) := e_op op_mulG (r2c fun _ _ _ => rfl) ha hb
def CDivG (_ j : Int) : Prop := j ≠ 0 ∧ j.natAbs.log2 < 9000
theorem op_fdivG : OpR X (binaryOp .FloorDiv) (rI CDivG fun i j => .int (i.fdiv j)) := opI fun i j _ _ _ _ _ hc q => PyProof.Rows.floordiv_int hc.1 q (.inl (PyProof.noPylong_of_log2 hc.2))
def divI (x y : Int) : W Int := chk (CDivG x y) (ret (x.fdiv y))
theorem e_div (ha : EE X B env os a rInt w1) (hb : ∀ x, EE X B env os b rInt (w2 x)) : EE X B env os (.BinOp a .FloorDiv b pos) rInt (bnd w1 fun x => bnd (w2 x) fun y => divI x y) := e_op op_fdivG (r2c fun _ _ _ => rfl) ha hb
def modI (x y : Int) : W Int := chk (y ≠ 0) (ret (x.fmod y))
theorem e_mod (ha : EE X B env os a rInt w1) (hb : ∀ x, EE X B env os b rInt (w2 x)) : EE X B env os (.BinOp a .Mod b pos) rInt (bnd w1 fun x => bnd (w2 x) fun y => modI x y) := e_op op_modN (r2c fun _ _ _ => rfl) ha hb
def powI (x y : Int) : W Int := chk (CPow x y) (ret (x ^ y.toNat))
theorem e_pow (ha : EE X B env os a rInt w1) (hb : ∀ x, EE X B env os b rInt (w2 x)) : EE X B env os (.BinOp a .Pow b pos) rInt (bnd w1 fun x => bnd (w2 x) fun y => powI x y) := e_op op_pow (r2c fun _ _ _ => rfl) ha hb
theorem e_neg (ha : EE X B env os a rInt w1) : EE X B env os (.UnaryOp .USub a pos) rInt (bnd w1 fun x => ret (-x)) := e_un un_neg (fun F H v x P E Q fh e1 hw k => ⟨x, e1, k _ hw _ F H (Grow.refl fh) rfl⟩) ha
theorem e_lt (ha : EE X B env os a rInt w1) (hb : ∀ x, EE X B env os b rInt (w2 x)) : EE X B env os (.Compare a [.Lt] [b] pos) rBool (bnd w1 fun x => bnd (w2 x) fun y => ret (decide (x < y))) := e_cmp op_lt (r2i fun _ _ _ => rfl) (nomark _) ha hb
theorem e_le (ha : EE X B env os a rInt w1) (hb : ∀ x, EE X B env os b rInt (w2 x)) : EE X B env os (.Compare a [.LtE] [b] pos) rBool (bnd w1 fun x => bnd (w2 x) fun y => ret (decide (x ≤ y))) := e_cmp op_le (r2i fun _ _ _ => rfl) (nomark _) ha hb
theorem e_gt (ha : EE X B env os a rInt w1) (hb : ∀ x, EE X B env os b rInt (w2 x)) : EE X B env os (.Compare a [.Gt] [b] pos) rBool (bnd w1 fun x => bnd (w2 x) fun y => ret (decide (y < x))) := e_cmp op_gt (r2i fun _ _ _ => rfl) (nomark _) ha hb
theorem e_ge (ha : EE X B env os a rInt w1) (hb : ∀ x, EE X B env os b rInt (w2 x)) : EE X B env os (.Compare a [.GtE] [b] pos) rBool (bnd w1 fun x => bnd (w2 x) fun y => ret (decide (y ≤ x))) := e_cmp op_ge (r2i fun _ _ _ => rfl) (nomark _) ha hb
end
end Mi

namespace Mi
open PySem L2 Evl

/-! ### tests -/
def tOfT (B : Bs) (env : Env) (os : Os) (w : W Bool) : TT := fun σ H Q => ∃ F P, Sit B F H σ env os ∧ w P B.E0 ∧ ∀ b, P b → ∀ F' H', Sit B F' H' σ env os → Ex F F' → Q b H'
def ET (X : Cx) (B : Bs) (env : Env) (os : Os) (e : Expr) (w : W Bool) : Prop := PT X e (tOfT B env os w)
def EW (X : Cx) (B : Bs) (env : Env) (os : Os) (e : Expr) (w : W Bool) : Prop := PW X e (tOfT B env os w)
theorem PT.imp {X : Cx} {e : Expr} {t t' : TT} (h : PT X e t) (i : ∀ σ H Q, t' σ H Q → t σ H Q) : PT X e t' := ⟨fun pins s σ H Q I q => h.run pins s σ H Q I (i _ _ _ q)⟩
theorem PW.imp {X : Cx} {e : Expr} {t t' : TT} (h : PW X e t) (i : ∀ σ H Q, t' σ H Q → t σ H Q) : PW X e t' := ⟨fun wh pins s σ H Q I q => h.run wh pins s σ H Q I (i _ _ _ q)⟩
section
variable {X : Cx} {B : Bs} {env : Env} {os : Os} {pos : Pos} {α β γ : Type} {r : Rp α} {s : Rp β} {t : Rp γ} {e a b c : Expr} {rest : List Expr} {w1 w2 w3 : W Bool}
theorem t_cmp {op : CmpOp} {q : R2} {f : α → β → W Bool} {w1 : W α} {w2 : α → W β} (ho : OpR X (compareOp op) q) (sem : R2T q r s rBool f) (hm : behindInMarks op b = false) (ha : EE X B env os a r w1) (hb : ∀ x, EE X B env os b s (w2 x)) :
    ET X B env os (.Compare a [op] [b] pos) (bnd w1 fun x => bnd (w2 x) fun y => f x y) := PT.imp (pt_cmpR ho ha (PE.ex hb) hm) fun σ H Q ⟨F, P, S, hw, k⟩ =>
  two (t := rBool) sem ⟨F, P, S, hw, fun z hz v F' H' S' e' ok => ⟨z, ok, k z hz F' H' S' e'⟩⟩
/-- the value is True or False -/
theorem t_val {w : W Bool} (h : EE X B env os e rBool w) (he : ∀ whole, isTrue e X.env whole = (do let v ← whole; standAt e.pos; holding [v] (truthy v)) := by intro _; rfl) : ET X B env os e w :=
  PT.imp (pt_val h he) fun σ H Q ⟨F, P, S, hw, k⟩ => ⟨F, P, S, hw, fun z hz v F' H' S' e' ok => ⟨z, ok, k z hz F' H' S' e'⟩⟩
theorem t_not {w : W Bool} (h : ET X B env os e w) : ET X B env os (.UnaryOp .Not e pos) (bnd w fun b => ret (!b)) := PT.imp (pt_not h) fun σ H Q ⟨F, P, S, hw, k⟩ => ⟨F, _, S, hw, fun b hb => k (!b) hb⟩
theorem t_pw {w : W Bool} (h : EW X B env os e w) : ET X B env os e w := PW.pt h
theorem w_and1 {w : W Bool} (h : ET X B env os a w) : EW X B env os (.BoolOp .And [a] pos) w := pw_and1 h
theorem w_or1 {w : W Bool} (h : ET X B env os a w) : EW X B env os (.BoolOp .Or [a] pos) w := pw_or1 h
theorem w_and (ha : ET X B env os a w1) (hb : EW X B env os (.BoolOp .And (b :: rest) pos) w2) : EW X B env os (.BoolOp .And (a :: b :: rest) pos) (bnd w1 fun x => if x = true then w2 else ret false) :=
  PW.imp (pw_and ha hb) fun σ H Q ⟨F, P, S, hw, k⟩ => ⟨F, _, S, hw, fun x hx F' H' S' e' => by
    cases x with
    | true => exact ⟨F', P, S', hx, fun y hy F2 H2 S2 e2 => k y hy F2 H2 S2 (e'.trans e2)⟩
    | false => exact k false hx F' H' S' e'⟩
theorem w_or (ha : ET X B env os a w1) (hb : EW X B env os (.BoolOp .Or (b :: rest) pos) w2) : EW X B env os (.BoolOp .Or (a :: b :: rest) pos) (bnd w1 fun x => if x = true then ret true else w2) :=
  PW.imp (pw_or ha hb) fun σ H Q ⟨F, P, S, hw, k⟩ => ⟨F, _, S, hw, fun x hx F' H' S' e' => by
    cases x with
    | true => exact k true hx F' H' S' e'
    | false => exact ⟨F', P, S', hx, fun y hy F2 H2 S2 e2 => k y hy F2 H2 S2 (e'.trans e2)⟩⟩
/-! as values -/
theorem e_not {w : W Bool} (h : EE X B env os e rBool w) : EE X B env os (.UnaryOp .Not e pos) rBool (bnd w fun b => ret (!b)) := PE.imp (pe_not h) fun σ H Q ⟨F, P, S, hw, k⟩ => ⟨F, _, S, hw, fun b hb v F' H' S' e' ok => ⟨b, ok, k (!b) hb _ F' H' S' e' rfl⟩⟩
theorem e_one {op : BoolOp} {w : W α} (h : EE X B env os a r w) : EE X B env os (.BoolOp op [a] pos) r w := pe_one h
theorem e_and (ha : EE X B env os a rBool w1) (hb : EE X B env os (.BoolOp .And (b :: rest) pos) rBool w2) : EE X B env os (.BoolOp .And (a :: b :: rest) pos) rBool (bnd w1 fun x => if x = true then w2 else ret false) :=
  PE.imp (pe_and ha hb) fun σ H Q ⟨F, P, S, hw, k⟩ => ⟨F, _, S, hw, fun x hx v F' H' S' e' ok => ⟨x, ok, by
    cases x with
    | true => exact ⟨F', P, S', hx, fun y hy v F2 H2 S2 e2 => k y hy v F2 H2 S2 (e'.trans e2)⟩
    | false => exact k false hx _ F' H' S' e' rfl⟩⟩
theorem e_or (ha : EE X B env os a rBool w1) (hb : EE X B env os (.BoolOp .Or (b :: rest) pos) rBool w2) : EE X B env os (.BoolOp .Or (a :: b :: rest) pos) rBool (bnd w1 fun x => if x = true then ret true else w2) :=
  PE.imp (pe_or ha hb) fun σ H Q ⟨F, P, S, hw, k⟩ => ⟨F, _, S, hw, fun x hx v F' H' S' e' ok => ⟨x, ok, by
    cases x with
    | true => exact k true hx _ F' H' S' e' rfl
    | false => exact ⟨F', P, S', hx, fun y hy v F2 H2 S2 e2 => k y hy v F2 H2 S2 (e'.trans e2)⟩⟩⟩
theorem e_if {wc : W Bool} {wa wb : W α} (hc : ET X B env os c wc) (ha : EE X B env os a r wa) (hb : EE X B env os b r wb) : EE X B env os (.IfExp c a b pos) r (bnd wc fun x => if x = true then wa else wb) :=
  PE.imp (pe_ifExp hc ha hb) fun σ H Q ⟨F, P, S, hw, k⟩ => ⟨F, _, S, hw, fun x hx F' H' S' e' => by
    cases x with
    | true => exact ⟨F', P, S', hx, fun y hy v F2 H2 S2 e2 => k y hy v F2 H2 S2 (e'.trans e2)⟩
    | false => exact ⟨F', P, S', hx, fun y hy v F2 H2 S2 e2 => k y hy v F2 H2 S2 (e'.trans e2)⟩⟩
end

/-! ### blocks -/
abbrev Post (β : Type) := Ends → β → Prop
def tBG (B : Bs) (env : Env) (os : Os) {β : Type} (post : Post β) (w : W β) : TS := fun D σ H => ∃ F P, Sit B F H σ env os ∧ w P B.E0 ∧ ∀ x, P x → post D x
def BG (X : Cx) (B : Bs) (env : Env) (os : Os) (blk : List Stmt) {β : Type} (post : Post β) (w : W β) : Prop := PSs X blk (tBG B env os post w)
theorem PSs.imp {X : Cx} {b : List Stmt} {t t' : TS} (h : PSs X b t) (i : ∀ D σ H, t' D σ H → t D σ H) : PSs X b t' := ⟨fun pins s σ H D I q => h.run pins s σ H D I (i _ _ _ q)⟩
theorem PSs.ex {X : Cx} {b : List Stmt} {ι : Type} {t : ι → TS} (h : ∀ i, PSs X b (t i)) : PSs X b (fun D σ H => ∃ i, t i D σ H) := ⟨fun pins s σ H D I ⟨i, q⟩ => (h i).run pins s σ H D I q⟩
/-- the objects handed in, behind the body -/
def OsOk (B : Bs) (F H : Hp) (os : Os) : Prop := ∀ p ∈ os, F p.1 = none ∧ (∃ o, H p.1 = some o ∧ p.2.ok F o) ∧ (B.H p.1 = none ∨ p.1 ∈ B.io)
def pRet (B : Bs) (osR : Os) {ρ : Type} (ro : Rp ρ) : Post ρ := fun D x => ∀ v F H, Fn B F H → OsOk B F H osR → ro.ok F v x → D.rt v H
def pNx (B : Bs) {S : Type} (envS : S → Env) (osS : S → Os) : Post S := fun D s => ∀ σ F H, Sit B F H σ (envS s) (osS s) → D.nx σ H
def pFl (B : Bs) (osR : Os) {ρ : Type} (ro : Rp ρ) {S : Type} (envS : S → Env) (osS : S → Os) : Post (Fl S ρ) := fun D r => match r with
  | .nx s => ∀ σ F H, Sit B F H σ (envS s) (osS s) → D.nx σ H
  | .rt x => ∀ v F H, Fn B F H → OsOk B F H osR → ro.ok F v x → D.rt v H
  | .bk s => ∀ σ F H, Sit B F H σ (envS s) (osS s) → D.bk σ H
  | .ct s => ∀ σ F H, Sit B F H σ (envS s) (osS s) → D.ct σ H
/-- a post that says nothing of what comes next -/
def pX {β : Type} (post : Post β) : Post β := fun D x => ∃ nx, post { D with nx := nx } x
structure RtOk (B : Bs) {β ρ : Type} (post : Post β) (osR : Os) (ro : Rp ρ) (inj : ρ → β) : Prop where
  ok : ∀ D x, post D (inj x) → ∀ v F H, Fn B F H → OsOk B F H osR → ro.ok F v x → D.rt v H
structure NxOk (B : Bs) {β : Type} (post : Post β) (env : Env) (os : Os) (x : β) : Prop where
  ok : ∀ D, post D x → ∀ σ F H, Sit B F H σ env os → D.nx σ H
section
variable {B : Bs} {osR : Os} {ρ S β : Type} {ro : Rp ρ} {envS : S → Env} {osS : S → Os} {post : Post β} {inj : ρ → β}
theorem RtOk.ret : RtOk B (pRet B osR ro) osR ro (fun x => x) := ⟨fun _ _ h => h⟩
theorem RtOk.fl : RtOk B (pFl B osR ro envS osS) osR ro .rt := ⟨fun _ _ h => h⟩
theorem RtOk.x (h : RtOk B post osR ro inj) : RtOk B (pX post) osR ro inj := ⟨fun D x ⟨nx, q⟩ => h.ok { D with nx := nx } x q⟩
/-- slots may be forgotten -/
def EnvLe : Env → Env → Prop
  | [], [] => True
  | a :: as, b :: bs => (b = a ∨ b = sa) ∧ EnvLe as bs
  | _, _ => False
theorem EnvLe.of {F : Hp} : ∀ {e e' : Env} {σ : L2.St}, EnvLe e e' → EnvOk F e σ → EnvOk F e' σ
  | [], [], _, _, h => h
  | _ :: _, _ :: _, _, ⟨h1, h2⟩, .cons r t => .cons (h1.elim (fun z => z ▸ r) fun z => z ▸ trivial) (EnvLe.of h2 t)
  | [], _ :: _, _, h, _ => h.elim
  | _ :: _, [], _, h, _ => h.elim
theorem EnvLe.refl : ∀ e : Env, EnvLe e e
  | [] => trivial
  | _ :: as => ⟨.inl rfl, EnvLe.refl as⟩
def OsLe (os os' : Os) : Prop := ∀ p ∈ os', p ∈ os
theorem OsLe.refl (os : Os) : OsLe os os := fun _ h => h
/-- what is handed back may say less -/
def OsW (os os' : Os) : Prop := ∀ p ∈ os', ∃ q ∈ os, q.1 = p.1 ∧ ∀ F o, q.2.ok F o → p.2.ok F o
theorem OsW.of {os os' : Os} (h : OsLe os os') : OsW os os' := fun p hp => ⟨p, h p hp, rfl, fun _ _ q => q⟩
theorem OsW.nil {os : Os} : OsW os [] := fun p hp => by cases hp
theorem OsW.refl {os : Os} : OsW os os := OsW.of (OsLe.refl os)
theorem OsW.one {a : Addr} {q p : Own} {os : Os} (h : ∀ F o, q.ok F o → p.ok F o) : OsW ((a, q) :: os) [(a, p)] := fun z hz => by
  rcases List.mem_cons.mp hz with e | e
  · subst e
    exact ⟨(a, q), List.mem_cons_self .., rfl, h⟩
  · cases e
theorem OsW.ok {F H : Hp} {σ : L2.St} {env : Env} {os os' : Os} (h : OsW os os') (s : Sit B F H σ env os) : OsOk B F H os' := fun p hp => by
  obtain ⟨q, hq, e, k⟩ := h p hp
  obtain ⟨h1, ⟨o, h2, h3⟩, h4⟩ := s.ow q hq
  rw [e] at h1 h2 h4
  exact ⟨h1, ⟨o, h2, k F o h3⟩, h4⟩
theorem Sit.le {F H : Hp} {σ : L2.St} {env env' : Env} {os : Os} (s : Sit B F H σ env os) (h : EnvLe env env') : Sit B F H σ env' os := ⟨s.fin, h.of s.env, s.ow, s.nd⟩
theorem Sit.one {F H : Hp} {σ : L2.St} {env : Env} {os : Os} {a : Addr} {q p : Own} (s : Sit B F H σ env ((a, q) :: os)) (h : ∀ F o, q.ok F o → p.ok F o) : Sit B F H σ env ((a, p) :: os) := ⟨s.fin, s.env, fun z hz => by
  rcases List.mem_cons.mp hz with e | e
  · subst e
    obtain ⟨h1, ⟨o, h2, h3⟩, h4⟩ := s.ow (a, q) (List.mem_cons_self ..)
    exact ⟨h1, ⟨o, h2, h F o h3⟩, h4⟩
  · exact s.ow z (List.mem_cons_of_mem _ e), s.nd⟩
theorem NxOk.one {env : Env} {s : S} {a : Addr} {q p : Own} {os : Os} (ho : osS s = (a, p) :: os) (h : EnvLe env (envS s)) (hq : ∀ F o, q.ok F o → p.ok F o) : NxOk B (pNx B envS osS) env ((a, q) :: os) s := ⟨fun D k σ F H z => k σ F H (by
  rw [ho]
  exact (z.le h).one hq)⟩
theorem NxOk.nx {env : Env} {s : S} (h : EnvLe env (envS s)) : NxOk B (pNx B envS osS) env (osS s) s := ⟨fun D q σ F H z => q σ F H (z.le h)⟩
theorem NxOk.fl {env : Env} {s : S} (h : EnvLe env (envS s)) : NxOk B (pFl B osR ro envS osS) env (osS s) (.nx s) := ⟨fun D q σ F H z => q σ F H (z.le h)⟩
end
section
variable {X : Cx} {B : Bs} {env : Env} {os : Os} {pos pos' : Pos} {α β ρ S : Type} {r : Rp α} {e c : Expr} {rest blkA blkB : List Stmt} {post : Post β}
theorem b_conv {blk : List Stmt} {w w' : W β} (h : BG X B env os blk post w) (q : w' = w) : BG X B env os blk post w' := q ▸ h
theorem b_ret {osR : Os} {ro : Rp ρ} {inj : ρ → β} {w : W ρ} (hp : RtOk B post osR ro inj) (ho : OsW os osR) (h : EE X B env os e ro w) : BG X B env os [.Return (some e) pos] post (bnd w fun x => ret (inj x)) :=
  PSs.imp (pss_one (ps_ret h)) fun D σ H ⟨F, P, Si, hw, k⟩ => ⟨F, _, Si, hw, fun x hx v F' H' S' _ ok => hp.ok D x (k _ hx) v F' H' S'.fin (ho.ok S') ok⟩
theorem b_end {x : β} (hp : NxOk B post env os x) : BG X B env os [] post (ret x) := PSs.imp pss_nil fun D σ H ⟨F, P, S, hw, k⟩ => hp.ok D (k x hw) σ F H S
/-- a code that is never reached -/
theorem b_never {blk : List Stmt} : BG X B env os blk post fail := PSs.imp pss_never fun _ _ _ ⟨_, _, _, hw, _⟩ => hw
theorem b_pass {w : W β} (h : BG X B env os rest post w) : BG X B env os (.Pass pos :: rest) post w := PSs.imp (pss_cons ps_pass h) fun _ _ _ q => q
/-- name = e -/
theorem b_set (i : Nat) {x : Str} {w1 : W α} {w2 : α → W β} (he : EE X B env os e r w1) (hr : ∀ y, BG X B (env.set i (sv r y)) os rest post (w2 y)) (hN : X.N.Nodup) (hi : X.N[i]? = some x := by rfl)
    (hx : Loc X.env.scope x := by first | exact Or.inl rfl | exact Or.inr rfl) (hs : swapsWith e (some (.Name x pos')) pos.line X.env = pure false := by rfl) (hf : X.fn x = true ∨ X.env.scope.names.lookup x = some .local := by first | exact .inl rfl | exact .inr rfl | assumption) :
    BG X B env os (.Assign [.Name x pos'] e pos :: rest) post (bnd w1 w2) :=
  PSs.imp (pss_cons (ps_set hN hi hx he hs hf) (PSs.ex hr)) fun D σ H ⟨F, P, S, hw, k⟩ => ⟨F, _, S, hw, fun y hy v F' H' S' _ ok => ⟨y, F', P, S'.store ⟨v, rfl, ok⟩, hy, k⟩⟩
/-- an expression alone -/
theorem b_expr {w1 : W α} {w2 : W β} (he : EE X B env os e r w1) (hr : BG X B env os rest post w2) (hs : swapsWith e none pos.line X.env = pure false := by rfl) : BG X B env os (.Expr e pos :: rest) post (bnd w1 fun _ => w2) :=
  PSs.imp (pss_cons (ps_expr he hs) hr) fun D σ H ⟨F, P, S, hw, k⟩ => ⟨F, _, S, hw, fun y hy v F' H' S' _ ok => ⟨F', P, S', hy, k⟩⟩
/-- if, one branch of which never comes to the rest -/
theorem b_ifA {wc : W Bool} {w1 w2 : W β} (hc : ET X B env os c wc) (hA : BG X B env os blkA (pX post) w1) (hr : BG X B env os rest post w2) : BG X B env os (.If c blkA [] pos :: rest) post (bnd wc fun b => if b = true then w1 else w2) :=
  PSs.imp (pss_cons (ps_if hc hA pss_nil) hr) fun D σ H ⟨F, P, S, hw, k⟩ => ⟨F, _, S, hw, fun b hb F' H' S' _ => by
    cases b with
    | true => exact ⟨F', P, S', hb, fun x hx => ⟨D.nx, k x hx⟩⟩
    | false => exact ⟨F', P, S', hb, k⟩⟩
/-- both branches end -/
theorem b_if2 {wc : W Bool} {w1 w2 : W β} (hc : ET X B env os c wc) (hA : BG X B env os blkA post w1) (hB : BG X B env os blkB post w2) : BG X B env os [.If c blkA blkB pos] post (bnd wc fun b => if b = true then w1 else w2) :=
  PSs.imp (pss_one (ps_if hc hA hB)) fun D σ H ⟨F, P, S, hw, k⟩ => ⟨F, _, S, hw, fun b hb F' H' S' _ => by
    cases b with
    | true => exact ⟨F', P, S', hb, k⟩
    | false => exact ⟨F', P, S', hb, k⟩⟩
/-- both branches go on -/
theorem b_ifJ {wc : W Bool} {w1 w2 : W S} {w3 : S → W β} (envS : S → Env) (osS : S → Os) (hc : ET X B env os c wc) (hA : BG X B env os blkA (pNx B envS osS) w1) (hB : BG X B env os blkB (pNx B envS osS) w2)
    (hr : ∀ s, BG X B (envS s) (osS s) rest post (w3 s)) : BG X B env os (.If c blkA blkB pos :: rest) post (bnd wc fun b => bnd (if b = true then w1 else w2) w3) :=
  PSs.imp (pss_cons (ps_if hc hA hB) (PSs.ex hr)) fun D σ H ⟨F, P, S, hw, k⟩ => ⟨F, _, S, hw, fun b hb F' H' S' _ => by
    cases b with
    | true => exact ⟨F', _, S', hb, fun s hs σ2 F2 H2 S2 => ⟨s, F2, P, S2, hs, k⟩⟩
    | false => exact ⟨F', _, S', hb, fun s hs σ2 F2 H2 S2 => ⟨s, F2, P, S2, hs, k⟩⟩⟩
/-- one branch ends, the other goes on -/
theorem b_ifAJ {wc : W Bool} {w1 : W β} {w2 : W S} {w3 : S → W β} (envS : S → Env) (osS : S → Os) (hc : ET X B env os c wc) (hA : BG X B env os blkA (pX post) w1) (hB : BG X B env os blkB (pNx B envS osS) w2)
    (hr : ∀ s, BG X B (envS s) (osS s) rest post (w3 s)) : BG X B env os (.If c blkA blkB pos :: rest) post (bnd wc fun b => if b = true then w1 else bnd w2 w3) :=
  PSs.imp (pss_cons (ps_if hc hA hB) (PSs.ex hr)) fun D σ H ⟨F, P, S, hw, k⟩ => ⟨F, _, S, hw, fun b hb F' H' S' _ => by
    cases b with
    | true => exact ⟨F', P, S', hb, fun x hx => ⟨D.nx, k x hx⟩⟩
    | false => exact ⟨F', _, S', hb, fun s hs σ2 F2 H2 S2 => ⟨s, F2, P, S2, hs, k⟩⟩⟩
theorem b_ifBJ {wc : W Bool} {w1 : W S} {w2 : W β} {w3 : S → W β} (envS : S → Env) (osS : S → Os) (hc : ET X B env os c wc) (hA : BG X B env os blkA (pNx B envS osS) w1) (hB : BG X B env os blkB (pX post) w2)
    (hr : ∀ s, BG X B (envS s) (osS s) rest post (w3 s)) : BG X B env os (.If c blkA blkB pos :: rest) post (bnd wc fun b => if b = true then bnd w1 w3 else w2) :=
  PSs.imp (pss_cons (ps_if hc hA hB) (PSs.ex hr)) fun D σ H ⟨F, P, S, hw, k⟩ => ⟨F, _, S, hw, fun b hb F' H' S' _ => by
    cases b with
    | true => exact ⟨F', _, S', hb, fun s hs σ2 F2 H2 S2 => ⟨s, F2, P, S2, hs, k⟩⟩
    | false => exact ⟨F', P, S', hb, fun x hx => ⟨D.nx, k x hx⟩⟩⟩
end
end Mi

namespace Mi
open PySem L2 Evl

theorem Paired.get {α β : Type} {R : α → β → Prop} : ∀ {l : List α} {m : List β} {i : Nat} {y : β}, Paired R l m → m[i]? = some y → ∃ x, l[i]? = some x ∧ R x y
  | _, _, i, y, .nil, h => by simp at h
  | _, _, 0, y, .cons r t, h => by
    simp at h
    subst h
    exact ⟨_, rfl, r⟩
  | _, _, i + 1, y, .cons r t, h => by
    obtain ⟨x, h1, h2⟩ := Paired.get (i := i) t (by simpa using h)
    exact ⟨x, by simpa using h1, h2⟩
theorem Paired.get' {α β : Type} {R : α → β → Prop} : ∀ {l : List α} {m : List β} {i : Nat} {x : α}, Paired R l m → l[i]? = some x → ∃ y, m[i]? = some y ∧ R x y
  | _, _, i, y, .nil, h => by simp at h
  | _, _, 0, y, .cons r t, h => by
    simp at h
    subst h
    exact ⟨_, rfl, r⟩
  | _, _, i + 1, y, .cons r t, h => by
    obtain ⟨x, h1, h2⟩ := Paired.get' (i := i) t (by simpa using h)
    exact ⟨x, by simpa using h1, h2⟩
theorem Paired.app {α β : Type} {R : α → β → Prop} : ∀ {l l' : List α} {m m' : List β}, Paired R l m → Paired R l' m' → Paired R (l ++ l') (m ++ m')
  | _, _, _, _, .nil, h => h
  | _, _, _, _, .cons r t, h => .cons r (Paired.app t h)
theorem Paired.setR {α β : Type} {R : α → β → Prop} {x : α} {y : β} (r : R x y) : ∀ {l : List α} {m : List β} {i : Nat}, Paired R l m → Paired R (l.set i x) (m.set i y)
  | _, _, _, .nil => .nil
  | _, _, 0, .cons _ t => .cons r t
  | _, _, i + 1, .cons q t => .cons q (Paired.setR r (i := i) t)
theorem Paired.takeR {α β : Type} {R : α → β → Prop} : ∀ {l : List α} {m : List β} (n : Nat), Paired R l m → Paired R (l.take n) (m.take n)
  | _, _, 0, _ => .nil
  | _, _, _ + 1, .nil => .nil
  | _, _, n + 1, .cons r t => .cons r (Paired.takeR n t)
theorem Paired.dropR {α β : Type} {R : α → β → Prop} : ∀ {l : List α} {m : List β} (n : Nat), Paired R l m → Paired R (l.drop n) (m.drop n)
  | _, _, 0, r => r
  | _, _, _ + 1, .nil => .nil
  | _, _, n + 1, .cons _ t => Paired.dropR n t
theorem Paired.mapL {α β γ : Type} {R : γ → β → Prop} {f : α → γ} : ∀ {l : List α} {m : List β}, Paired (fun a b => R (f a) b) l m → Paired R (l.map f) m
  | _, _, .nil => .nil
  | _, _, .cons r t => .cons r (Paired.mapL t)
/-- a list of values that stand for x's by a function -/
theorem Paired.eqMap {α : Type} {f : α → V} : ∀ {l : List V} {m : List α}, Paired (fun v x => v = f x) l m → l = m.map f
  | _, _, .nil => rfl
  | _, _, .cons r t => by
    subst r
    rw [List.map_cons, ← Paired.eqMap t]
theorem ints_map {F : Hp} {vs : List V} {xs : List Int} (h : Paired (rInt.ok F) vs xs) : vs = xs.map V.int := Paired.eqMap h
theorem bools_map {F : Hp} {vs : List V} {xs : List Bool} (h : Paired (rBool.ok F) vs xs) : vs = xs.map V.bl := Paired.eqMap h

/-! ### a new object, one's own -/
/-- what the heap does not know the base does not know either -/
theorem Fn.fresh {B : Bs} {F H : Hp} {p : Addr} (s : Fn B F H) (hp : H p = none) : B.H p = none := by
  cases e : B.H p with
  | none => rfl
  | some o =>
    cases ef : B.F p with
    | none =>
      by_cases hio : p ∈ B.io
      · obtain ⟨u, hu⟩ := s.ios p hio
        rw [hp] at hu
        cases hu
      · have := (s.keep p o ef e hio).1
        rw [hp] at this
        cases this
    | some u =>
      have := s.fh p u (s.bf p u ef)
      rw [hp] at this
      cases this
theorem Sit.newOwn {B : Bs} {F H : Hp} {σ : L2.St} {env : Env} {os : Os} {p : Addr} {o : HO} {ow : Own} (s : Sit B F H σ env os) (hp : H p = none) (hb : ow.ok F o) : Sit B F (upd H p o) σ env ((p, ow) :: os) := by
  have fp : F p = none := fresh_back s.fh hp
  refine ⟨⟨s.fh.trans (Ex.new hp), s.fin.bf, s.fin.mrk, s.fin.bb, fun a ha => let ⟨o, h⟩ := s.fin.ios a ha; ⟨o, Ex.new hp a o h⟩, fun a u h1 h2 h3 => ?_⟩, s.env, fun q hq => ?_, ?_⟩
  · obtain ⟨k1, k2⟩ := s.fin.keep a u h1 h2 h3
    exact ⟨Ex.new hp a u k1, k2⟩
  · rcases List.mem_cons.mp hq with e | hq
    · subst e
      exact ⟨fp, ⟨o, upd_same, hb⟩, .inl (s.fin.fresh hp)⟩
    · obtain ⟨h1, ⟨u, h2, h3⟩, h4⟩ := s.ow q hq
      exact ⟨h1, ⟨u, Ex.new hp _ _ h2, h3⟩, h4⟩
  · rw [List.map_cons]
    refine List.nodup_cons.mpr ⟨fun hm => ?_, s.nd⟩
    obtain ⟨q, hq, e⟩ := List.mem_map.mp hm
    obtain ⟨_, ⟨u, h2, _⟩, _⟩ := s.ow q hq
    have e' : q.1 = p := e
    rw [e', hp] at h2
    cases h2
/-- the first own object will never change again -/
theorem Sit.freeze {B : Bs} {F H : Hp} {σ : L2.St} {env : Env} {os : Os} {p : Addr} {ow : Own} (s : Sit B F H σ env ((p, ow) :: os)) :
    ∃ F' o, Ex F F' ∧ F' p = some o ∧ ow.ok F' o ∧ Sit B F' H σ env os := by
  obtain ⟨h1, ⟨o, h2, h3⟩, h4⟩ := s.ow (p, ow) (List.mem_cons_self ..)
  have h1 : F p = none := h1
  have h2 : H p = some o := h2
  have e : Ex F (upd F p o) := Ex.new h1
  have nd := s.nd
  rw [List.map_cons] at nd
  obtain ⟨nd1, nd2⟩ := List.nodup_cons.mp nd
  refine ⟨upd F p o, o, e, upd_same, ow.mono e h3, ⟨fun a u ha => ?_, s.fin.bf.trans e, s.fin.mrk.trans e, s.fin.bb, s.fin.ios, fun a u k1 k2 k3 => ?_⟩, s.env.mono e, fun q hq => ?_, nd2⟩
  · by_cases hap : a = p
    · rw [hap, upd_same] at ha
      rw [hap, h2]
      exact ha
    · rw [upd_ne hap] at ha
      exact s.fh a u ha
  · obtain ⟨z1, z2⟩ := s.fin.keep a u k1 k2 k3
    refine ⟨z1, ?_⟩
    have hap : a ≠ p := by
      rintro rfl
      rcases h4 with q | q
      · have q' : B.H a = none := q
        rw [k2] at q'
        cases q'
      · exact k3 q
    rw [upd_ne hap]
    exact z2
  · obtain ⟨z1, ⟨u, z2, z3⟩, z4⟩ := s.ow q (List.mem_cons_of_mem _ hq)
    have hap : q.1 ≠ p := fun z => by
      have hm := List.mem_map_of_mem (f := Prod.fst) hq
      rw [z] at hm
      exact nd1 hm
    exact ⟨by rw [upd_ne hap]; exact z1, ⟨u, z2, q.2.mono e z3⟩, z4⟩
theorem set_same {α : Type} : ∀ {l : List α} {j : Nat} {x : α}, l[j]? = some x → l.set j x = l
  | [], _, _, _ => rfl
  | a :: l, 0, x, h => by
    simp at h
    subst h
    rfl
  | a :: l, j + 1, x, h => by
    show a :: l.set j x = a :: l
    rw [set_same (by simpa using h)]
/-- an own object is changed -/
theorem Sit.change {B : Bs} {F H : Hp} {σ : L2.St} {env : Env} {os : Os} {j : Nat} {p : Addr} {ow ow' : Own} {o' : HO} (s : Sit B F H σ env os) (hj : os[j]? = some (p, ow)) (hb : ow'.ok F o') : Sit B F (upd H p o') σ env (os.set j (p, ow')) := by
  have hm : (p, ow) ∈ os := List.mem_of_getElem? hj
  obtain ⟨h1, ⟨o, h2, h3⟩, h4⟩ := s.ow _ hm
  have h1 : F p = none := h1
  have h2 : H p = some o := h2
  have hjl : j < os.length := (List.getElem?_eq_some_iff.mp hj).1
  have hmap : (os.set j (p, ow')).map (·.1) = os.map (·.1) := by
    rw [List.map_set]
    exact set_same (by rw [List.getElem?_map, hj]; rfl)
  refine ⟨⟨fun a u ha => ?_, s.fin.bf, s.fin.mrk, s.fin.bb, fun a ha => ?_, fun a u k1 k2 k3 => ?_⟩, s.env, fun q hq => ?_, by rw [hmap]; exact s.nd⟩
  · have hap : a ≠ p := fun z => by rw [z, h1] at ha; cases ha
    rw [upd_ne hap]
    exact s.fh a u ha
  · by_cases hap : a = p
    · exact ⟨o', by rw [hap, upd_same]⟩
    · obtain ⟨u, hu⟩ := s.fin.ios a ha
      exact ⟨u, by rw [upd_ne hap]; exact hu⟩
  · obtain ⟨z1, z2⟩ := s.fin.keep a u k1 k2 k3
    have hap : a ≠ p := by
      rintro rfl
      rcases h4 with q | q
      · have q' : B.H a = none := q
        rw [k2] at q'
        cases q'
      · exact k3 q
    rw [upd_ne hap]
    exact ⟨z1, z2⟩
  · obtain ⟨i, hi⟩ := List.mem_iff_getElem?.mp hq
    by_cases hij : j = i
    · subst hij
      rw [List.getElem?_set_self hjl] at hi
      cases hi
      exact ⟨h1, ⟨o', upd_same, hb⟩, h4⟩
    · rw [List.getElem?_set_ne hij] at hi
      obtain ⟨z1, ⟨u, z2, z3⟩, z4⟩ := s.ow q (List.mem_of_getElem? hi)
      have hap : q.1 ≠ p := fun z => by
        have nd := s.nd
        have a1 : (os.map (·.1))[i]? = some p := by rw [List.getElem?_map, hi, ← z]; rfl
        have a2 : (os.map (·.1))[j]? = some p := by rw [List.getElem?_map, hj]; rfl
        exact hij (nd_ix nd a2 a1)
      exact ⟨z1, ⟨u, by rw [upd_ne hap]; exact z2, z3⟩, z4⟩
end Mi

namespace Mi
open PySem L2 Evl

/-! ### expressions that make a new list -/
def tNew (B : Bs) (env : Env) (os : Os) {α : Type} (r : Rp α) (w : W (List α)) : TE := fun σ H Q => ∃ F P, Sit B F H σ env os ∧ w P B.E0 ∧ ∀ xs, P xs → ∀ a F' H', Sit B F' H' σ env ((a, oLst r xs) :: os) → Ex F F' → Q (.ref a) H'
def EN (X : Cx) (B : Bs) (env : Env) (os : Os) (e : Expr) {α : Type} (r : Rp α) (w : W (List α)) : Prop := PE X e (tNew B env os r w)
section
variable {X : Cx} {B : Bs} {env : Env} {os : Os} {pos : Pos} {α β γ : Type} {r : Rp α} {s : Rp β} {t : Rp γ} {e a b c : Expr} {es : List Expr}
/-- it is let go: it will not change again -/
theorem e_new {w : W (List α)} (h : EN X B env os e r w) : EE X B env os e (rLst r) w := PE.imp h fun σ H Q ⟨F, P, S, hw, k⟩ => ⟨F, P, S, hw, fun xs hx a F' H' S' e' => by
  obtain ⟨F2, o, e2, h1, ⟨vs, h2, h3, h4⟩, S2⟩ := S'.freeze
  subst h2
  exact k xs hx (.ref a) F2 H' S2 (e'.trans e2) ⟨a, vs, rfl, h1, h3, h4⟩⟩
/-! a written list, a tuple -/
def tAL (B : Bs) (env : Env) (os : Os) (n : Nat) {α : Type} (r : Rp α) (w : W (List α)) : TA := fun σ H Q => ∃ F P, Sit B F H σ env os ∧ w P B.E0 ∧ ∀ xs, P xs → ∀ vs F' H', Sit B F' H' σ env os → Ex F F' → Paired (r.ok F') vs xs → vs.length = n → Q vs H'
def AL (X : Cx) (B : Bs) (env : Env) (os : Os) (es : List Expr) {α : Type} (r : Rp α) (w : W (List α)) : Prop := PA X es (tAL B env os es.length r w)
theorem PA.imp {t t' : TA} (h : PA X es t) (i : ∀ σ H Q, t' σ H Q → t σ H Q) : PA X es t' := ⟨fun pos pins s σ H Q I q => h.run pos pins s σ H Q I (i _ _ _ q)⟩
theorem PA.ex {ι : Type} {t : ι → TA} (h : ∀ i, PA X es (t i)) : PA X es (fun σ H Q => ∃ i, t i σ H Q) := ⟨fun pos pins s σ H Q I ⟨i, q⟩ => (h i).run pos pins s σ H Q I q⟩
theorem al_nil : AL X B env os [] r (ret []) := PA.imp pa_nil fun σ H Q ⟨F, P, S, hw, k⟩ => k [] hw [] F H S (Ex.refl F) .nil rfl
theorem al_cons {w1 : W α} {w2 : W (List α)} (h : EE X B env os e r w1) (ht : AL X B env os es r w2) (hs : starEach (e :: es) X.env = (false, eval e X.env) :: starEach es X.env := by rfl) : AL X B env os (e :: es) r (bnd w1 fun x => bnd w2 fun xs => ret (x :: xs)) :=
  PA.imp (pa_cons h ht hs) fun σ H Q ⟨F, P, S, hw, k⟩ => ⟨F, _, S, hw, fun x hx v F1 H1 S1 e1 ok1 => ⟨F1, _, S1, hx, fun xs hxs vs F2 H2 S2 e2 ok2 hl => k _ hxs (v :: vs) F2 H2 S2 (e1.trans e2) (.cons (r.mono e2 ok1) ok2) (by rw [List.length_cons, hl, List.length_cons])⟩⟩
theorem n_list {w : W (List α)} (h : AL X B env os es r w) (hz : es.length ≤ sizeLine := by decide) : EN X B env os (.List es pos) r w := PE.imp (pe_lst h) fun σ H Q ⟨F, P, S, hw, k⟩ => ⟨F, P, S, hw, fun xs hx vs F' H' S' e' ok hl =>
  ⟨by rw [hl]; exact hz, fun p hp => k xs hx p F' _ (S'.newOwn hp ⟨vs, rfl, by rw [hl]; exact hz, ok⟩) e'⟩⟩
theorem e_tup2 {w1 : W α} {w2 : α → W β} {x1} (ha : EE X B env os a r w1) (hb : ∀ x, EE X B env os b s (w2 x)) (hs : starEach [a, b] X.env = (false, eval a X.env) :: starEach [b] X.env := by rfl) (hs2 : starEach [b] X.env = (false, eval b X.env) :: starEach [] X.env := by rfl) :
    EE X B env os (.Tuple [a, b] x1 pos) (rT2 X.K r s) (bnd w1 fun x => bnd (w2 x) fun y => ret (x, y)) :=
  PE.imp (pe_tup (pa_cons ha (pa_cons (PE.ex hb) pa_nil hs2) hs)) fun σ H Q ⟨F, P, S, hw, k⟩ => ⟨F, _, S, hw, fun x hx v F1 H1 S1 e1 ok1 => ⟨x, F1, _, S1, hx, fun y hy u F2 H2 S2 e2 ok2 =>
    ⟨(by show 2 ≤ sizeLine; decide), fun p hp => by
      have g : Grow F2 H2 (upd F2 p (.tup [v, u])) (upd H2 p (.tup [v, u])) := Grow.alloc S2.fh hp
      exact k _ hy (.ref p) _ _ (S2.grow g) ((e1.trans e2).trans g.f) ⟨p, v, u, rfl, SqT.of upd_same, r.mono (e2.trans g.f) ok1, s.mono g.f ok2⟩⟩⟩⟩
theorem e_tup3 {w1 : W α} {w2 : α → W β} {w3 : α → β → W γ} {x1} (ha : EE X B env os a r w1) (hb : ∀ x, EE X B env os b s (w2 x)) (hc : ∀ x y, EE X B env os c t (w3 x y)) (hs : starEach [a, b, c] X.env = (false, eval a X.env) :: starEach [b, c] X.env := by rfl)
    (hs2 : starEach [b, c] X.env = (false, eval b X.env) :: starEach [c] X.env := by rfl) (hs3 : starEach [c] X.env = (false, eval c X.env) :: starEach [] X.env := by rfl) :
    EE X B env os (.Tuple [a, b, c] x1 pos) (rT3 X.K r s t) (bnd w1 fun x => bnd (w2 x) fun y => bnd (w3 x y) fun z => ret (x, y, z)) :=
  PE.imp (pe_tup (pa_cons ha (pa_cons (PE.ex hb) (pa_cons (PE.ex fun p : α × β => hc p.1 p.2) pa_nil hs3) hs2) hs)) fun σ H Q ⟨F, P, S, hw, k⟩ => ⟨F, _, S, hw, fun x hx v F1 H1 S1 e1 ok1 => ⟨x, F1, _, S1, hx, fun y hy u F2 H2 S2 e2 ok2 => ⟨(x, y), F2, _, S2, hy, fun z hz q F3 H3 S3 e3 ok3 =>
    ⟨(by show 3 ≤ sizeLine; decide), fun p hp => by
      have g : Grow F3 H3 (upd F3 p (.tup [v, u, q])) (upd H3 p (.tup [v, u, q])) := Grow.alloc S3.fh hp
      exact k _ hz (.ref p) _ _ (S3.grow g) (((e1.trans e2).trans e3).trans g.f) ⟨p, v, u, q, rfl, SqT.of upd_same, r.mono ((e2.trans e3).trans g.f) ok1, s.mono (e3.trans g.f) ok2, t.mono g.f ok3⟩⟩⟩⟩⟩

/-! ### reading lists -/
theorem ixN_map {n m : Nat} (h : n = m) (i : Int) : ixN n i = ixN m i := by rw [h]
theorem atI_paired {R : V → α → Prop} {vs : List V} {xs : List α} {i : Int} {x : α} (h : Paired R vs xs) (hx : atI xs i = some x) : ∃ v, atI vs i = some v ∧ R v x := by
  unfold atI at hx ⊢
  rw [ixN_map h.length i]
  cases e : ixN xs.length i with
  | none => rw [e] at hx; cases hx
  | some j =>
    rw [e] at hx
    exact Paired.get h hx
def idx (xs : List α) (i : Int) : W α := match atI xs i with
  | some x => ret x
  | none => fail
theorem idx_of {xs : List α} {i : Int} {P : α → Prop} {E : Er → Prop} (h : idx xs i P E) : ∃ x, atI xs i = some x ∧ P x := by
  unfold idx at h
  cases e : atI xs i with
  | none => rw [e] at h; exact False.elim h
  | some x => rw [e] at h; exact ⟨x, rfl, h⟩
theorem sem_idx {K : PySem.W.Frag} : R2T (rIxL K) (rLst r) rInt r (fun x i => idx x i) := fun F H v u x y P E Q fh ⟨p, vs, e1, h1, h2, h3⟩ e2 hw k => by
  obtain ⟨z, hz, pz⟩ := idx_of hw
  obtain ⟨v', hv', rz⟩ := atI_paired h3 hz
  exact ⟨p, vs, y, v', e1, e2, SqL.of (fh _ _ h1), hv', k z pz v' F H (Grow.refl fh) rz⟩
theorem sem_idxT {K : PySem.W.Frag} : R2T (rIxT K) (rTup K r) rInt r (fun x i => idx x i) := fun F H v u x y P E Q fh ⟨p, vs, e1, h1, h2, h3⟩ e2 hw k => by
  obtain ⟨z, hz, pz⟩ := idx_of hw
  obtain ⟨v', hv', rz⟩ := atI_paired h3 hz
  exact ⟨p, vs, y, v', e1, e2, ex_t fh h1, hv', k z pz v' F H (Grow.refl fh) rz⟩
theorem sem_fst {K : PySem.W.Frag} : R2T (rIxT K) (rT2 K r s) rInt r (fun x i => chk (i = 0) (ret x.1)) := fun F H v u x y P E Q fh ⟨p, v1, v2, e1, h1, h2, h3⟩ e2 ⟨c, hw⟩ k =>
  ⟨p, _, y, v1, e1, e2, ex_t fh h1, (by subst c; rfl), k _ hw v1 F H (Grow.refl fh) h2⟩
theorem sem_snd {K : PySem.W.Frag} : R2T (rIxT K) (rT2 K r s) rInt s (fun x i => chk (i = 1) (ret x.2)) := fun F H v u x y P E Q fh ⟨p, v1, v2, e1, h1, h2, h3⟩ e2 ⟨c, hw⟩ k =>
  ⟨p, _, y, v2, e1, e2, ex_t fh h1, (by subst c; rfl), k _ hw v2 F H (Grow.refl fh) h3⟩
theorem e_idx {w1 : W (List α)} {w2 : List α → W Int} (ha : EE X B env os a (rLst r) w1) (hb : ∀ x, EE X B env os b rInt (w2 x)) (hs : PlainIx b := by exact fun _ _ => rfl) : EE X B env os (.Subscript a b pos) r (bnd w1 fun x => bnd (w2 x) fun i => idx x i) :=
  e_ix ix_list sem_idx hs ha hb
theorem e_idxT {w1 : W (List α)} {w2 : List α → W Int} (ha : EE X B env os a (rTup X.K r) w1) (hb : ∀ x, EE X B env os b rInt (w2 x)) (hs : PlainIx b := by exact fun _ _ => rfl) : EE X B env os (.Subscript a b pos) r (bnd w1 fun x => bnd (w2 x) fun i => idx x i) :=
  e_ix ix_tup sem_idxT hs ha hb
/-- the places of a pair -/
theorem e_fst {w1 : W (α × β)} {j} {pos2 : Pos} (ha : EE X B env os a (rT2 X.K r s) w1) (hs : PlainIx (.Constant (.int 0) j pos2) := by exact fun _ _ => rfl) : EE X B env os (.Subscript a (.Constant (.int 0) j pos2) pos) r (bnd w1 fun x => ret x.1) :=
  e_conv (e_ix ix_tup sem_fst hs ha (fun _ => e_int)) (by
      funext P E
      show w1 _ E = w1 _ E
      congr 1
      funext x
      exact propext ⟨fun h => ⟨rfl, h⟩, fun h => h.2⟩)
theorem e_snd {w1 : W (α × β)} {j} {pos2 : Pos} (ha : EE X B env os a (rT2 X.K r s) w1) (hs : PlainIx (.Constant (.int 1) j pos2) := by exact fun _ _ => rfl) : EE X B env os (.Subscript a (.Constant (.int 1) j pos2) pos) s (bnd w1 fun x => ret x.2) :=
  e_conv (e_ix ix_tup sem_snd hs ha (fun _ => e_int)) (by
      funext P E
      show w1 _ E = w1 _ E
      congr 1
      funext x
      exact propext ⟨fun h => ⟨rfl, h⟩, fun h => h.2⟩)
/-! ### calls of built-in things with one argument -/
def C1T (q : List V → Hp → VK → Prop) (r : Rp α) (t : Rp γ) (f : α → W γ) : Prop := ∀ (F H : Hp) (v : V) (x : α) (P : γ → Prop) (E : Er → Prop) (Q : VK), Ex F H → r.ok F v x → f x P E → (∀ z, P z → ∀ v' F' H', Grow F H F' H' → t.ok F' v' z → Q v' H') → q [v] H Q
theorem one_call {q : List V → Hp → VK → Prop} {f : α → W γ} {w1 : W α} (sem : C1T q r t f) {σ : L2.St} {H : Hp} {Q : VK} (h : tOf B env os t (bnd w1 f) σ H Q) : tCB q (tCons (tOf B env os r w1) tNil) σ H Q := by
  obtain ⟨F, P, S, hw, k⟩ := h
  exact ⟨F, _, S, hw, fun x hx v F1 H1 S1 e1 ok1 => sem F1 H1 v x P B.E0 Q S1.fh ok1 hx fun z hz v' F3 H3 g ok3 => k z hz v' F3 H3 (S1.grow g) (e1.trans g.f) ok3⟩
theorem e_callB {id : String} {x : Str} {p : Pos} {q : List V → Hp → VK → Prop} {f : α → W γ} {w1 : W α} (hc : CallR X (.builtin id) q) (sem : C1T q r t f) (ha : EE X B env os a r w1) (hm : X.mg x = none) (hg : Gl X x := by rfl) (hv : bootBuiltins x = some (.builtin id) := by decide +kernel)
    (hn : x ≠ "__name__" := by decide) (hdb : (x == ("__debug__" : Str)) = false := by decide) (he : starEach [a] X.env = (false, eval a X.env) :: starEach [] X.env := by rfl) (hpl : (backTo pos (starEach [] X.env)).any (·.1) = false := by rfl) :
    EE X B env os (.Call (.Name x p) [a] [] pos) t (bnd w1 f) := PE.imp (pe_callB hc hg hm hv (pa_cons ha pa_nil he) hn hdb he hpl) fun _ _ _ h => one_call sem h
theorem e_callTy {id : String} {x : Str} {p : Pos} {q : List V → Hp → VK → Prop} {f : α → W γ} {w1 : W α} (hc : CallR X (.type id) q) (sem : C1T q r t f) (ha : EE X B env os a r w1) (hm : X.mg x = none) (hg : Gl X x := by rfl) (hv : bootBuiltins x = some (.type id) := by decide +kernel)
    (hn : x ≠ "__name__" := by decide) (hdb : (x == ("__debug__" : Str)) = false := by decide) (he : starEach [a] X.env = (false, eval a X.env) :: starEach [] X.env := by rfl) (hpl : (backTo pos (starEach [] X.env)).any (·.1) = false := by rfl) :
    EE X B env os (.Call (.Name x p) [a] [] pos) t (bnd w1 f) := PE.imp (pe_callTy hc hg hm hv (pa_cons ha pa_nil he) hn hdb he hpl) fun _ _ _ h => one_call sem h
theorem sem_len {K : PySem.W.Frag} : C1T (fun xs H Q => ∃ p ys, xs = [.ref p] ∧ (SqL K H p ys ∨ SqT K H p ys) ∧ Q (.int ys.length) H) (rLst r) rInt (fun x => ret (x.length : Int)) := fun F H v x P E Q fh ⟨p, vs, e1, h1, h2, h3⟩ hw k =>
  ⟨p, vs, by rw [e1], .inl (SqL.of (fh _ _ h1)), k _ hw _ F H (Grow.refl fh) (by rw [h3.length]; rfl)⟩
theorem sem_lenT {K : PySem.W.Frag} : C1T (fun xs H Q => ∃ p ys, xs = [.ref p] ∧ (SqL K H p ys ∨ SqT K H p ys) ∧ Q (.int ys.length) H) (rTup K r) rInt (fun x => ret (x.length : Int)) := fun F H v x P E Q fh ⟨p, vs, e1, h1, h2, h3⟩ hw k =>
  ⟨p, vs, by rw [e1], .inr (ex_t fh h1), k _ hw _ F H (Grow.refl fh) (by rw [h3.length]; rfl)⟩
theorem sem_lenS : C1T (fun xs H Q => ∃ z, xs = [.str z] ∧ z.length ≤ sizeLine ∧ Q (.int z.length) H) rStr rInt (fun x => ret (x.length : Int)) := fun F H v x P E Q fh ⟨e1, h1, _⟩ hw k =>
  ⟨x, by rw [e1], h1, k _ hw _ F H (Grow.refl fh) rfl⟩
theorem sem_sum {K : PySem.W.Frag} : C1T (rSum K) (rLst rInt) rInt (fun x => ret x.sum) := fun F H v x P E Q fh ⟨p, vs, e1, h1, h2, h3⟩ hw k =>
  ⟨p, x, by rw [e1], SqL.of (by rw [← ints_map h3]; exact fh _ _ h1), k _ hw _ F H (Grow.refl fh) rfl⟩
theorem sem_any {K : PySem.W.Frag} : C1T (rAny K) (rLst rBool) rBool (fun x => ret (x.any id)) := fun F H v x P E Q fh ⟨p, vs, e1, h1, h2, h3⟩ hw k =>
  ⟨p, x, by rw [e1], SqL.of (by rw [← bools_map h3]; exact fh _ _ h1), k _ hw _ F H (Grow.refl fh) rfl⟩
theorem sem_all {K : PySem.W.Frag} : C1T (rAll K) (rLst rBool) rBool (fun x => ret (x.all id)) := fun F H v x P E Q fh ⟨p, vs, e1, h1, h2, h3⟩ hw k =>
  ⟨p, x, by rw [e1], SqL.of (by rw [← bools_map h3]; exact fh _ _ h1), k _ hw _ F H (Grow.refl fh) rfl⟩
def maxL : List Int → Int
  | [] => 0
  | [x] => x
  | x :: y :: r => max x (maxL (y :: r))
def minL : List Int → Int
  | [] => 0
  | [x] => x
  | x :: y :: r => min x (minL (y :: r))
theorem maxL_is : ∀ {xs : List Int} {m : Int}, m ∈ xs → (∀ y, y ∈ xs → y ≤ m) → maxL xs = m
  | [], m, h, _ => by simp at h
  | [x], m, h, _ => by simp at h; exact h.symm
  | x :: y :: r, m, h, k => by
    show max x (maxL (y :: r)) = m
    have hx : x ≤ m := k x (List.mem_cons_self ..)
    have ub : ∀ (l : List Int), (∀ z, z ∈ l → z ≤ m) → l ≠ [] → maxL l ≤ m := by
      intro l
      induction l with
      | nil => intro _ q; exact absurd rfl q
      | cons a l ih =>
        intro q _
        cases l with
        | nil => exact q a (List.mem_cons_self ..)
        | cons b l =>
          have h1 := ih (fun z hz => q z (List.mem_cons_of_mem _ hz)) (by simp)
          have h2 := q a (List.mem_cons_self ..)
          show max a (maxL (b :: l)) ≤ m
          omega
    have h1 := ub (y :: r) (fun z hz => k z (List.mem_cons_of_mem _ hz)) (by simp)
    rcases List.mem_cons.mp h with e | e
    · omega
    · rw [maxL_is e fun z hz => k z (List.mem_cons_of_mem _ hz)]
      omega
theorem minL_is : ∀ {xs : List Int} {m : Int}, m ∈ xs → (∀ y, y ∈ xs → m ≤ y) → minL xs = m
  | [], m, h, _ => by simp at h
  | [x], m, h, _ => by simp at h; exact h.symm
  | x :: y :: r, m, h, k => by
    show min x (minL (y :: r)) = m
    have hx : m ≤ x := k x (List.mem_cons_self ..)
    have ub : ∀ (l : List Int), (∀ z, z ∈ l → m ≤ z) → l ≠ [] → m ≤ minL l := by
      intro l
      induction l with
      | nil => intro _ q; exact absurd rfl q
      | cons a l ih =>
        intro q _
        cases l with
        | nil => exact q a (List.mem_cons_self ..)
        | cons b l =>
          have h1 := ih (fun z hz => q z (List.mem_cons_of_mem _ hz)) (by simp)
          have h2 := q a (List.mem_cons_self ..)
          show m ≤ min a (minL (b :: l))
          omega
    have h1 := ub (y :: r) (fun z hz => k z (List.mem_cons_of_mem _ hz)) (by simp)
    rcases List.mem_cons.mp h with e | e
    · omega
    · rw [minL_is e fun z hz => k z (List.mem_cons_of_mem _ hz)]
      omega
theorem sem_max {K : PySem.W.Frag} : C1T (rMax K) (rLst rInt) rInt (fun x => chk (x ≠ []) (ret (maxL x))) := fun F H v x P E Q fh ⟨p, vs, e1, h1, h2, h3⟩ ⟨c, hw⟩ k =>
  ⟨p, x, by rw [e1], SqL.of (by rw [← ints_map h3]; exact fh _ _ h1), List.length_pos_iff.mpr c, fun m hm hk => by
    have q := maxL_is hm hk
    rw [← q]
    exact k _ hw _ F H (Grow.refl fh) rfl⟩
theorem sem_min {K : PySem.W.Frag} : C1T (rMin K) (rLst rInt) rInt (fun x => chk (x ≠ []) (ret (minL x))) := fun F H v x P E Q fh ⟨p, vs, e1, h1, h2, h3⟩ ⟨c, hw⟩ k =>
  ⟨p, x, by rw [e1], SqL.of (by rw [← ints_map h3]; exact fh _ _ h1), List.length_pos_iff.mpr c, fun m hm hk => by
    have q := minL_is hm hk
    rw [← q]
    exact k _ hw _ F H (Grow.refl fh) rfl⟩
theorem sem_abs : C1T (fun xs H Q => ∃ i, xs = [.int i] ∧ Q (.int (if i < 0 then -i else i)) H) rInt rInt (fun x => ret (x.natAbs : Int)) := fun F H v x P E Q fh e1 hw k =>
  ⟨x, by rw [e1], by
    have e : (if x < 0 then -x else x) = (x.natAbs : Int) := by split <;> omega
    rw [e]
    exact k _ hw _ F H (Grow.refl fh) rfl⟩
theorem sem_intI : C1T (fun xs H Q => (∃ i, xs = [.int i] ∧ Q (.int i) H) ∨ ∃ k, xs = [.bl k] ∧ Q (.int (if k then 1 else 0)) H) rInt rInt (fun x => ret x) := fun F H v x P E Q fh e1 hw k =>
  .inl ⟨x, by rw [e1], k _ hw _ F H (Grow.refl fh) rfl⟩
theorem sem_intB : C1T (fun xs H Q => (∃ i, xs = [.int i] ∧ Q (.int i) H) ∨ ∃ k, xs = [.bl k] ∧ Q (.int (if k then 1 else 0)) H) rBool rInt (fun x => ret (if x = true then 1 else 0)) := fun F H v x P E Q fh e1 hw k =>
  .inr ⟨x, by rw [e1], k _ hw _ F H (Grow.refl fh) rfl⟩
variable {w : W (List α)} {x : Str} {p : Pos}
theorem e_len (ha : EE X B env os a (rLst r) w) (hm : X.mg "len" = none) (hg : Gl X "len" := by rfl) (he : starEach [a] X.env = (false, eval a X.env) :: starEach [] X.env := by rfl) (hpl : (backTo pos (starEach [] X.env)).any (·.1) = false := by rfl) :
    EE X B env os (.Call (.Name "len" p) [a] [] pos) rInt (bnd w fun x => ret (x.length : Int)) := e_callB call_len_seq sem_len ha hm hg PySem.boot_len (by decide) (by decide) he hpl
theorem e_lenT (ha : EE X B env os a (rTup X.K r) w) (hm : X.mg "len" = none) (hg : Gl X "len" := by rfl) (he : starEach [a] X.env = (false, eval a X.env) :: starEach [] X.env := by rfl) (hpl : (backTo pos (starEach [] X.env)).any (·.1) = false := by rfl) :
    EE X B env os (.Call (.Name "len" p) [a] [] pos) rInt (bnd w fun x => ret (x.length : Int)) := e_callB call_len_seq sem_lenT ha hm hg PySem.boot_len (by decide) (by decide) he hpl
theorem e_lenS {w : W Str} (ha : EE X B env os a rStr w) (hm : X.mg "len" = none) (hg : Gl X "len" := by rfl) (he : starEach [a] X.env = (false, eval a X.env) :: starEach [] X.env := by rfl) (hpl : (backTo pos (starEach [] X.env)).any (·.1) = false := by rfl) :
    EE X B env os (.Call (.Name "len" p) [a] [] pos) rInt (bnd w fun x => ret (x.length : Int)) := e_callB call_len_str sem_lenS ha hm hg PySem.boot_len (by decide) (by decide) he hpl
theorem e_intI {w : W Int} (ha : EE X B env os a rInt w) (hm : X.mg "int" = none) (hg : Gl X "int" := by rfl) (he : starEach [a] X.env = (false, eval a X.env) :: starEach [] X.env := by rfl) (hpl : (backTo pos (starEach [] X.env)).any (·.1) = false := by rfl) :
    EE X B env os (.Call (.Name "int" p) [a] [] pos) rInt w := e_conv (e_callTy call_int1 sem_intI ha hm hg (by decide +kernel) (by decide) (by decide) he hpl) rfl
theorem e_intB {w : W Bool} (ha : EE X B env os a rBool w) (hm : X.mg "int" = none) (hg : Gl X "int" := by rfl) (he : starEach [a] X.env = (false, eval a X.env) :: starEach [] X.env := by rfl) (hpl : (backTo pos (starEach [] X.env)).any (·.1) = false := by rfl) :
    EE X B env os (.Call (.Name "int" p) [a] [] pos) rInt (bnd w fun x => ret (if x = true then 1 else 0)) := e_callTy call_int1 sem_intB ha hm hg (by decide +kernel) (by decide) (by decide) he hpl
theorem e_abs {w : W Int} (ha : EE X B env os a rInt w) (hm : X.mg "abs" = none) (hg : Gl X "abs" := by rfl) (he : starEach [a] X.env = (false, eval a X.env) :: starEach [] X.env := by rfl) (hpl : (backTo pos (starEach [] X.env)).any (·.1) = false := by rfl) :
    EE X B env os (.Call (.Name "abs" p) [a] [] pos) rInt (bnd w fun x => ret (x.natAbs : Int)) := e_callB call_abs sem_abs ha hm hg (by decide +kernel) (by decide) (by decide) he hpl
theorem e_sum {w : W (List Int)} (hc : X.calm = true) (ha : EE X B env os a (rLst rInt) w) (hm : X.mg "sum" = none) (hg : Gl X "sum" := by rfl) (he : starEach [a] X.env = (false, eval a X.env) :: starEach [] X.env := by rfl) (hpl : (backTo pos (starEach [] X.env)).any (·.1) = false := by rfl) :
    EE X B env os (.Call (.Name "sum" p) [a] [] pos) rInt (bnd w fun x => ret x.sum) := e_callB (cr_sum hc) sem_sum ha hm hg (by decide +kernel) (by decide) (by decide) he hpl
theorem e_max {w : W (List Int)} (hc : X.calm = true) (ha : EE X B env os a (rLst rInt) w) (hm : X.mg "max" = none) (hg : Gl X "max" := by rfl) (he : starEach [a] X.env = (false, eval a X.env) :: starEach [] X.env := by rfl) (hpl : (backTo pos (starEach [] X.env)).any (·.1) = false := by rfl) :
    EE X B env os (.Call (.Name "max" p) [a] [] pos) rInt (bnd w fun x => chk (x ≠ []) (ret (maxL x))) := e_callB (cr_max hc) sem_max ha hm hg (by decide +kernel) (by decide) (by decide) he hpl
theorem e_min {w : W (List Int)} (hc : X.calm = true) (ha : EE X B env os a (rLst rInt) w) (hm : X.mg "min" = none) (hg : Gl X "min" := by rfl) (he : starEach [a] X.env = (false, eval a X.env) :: starEach [] X.env := by rfl) (hpl : (backTo pos (starEach [] X.env)).any (·.1) = false := by rfl) :
    EE X B env os (.Call (.Name "min" p) [a] [] pos) rInt (bnd w fun x => chk (x ≠ []) (ret (minL x))) := e_callB (cr_min hc) sem_min ha hm hg (by decide +kernel) (by decide) (by decide) he hpl
theorem e_any {w : W (List Bool)} (hc : X.calm = true) (ha : EE X B env os a (rLst rBool) w) (hm : X.mg "any" = none) (hg : Gl X "any" := by rfl) (he : starEach [a] X.env = (false, eval a X.env) :: starEach [] X.env := by rfl) (hpl : (backTo pos (starEach [] X.env)).any (·.1) = false := by rfl) :
    EE X B env os (.Call (.Name "any" p) [a] [] pos) rBool (bnd w fun x => ret (x.any id)) := e_callB (cr_any hc) sem_any ha hm hg (by decide +kernel) (by decide) (by decide) he hpl
theorem e_all {w : W (List Bool)} (hc : X.calm = true) (ha : EE X B env os a (rLst rBool) w) (hm : X.mg "all" = none) (hg : Gl X "all" := by rfl) (he : starEach [a] X.env = (false, eval a X.env) :: starEach [] X.env := by rfl) (hpl : (backTo pos (starEach [] X.env)).any (·.1) = false := by rfl) :
    EE X B env os (.Call (.Name "all" p) [a] [] pos) rBool (bnd w fun x => ret (x.all id)) := e_callB (cr_all hc) sem_all ha hm hg (by decide +kernel) (by decide) (by decide) he hpl
end
end Mi

namespace Mi
open PySem L2 Evl

/-! ### what a loop walks -/
structure Walks {α : Type} (J : It) (F : Hp) (r : Rp α) (xs : List α) : Prop where
  go : ∀ i F1 H1, Ex F F1 → Ex F1 H1 → i < xs.length → J.go i H1
  yld : ∀ i F1 H1 v H2 x, Ex F F1 → Ex F1 H1 → J.yld i H1 v H2 → xs[i]? = some x → ∃ F2, Grow F1 H1 F2 H2 ∧ r.ok F2 v x
  stop : ∀ i F1 H1, Ex F F1 → Ex F1 H1 → xs.length ≤ i → J.stop i H1
def tSrc (B : Bs) (env : Env) (os : Os) {α : Type} (r : Rp α) (w : W (List α)) : TI := fun σ H R => ∃ F P, Sit B F H σ env os ∧ w P B.E0 ∧ ∀ xs, P xs → ∀ J F' H', Sit B F' H' σ env os → Ex F F' → Walks J F' r xs → xs.length ≤ sizeLine → R J H'
def ES (X : Cx) (B : Bs) (env : Env) (os : Os) (tg e : Expr) {α : Type} (r : Rp α) (w : W (List α)) : Prop := PI X tg e (tSrc B env os r w)
theorem PI.imp {X : Cx} {tg e : Expr} {t t' : TI} (h : PI X tg e t) (i : ∀ σ H R, t' σ H R → t σ H R) : PI X tg e t' := ⟨fun pins s σ H R I q => h.run pins s σ H R I (i _ _ _ q)⟩
def rangeI (lo hi : Int) : List Int := (List.range (hi - lo).toNat).map fun (k : Nat) => lo + (k : Int)
def RgOk (lo hi : Int) : Prop := -(2 ^ 62) ≤ lo ∧ lo < 2 ^ 62 ∧ -(2 ^ 62) ≤ hi ∧ hi < 2 ^ 62 ∧ hi - lo ≤ 16777216
theorem rangeI_len (lo hi : Int) : (rangeI lo hi).length = (hi - lo).toNat := by
  unfold rangeI
  rw [List.length_map, List.length_range]
theorem walks_rng {lo hi : Int} {F : Hp} : Walks (Itr lo (hi - lo).toNat) F rInt (rangeI lo hi) := by
  refine ⟨fun i F1 H1 _ _ h => ?_, fun i F1 H1 v H2 x _ fh y hx => ?_, fun i F1 H1 _ _ h => ?_⟩
  · rw [rangeI_len] at h
    exact h
  · obtain ⟨e1, e2⟩ := y
    subst e1
    refine ⟨F1, Grow.refl fh, ?_⟩
    unfold rangeI at hx
    rw [List.getElem?_map] at hx
    obtain ⟨k, hk, ek⟩ := Option.map_eq_some_iff.mp hx
    have : k = i := by
      rw [List.getElem?_range (by
        have := (List.getElem?_eq_some_iff.mp hk).1
        simpa using this)] at hk
      exact (Option.some.inj hk).symm
    subst this
    show v = .int x
    rw [e2, ← ek]
  · rw [rangeI_len] at h
    exact h
section
variable {X : Cx} {B : Bs} {env : Env} {os : Os} {pos : Pos} {α β γ : Type} {r : Rp α} {s : Rp β} {t : Rp γ} {e a b c tg : Expr}
theorem s_list {w : W (List α)} (h : EE X B env os e (rLst r) w) : ES X B env os tg e r w := PI.imp (pi_list h) fun σ H R ⟨F, P, S, hw, k⟩ => ⟨F, P, S, hw, fun xs hx v F' H' S' e' ⟨p, vs, e1, h1, h2, h3⟩ =>
  ⟨p, e1, ⟨vs, SqL.of (S'.fh _ _ h1)⟩, k xs hx _ F' H' S' e' ⟨fun i F1 H1 x1 x2 hi => by
    obtain ⟨v, hv⟩ : ∃ v, vs[i]? = some v := ⟨_, List.getElem?_eq_getElem (by rw [h3.length]; exact hi)⟩
    exact ⟨vs, v, SqL.of (x2 _ _ (x1 _ _ h1)), hv⟩, fun i F1 H1 u H2 x x1 x2 y hx => by
    obtain ⟨e2, y⟩ := y
    subst e2
    obtain ⟨v, hv, rv⟩ := Paired.get h3 hx
    have e3 : vs[i]? = some u := y vs (SqL.of (x2 _ _ (x1 _ _ h1)))
    rw [e3] at hv
    cases hv
    exact ⟨F1, Grow.refl x2, r.mono x1 rv⟩, fun i F1 H1 x1 x2 hi => ⟨vs, SqL.of (x2 _ _ (x1 _ _ h1)), by rw [h3.length]; exact hi⟩⟩ (by rw [← h3.length]; exact h2)⟩⟩
theorem s_tup {w : W (List α)} (h : EE X B env os e (rTup X.K r) w) : ES X B env os tg e r w := PI.imp (pi_tup h) fun σ H R ⟨F, P, S, hw, k⟩ => ⟨F, P, S, hw, fun xs hx v F' H' S' e' ⟨p, vs, e1, h1, h2, h3⟩ =>
  ⟨p, e1, ⟨vs, ex_t S'.fh h1⟩, k xs hx _ F' H' S' e' ⟨fun i F1 H1 x1 x2 hi => by
    obtain ⟨v, hv⟩ : ∃ v, vs[i]? = some v := ⟨_, List.getElem?_eq_getElem (by rw [h3.length]; exact hi)⟩
    exact ⟨vs, v, ex_t (x1.trans x2) h1, hv⟩, fun i F1 H1 u H2 x x1 x2 y hx => by
    obtain ⟨e2, y⟩ := y
    subst e2
    obtain ⟨v, hv, rv⟩ := Paired.get h3 hx
    have e3 : vs[i]? = some u := y vs (ex_t (x1.trans x2) h1)
    rw [e3] at hv
    cases hv
    exact ⟨F1, Grow.refl x2, r.mono x1 rv⟩, fun i F1 H1 x1 x2 hi => ⟨vs, ex_t (x1.trans x2) h1, by rw [h3.length]; exact hi⟩⟩ (by rw [← h3.length]; exact h2)⟩⟩
theorem len_rng {lo hi : Int} (h : RgOk lo hi) : (rangeI lo hi).length ≤ sizeLine := by
  rw [rangeI_len, sizeLine_eq]
  obtain ⟨_, _, _, _, h⟩ := h
  omega
def rng1 (n : Int) : W (List Int) := chk (RgOk 0 n) (ret (rangeI 0 n))
def rng2 (lo hi : Int) : W (List Int) := chk (RgOk lo hi) (ret (rangeI lo hi))
theorem s_rng1 {p : Pos} {w : W Int} (ha : EE X B env os a rInt w) (hm : X.mg "range" = none) (hg : Gl X "range" := by rfl) (hs : starEach [a] X.env = [(false, eval a X.env)] := by rfl) (he : starEach [a] X.env = (false, eval a X.env) :: starEach [] X.env := by rfl) :
    ES X B env os tg (.Call (.Name "range" p) [a] [] pos) rInt (bnd w rng1) := PI.imp (pi_range1 hg hm (pa_cons ha pa_nil he) hs) fun σ H R ⟨F, P, S, hw, k⟩ => ⟨F, _, S, hw, fun x ⟨c, hx⟩ v F' H' S' e' ok => by
  obtain ⟨_, _, c1, c2, _⟩ := id c
  refine ⟨x, by rw [ok], c1, c2, ?_⟩
  have q := k _ hx (Itr 0 (x - 0).toNat) F' H' S' e' walks_rng (len_rng c)
  rw [Int.sub_zero] at q
  exact q⟩
theorem s_rng2 {p : Pos} {w : W Int} {w2 : Int → W Int} (ha : EE X B env os a rInt w) (hb : ∀ x, EE X B env os b rInt (w2 x)) (hm : X.mg "range" = none) (hg : Gl X "range" := by rfl) (hs : starEach [a, b] X.env = [(false, eval a X.env), (false, eval b X.env)] := by rfl) (hs2 : starEach [b] X.env = [(false, eval b X.env)] := by rfl)
    (he : starEach [a, b] X.env = (false, eval a X.env) :: starEach [b] X.env := by rfl) (he2 : starEach [b] X.env = (false, eval b X.env) :: starEach [] X.env := by rfl) :
    ES X B env os tg (.Call (.Name "range" p) [a, b] [] pos) rInt (bnd w fun x => bnd (w2 x) fun y => rng2 x y) := PI.imp (pi_range2 hg hm (pa_cons ha (pa_cons (PE.ex hb) pa_nil he2) he) hs hs2) fun σ H R ⟨F, P, S, hw, k⟩ => ⟨F, _, S, hw, fun x hx v F1 H1 S1 e1 ok1 => ⟨x, F1, _, S1, hx, fun y ⟨c, hy⟩ u F2 H2 S2 e2 ok2 => by
  obtain ⟨c1, c2, c3, c4, _⟩ := id c
  exact ⟨x, y, by rw [ok1, ok2], ⟨c1, c2, c3, c4⟩, k _ hy _ F2 H2 S2 (e1.trans e2) walks_rng (len_rng c)⟩⟩⟩
def zip2 (xs : List α) (ys : List β) : List (α × β) := xs.zip ys
theorem s_zip {p tpos : Pos} {elts : List Expr} {kk : Nat} {w : W (List α)} {w2 : List α → W (List β)} (ha : EE X B env os a (rLst r) w) (hb : ∀ x, EE X B env os b (rLst s) (w2 x)) (hm : X.mg "zip" = none) (hg : Gl X "zip" := by rfl)
    (hs : starEach [a, b] X.env = (false, eval a X.env) :: starEach [b] X.env := by rfl) (he2 : starEach [b] X.env = (false, eval b X.env) :: starEach [] X.env := by rfl) (hpl : (backTo pos (starEach [b] X.env)).any (·.1) = false := by rfl) :
    ES X B env os (.Tuple elts kk tpos) (.Call (.Name "zip" p) [a, b] [] pos) (rT2 X.K r s) (bnd w fun x => bnd (w2 x) fun y => ret (x.zip y)) :=
  PI.imp (pi_zip hg hm (pa_cons ha (pa_cons (PE.ex hb) pa_nil he2) hs) hs hpl) fun σ H R ⟨F, P, S, hw, k⟩ => ⟨F, _, S, hw, fun x hx v F1 H1 S1 e1 ⟨p1, vs, q1, h1, z1, ok1⟩ => ⟨x, F1, _, S1, hx, fun y hy u F2 H2 S2 e2 ⟨p2, us, q2, h2, z2, ok2⟩ => by
  subst q1 q2
  refine ⟨p1, p2, vs, us, rfl, SqL.of (S2.fh _ _ (e2 _ _ h1)), SqL.of (S2.fh _ _ h2), ?_⟩
  have l1 := ok1.length
  have l2 := ok2.length
  have lz : (x.zip y).length = min vs.length us.length := by rw [List.length_zip, l1, l2]
  refine k _ hy _ F2 H2 S2 (e1.trans e2) ⟨fun i F3 H3 x1 x2 hi => ?_, fun i F3 H3 u H4 z x1 x2 yy hz => ?_, fun i F3 H3 x1 x2 hi => ?_⟩ (by rw [lz]; exact Nat.le_trans (Nat.min_le_left _ _) z1)
  · rw [lz] at hi
    obtain ⟨v, hv⟩ : ∃ v, vs[i]? = some v := ⟨_, List.getElem?_eq_getElem (by omega)⟩
    obtain ⟨u, hu⟩ : ∃ u, us[i]? = some u := ⟨_, List.getElem?_eq_getElem (by omega)⟩
    exact ⟨vs, us, v, u, SqL.of (x2 _ _ (x1 _ _ (e2 _ _ h1))), SqL.of (x2 _ _ (x1 _ _ h2)), hv, hu⟩
  · obtain ⟨T, v1, v2, ev, hT, eH, y1, y2⟩ := yy
    subst ev eH
    obtain ⟨z1', z2'⟩ := z
    have hz' := List.getElem?_zip_eq_some.mp hz
    obtain ⟨v, hv, rv⟩ := Paired.get ok1 hz'.1
    obtain ⟨u, hu, ru⟩ := Paired.get ok2 hz'.2
    have q1 := y1 vs (SqL.of (x2 _ _ (x1 _ _ (e2 _ _ h1))))
    have q2 := y2 us (SqL.of (x2 _ _ (x1 _ _ h2)))
    rw [q1] at hv
    rw [q2] at hu
    cases hv
    cases hu
    have g : Grow F3 H3 (upd F3 T (.tup [v1, v2])) (upd H3 T (.tup [v1, v2])) := Grow.alloc x2 hT
    exact ⟨_, g, T, v1, v2, rfl, SqT.of upd_same, r.mono ((e2.trans x1).trans g.f) rv, s.mono (x1.trans g.f) ru⟩
  · rw [lz] at hi
    exact ⟨vs, us, SqL.of (x2 _ _ (x1 _ _ (e2 _ _ h1))), SqL.of (x2 _ _ (x1 _ _ h2)), by omega⟩⟩⟩
theorem s_enum {p tpos : Pos} {elts : List Expr} {kk : Nat} {w : W (List α)} (ha : EE X B env os a (rLst r) w) (hm : X.mg "enumerate" = none) (hg : Gl X "enumerate" := by rfl) (hs : starEach [a] X.env = [(false, eval a X.env)] := by rfl)
    (he : starEach [a] X.env = (false, eval a X.env) :: starEach [] X.env := by rfl) :
    ES X B env os (.Tuple elts kk tpos) (.Call (.Name "enumerate" p) [a] [] pos) (rT2 X.K rInt r) (bnd w fun x => ret ((rangeI 0 x.length).zip x)) :=
  PI.imp (pi_enum hg hm (pa_cons ha pa_nil he) hs) fun σ H R ⟨F, P, S, hw, k⟩ => ⟨F, _, S, hw, fun x hx v F1 H1 S1 e1 ⟨p1, vs, q1, h1, z1, ok1⟩ => by
  subst q1
  refine ⟨p1, vs, rfl, SqL.of (S1.fh _ _ h1), ?_⟩
  have l1 := ok1.length
  have lr : (rangeI 0 (x.length : Int)).length = x.length := by rw [rangeI_len]; omega
  have lz : ((rangeI 0 (x.length : Int)).zip x).length = vs.length := by rw [List.length_zip, lr, l1]; exact Nat.min_self _
  refine k _ hx _ F1 H1 S1 e1 ⟨fun i F3 H3 x1 x2 hi => ?_, fun i F3 H3 u H4 z x1 x2 yy hz => ?_, fun i F3 H3 x1 x2 hi => ?_⟩ (by rw [lz]; exact z1)
  · rw [lz] at hi
    obtain ⟨v, hv⟩ : ∃ v, vs[i]? = some v := ⟨_, List.getElem?_eq_getElem hi⟩
    exact ⟨vs, v, SqL.of (x2 _ _ (x1 _ _ h1)), hv⟩
  · obtain ⟨T, v2, ev, hT, eH, y1⟩ := yy
    subst ev eH
    obtain ⟨z1', z2'⟩ := z
    have hz' := List.getElem?_zip_eq_some.mp hz
    obtain ⟨v, hv, rv⟩ := Paired.get ok1 hz'.2
    have q1 := y1 vs (SqL.of (x2 _ _ (x1 _ _ h1)))
    rw [q1] at hv
    cases hv
    have hi : z1' = (i : Int) := by
      have h := hz'.1
      unfold rangeI at h
      rw [List.getElem?_map] at h
      obtain ⟨m, hm, em⟩ := Option.map_eq_some_iff.mp h
      rw [List.getElem?_range (by have := (List.getElem?_eq_some_iff.mp hm).1; simpa using this)] at hm
      have := Option.some.inj hm
      omega
    have g : Grow F3 H3 (upd F3 T (.tup [.int (i : Nat), v2])) (upd H3 T (.tup [.int (i : Nat), v2])) := Grow.alloc x2 hT
    exact ⟨_, g, T, _, v2, rfl, SqT.of upd_same, (by show V.int _ = V.int _; rw [hi]), r.mono (x1.trans g.f) rv⟩
  · rw [lz] at hi
    exact ⟨vs, SqL.of (x2 _ _ (x1 _ _ h1)), hi⟩⟩
end
end Mi

namespace Mi
open PySem L2 Evl

/-! ### targets -/
/-- the target takes x: the slots is are written -/
def TgT (g : TG) {α : Type} (r : Rp α) (is : List Nat) (envT : Env → α → Env) : Prop := ∀ (F H : Hp) (v : V) (x : α) (σ : L2.St) (env : Env) (Q : L2.St → Hp → Prop), r.ok F v x → Ex F H → EnvOk F env σ →
  (∀ σ', EnvOk F (envT env x) σ' → (∀ vs : List Nat, (∀ i ∈ is, i ∈ vs) → wipe σ' vs = wipe σ vs) → Q σ' H) → g v σ H Q
theorem wipe_set {σ : L2.St} {i : Nat} {o : Option V} : ∀ {vs : List Nat}, i ∈ vs → wipe (σ.set i o) vs = wipe σ vs
  | [], h => by simp at h
  | v :: vs, h => by
    show (wipe (σ.set i o) vs).set v none = (wipe σ vs).set v none
    by_cases hm : i ∈ vs
    · rw [wipe_set hm]
    · have e : i = v := by
        rcases List.mem_cons.mp h with e | e
        · exact e
        · exact absurd e hm
      subst e
      have key : ∀ (us : List Nat), i ∉ us → wipe (σ.set i o) us = (wipe σ us).set i o := by
        intro us
        induction us with
        | nil => intro _; rfl
        | cons u us ih =>
          intro hn
          have h1 : i ≠ u := fun z => hn (z ▸ List.mem_cons_self ..)
          have h2 : i ∉ us := fun z => hn (List.mem_cons_of_mem _ z)
          show (wipe (σ.set i o) us).set u none = ((wipe σ us).set u none).set i o
          rw [ih h2, List.set_comm _ _ h1]
      rw [key vs hm, List.set_set]
section
variable {α β γ : Type} {r : Rp α} {s : Rp β} {t : Rp γ} {K : PySem.W.Frag}
theorem tg_name {i : Nat} : TgT (gName i) r [i] (fun env x => env.set i (sv r x)) := fun F H v x σ env Q ok fh he k =>
  k _ (EnvOk.set (s := sv r x) ⟨v, rfl, ok⟩ he) fun vs h => wipe_set (h i (List.mem_cons_self ..))
theorem tg_pair {i j : Nat} : TgT (gTup K 2 (gCons (gName i) (gCons (gName j) gNil))) (rT2 K r s) [i, j] (fun env x => (env.set i (sv r x.1)).set j (sv s x.2)) := fun F H v x σ env Q ⟨a, v1, v2, e1, h1, ok1, ok2⟩ fh he k =>
  ⟨a, [v1, v2], e1, ex_t fh h1, rfl, v1, [v2], rfl, v2, [], rfl, rfl, k _ (EnvOk.set (s := sv s x.2) ⟨v2, rfl, ok2⟩ (EnvOk.set (s := sv r x.1) ⟨v1, rfl, ok1⟩ he)) fun vs h => by
    rw [wipe_set (h j (by simp)), wipe_set (h i (by simp))]⟩
theorem tg_trip {i j l : Nat} : TgT (gTup K 3 (gCons (gName i) (gCons (gName j) (gCons (gName l) gNil)))) (rT3 K r s t) [i, j, l] (fun env x => ((env.set i (sv r x.1)).set j (sv s x.2.1)).set l (sv t x.2.2)) :=
  fun F H v x σ env Q ⟨a, v1, v2, v3, e1, h1, ok1, ok2, ok3⟩ fh he k =>
  ⟨a, [v1, v2, v3], e1, ex_t fh h1, rfl, v1, [v2, v3], rfl, v2, [v3], rfl, v3, [], rfl, rfl, k _ (EnvOk.set (s := sv t x.2.2) ⟨v3, rfl, ok3⟩ (EnvOk.set (s := sv s x.2.1) ⟨v2, rfl, ok2⟩ (EnvOk.set (s := sv r x.1) ⟨v1, rfl, ok1⟩ he))) fun vs h => by
    rw [wipe_set (h l (by simp)), wipe_set (h j (by simp)), wipe_set (h i (by simp))]⟩
end

/-! ### comprehensions -/
def wipeE (env : Env) : List Nat → Env
  | [] => env
  | v :: vs => (wipeE env vs).set v sa
theorem EnvOk.wipe {F : Hp} {env : Env} {σ : L2.St} (h : EnvOk F env σ) : ∀ vs : List Nat, EnvOk F (wipeE env vs) (L2.wipe σ vs)
  | [] => h
  | v :: vs => (EnvOk.wipe h vs).set trivial
theorem drop_cons {α : Type} {xs : List α} {i : Nat} {x : α} (h : xs[i]? = some x) : xs.drop i = x :: xs.drop (i + 1) := by
  obtain ⟨hl, e⟩ := List.getElem?_eq_some_iff.mp h
  rw [List.drop_eq_getElem_cons hl, e]
section
variable {X : Cx} {B : Bs} {env : Env} {os : Os} {α β : Type} {r : Rp α} {s : Rp β} {elt tg iter : Expr} {ifs : List Expr} {scope : Scope} {pos : Pos}
/-- the reading of a comprehension, by the mirror: M a mark, D the list so far ys, x the item -/
theorem lc_read {w : W (List α)} {c : α → W Bool} {f : α → W β} {own : List (Str × Nat)} {g : TG} {tt : TT} {te : TE} {is : List Nat} {envT : Env → α → Env}
    (st : ∀ M D ys x σ H Q, tOfT (B.at M) (envT (wipeE env (own.map (fun p : Str × Nat => p.2))) x) ((D, oLst s ys) :: os) (c x) σ H Q → tt σ H Q)
    (se : ∀ M D ys x σ H Q, tOf (B.at M) (envT (wipeE env (own.map (fun p : Str × Nat => p.2))) x) ((D, oLst s ys) :: os) s (f x) σ H Q → te σ H Q)
    (tgt : TgT g r is envT) (his : ∀ i ∈ is, i ∈ own.map (fun p : Str × Nat => p.2)) {σ : L2.St} {H : Hp} {Q : VK} (h : tNew B env os s (bnd w fun xs => filtW c f xs) σ H Q) :
    tLc (tSrc B env os r w) g tt te (own.map (fun p : Str × Nat => p.2)) σ H Q := by
  obtain ⟨F, P, S, hw, k⟩ := h
  refine ⟨F, _, S, hw, fun xs hxs J F1 H1 S1 e1 wk hz D hD => ?_⟩
  refine ⟨(fun i m H => m = xs.length - i ∧ i ≤ xs.length ∧ ∃ F' ys, ys.length ≤ i ∧ Sit (B.at F1) F' H σ env ((D, oLst s ys) :: os) ∧ filtW c f (xs.drop i) (fun zs => P (ys ++ zs)) B.E0 : Nat → Nat → Hp → Prop), ?_, ?_⟩
  · refine ⟨xs.length, by simp, Nat.zero_le _, F1, [], Nat.zero_le _, ?_, ?_⟩
    · have S1' : Sit (B.at F1) F1 H1 σ env os := ⟨⟨S1.fin.fh, S1.fin.bf, Ex.refl F1, S1.fin.bb, S1.fin.ios, S1.fin.keep⟩, S1.env, S1.ow, S1.nd⟩
      exact S1'.newOwn hD ⟨[], rfl, Nat.zero_le _, .nil⟩
    · rw [List.drop_zero]
      exact hxs
  rintro i m H2 ⟨rfl, hi, F2, ys, hyl, S2, hw2⟩
  have e12 : Ex F1 F2 := S2.fin.mrk
  by_cases hlt : i < xs.length
  · obtain ⟨x, hx⟩ : ∃ x, xs[i]? = some x := ⟨_, List.getElem?_eq_getElem hlt⟩
    refine .inr ⟨wk.go i F2 H2 e12 S2.fh hlt, (fun H' => ∃ F' ys, ys.length ≤ i + 1 ∧ Sit (B.at F1) F' H' σ env ((D, oLst s ys) :: os) ∧ filtW c f (xs.drop (i + 1)) (fun zs => P (ys ++ zs)) B.E0 : Hp → Prop), ?_, fun v H3 y => ?_⟩
    · intro H' h
      exact ⟨xs.length - (i + 1), by omega, rfl, hlt, h⟩
    obtain ⟨F3, gr, rv⟩ := wk.yld i F2 H2 v H3 x e12 S2.fh y hx
    have S3 : Sit (B.at F1) F3 H3 σ env ((D, oLst s ys) :: os) := S2.grow gr
    refine tgt F3 H3 v x (wipe σ (own.map (fun p : Str × Nat => p.2))) (wipeE env (own.map (fun p : Str × Nat => p.2))) _ rv S3.fh (S3.env.wipe _) fun σ' hσ hwipe => ⟨?_, ?_⟩
    · rw [hwipe _ his]
      have ww : ∀ (τ : L2.St) (vs : List Nat), wipe (wipe τ vs) vs = wipe τ vs := by
        intro τ vs
        have key : ∀ (us vs : List Nat), (∀ u ∈ us, u ∈ vs) → wipe (wipe τ us) vs = wipe τ vs := by
          intro us
          induction us with
          | nil => intro vs _; rfl
          | cons u us ih =>
            intro vs h
            show wipe ((wipe τ us).set u none) vs = wipe τ vs
            rw [wipe_set (h u (List.mem_cons_self ..)), ih vs fun z hz => h z (List.mem_cons_of_mem _ hz)]
        exact key vs vs fun _ h => h
      exact ww σ _
    · rw [drop_cons hx] at hw2
      have hw3 : c x (fun b => (if b = true then bnd (f x) fun y => bnd (filtW c f (xs.drop (i + 1))) fun ys => ret (y :: ys) else filtW c f (xs.drop (i + 1))) (fun zs => P (ys ++ zs)) B.E0) B.E0 := hw2
      have St : Sit (B.at F1) F3 H3 σ' (envT (wipeE env (own.map (fun p : Str × Nat => p.2))) x) ((D, oLst s ys) :: os) := ⟨S3.fin, hσ, S3.ow, S3.nd⟩
      refine st F1 D ys x σ' H3 _ ⟨F3, _, St, hw3, fun b hb F4 H4 S4 e34 => ?_⟩
      cases b with
      | false => exact ⟨F4, ys, by omega, ⟨S4.fin, S3.env.mono e34, S4.ow, S4.nd⟩, hb⟩
      | true =>
        have hb' : f x (fun y => filtW c f (xs.drop (i + 1)) (fun zs => P (ys ++ (y :: zs))) B.E0) B.E0 := hb
        refine se F1 D ys x σ' H4 _ ⟨F4, _, S4, hb', fun z hz v' F5 H5 S5 e45 okz => ?_⟩
        obtain ⟨hF5, ⟨o, ho, vs, eo, hl, pr⟩, hB5⟩ := S5.ow (D, oLst s ys) (List.mem_cons_self ..)
        subst eo
        have hlen : vs.length < sizeLine := by
          have := pr.length
          omega
        refine ⟨vs, ho, hlen, F5, ys ++ [z], by rw [List.length_append, List.length_singleton]; omega, ?_, ?_⟩
        · have S6 := S5.change (j := 0) (ow' := oLst s (ys ++ [z])) (o' := .lst (vs ++ [v'])) rfl ⟨vs ++ [v'], rfl, by rw [List.length_append, List.length_singleton]; omega, Paired.app pr (.cons okz .nil)⟩
          exact ⟨S6.fin, (S3.env.mono e34).mono e45, S6.ow, S6.nd⟩
        · have q : (fun zs => P (ys ++ [z] ++ zs)) = fun zs => P (ys ++ (z :: zs)) := by
            funext zs
            rw [List.append_assoc]
            rfl
          show filtW c f (xs.drop (i + 1)) (fun zs => P (ys ++ [z] ++ zs)) B.E0
          rw [q]
          exact hz
  · have e : i = xs.length := by omega
    subst e
    refine .inl ⟨wk.stop _ F2 H2 e12 S2.fh (Nat.le_refl _), ?_⟩
    rw [List.drop_length] at hw2
    have hp : P (ys ++ []) := hw2
    rw [List.append_nil] at hp
    exact k ys hp D F2 H2 ⟨⟨S2.fin.fh, S2.fin.bf, S1.fin.mrk.trans e12, S2.fin.bb, S2.fin.ios, S2.fin.keep⟩, S2.env, S2.ow, S2.nd⟩ (e1.trans e12)
theorem filtW_true {α β : Type} {f : α → W β} : ∀ xs : List α, filtW (fun _ => ret true) f xs = mapW f xs
  | [] => rfl
  | x :: xs => by
    show bnd (f x) _ = bnd (f x) _
    congr 1
    funext y
    rw [filtW_true xs]
/-- an item's place in a block -/
abbrev envI (env : Env) (own : List (Str × Nat)) {α : Type} (envT : Env → α → Env) (x : α) : Env := envT (wipeE env (own.map (fun p : Str × Nat => p.2))) x
abbrev teC (B : Bs) (env : Env) (os : Os) (own : List (Str × Nat)) {α β : Type} (envT : Env → α → Env) (s : Rp β) (f : α → W β) : TE := fun σ H Q => ∃ p : Hp × Addr × List β × α, tOf (B.at p.1) (envI env own envT p.2.2.2) ((p.2.1, oLst s p.2.2.1) :: os) s (f p.2.2.2) σ H Q
abbrev ttC (B : Bs) (env : Env) (os : Os) (own : List (Str × Nat)) {α β : Type} (envT : Env → α → Env) (s : Rp β) (c : α → W Bool) : TT := fun σ H Q => ∃ p : Hp × Addr × List β × α, tOfT (B.at p.1) (envI env own envT p.2.2.2) ((p.2.1, oLst s p.2.2.1) :: os) (c p.2.2.2) σ H Q
section
variable {w : W (List α)} {c : α → W Bool} {f : α → W β} {own : List (Str × Nat)} {g : TG} {is : List Nat} {envT : Env → α → Env} {test : Expr}
theorem lc_readM (tgt : TgT g r is envT) (his : ∀ i ∈ is, i ∈ own.map (fun p : Str × Nat => p.2)) {σ : L2.St} {H : Hp} {Q : VK} (h : tNew B env os s (bnd w fun xs => mapW f xs) σ H Q) :
    tLc (tSrc B env os r w) g tYes (teC B env os own envT s f) (own.map (fun p : Str × Nat => p.2)) σ H Q := by
  have e : (fun xs => mapW f xs) = fun xs => filtW (fun _ => ret true) f xs := by
    funext xs
    exact (filtW_true xs).symm
  rw [e] at h
  exact lc_read (own := own) (fun M D ys x σ H Q ⟨F, P, S, hw, k⟩ => k true hw F H S (Ex.refl F)) (fun M D ys x σ H Q h => ⟨(M, D, ys, x), h⟩) tgt his h
theorem lc_readF (tgt : TgT g r is envT) (his : ∀ i ∈ is, i ∈ own.map (fun p : Str × Nat => p.2)) {σ : L2.St} {H : Hp} {Q : VK} (h : tNew B env os s (bnd w fun xs => filtW c f xs) σ H Q) :
    tLc (tSrc B env os r w) g (ttC B env os own envT s c) (teC B env os own envT s f) (own.map (fun p : Str × Nat => p.2)) σ H Q :=
  lc_read (own := own) (fun M D ys x σ H Q h => ⟨(M, D, ys, x), h⟩) (fun M D ys x σ H Q h => ⟨(M, D, ys, x), h⟩) tgt his h
theorem ex_teC {Y : Cx} (h : ∀ (M : Hp) (D : Addr) (ys : List β) (x : α), EE Y (B.at M) (envI env own envT x) ((D, oLst s ys) :: os) elt s (f x)) : PE Y elt (teC B env os own envT s f) :=
  ⟨fun pins s σ H Q I ⟨p, q⟩ => (h p.1 p.2.1 p.2.2.1 p.2.2.2).run pins s σ H Q I q⟩
theorem ex_ttC {Y : Cx} (h : ∀ (M : Hp) (D : Addr) (ys : List β) (x : α), ET Y (B.at M) (envI env own envT x) ((D, oLst s ys) :: os) test (c x)) : PT Y test (ttC B env os own envT s c) :=
  ⟨fun pins s σ H Q I ⟨p, q⟩ => (h p.1 p.2.1 p.2.2.1 p.2.2.2).run pins s σ H Q I q⟩
variable (hc : X.calm = true) (hN : X.N.Nodup) (src : ES X B env os tg iter r w) (ok : BlkOk X.N X.env.scope scope own) (tgt : TgT g r is envT)
  (hg : ∀ (s : Shared) (H : Hp) (C : Addr) (cl : List (Str × Addr)) (fp : List Addr), PG (X.blk s H scope (compEnvC scope cl C X.env) fp) tg g) (his : ∀ i ∈ is, i ∈ own.map (fun p : Str × Nat => p.2))
  (ht : ∀ (s' : Shared) (H : Hp) (C : Addr) (cl : List (Str × Addr)) (fp : List Addr) (M : Hp) (D : Addr) (ys : List β) (x : α), ET (X.blk s' H scope (compEnvC scope cl C X.env) fp) (B.at M) (envI env own envT x) ((D, oLst s ys) :: os) test (c x))
  (he : ∀ (s' : Shared) (H : Hp) (C : Addr) (cl : List (Str × Addr)) (fp : List Addr) (M : Hp) (D : Addr) (ys : List β) (x : α), EE (X.blk s' H scope (compEnvC scope cl C X.env) fp) (B.at M) (envI env own envT x) ((D, oLst s ys) :: os) elt s (f x))
include hc hN src ok tgt hg his he
theorem n_comp (hs : ∀ x, foldedSetIterable iter X.env x = pure x := by intro _; rfl) : EN X B env os (.ListComp elt [⟨tg, iter, [], 0⟩] scope pos) s (bnd w fun xs => mapW f xs) :=
  PE.imp (pe_lc hc hN src ok hg (fun _ _ _ _ _ => pts_nil) (fun s' H C cl fp => ex_teC (he s' H C cl fp)) hs) fun σ H Q h => lc_readM tgt his h
/-- name = [..] where the name is a plain local of the same line -/
theorem c_comp {i : Nat} {y : Str} {py spos : Pos} (hy : X.N[i]? = some y) (hyl : X.env.scope.names.lookup y = some .local) (hsw : swapsWith (.ListComp elt [⟨tg, iter, [], 0⟩] scope pos) (some (.Name y py)) spos.line X.env = pure true)
    (hs : ∀ x, foldedSetIterable iter X.env x = pure x := by intro _; rfl) : PS X (.Assign [.Name y py] (.ListComp elt [⟨tg, iter, [], 0⟩] scope pos) spos) (tAsg (tNew B env os s (bnd w fun xs => mapW f xs)) (gName i)) := by
  have h := ps_setLc (pos := pos) (spos := spos) (py := py) hc hN hy hyl hsw src ok hg (fun _ _ _ _ _ => pts_nil) (fun s' H C cl fp => ex_teC (he s' H C cl fp)) hs
  exact ⟨fun pins s σ H D I q => h.run pins s σ H D I (lc_readM tgt his q)⟩
include ht
theorem n_compF (hs : ∀ x, foldedSetIterable iter X.env x = pure x := by intro _; rfl) : EN X B env os (.ListComp elt [⟨tg, iter, [test], 0⟩] scope pos) s (bnd w fun xs => filtW c f xs) :=
  PE.imp (pe_lc hc hN src ok hg (fun s' H C cl fp => pts_one (ex_ttC (ht s' H C cl fp))) (fun s' H C cl fp => ex_teC (he s' H C cl fp)) hs)
    fun σ H Q h => lc_readF tgt his h
theorem c_compF {i : Nat} {y : Str} {py spos : Pos} (hy : X.N[i]? = some y) (hyl : X.env.scope.names.lookup y = some .local) (hsw : swapsWith (.ListComp elt [⟨tg, iter, [test], 0⟩] scope pos) (some (.Name y py)) spos.line X.env = pure true)
    (hs : ∀ x, foldedSetIterable iter X.env x = pure x := by intro _; rfl) : PS X (.Assign [.Name y py] (.ListComp elt [⟨tg, iter, [test], 0⟩] scope pos) spos) (tAsg (tNew B env os s (bnd w fun xs => filtW c f xs)) (gName i)) := by
  have h := ps_setLc (pos := pos) (spos := spos) (py := py) hc hN hy hyl hsw src ok hg (fun s' H C cl fp => pts_one (ex_ttC (ht s' H C cl fp))) (fun s' H C cl fp => ex_teC (he s' H C cl fp)) hs
  exact ⟨fun pins s σ H D I q => h.run pins s σ H D I (lc_readF tgt his q)⟩
end
end
end Mi

namespace Mi
open PySem L2 Evl

/-! ### for -/
section
variable {X : Cx} {B : Bs} {env : Env} {os : Os} {α β ρ S : Type} {r : Rp α} {tg iter : Expr} {body rest : List Stmt} {pos : Pos} {post : Post β}
theorem Sit.at {F H : Hp} {σ : L2.St} (s : Sit B F H σ env os) (M : Hp) (h : Ex M F) : Sit (B.at M) F H σ env os := ⟨⟨s.fin.fh, s.fin.bf, h, s.fin.bb, s.fin.ios, s.fin.keep⟩, s.env, s.ow, s.nd⟩
theorem Sit.un {F H M : Hp} {σ : L2.St} (s : Sit (B.at M) F H σ env os) (h : Ex B.M M) : Sit B F H σ env os := ⟨⟨s.fin.fh, s.fin.bf, h.trans s.fin.mrk, s.fin.bb, s.fin.ios, s.fin.keep⟩, s.env, s.ow, s.nd⟩
theorem Fn.un {F H M : Hp} (s : Fn (B.at M) F H) (h : Ex B.M M) : Fn B F H := ⟨s.fh, s.bf, h.trans s.mrk, s.bb, s.ios, s.keep⟩
/-- what comes behind a loop -/
theorem b_forG {w : W (List α)} {f : S → α → W (Fl S ρ)} {w3 : Fl S ρ → W β} {g : TG} {is : List Nat} {envT : Env → α → Env} {osR : Os} {ro : Rp ρ} (inj : ρ → β) (envS : S → Env) (osS : S → Os) (s0 : S) (hc : X.calm = true) (hp : PassesOwn (model X.prog X.w) X.A X.env X.xe)
    (src : ES X B env os tg iter r w) (tgt : TgT g r is envT) (hg : PG X tg g)
    (hb : ∀ M s x, BG X (B.at M) (envT (envS s) x) (osS s) body (pFl (B.at M) osR ro envS osS) (f s x))
    (hr : ∀ s, BG X B (envS s) (osS s) rest post (w3 (.nx s))) (hrt : ∀ x, w3 (.rt x) = ret (inj x)) (hpo : RtOk B post osR ro inj)
    (le0 : EnvLe env (envS s0)) (os0 : os = osS s0) (hs : ∀ x, foldedSetIterable iter X.env x = pure x := by intro _; rfl) :
    BG X B env os (.For tg iter body [] pos :: rest) post (bnd w fun xs => bnd (forF f s0 xs) w3) := by
  have hb' : PSs X body (fun D σ H => ∃ p : Hp × S × α, tBG (B.at p.1) (envT (envS p.2.1) p.2.2) (osS p.2.1) (pFl (B.at p.1) osR ro envS osS) (f p.2.1 p.2.2) D σ H) := PSs.ex fun p => hb p.1 p.2.1 p.2.2
  have hr' : PSs X rest (fun D σ H => ∃ s, tBG B (envS s) (osS s) post (w3 (.nx s)) D σ H) := PSs.ex hr
  refine PSs.imp (pss_cons (ps_for hp hc src hg hb' hs) hr') fun D σ H ⟨F, P, S0, hw, k⟩ => ⟨F, _, S0, hw, fun xs hxs J F1 H1 S1 e1 wk hz => ?_⟩
  refine ⟨(fun i m σ H => m = xs.length - i ∧ i ≤ xs.length ∧ ∃ F' s, Sit (B.at F1) F' H σ (envS s) (osS s) ∧ forF f s (xs.drop i) (fun q => w3 q P B.E0) B.E0 : Nat → Nat → L2.St → Hp → Prop), ?_, ?_⟩
  · refine ⟨xs.length, by simp, Nat.zero_le _, F1, s0, ?_, ?_⟩
    · subst os0
      exact (S1.at F1 (Ex.refl F1)).le le0
    · rw [List.drop_zero]
      exact hxs
  rintro i m σ2 H2 ⟨rfl, hi, F2, s, S2, hw2⟩
  have e12 : Ex F1 F2 := S2.fin.mrk
  by_cases hlt : i < xs.length
  · obtain ⟨x, hx⟩ : ∃ x, xs[i]? = some x := ⟨_, List.getElem?_eq_getElem hlt⟩
    refine .inr ⟨wk.go i F2 H2 e12 S2.fh hlt, (fun σ' H' => ∃ F' s, Sit (B.at F1) F' H' σ' (envS s) (osS s) ∧ forF f s (xs.drop (i + 1)) (fun q => w3 q P B.E0) B.E0 : L2.St → Hp → Prop), ?_, fun v H3 y => ?_⟩
    · intro σ' H' h
      exact ⟨xs.length - (i + 1), by omega, rfl, hlt, h⟩
    obtain ⟨F3, gr, rv⟩ := wk.yld i F2 H2 v H3 x e12 S2.fh y hx
    have S3 := S2.grow gr
    refine tgt F3 H3 v x σ2 (envS s) _ rv S3.fh S3.env fun σ' hσ _ => ?_
    rw [drop_cons hx] at hw2
    have hw3 : f s x (fun q => flGo (fun s' => forF f s' (xs.drop (i + 1))) q (fun q => w3 q P B.E0) B.E0) B.E0 := hw2
    refine ⟨(F1, s, x), F3, _, ⟨S3.fin, hσ, S3.ow, S3.nd⟩, hw3, fun q hq => ?_⟩
    cases q with
    | nx s' => exact fun σ4 F4 H4 S4 => ⟨F4, s', S4, hq⟩
    | ct s' => exact fun σ4 F4 H4 S4 => ⟨F4, s', S4, hq⟩
    | bk s' => exact fun σ4 F4 H4 S4 => ⟨s', F4, P, S4.un S1.fin.mrk, hq, k⟩
    | rt z =>
      have hq' : w3 (.rt z) P B.E0 := hq
      rw [hrt z] at hq'
      exact fun v5 F5 H5 fn ow okv => hpo.ok D z (k _ hq') v5 F5 H5 (fn.un S1.fin.mrk) ow okv
  · have e : i = xs.length := by omega
    subst e
    rw [List.drop_length] at hw2
    have hq : w3 (.nx s) P B.E0 := hw2
    exact .inl ⟨wk.stop _ F2 H2 e12 S2.fh (Nat.le_refl _), s, F2, P, S2.un S1.fin.mrk, hq, k⟩
/-- a loop that is never left early -/
theorem b_for {w : W (List α)} {f : S → α → W S} {w3 : S → W β} {g : TG} {is : List Nat} {envT : Env → α → Env} (envS : S → Env) (osS : S → Os) (s0 : S) (hc : X.calm = true) (hp : PassesOwn (model X.prog X.w) X.A X.env X.xe)
    (src : ES X B env os tg iter r w) (tgt : TgT g r is envT) (hg : PG X tg g)
    (hb : ∀ M s x, BG X (B.at M) (envT (envS s) x) (osS s) body (pNx (B.at M) envS osS) (f s x))
    (hr : ∀ s, BG X B (envS s) (osS s) rest post (w3 s))
    (le0 : EnvLe env (envS s0)) (os0 : os = osS s0) (hs : ∀ x, foldedSetIterable iter X.env x = pure x := by intro _; rfl) :
    BG X B env os (.For tg iter body [] pos :: rest) post (bnd w fun xs => bnd (forW f s0 xs) w3) := by
  have hb' : PSs X body (fun D σ H => ∃ p : Hp × S × α, tBG (B.at p.1) (envT (envS p.2.1) p.2.2) (osS p.2.1) (pNx (B.at p.1) envS osS) (f p.2.1 p.2.2) D σ H) := PSs.ex fun p => hb p.1 p.2.1 p.2.2
  have hr' : PSs X rest (fun D σ H => ∃ s, tBG B (envS s) (osS s) post (w3 s) D σ H) := PSs.ex hr
  refine PSs.imp (pss_cons (ps_for hp hc src hg hb' hs) hr') fun D σ H ⟨F, P, S0, hw, k⟩ => ⟨F, _, S0, hw, fun xs hxs J F1 H1 S1 e1 wk hz => ?_⟩
  refine ⟨(fun i m σ H => m = xs.length - i ∧ i ≤ xs.length ∧ ∃ F' s, Sit (B.at F1) F' H σ (envS s) (osS s) ∧ forW f s (xs.drop i) (fun q => w3 q P B.E0) B.E0 : Nat → Nat → L2.St → Hp → Prop), ?_, ?_⟩
  · refine ⟨xs.length, by simp, Nat.zero_le _, F1, s0, ?_, ?_⟩
    · subst os0
      exact (S1.at F1 (Ex.refl F1)).le le0
    · rw [List.drop_zero]
      exact hxs
  rintro i m σ2 H2 ⟨rfl, hi, F2, s, S2, hw2⟩
  have e12 : Ex F1 F2 := S2.fin.mrk
  by_cases hlt : i < xs.length
  · obtain ⟨x, hx⟩ : ∃ x, xs[i]? = some x := ⟨_, List.getElem?_eq_getElem hlt⟩
    refine .inr ⟨wk.go i F2 H2 e12 S2.fh hlt, (fun σ' H' => ∃ F' s, Sit (B.at F1) F' H' σ' (envS s) (osS s) ∧ forW f s (xs.drop (i + 1)) (fun q => w3 q P B.E0) B.E0 : L2.St → Hp → Prop), ?_, fun v H3 y => ?_⟩
    · intro σ' H' h
      exact ⟨xs.length - (i + 1), by omega, rfl, hlt, h⟩
    obtain ⟨F3, gr, rv⟩ := wk.yld i F2 H2 v H3 x e12 S2.fh y hx
    have S3 := S2.grow gr
    refine tgt F3 H3 v x σ2 (envS s) _ rv S3.fh S3.env fun σ' hσ _ => ?_
    rw [drop_cons hx] at hw2
    exact ⟨(F1, s, x), F3, _, ⟨S3.fin, hσ, S3.ow, S3.nd⟩, hw2, fun s' hq σ4 F4 H4 S4 => ⟨F4, s', S4, hq⟩⟩
  · have e : i = xs.length := by omega
    subst e
    rw [List.drop_length] at hw2
    exact .inl ⟨wk.stop _ F2 H2 e12 S2.fh (Nat.le_refl _), s, F2, P, S2.un S1.fin.mrk, hw2, k⟩
end

/-! ### while -/
/-- c and b until c is False: there is a number of turns -/
def whileN {S : Type} (c : S → W Bool) (b : S → W S) : Nat → S → W S
  | 0, _ => fail
  | n + 1, s => bnd (c s) fun t => if t = true then bnd (b s) (whileN c b n) else ret s
def whileW {S : Type} (c : S → W Bool) (b : S → W S) (s : S) : W S := fun P E => ∃ n, whileN c b n s P E
section
variable {X : Cx} {B : Bs} {env : Env} {os : Os} {β S : Type} {test : Expr} {body rest : List Stmt} {pos : Pos} {post : Post β}
theorem b_while {c : S → W Bool} {f : S → W S} {w3 : S → W β} (envS : S → Env) (osS : S → Os) (s0 : S) (hp : PassesOwn (model X.prog X.w) X.A X.env X.xe)
    (ht : ∀ s, ET X B (envS s) (osS s) test (c s)) (hb : ∀ s, BG X B (envS s) (osS s) body (pNx B envS osS) (f s)) (hr : ∀ s, BG X B (envS s) (osS s) rest post (w3 s))
    (le0 : EnvLe env (envS s0)) (os0 : os = osS s0) : BG X B env os (.While test body [] pos :: rest) post (bnd (whileW c f s0) w3) := by
  have ht' : PT X test (fun σ H Q => ∃ s, tOfT B (envS s) (osS s) (c s) σ H Q) := ⟨fun pins s σ H Q I ⟨i, q⟩ => (ht i).run pins s σ H Q I q⟩
  have hb' : PSs X body (fun D σ H => ∃ s, tBG B (envS s) (osS s) (pNx B envS osS) (f s) D σ H) := PSs.ex hb
  have hr' : PSs X rest (fun D σ H => ∃ s, tBG B (envS s) (osS s) post (w3 s) D σ H) := PSs.ex hr
  refine PSs.imp (pss_cons (ps_while hp ht' hb') hr') fun D σ H ⟨F, P, S0, ⟨n, hw⟩, k⟩ => ?_
  refine ⟨(fun m σ H => ∃ F' s, Sit B F' H σ (envS s) (osS s) ∧ whileN c f m s (fun q => w3 q P B.E0) B.E0 : Nat → L2.St → Hp → Prop), ⟨n, F, s0, ?_, hw⟩, ?_⟩
  · subst os0
    exact S0.le le0
  rintro m σ2 H2 ⟨F2, s, S2, hw2⟩
  cases m with
  | zero => exact False.elim hw2
  | succ m =>
    have hw3 : c s (fun t => (if t = true then bnd (f s) (whileN c f m) else ret s : W S) (fun q => w3 q P B.E0) B.E0) B.E0 := hw2
    refine ⟨s, F2, _, S2, hw3, fun t hq F3 H3 S3 e3 => ?_⟩
    cases t with
    | false => exact ⟨s, F3, P, S3, hq, k⟩
    | true =>
      refine ⟨(fun σ' H' => ∃ F' s, Sit B F' H' σ' (envS s) (osS s) ∧ whileN c f m s (fun q => w3 q P B.E0) B.E0 : L2.St → Hp → Prop), fun σ' H' h => ⟨m, Nat.lt_succ_self m, h⟩, ?_⟩
      exact ⟨s, F3, _, S3, hq, fun s' hs' σ4 F4 H4 S4 => ⟨F4, s', S4, hs'⟩⟩
end
end Mi

namespace Mi
open PySem L2 Evl

/-! ### more new lists -/
section
variable {X : Cx} {B : Bs} {env : Env} {os : Os} {pos : Pos} {α β γ : Type} {r : Rp α} {s : Rp β} {t : Rp γ} {e a b c : Expr}
def catL (xs ys : List α) : W (List α) := chk (xs.length + ys.length ≤ sizeLine) (ret (xs ++ ys))
theorem n_cat {w1 : W (List α)} {w2 : List α → W (List α)} (ha : EE X B env os a (rLst r) w1) (hb : ∀ x, EE X B env os b (rLst r) (w2 x)) : EN X B env os (.BinOp a .Add b pos) r (bnd w1 fun x => bnd (w2 x) fun y => catL x y) :=
  PE.imp (pe_op op_cat ha (PE.ex hb)) fun σ H Q ⟨F, P, S, hw, k⟩ => ⟨F, _, S, hw, fun x hx v F1 H1 S1 e1 ⟨p1, vs, q1, h1, z1, ok1⟩ => ⟨x, F1, _, S1, hx, fun y ⟨c, hy⟩ u F2 H2 S2 e2 ⟨p2, us, q2, h2, z2, ok2⟩ => by
  have hl : vs.length + us.length ≤ sizeLine := by rw [ok1.length, ok2.length]; exact c
  exact ⟨p1, p2, vs, us, q1, q2, S2.fh _ _ (e2 _ _ h1), S2.fh _ _ h2, hl, fun p hp => k _ hy p F2 _ (S2.newOwn hp ⟨_, rfl, by rw [List.length_append]; exact hl, Paired.app (Paired.imp (fun _ _ => r.mono e2) ok1) ok2⟩) (e1.trans e2)⟩⟩⟩
def repL (xs : List α) (k : Int) : W (List α) := chk (-(2 ^ 63) ≤ k ∧ k < 2 ^ 63 ∧ xs.length * k.toNat ≤ sizeLine) (ret (List.replicate k.toNat xs).flatten)
theorem flat_paired {R : V → α → Prop} {vs : List V} {xs : List α} (h : Paired R vs xs) : ∀ n : Nat, Paired R (List.replicate n vs).flatten (List.replicate n xs).flatten
  | 0 => .nil
  | n + 1 => by
    rw [List.replicate_succ, List.replicate_succ, List.flatten_cons, List.flatten_cons]
    exact Paired.app h (flat_paired h n)
theorem n_rep {w1 : W (List α)} {w2 : List α → W Int} (ha : EE X B env os a (rLst r) w1) (hb : ∀ x, EE X B env os b rInt (w2 x)) : EN X B env os (.BinOp a .Mult b pos) r (bnd w1 fun x => bnd (w2 x) fun k => repL x k) :=
  PE.imp (pe_op op_rep ha (PE.ex hb)) fun σ H Q ⟨F, P, S, hw, k⟩ => ⟨F, _, S, hw, fun x hx v F1 H1 S1 e1 ⟨p1, vs, q1, h1, z1, ok1⟩ => ⟨x, F1, _, S1, hx, fun y ⟨⟨c1, c2, c3⟩, hy⟩ u F2 H2 S2 e2 ok2 => by
  have hl : vs.length * y.toNat ≤ sizeLine := by rw [ok1.length]; exact c3
  exact ⟨p1, y, vs, q1, ok2, S2.fh _ _ (e2 _ _ h1), c1, c2, hl, fun p hp => k _ hy p F2 _ (S2.newOwn hp ⟨_, rfl, by
    rw [List.length_flatten, List.map_replicate, List.sum_replicate_nat, Nat.mul_comm]; exact hl, flat_paired (Paired.imp (fun _ _ => r.mono e2) ok1) y.toNat⟩) (e1.trans e2)⟩⟩⟩
def cutL (xs : List α) (lo hi : Option Int) : List α := (xs.drop (HT.sIx xs.length 0 lo)).take (HT.sIx xs.length xs.length hi - HT.sIx xs.length 0 lo)
theorem cut_paired {R : V → α → Prop} {vs : List V} {xs : List α} (h : Paired R vs xs) (lo hi : Option Int) : Paired R (cutV vs lo hi) (cutL xs lo hi) := by
  unfold cutV cutL
  rw [h.length]
  exact Paired.takeR _ (Paired.dropR _ h)
/-- a part of a slice -/
def tOpt (B : Bs) (env : Env) (os : Os) (w : W (Option Int)) : TO := fun σ H Q => ∃ F P, Sit B F H σ env os ∧ w P B.E0 ∧ ∀ x, P x → ∀ F' H', Sit B F' H' σ env os → Ex F F' → Q x H'
def EO (X : Cx) (B : Bs) (env : Env) (os : Os) (e : Option Expr) (w : W (Option Int)) : Prop := PO X e (tOpt B env os w)
theorem PO.imp {e : Option Expr} {t t' : TO} (h : PO X e t) (i : ∀ σ H Q, t' σ H Q → t σ H Q) : PO X e t' := ⟨fun pins s σ H Q I q => h.run pins s σ H Q I (i _ _ _ q)⟩
theorem PO.ex {e : Option Expr} {ι : Type} {t : ι → TO} (h : ∀ i, PO X e (t i)) : PO X e (fun σ H Q => ∃ i, t i σ H Q) := ⟨fun pins s σ H Q I ⟨i, q⟩ => (h i).run pins s σ H Q I q⟩
theorem o_none : EO X B env os none (ret none) := PO.imp po_none fun σ H Q ⟨F, P, S, hw, k⟩ => k none hw F H S (Ex.refl F)
theorem o_some {w : W Int} (h : EE X B env os e rInt w) : EO X B env os (some e) (bnd w fun i => ret (some i)) := PO.imp (po_some h) fun σ H Q ⟨F, P, S, hw, k⟩ => ⟨F, _, S, hw, fun x hx v F1 H1 S1 e1 ok => ⟨x, ok, k _ hx F1 H1 S1 e1⟩⟩
theorem n_slice {w1 : W (List α)} {w2 w3 : W (Option Int)} {lo hi : Option Expr} {p2 : Pos} (ha : EE X B env os a (rLst r) w1) (hl : EO X B env os lo w2) (hh : EO X B env os hi w3) :
    EN X B env os (.Subscript a (.Slice lo hi none p2) pos) r (bnd w1 fun x => bnd w2 fun l => bnd w3 fun h => ret (cutL x l h)) :=
  PE.imp (pe_slice sl_list ha hl hh) fun σ H Q ⟨F, P, S, hw, k⟩ => ⟨F, _, S, hw, fun x hx v F1 H1 S1 e1 ⟨p1, vs, q1, h1, z1, ok1⟩ => ⟨F1, _, S1, hx, fun l hl' F2 H2 S2 e2 => ⟨F2, _, S2, hl', fun h hh' F3 H3 S3 e3 => by
  exact ⟨p1, vs, q1, SqL.of (S3.fh _ _ (e3 _ _ (e2 _ _ h1))), fun p hp => k _ hh' p F3 _ (S3.newOwn hp ⟨_, rfl, Nat.le_trans (cutV_length vs l h) z1, cut_paired (Paired.imp (fun _ _ => r.mono (e2.trans e3)) ok1) l h⟩) ((e1.trans e2).trans e3)⟩⟩⟩⟩
theorem e_sliceS {w1 : W Str} {w2 w3 : W (Option Int)} {lo hi : Option Expr} {p2 : Pos} (ha : EE X B env os a rStr w1) (hl : EO X B env os lo w2) (hh : EO X B env os hi w3) :
    EE X B env os (.Subscript a (.Slice lo hi none p2) pos) rStr (bnd w1 fun x => bnd w2 fun l => bnd w3 fun h => ret (cutS x l h)) :=
  PE.imp (pe_slice sl_str ha hl hh) fun σ H Q ⟨F, P, S, hw, k⟩ => ⟨F, _, S, hw, fun x hx v F1 H1 S1 e1 ⟨q1, z1, z2⟩ => ⟨F1, _, S1, hx, fun l hl' F2 H2 S2 e2 => ⟨F2, _, S2, hl', fun h hh' F3 H3 S3 e3 => by
  refine ⟨x, q1, z1, k _ hh' _ F3 H3 S3 ((e1.trans e2).trans e3) ⟨rfl, ?_, ?_⟩⟩
  rotate_left
  · unfold PyData.strOk at z2 ⊢
    unfold cutS
    rw [Array.all_eq_true'] at z2
    rw [← Array.all_toList, List.all_eq_true]
    intro y hy
    exact z2 y (Array.mem_toList_iff.mp (List.mem_of_mem_drop (List.mem_of_mem_take hy)))
  unfold cutS Str.length
  rw [List.size_toArray, List.length_take, List.length_drop]
  have z1' : x.cps.toList.length ≤ sizeLine := z1
  omega⟩⟩⟩
/-- list(xs), of a list or a tuple -/
theorem n_listL {w : W (List α)} {p : Pos} (ha : EE X B env os a (rLst r) w) (hm : X.mg "list" = none) (hg : Gl X "list" := by rfl) (he : starEach [a] X.env = (false, eval a X.env) :: starEach [] X.env := by rfl) (hpl : (backTo pos (starEach [] X.env)).any (·.1) = false := by rfl) :
    EN X B env os (.Call (.Name "list" p) [a] [] pos) r w := PE.imp (pe_callTy call_list_of hg hm (by decide +kernel) (pa_cons ha pa_nil he) (by decide) (by decide) he hpl) fun σ H Q ⟨F, P, S, hw, k⟩ => ⟨F, _, S, hw, fun x hx v F1 H1 S1 e1 ⟨p1, vs, q1, h1, z1, ok1⟩ =>
  ⟨p1, vs, by rw [q1], .inl (SqL.of (S1.fh _ _ h1)), fun l hl => k x hx l F1 _ (S1.newOwn hl ⟨vs, rfl, z1, ok1⟩) e1⟩⟩
theorem n_listT {w : W (List α)} {p : Pos} (ha : EE X B env os a (rTup X.K r) w) (hm : X.mg "list" = none) (hg : Gl X "list" := by rfl) (he : starEach [a] X.env = (false, eval a X.env) :: starEach [] X.env := by rfl) (hpl : (backTo pos (starEach [] X.env)).any (·.1) = false := by rfl) :
    EN X B env os (.Call (.Name "list" p) [a] [] pos) r w := PE.imp (pe_callTy call_list_of hg hm (by decide +kernel) (pa_cons ha pa_nil he) (by decide) (by decide) he hpl) fun σ H Q ⟨F, P, S, hw, k⟩ => ⟨F, _, S, hw, fun x hx v F1 H1 S1 e1 ⟨p1, vs, q1, h1, z1, ok1⟩ =>
  ⟨p1, vs, by rw [q1], .inr (ex_t S1.fh h1), fun l hl => k x hx l F1 _ (S1.newOwn hl ⟨vs, rfl, z1, ok1⟩) e1⟩⟩
/-- tuple(xs) -/
theorem e_tupleL {w : W (List α)} {p : Pos} (ha : EE X B env os a (rLst r) w) (hm : X.mg "tuple" = none) (hg : Gl X "tuple" := by rfl) (he : starEach [a] X.env = (false, eval a X.env) :: starEach [] X.env := by rfl) (hpl : (backTo pos (starEach [] X.env)).any (·.1) = false := by rfl) :
    EE X B env os (.Call (.Name "tuple" p) [a] [] pos) (rTup X.K r) w := PE.imp (pe_callTy call_tuple_of hg hm (by decide +kernel) (pa_cons ha pa_nil he) (by decide) (by decide) he hpl) fun σ H Q ⟨F, P, S, hw, k⟩ => ⟨F, _, S, hw, fun x hx v F1 H1 S1 e1 ⟨p1, vs, q1, h1, z1, ok1⟩ =>
  ⟨p1, vs, by rw [q1], .inl ⟨SqL.of (S1.fh _ _ h1), fun l hl => by
    have g : Grow F1 H1 (upd F1 l (.tup vs)) (upd H1 l (.tup vs)) := Grow.alloc S1.fh hl
    exact k x hx (.ref l) _ _ (S1.grow g) (e1.trans g.f) ⟨l, vs, rfl, SqT.of upd_same, z1, Paired.imp (fun _ _ => r.mono g.f) ok1⟩⟩⟩⟩
end

/-! ### one's own list: made, read, changed, let go -/
theorem erase_perm {α : Type} : ∀ {l : List α} {j : Nat} {x : α}, l[j]? = some x → (x :: l.eraseIdx j).Perm l
  | [], _, _, h => by simp at h
  | a :: l, 0, x, h => by
    simp at h
    subst h
    exact List.Perm.refl _
  | a :: l, j + 1, x, h => by
    show (x :: a :: l.eraseIdx j).Perm (a :: l)
    exact (List.Perm.swap a x _).trans ((erase_perm (by simpa using h)).cons a)
theorem Sit.pick {B : Bs} {F H : Hp} {σ : L2.St} {env : Env} {os : Os} {j : Nat} {p : Addr × Own} (s : Sit B F H σ env os) (hj : os[j]? = some p) : Sit B F H σ env (p :: os.eraseIdx j) := by
  have hm : p ∈ os := List.mem_of_getElem? hj
  have hjl : j < os.length := (List.getElem?_eq_some_iff.mp hj).1
  have he : os[j] = p := (List.getElem?_eq_some_iff.mp hj).2
  have hp : (p :: os.eraseIdx j).Perm os := erase_perm hj
  refine ⟨s.fin, s.env, fun q hq => s.ow q ((hp.mem_iff).mp hq), ?_⟩
  exact (hp.map _).nodup_iff.mpr s.nd
section
variable {X : Cx} {B : Bs} {env : Env} {os : Os} {pos pos' : Pos} {α β γ : Type} {r : Rp α} {s : Rp β} {t : Rp γ} {e a b c : Expr} {rest : List Stmt} {post : Post β}
/-- name = a new list that the def will change -/
theorem b_own (i : Nat) {x : Str} {w1 : W (List α)} {w2 : List α → W β} (he : EN X B env os e r w1) (hr : ∀ a xs, BG X B (env.set i (sv (rAdr a) ())) ((a, oLst r xs) :: os) rest post (w2 xs)) (hN : X.N.Nodup) (hi : X.N[i]? = some x := by rfl)
    (hx : Loc X.env.scope x := by first | exact Or.inl rfl | exact Or.inr rfl) (hs : swapsWith e (some (.Name x pos')) pos.line X.env = pure false := by rfl) (hf : X.fn x = true ∨ X.env.scope.names.lookup x = some .local := by first | exact .inl rfl | exact .inr rfl | assumption) :
    BG X B env os (.Assign [.Name x pos'] e pos :: rest) post (bnd w1 w2) :=
  PSs.imp (pss_cons (ps_set hN hi hx he hs hf) (PSs.ex fun p : Addr × List α => hr p.1 p.2)) fun D σ H ⟨F, P, S, hw, k⟩ => ⟨F, _, S, hw, fun xs hx a F' H' S' _ => ⟨(a, xs), F', P, S'.store ⟨_, rfl, rfl⟩, hx, k⟩⟩
/-- the same where the comprehension itself stores the name (c: the statement's rule) -/
theorem b_ownC (i : Nat) {x : Str} {w1 : W (List α)} {w2 : List α → W β} (c : PS X (.Assign [.Name x pos'] e pos) (tAsg (tNew B env os r w1) (gName i))) (hr : ∀ a xs, BG X B (env.set i (sv (rAdr a) ())) ((a, oLst r xs) :: os) rest post (w2 xs)) :
    BG X B env os (.Assign [.Name x pos'] e pos :: rest) post (bnd w1 w2) :=
  PSs.imp (pss_cons c (PSs.ex fun p : Addr × List α => hr p.1 p.2)) fun D σ H ⟨F, P, S, hw, k⟩ => ⟨F, _, S, hw, fun xs hx a F' H' S' _ => ⟨(a, xs), F', P, S'.store ⟨_, rfl, rfl⟩, hx, k⟩⟩
theorem b_setC (i : Nat) {x : Str} {w1 : W (List α)} {w2 : List α → W β} (c : PS X (.Assign [.Name x pos'] e pos) (tAsg (tNew B env os r w1) (gName i))) (hr : ∀ xs, BG X B (env.set i (sv (rLst r) xs)) os rest post (w2 xs)) :
    BG X B env os (.Assign [.Name x pos'] e pos :: rest) post (bnd w1 w2) :=
  PSs.imp (pss_cons c (PSs.ex hr)) fun D σ H ⟨F, P, S, hw, k⟩ => ⟨F, _, S, hw, fun xs hx a F' H' S' _ => by
  obtain ⟨F2, o, e2, h1, ⟨vs, h2, h3, h4⟩, S2⟩ := S'.freeze
  subst h2
  exact ⟨xs, F2, P, S2.store ⟨_, rfl, a, vs, rfl, h1, h3, h4⟩, hx, k⟩⟩
/-- it is let go -/
theorem b_freeze (i j : Nat) {a : Addr} {xs : List α} {w : W β} (hi : env[i]? = some (sv (rAdr a) ())) (hj : os[j]? = some (a, oLst r xs)) (h : BG X B (env.set i (sv (rLst r) xs)) (os.eraseIdx j) rest post w) : BG X B env os rest post w :=
  PSs.imp h fun D σ H ⟨F, P, S, hw, k⟩ => by
  obtain ⟨F2, o, e2, h1, ⟨vs, h2, h3, h4⟩, S2⟩ := (S.pick hj).freeze
  subst h2
  obtain ⟨ov, g1, v, g2, g3⟩ := S2.env.get hi
  have g3' : v = .ref a := g3
  subst g2 g3'
  have q : σ.set i (some (.ref a)) = σ := set_same g1
  have S3 := S2.store (i := i) (sl := sv (rLst r) xs) (v := .ref a) ⟨_, rfl, a, vs, rfl, h1, h3, h4⟩
  rw [q] at S3
  exact ⟨F2, P, S3, hw, k⟩
theorem Sit.own {F H : Hp} {σ : L2.St} {i j : Nat} {a : Addr} {xs : List α} (S : Sit B F H σ env os) (hi : env[i]? = some (sv (rAdr a) ())) (hj : os[j]? = some (a, oLst r xs)) : σ[i]? = some (some (.ref a)) ∧ F a = none ∧ ∃ vs, H a = some (.lst vs) ∧ vs.length ≤ sizeLine ∧ Paired (r.ok F) vs xs := by
  obtain ⟨ov, g1, v, g2, g3⟩ := S.env.get hi
  have g3' : v = .ref a := g3
  subst g2 g3'
  obtain ⟨z1, ⟨o, z2, vs, z3, z4, z5⟩, _⟩ := S.ow _ (List.mem_of_getElem? hj)
  subst z3
  exact ⟨g1, z1, vs, z2, z4, z5⟩
theorem e_lenO (i j : Nat) {x : Str} {p p2 : Pos} {a : Addr} {xs : List α} (hi : env[i]? = some (sv (rAdr a) ())) (hj : os[j]? = some (a, oLst r xs)) (hm : X.mg "len" = none) (hN : X.N[i]? = some x := by rfl) (hv : Vis X.env.scope x := by first | exact Or.inl rfl | exact Or.inr (Or.inl rfl) | exact Or.inr (Or.inr rfl))
    (hg : Gl X "len" := by rfl) (hd : (x == ("__debug__" : Str)) = false := by decide) (hcd : (x == ("__classdict__" : Str)) = false := by decide) (he : starEach [.Name x p2] X.env = (false, eval (.Name x p2) X.env) :: starEach [] X.env := by rfl) (hpl : (backTo pos (starEach [] X.env)).any (·.1) = false := by rfl) :
    EE X B env os (.Call (.Name "len" p) [.Name x p2] [] pos) rInt (ret (xs.length : Int)) :=
  PE.imp (pe_callB call_len_seq hg hm PySem.boot_len (pa_cons (pe_var hN hv hd hcd) pa_nil he) (by decide) (by decide) he hpl) fun σ H Q ⟨F, P, S, hw, k⟩ => by
  obtain ⟨g1, g2, vs, g3, g4, g5⟩ := S.own hi hj
  exact ⟨.ref a, g1, a, vs, rfl, .inl (SqL.of g3), k _ hw _ F H S (Ex.refl F) (by rw [g5.length]; rfl)⟩
theorem e_idxO (i j : Nat) {x : Str} {p2 : Pos} {a : Addr} {xs : List α} {w : W Int} (hi : env[i]? = some (sv (rAdr a) ())) (hj : os[j]? = some (a, oLst r xs)) (hb : EE X B env os b rInt w) (hN : X.N[i]? = some x := by rfl)
    (hv : Vis X.env.scope x := by first | exact Or.inl rfl | exact Or.inr (Or.inl rfl) | exact Or.inr (Or.inr rfl)) (hd : (x == ("__debug__" : Str)) = false := by decide) (hcd : (x == ("__classdict__" : Str)) = false := by decide) (hs : PlainIx b := by exact fun _ _ => rfl) :
    EE X B env os (.Subscript (.Name x p2) b pos) r (bnd w fun k => idx xs k) :=
  PE.imp (pe_ix ix_list (pe_var hN hv hd hcd) hb hs) fun σ H Q ⟨F, P, S, hw, k⟩ => by
  obtain ⟨g1, _, _, _, _, _⟩ := S.own hi hj
  refine ⟨.ref a, g1, F, _, S, hw, fun z hz v F1 H1 S1 e1 ok => ?_⟩
  obtain ⟨_, g2, vs, g3, g4, g5⟩ := S1.own hi hj
  obtain ⟨y, hy, py⟩ := idx_of hz
  obtain ⟨u, hu, ru⟩ := atI_paired g5 hy
  exact ⟨a, vs, z, u, rfl, ok, SqL.of g3, hu, k y py u F1 H1 S1 e1 ru⟩
/-- found.append(e) -/
theorem b_append (i j : Nat) {x : Str} {p1 p2 p3 : Pos} {a : Addr} {xs : List α} {w : W α} {w2 : α → W β} (hi : env[i]? = some (sv (rAdr a) ())) (hj : os[j]? = some (a, oLst r xs)) (he : EE X B env os e r w)
    (hr : ∀ y, BG X B env (os.set j (a, oLst r (xs ++ [y]))) rest post (w2 y)) (hN : X.N[i]? = some x := by rfl)
    (hv : Vis X.env.scope x := by first | exact Or.inl rfl | exact Or.inr (Or.inl rfl) | exact Or.inr (Or.inr rfl)) (hd : (x == ("__debug__" : Str)) = false := by decide) (hcd : (x == ("__classdict__" : Str)) = false := by decide)
    (hbase : attributeBase (.Name x p1) "append" X.env (eval (.Name x p1) X.env) = eval (.Name x p1) X.env := by rfl)
    (hfew : ((backTo p3 (starEach [e] X.env)).all (fun x => !x.1) && (backToKw p3 (keywordEach [] X.env)).all (fun x => x.1.isSome) && decide (([e] : List Expr).length + ([] : List Keyword).length + (if ([] : List Keyword).isEmpty then 0 else 1) < 30)) = true := by rfl)
    (hline : (p2.endLine == p3.line) = true := by rfl) (hs : starEach [e] X.env = (false, eval e X.env) :: starEach [] X.env := by rfl) (hplain : (backTo p3 (starEach [] X.env)).any (·.1) = false := by rfl)
    (hsw : swapsWith (.Call (.Attribute (.Name x p1) "append" p2) [e] [] p3) none pos.line X.env = pure false := by rfl) :
    BG X B env os (.Expr (.Call (.Attribute (.Name x p1) "append" p2) [e] [] p3) pos :: rest) post (bnd w fun y => chk (xs.length < sizeLine) (w2 y)) :=
  PSs.imp (pss_cons (ps_expr (pe_bm PySem.F.plainAttrs_list PySem.F.slot_list_append PySem.F.type_list_append mt_append (pe_var hN hv hd hcd) (pa_cons he pa_nil hs) hbase hfew hline hs hplain) hsw) (PSs.ex hr)) fun D σ H ⟨F, P, S, hw, k⟩ => by
  obtain ⟨g1, g2, vs, g3, g4, g5⟩ := S.own hi hj
  refine ⟨.ref a, g1, .inl ⟨rfl, vs, SqL.of g3⟩, F, _, S, hw, fun y ⟨hc, hy⟩ v F1 H1 S1 e1 ok => ?_⟩
  obtain ⟨_, g2, vs', g3', g4', g5'⟩ := S1.own hi hj
  have hl : vs'.length < sizeLine := by rw [g5'.length]; exact hc
  exact ⟨a, vs', v, rfl, rfl, g3', hl, y, F1, P, S1.change hj ⟨_, rfl, by rw [List.length_append, List.length_singleton]; omega, Paired.app g5' (.cons ok .nil)⟩, hy, k⟩
/-- found[k] = e -/
def putL (xs : List α) (k : Int) (y : α) : W (List α) := match ixN xs.length k with
  | some j => ret (xs.set j y)
  | none => fail
theorem putL_of {xs : List α} {k : Int} {y : α} {P : List α → Prop} {E : Er → Prop} (h : putL xs k y P E) : ∃ j, ixN xs.length k = some j ∧ P (xs.set j y) := by
  unfold putL at h
  cases e : ixN xs.length k with
  | none => rw [e] at h; exact False.elim h
  | some j => rw [e] at h; exact ⟨j, rfl, h⟩
theorem b_put (i j : Nat) {x : Str} {p1 p2 : Pos} {a : Addr} {xs : List α} {w : W α} {w1 : α → W Int} {w2 : List α → W β} (hi : env[i]? = some (sv (rAdr a) ())) (hj : os[j]? = some (a, oLst r xs)) (he : EE X B env os e r w) (hk : ∀ y, EE X B env os b rInt (w1 y))
    (hr : ∀ ys, BG X B env (os.set j (a, oLst r ys)) rest post (w2 ys)) (hN : X.N[i]? = some x := by rfl)
    (hv : Vis X.env.scope x := by first | exact Or.inl rfl | exact Or.inr (Or.inl rfl) | exact Or.inr (Or.inr rfl)) (hd : (x == ("__debug__" : Str)) = false := by decide) (hcd : (x == ("__classdict__" : Str)) = false := by decide)
    (ha : ∀ v, assign (.Subscript (.Name x p1) b p2) X.env v = (do
      let ov ← holding [v] (eval (.Name x p1) X.env)
      let iv ← holding [v, ov] (eval b X.env)
      standAt p2
      holding [v, ov, iv] (setItem ov iv v)
      release [v, ov, iv] []) := by intro _; rfl)
    (hs : swapsWithSole [.Subscript (.Name x p1) b p2] e pos.line X.env = pure false := by rfl) (hw : swappedStores [.Subscript (.Name x p1) b p2] e X.env = pure none := by rfl)
    (h1 : (assignEach [.Subscript (.Name x p1) b p2] X.env).map (·.2) = [assign (.Subscript (.Name x p1) b p2) X.env] := by rfl) :
    BG X B env os (.Assign [.Subscript (.Name x p1) b p2] e pos :: rest) post (bnd w fun y => bnd (w1 y) fun k => bnd (putL xs k y) w2) :=
  PSs.imp (pss_cons (ps_asg he (pg_sub (pe_var hN hv hd hcd) (PE.ex hk) set_list ha) hs hw h1) (PSs.ex hr)) fun D σ H ⟨F, P, S, hw, k⟩ => ⟨F, _, S, hw, fun y hy v F1 H1 S1 e1 ok => by
  obtain ⟨g1, _, _, _, _, _⟩ := S1.own hi hj
  refine ⟨.ref a, g1, y, F1, _, S1, hy, fun z hz u F2 H2 S2 e2 ok2 => ?_⟩
  obtain ⟨_, g2, vs, g3, g4, g5⟩ := S2.own hi hj
  obtain ⟨l, hl, pl⟩ := putL_of hz
  exact ⟨a, vs, z, l, rfl, ok2, g3, (by rw [g5.length]; exact hl), xs.set l y, F2, P, S2.change hj ⟨_, rfl, by rw [List.length_set]; exact g4, Paired.setR (r.mono e2 ok) g5⟩, pl, k⟩⟩
end
end Mi

namespace Mi
open PySem L2 Evl

/-! ### data: ==, repr -/
theorem Dp.up {K : PySem.W.Frag} {F H : Hp} {v : V} {d : PyData} (e : Ex F H) (h : Dp K F v d) : Dp K H v d := by
  refine (show ∀ {v d}, Dp K F v d → Dp K H v d from ?_) h
  intro v d h
  exact Dp.rec (K := K) (H := F) (motive_1 := fun v d _ => Dp K H v d) (motive_2 := fun vs ds _ => DpAll K H vs ds) .non .bl .int .str (fun h1 _ ih => .lst (ex_l e h1) ih) (fun h1 _ ih => .tup (ex_t e h1) ih) .nil (fun _ _ i1 i2 => .cons i1 i2) h
/-- what stands for x is the datum f x, at most n deep -/
structure DD (K : PySem.W.Frag) {α : Type} (r : Rp α) (f : α → PyData) (n : Nat) : Prop where
  ok : ∀ {F v x}, r.ok F v x → Dp K F v (f x) ∧ (f x).canLay0 = true ∧ (f x).depth ≤ n
section
variable {K : PySem.W.Frag} {α β γ : Type} {r : Rp α} {s : Rp β} {t : Rp γ} {f : α → PyData} {g : β → PyData} {h : γ → PyData} {n m k : Nat}
theorem dd_int : DD K rInt .int 0 := ⟨fun {F v x} e => by
  have e : v = .int x := e
  subst e
  exact ⟨.int x, by simp [PyData.canLay0], by simp [PyData.depth]⟩⟩
theorem dd_bool : DD K rBool .bool 0 := ⟨fun {F v x} e => by
  have e : v = .bl x := e
  subst e
  exact ⟨.bl x, by simp [PyData.canLay0], by simp [PyData.depth]⟩⟩
theorem dd_str : DD K rStr .str 0 := ⟨fun {F v x} ⟨e, _, h⟩ => by
  subst e
  exact ⟨.str x, by simpa [PyData.canLay0] using h, by simp [PyData.depth]⟩⟩
theorem dd_non : DD K rNon (fun _ => .none) 0 := ⟨fun {F v x} e => by
  have e : v = .non := e
  subst e
  exact ⟨.non, by simp [PyData.canLay0], by simp [PyData.depth]⟩⟩
theorem dd_D : DD K (rD K) id 30 := ⟨fun h => h⟩
theorem dd_all (d : DD K r f n) {F : Hp} : ∀ {vs : List V} {xs : List α}, Paired (r.ok F) vs xs → DpAll K F vs (xs.map f) ∧ PyData.canLayAll0 (xs.map f) = true ∧ PyData.depthAll (xs.map f) ≤ n
  | _, _, .nil => ⟨.nil, by simp [PyData.canLayAll0], by simp [PyData.depthAll]⟩
  | _, _, .cons r t => by
    obtain ⟨h1, h2, h3⟩ := d.ok r
    obtain ⟨k1, k2, k3⟩ := dd_all d t
    refine ⟨.cons h1 k1, ?_, ?_⟩
    · rw [List.map_cons, PyData.canLayAll0, h2, k2]
      rfl
    · rw [List.map_cons, PyData.depthAll]
      omega
theorem dd_lst (d : DD K r f n) : DD K (rLst r) (fun xs => .list (xs.map f)) (n + 1) := ⟨fun {F v x} ⟨a, vs, e, h1, h2, h3⟩ => by
  subst e
  obtain ⟨k1, k2, k3⟩ := dd_all d h3
  exact ⟨.lst (SqL.of h1) k1, by rw [PyData.canLay0]; exact k2, by rw [PyData.depth]; omega⟩⟩
theorem dd_tup (d : DD K r f n) : DD K (rTup K r) (fun xs => .tuple (xs.map f)) (n + 1) := ⟨fun {F v x} ⟨a, vs, e, h1, h2, h3⟩ => by
  subst e
  obtain ⟨k1, k2, k3⟩ := dd_all d h3
  exact ⟨.tup h1 k1, by rw [PyData.canLay0]; exact k2, by rw [PyData.depth]; omega⟩⟩
theorem dd_t2 (d : DD K r f n) (e : DD K s g m) : DD K (rT2 K r s) (fun x => .tuple [f x.1, g x.2]) (max n m + 1) := ⟨fun {F v x} ⟨a, v1, v2, e0, h1, h2, h3⟩ => by
  subst e0
  obtain ⟨k1, k2, k3⟩ := d.ok h2
  obtain ⟨l1, l2, l3⟩ := e.ok h3
  refine ⟨.tup h1 (.cons k1 (.cons l1 .nil)), ?_, ?_⟩
  · simp [PyData.canLay0, PyData.canLayAll0, k2, l2]
  · simp only [PyData.depth, PyData.depthAll]
    omega⟩
theorem dd_t3 (d : DD K r f n) (e : DD K s g m) (c : DD K t h k) : DD K (rT3 K r s t) (fun x => .tuple [f x.1, g x.2.1, h x.2.2]) (max n (max m k) + 1) := ⟨fun {F v x} ⟨a, v1, v2, v3, e0, h1, h2, h3, h4⟩ => by
  subst e0
  obtain ⟨k1, k2, k3⟩ := d.ok h2
  obtain ⟨l1, l2, l3⟩ := e.ok h3
  obtain ⟨p1, p2, p3⟩ := c.ok h4
  refine ⟨.tup h1 (.cons k1 (.cons l1 (.cons p1 .nil))), ?_, ?_⟩
  · simp [PyData.canLay0, PyData.canLayAll0, k2, l2, p2]
  · simp only [PyData.depth, PyData.depthAll]
    omega⟩
theorem dd_le (d : DD K r f n) (h : n ≤ m) : DD K r f m := ⟨fun e => let ⟨a, b, c⟩ := d.ok e; ⟨a, b, Nat.le_trans c h⟩⟩
end
theorem shaped_of {d : PyData} {n : Nat} (h1 : d.canLay0 = true) (h2 : d.depth ≤ n) (h3 : n ≤ 64) : SeqAt.shaped d = true := by
  unfold SeqAt.shaped
  rw [h1, Bool.true_and]
  exact decide_eq_true (Nat.le_trans h2 h3)
section
variable {X : Cx} {B : Bs} {env : Env} {os : Os} {pos : Pos} {α β γ : Type} {r : Rp α} {s : Rp β} {f : α → PyData} {g : β → PyData} {n m : Nat} {a b : Expr} {w1 : W α} {w2 : α → W β}
theorem sem_eqD {K : PySem.W.Frag} (d : DD K r f n) (e : DD K s g m) (hn : n ≤ 64) (hm : m ≤ 64) : R2T (rEqD K) r s rBool (fun x y => ret (PyData.eqv (f x) (g y))) := fun F H v u x y P E Q fh o1 o2 hw k => by
  obtain ⟨k1, k2, k3⟩ := d.ok o1
  obtain ⟨l1, l2, l3⟩ := e.ok o2
  exact ⟨f x, g y, Dp.up fh k1, Dp.up fh l1, shaped_of k2 k3 hn, shaped_of l2 l3 hm, k _ hw _ F H (Grow.refl fh) rfl⟩
theorem sem_neD {K : PySem.W.Frag} (d : DD K r f n) (e : DD K s g m) (hn : n ≤ 64) (hm : m ≤ 64) : R2T (rNeD K) r s rBool (fun x y => ret (!PyData.eqv (f x) (g y))) := fun F H v u x y P E Q fh o1 o2 hw k => by
  obtain ⟨k1, k2, k3⟩ := d.ok o1
  obtain ⟨l1, l2, l3⟩ := e.ok o2
  exact ⟨f x, g y, Dp.up fh k1, Dp.up fh l1, shaped_of k2 k3 hn, shaped_of l2 l3 hm, k _ hw _ F H (Grow.refl fh) rfl⟩
theorem e_eqD (hu : X.A.units + 64 < cLine) (d : DD X.K r f n) (e : DD X.K s g m) (ha : EE X B env os a r w1) (hb : ∀ x, EE X B env os b s (w2 x)) (hn : n ≤ 64 := by decide) (hm : m ≤ 64 := by decide) : EE X B env os (.Compare a [.Eq] [b] pos) rBool (bnd w1 fun x => bnd (w2 x) fun y => ret (PyData.eqv (f x) (g y))) := e_cmp (op_eqD hu) (sem_eqD d e hn hm) (nomark _) ha hb
theorem e_neD (hu : X.A.units + 64 < cLine) (d : DD X.K r f n) (e : DD X.K s g m) (ha : EE X B env os a r w1) (hb : ∀ x, EE X B env os b s (w2 x)) (hn : n ≤ 64 := by decide) (hm : m ≤ 64 := by decide) : EE X B env os (.Compare a [.NotEq] [b] pos) rBool (bnd w1 fun x => bnd (w2 x) fun y => ret (!PyData.eqv (f x) (g y))) := e_cmp (op_neD hu) (sem_neD d e hn hm) (nomark _) ha hb
/-! flat values: cheaper -/
theorem sem_eqI : R2T rEq rInt rInt rBool (fun x y => ret (decide (x = y))) := fun F H v u x y P E Q fh o1 o2 hw k => by
  have o1 : v = .int x := o1
  have o2 : u = .int y := o2
  subst o1 o2
  have e : decide (V.int x = V.int y) = decide (x = y) := by
    rw [Bool.eq_iff_iff]
    simp
  exact ⟨rfl, by rw [e]; exact k _ hw _ F H (Grow.refl fh) rfl⟩
theorem sem_neI : R2T rNe rInt rInt rBool (fun x y => ret (!decide (x = y))) := fun F H v u x y P E Q fh o1 o2 hw k => by
  have o1 : v = .int x := o1
  have o2 : u = .int y := o2
  subst o1 o2
  have e : decide (V.int x = V.int y) = decide (x = y) := by
    rw [Bool.eq_iff_iff]
    simp
  exact ⟨rfl, by rw [e]; exact k _ hw _ F H (Grow.refl fh) rfl⟩
theorem sem_eqS : R2T rEq rStr rStr rBool (fun x y => ret (decide (x = y))) := fun F H v u x y P E Q fh ⟨o1, _⟩ ⟨o2, _⟩ hw k => by
  subst o1 o2
  have e : decide (V.str x = V.str y) = decide (x = y) := by
    rw [Bool.eq_iff_iff]
    simp
  exact ⟨rfl, by rw [e]; exact k _ hw _ F H (Grow.refl fh) rfl⟩
theorem sem_neS : R2T rNe rStr rStr rBool (fun x y => ret (!decide (x = y))) := fun F H v u x y P E Q fh ⟨o1, _⟩ ⟨o2, _⟩ hw k => by
  subst o1 o2
  have e : decide (V.str x = V.str y) = decide (x = y) := by
    rw [Bool.eq_iff_iff]
    simp
  exact ⟨rfl, by rw [e]; exact k _ hw _ F H (Grow.refl fh) rfl⟩
theorem e_eqI {w1 : W Int} {w2 : Int → W Int} (ha : EE X B env os a rInt w1) (hb : ∀ x, EE X B env os b rInt (w2 x)) : EE X B env os (.Compare a [.Eq] [b] pos) rBool (bnd w1 fun x => bnd (w2 x) fun y => ret (decide (x = y))) := e_cmp op_eq sem_eqI (nomark _) ha hb
theorem e_neI {w1 : W Int} {w2 : Int → W Int} (ha : EE X B env os a rInt w1) (hb : ∀ x, EE X B env os b rInt (w2 x)) : EE X B env os (.Compare a [.NotEq] [b] pos) rBool (bnd w1 fun x => bnd (w2 x) fun y => ret (!decide (x = y))) := e_cmp op_ne sem_neI (nomark _) ha hb
theorem e_eqS {w1 : W Str} {w2 : Str → W Str} (ha : EE X B env os a rStr w1) (hb : ∀ x, EE X B env os b rStr (w2 x)) : EE X B env os (.Compare a [.Eq] [b] pos) rBool (bnd w1 fun x => bnd (w2 x) fun y => ret (decide (x = y))) := e_cmp op_eq sem_eqS (nomark _) ha hb
theorem e_neS {w1 : W Str} {w2 : Str → W Str} (ha : EE X B env os a rStr w1) (hb : ∀ x, EE X B env os b rStr (w2 x)) : EE X B env os (.Compare a [.NotEq] [b] pos) rBool (bnd w1 fun x => bnd (w2 x) fun y => ret (!decide (x = y))) := e_cmp op_ne sem_neS (nomark _) ha hb

/-! repr -/
def rRepr (K : PySem.W.Frag) : List V → Hp → VK → Prop := fun xs H Q => ∃ x d, xs = [x] ∧ Dp K H x d ∧ d.canLay0 = true ∧ d.depth ≤ 64 ∧ d.showable = true ∧ d.shown.length ≤ sizeLine ∧ Q (.str d.shown) H
theorem call_reprD (hu : X.A.units + 100 < cLine) (hg : X.A.guards = some []) : CallR X (.builtin "repr") (rRepr X.K) := by
  intro pins s σ H xs us Q I r h
  obtain ⟨x, d, rfl, hd, hc, hdp, hs, hz, q⟩ := h
  cases r with
  | cons rx rn =>
    cases rn
    rename_i u
    obtain ⟨as, rd⟩ := Dp.reads I d x u hd rx
    have fin : ∀ (h' : Heap) (t tk : Nat), (∀ b o, s.heap.get? b = some o → h'.get? b = some o) → EP X pins σ Q (.str d.shown t) { s with heap := h', toks := tk } := fun h' t tk k => ⟨.str d.shown, H, I.kept k, ⟨t, rfl⟩, q⟩
    cases u with
    | ref a =>
      exact repr_of_reads' rd hs (PyData.noDict_hsm (PyData.hasDict_of_canLay d hc)) hg (by omega) (fun _ _ e => e) (fun h' t tk k => fin h' t tk k) hz
    | int i t =>
      cases rd
      have hs' : i.natAbs.log2 < 1920 := by simpa [PyData.showable] using hs
      exact PySem.P.repr_of_int hs' (fin s.heap _ _ fun _ _ e => e)
    | str y t =>
      cases rd
      exact PySem.P.repr_of_str (fin s.heap _ _ fun _ _ e => e) hz
    | bool b =>
      cases rd
      exact PySem.P.repr_of_bool (fin s.heap _ _ fun _ _ e => e)
    | none =>
      cases rd
      exact PySem.P.repr_of_none (fin s.heap _ _ fun _ _ e => e)
    | _ => cases rd
def reprW (d : PyData) : W Str := chk (d.showable = true ∧ d.shown.length ≤ sizeLine ∧ PyData.strOk d.shown = true) (ret d.shown)
theorem sem_repr {K : PySem.W.Frag} (d : DD K r f n) (hn : n ≤ 64) : C1T (rRepr K) r rStr (fun x => reprW (f x)) := fun F H v x P E Q fh ok ⟨⟨c1, c2, c3⟩, hw⟩ k => by
  obtain ⟨k1, k2, k3⟩ := d.ok ok
  exact ⟨v, f x, rfl, Dp.up fh k1, k2, by omega, c1, c2, k _ hw _ F H (Grow.refl fh) ⟨rfl, c2, c3⟩⟩
theorem e_repr {p : Pos} (hu : X.A.units + 100 < cLine) (hgu : X.A.guards = some []) (d : DD X.K r f n) (ha : EE X B env os a r w1) (hm : X.mg "repr" = none) (hn : n ≤ 64 := by decide) (hg : Gl X "repr" := by rfl) (he : starEach [a] X.env = (false, eval a X.env) :: starEach [] X.env := by rfl) (hpl : (backTo pos (starEach [] X.env)).any (·.1) = false := by rfl) :
    EE X B env os (.Call (.Name "repr" p) [a] [] pos) rStr (bnd w1 fun x => reprW (f x)) := e_callB (call_reprD hu hgu) (sem_repr d hn) ha hm hg (by decide +kernel) (by decide) (by decide) he hpl
end
end Mi

namespace Mi
open PySem L2 Evl
open PyProof.Rows (envOfC)

/-! ### defs: the promise by a mirror -/
/-- a def's promise where no repr runs around it -/
structure FnG (P : Program) (w : World) (K : PySem.W.Frag) (mg : Str → Option Value) (base : Heap) (CX : CXT) (k : Nat) (f : Addr) (fd : FuncData) (ps : List Str) (sp : Sp) : Prop where
  lens : ∀ vs H Q E, sp vs H Q E → vs.length = ps.length
  go : ∀ (A : Around) (outer : List PySem.Env) (s : Shared) (H : Hp) (args : Args) (us : List Value) (vs : List V) (Q : VK) (E : XK), A.guards = some [] → Room k A → Env0 P w K mg base A outer s H →
    BindsTo s fd args (ps.zip us) → Vals vs us → sp vs H Q E → codeAny (model P w) A (.call (.ref f) args) (CR CX outer P w H s Q E) s
section
variable {P : Program} {w : World} {K : PySem.W.Frag} {mg : Str → Option Value} {base : Heap} {CX : CXT} {k j : Nat} {f : Addr} {fd : FuncData} {ps N : List Str} {sp sp' : Sp}
theorem FnG.of (F : FnOk P w K mg base CX k f fd ps sp) : FnG P w K mg base CX k f fd ps sp := ⟨F.len, fun A o s H a us vs Q E _ h1 h2 h3 h4 h5 => F.run A o s H a us vs Q E h1 h2 h3 h4 h5⟩
theorem FnG.mono (F : FnG P w K mg base CX j f fd ps sp) (h : j ≤ k) : FnG P w K mg base CX k f fd ps sp := ⟨F.lens, fun A o s H a us vs Q E hg hr => F.go A o s H a us vs Q E hg (hr.mono h)⟩
/-- a def's body keeps the promise; what is raised does not leave it -/
theorem fnG_of {x qual : Str} {st : Stmt} (F : Fun K x qual st f fd) (S : FnScope N ps (defScope st)) (ln : ∀ vs H Q E, sp vs H Q E → vs.length = ps.length)
    (hbody : ∀ (cdv : Value) (A : Around) (outer : List PySem.Env) (s : Shared) (H : Hp) (vs : List V) (Q : VK) (E : XK), Room k (A.deeper (envOfC qual (defScope st) s.heap.objs.size f cdv)) → A.guards = some [] → sp vs H Q E →
      ∃ t, PSs (cxOf CX P w K mg base N qual (defScope st) f cdv A outer s H E).nox (defBody st) t ∧ t { nx := fun _ H' => Q .non H', rt := Q } (L2.start N vs) H) : FnG P w K mg base CX (k + 1) f fd ps sp := by
  obtain ⟨oc, od, kV, doc, pm, an, cdv, ct, osl, rfl, lk, hcd⟩ := F.ex
  refine ⟨ln, fun A outer s H args us vs Q E hgu hr e0 hb r hsp => ?_⟩
  have hl := ln _ _ _ _ hsp
  have hk0 : ∀ b o, base.get? b = some o → s.heap.get? b = some o := fun b o e => (e0.bs b o e).1
  have KX := e0.mod.kin.keeps hk0
  refine codeAny_call_function hr.depth (KX _ _ lk) rfl S.co S.gen rfl (PySem.W.codeRec_of KX hcd) (hb _ _ _ _ ?_)
  refine wpAny_newFunctionEnv_cells S.kind (fun ⟨n, v⟩ hy => ?_) fun env he s1 x => ?_
  · rcases S.par n (List.of_mem_zip hy).1 with q | q
    · exact .inl q
    · exact .inr ⟨q, PySem.W.cellsFrom_some _ _ _ (.inl q)⟩
  subst he
  refine ⟨(e0.mod.nolimit.keeps hk0).keeps x.toInCall.keep, codeAny_func ?_⟩
  obtain ⟨t, ht, hq⟩ := hbody cdv A outer s H vs Q E (hr.deeper _) hgu hsp
  have I := inv_start (CX := CX) (E := E) S hr.hd e0 hl r x
  refine wpAny_mono (ht.nox.run [] s1 (L2.start N vs) H _ I hq) (fun fl s' hs => ?_) fun e s' hs => hs
  cases fl with
  | ret u =>
    obtain ⟨v, σ', H', J, rv, q⟩ := hs
    exact ⟨v, H', J.os, J.bare, J.base, J.hok, rv, q⟩
  | next =>
    obtain ⟨σ', H', J, q⟩ := hs
    exact ⟨.non, H', J.os, J.bare, J.base, J.hok, rfl, q⟩
  | brk =>
    obtain ⟨_, _, _, q⟩ := hs
    exact False.elim q
  | cont =>
    obtain ⟨_, _, _, q⟩ := hs
    exact False.elim q
end

/-- the base at a def's entry -/
abbrev bs0 (F H : Hp) (os : Os) : Bs := { F := F, H := H, M := F, io := os.map (·.1), E0 := fun _ => False }
/-- by the mirror w: the arguments by slots, the objects handed in to be changed -/
def spW {ι ρ : Type} (args : ι → Env) (os : ι → Os) (w : ι → W ρ) (ro : Rp ρ) : Sp := fun vs H Q _ => ∃ (i : ι) (F : Hp) (P : ρ → Prop), Ex F H ∧ EnvOk F (args i) (vs.map some) ∧ (∀ p ∈ os i, F p.1 = none ∧ ∃ o, H p.1 = some o ∧ p.2.ok F o) ∧ ((os i).map (·.1)).Nodup ∧
  w i P (fun _ => False) ∧ ∀ x, P x → ∀ v F' H', Fn (bs0 F H (os i)) F' H' → OsOk (bs0 F H (os i)) F' H' (os i) → ro.ok F' v x → Q v H'
/-- a body's end -/
def pFn (B : Bs) (osR : Os) {ρ : Type} (ro : Rp ρ) : Post ρ := fun D x => (∀ v F H, Fn B F H → OsOk B F H osR → ro.ok F v x → D.rt v H) ∧ ∀ σ F H, Fn B F H → OsOk B F H osR → ro.ok F .non x → D.nx σ H
theorem RtOk.fn {B : Bs} {osR : Os} {ρ : Type} {ro : Rp ρ} : RtOk B (pFn B osR ro) osR ro (fun x => x) := ⟨fun _ _ h => h.1⟩
theorem NxOk.fn {B : Bs} {osR : Os} {env : Env} {os : Os} (ho : OsW os osR) : NxOk B (pFn B osR rNon) env os () := ⟨fun D q σ F H z => q.2 σ F H z.fin (ho.ok z) rfl⟩
theorem bs0_start {F H : Hp} {os : Os} (fh : Ex F H) (h : ∀ p ∈ os, F p.1 = none ∧ ∃ o, H p.1 = some o ∧ p.2.ok F o) : Fn (bs0 F H os) F H :=
  ⟨fh, Ex.refl F, Ex.refl F, fh, fun a ha => by
    obtain ⟨p, hp, e⟩ := List.mem_map.mp ha
    obtain ⟨_, o, ho, _⟩ := h p hp
    exact ⟨o, by rw [← e]; exact ho⟩, fun a o h1 h2 _ => ⟨h2, h1⟩⟩
/-- the slots at the entry -/
def entry (a : Env) (n : Nat) : Env := a ++ List.replicate n sa
theorem entry_ok {F : Hp} {a : Env} {vs : List V} {N : List Str} (h : EnvOk F a (vs.map some)) : EnvOk F (entry a (N.length - vs.length)) (L2.start N vs) := by
  unfold entry L2.start
  refine Paired.app h ?_
  induction N.length - vs.length with
  | zero => exact .nil
  | succ n ih =>
    rw [List.replicate_succ, List.replicate_succ]
    exact .cons trivial ih
section
variable {P : Program} {w : World} {K : PySem.W.Frag} {mg : Str → Option Value} {base : Heap} {k : Nat} {f : Addr} {fd : FuncData} {ps N : List Str} {ι ρ : Type} {args : ι → Env} {os : ι → Os} {wf : ι → W ρ} {ro : Rp ρ}
theorem spW_len (hl : ∀ i, (args i).length = ps.length) : ∀ vs H Q E, spW args os wf ro vs H Q E → vs.length = ps.length := fun vs H Q E ⟨i, F, P, _, he, _⟩ => by
  have := he.len
  rw [List.length_map, hl i] at this
  exact this.symm
theorem fnW {x qual : Str} {st : Stmt} (F : Fun K x qual st f fd) (S : FnScope N ps (defScope st)) (hl : ∀ i, (args i).length = ps.length)
    (body : ∀ (cdv : Value) (A : Around) (outer : List PySem.Env) (s : Shared) (H : Hp) (E : XK) (B : Bs) (i : ι), Room k (A.deeper (envOfC qual (defScope st) s.heap.objs.size f cdv)) → A.guards = some [] →
      BG (cxOf CX0 P w K mg base N qual (defScope st) f cdv A outer s H E).nox B (entry (args i) (N.length - ps.length)) (os i) (defBody st) (pFn B (os i) ro) (wf i)) : FnG P w K mg base CX0 (k + 1) f fd ps (spW args os wf ro) := by
  refine fnG_of F S (spW_len hl) fun cdv A outer s H vs Q E hr hgu hsp => ?_
  have hvl := spW_len hl vs H Q E hsp
  obtain ⟨i, F0, P0, fh, he, ho, nd, hw, hk⟩ := hsp
  refine ⟨_, body cdv A outer s H E (bs0 F0 H (os i)) i hr hgu, F0, P0, ⟨bs0_start fh ho, ?_, fun p hp => ?_, nd⟩, hw, fun y hy => ⟨fun v F' H' fn ow ok => hk y hy v F' H' fn ow ok, fun σ F' H' fn ow ok => hk y hy .non F' H' fn ow ok⟩⟩
  · rw [← hvl]
    exact entry_ok he
  · obtain ⟨h1, o, h2, h3⟩ := ho p hp
    exact ⟨h1, ⟨o, h2, h3⟩, .inr (List.mem_map_of_mem hp)⟩
/-- where the def needs no «no repr around»: the library's own promise -/
theorem okW {x qual : Str} {st : Stmt} (F : Fun K x qual st f fd) (S : FnScope N ps (defScope st)) (hl : ∀ i, (args i).length = ps.length)
    (body : ∀ (cdv : Value) (A : Around) (outer : List PySem.Env) (s : Shared) (H : Hp) (E : XK) (B : Bs) (i : ι), Room k (A.deeper (envOfC qual (defScope st) s.heap.objs.size f cdv)) →
      BG (cxOf CX0 P w K mg base N qual (defScope st) f cdv A outer s H E).nox B (entry (args i) (N.length - ps.length)) (os i) (defBody st) (pFn B (os i) ro) (wf i)) : FnOk P w K mg base CX0 (k + 1) f fd ps (spW args os wf ro) := by
  refine F.ok S (spW_len hl) fun cdv A outer s H vs Q E hr hsp => ?_
  have hvl := spW_len hl vs H Q E hsp
  obtain ⟨i, F0, P0, fh, he, ho, nd, hw, hk⟩ := hsp
  refine ⟨_, body cdv A outer s H E (bs0 F0 H (os i)) i hr, F0, P0, ⟨bs0_start fh ho, ?_, fun p hp => ?_, nd⟩, hw, fun y hy => ⟨fun v F' H' fn ow ok => hk y hy v F' H' fn ow ok, fun σ F' H' fn ow ok => hk y hy .non F' H' fn ow ok⟩⟩
  · rw [← hvl]
    exact entry_ok he
  · obtain ⟨h1, o, h2, h3⟩ := ho p hp
    exact ⟨h1, ⟨o, h2, h3⟩, .inr (List.mem_map_of_mem hp)⟩
end

/-! ### calls -/
def tAA (B : Bs) (env : Env) (os : Os) {ι : Type} (sl : ι → Env) (w : W ι) : TA := fun σ H Q => ∃ F P, Sit B F H σ env os ∧ w P B.E0 ∧ ∀ i, P i → ∀ vs F' H', Sit B F' H' σ env os → Ex F F' → EnvOk F' (sl i) (vs.map some) → Q vs H'
def AA (X : Cx) (B : Bs) (env : Env) (os : Os) (es : List Expr) {ι : Type} (sl : ι → Env) (w : W ι) : Prop := PA X es (tAA B env os sl w)
section
variable {X : Cx} {B : Bs} {env : Env} {os : Os} {pos p : Pos} {α β ι κ ρ : Type} {r : Rp α} {sl : ι → Env} {args : ι → Env} {osf : ι → Os} {wf : ι → W ρ} {ro : Rp ρ} {e : Expr} {es : List Expr} {x : Str} {k : Nat} {f : Addr} {fd : FuncData} {ps : List Str}
theorem aa_nil : AA X B env os [] (fun _ : Unit => []) (ret ()) := PA.imp pa_nil fun σ H Q ⟨F, P, S, hw, k⟩ => k () hw [] F H S (Ex.refl F) .nil
theorem aa_cons {w1 : W α} {w2 : α → W ι} (h : EE X B env os e r w1) (ht : ∀ y, AA X B env os es sl (w2 y)) (hs : starEach (e :: es) X.env = (false, eval e X.env) :: starEach es X.env := by rfl) :
    AA X B env os (e :: es) (fun q : α × ι => sv r q.1 :: sl q.2) (bnd w1 fun y => bnd (w2 y) fun i => ret (y, i)) :=
  PA.imp (pa_cons h (PA.ex ht) hs) fun σ H Q ⟨F, P, S, hw, k⟩ => ⟨F, _, S, hw, fun y hy v F1 H1 S1 e1 ok1 => ⟨y, F1, _, S1, hy, fun i hi vs F2 H2 S2 e2 ok2 => k _ hi (v :: vs) F2 H2 S2 (e1.trans e2) (.cons ⟨v, rfl, r.mono e2 ok1⟩ ok2)⟩⟩
/-- behind a call: the state of the caller -/
theorem Sit.back {F F' H H' : Hp} {σ : L2.St} {osf : Os} (S : Sit B F H σ env os) (ho : OsLe os osf) (fn : Fn (bs0 F H osf) F' H') (ow : OsOk (bs0 F H osf) F' H' osf) : Sit B F' H' σ env os := by
  have e : Ex F F' := fn.bf
  have apart : ∀ a, (∀ p ∈ osf, p.1 ≠ a) → a ∉ osf.map (·.1) := fun a h hm => by
    obtain ⟨p, hp, ep⟩ := List.mem_map.mp hm
    exact h p hp ep
  refine ⟨⟨fn.fh, S.fin.bf.trans e, S.fin.mrk.trans e, S.fin.bb, fun a ha => ?_, fun a o h1 h2 h3 => ?_⟩, S.env.mono e, fun p hp => ?_, S.nd⟩
  · obtain ⟨o, hoa⟩ := S.fin.ios a ha
    by_cases hm : a ∈ osf.map (·.1)
    · exact fn.ios a hm
    · cases ef : F a with
      | none => exact ⟨o, (fn.keep a o ef hoa hm).1⟩
      | some u => exact ⟨u, fn.fh a u (e a u ef)⟩
  · obtain ⟨k1, k2⟩ := S.fin.keep a o h1 h2 h3
    refine fn.keep a o k2 k1 (apart a fun p hp ep => ?_)
    rcases (S.ow p (ho p hp)).2.2 with q | q
    · rw [ep, h2] at q
      cases q
    · exact h3 (ep ▸ q)
  · obtain ⟨h1, ⟨o, h2, h3⟩, h4⟩ := S.ow p hp
    by_cases hm : p.1 ∈ osf.map (·.1)
    · obtain ⟨q, hq, eq⟩ := List.mem_map.mp hm
      have same : q = p := by
        obtain ⟨i, hi⟩ := List.mem_iff_getElem?.mp (ho q hq)
        obtain ⟨j, hj⟩ := List.mem_iff_getElem?.mp hp
        have a1 : (os.map (·.1))[i]? = some p.1 := by rw [List.getElem?_map, hi, ← eq]; rfl
        have a2 : (os.map (·.1))[j]? = some p.1 := by rw [List.getElem?_map, hj]; rfl
        have ij := nd_ix S.nd a1 a2
        subst ij
        rw [hi] at hj
        exact Option.some.inj hj
      subst same
      obtain ⟨z1, z2, _⟩ := ow q hq
      exact ⟨z1, z2, h4⟩
    · obtain ⟨z1, z2⟩ := fn.keep p.1 o h1 h2 hm
      exact ⟨z2, ⟨o, z1, p.2.mono e h3⟩, h4⟩
theorem call_back {w : W ι} {σ : L2.St} {H : Hp} {Q : VK} (ho : ∀ i, OsLe os (osf i)) (hnd : ∀ i, ((osf i).map (·.1)).Nodup) (h : tOf B env os ro (bnd w fun i => noX (wf i)) σ H Q) : tAA B env os args w σ H fun vs H1 => spW args osf wf ro vs H1 Q E0 := by
  obtain ⟨F, P, S, hw, k⟩ := h
  refine ⟨F, _, S, hw, fun i hi vs F1 H1 S1 e1 ok => ⟨i, F1, P, S1.fh, ok, fun p hp => ?_, hnd i, hi, fun y hy v F2 H2 fn ow okv => ?_⟩⟩
  · obtain ⟨h1, h2, _⟩ := S1.ow p (ho i p hp)
    exact ⟨h1, h2⟩
  · exact k y hy v F2 H2 (S1.back (ho i) fn ow) (e1.trans fn.bf) okv
theorem run_fnG {pins : List (Addr × Obj)} {σ : St} {H : Hp} {s : Shared} {Q : VK} {us : List Value} {vs : List V} {sp : Sp} (F : FnG X.prog X.w X.K X.mg X.base CX0 k f fd ps sp) (hgu : X.A.guards = some []) (hr : Room k X.A) (hb : Binds X.K fd ps [])
    (I : Inv X pins σ H s) (r : Vals vs us) (h : sp vs H Q E0) : wpAny (model X.prog X.w) X.A (call (.ref f) us) (EP X pins σ Q) X.xe s := by
  have hl : us.length = ps.length := by rw [← r.length]; exact F.lens _ _ _ _ h
  have b := hb s us I.kIn (by rw [List.append_nil]; exact hl)
  rw [List.append_nil] at b
  refine wpAny_call (codeAny_mono (F.go X.A X.stack s H ⟨us, []⟩ us vs Q E0 hgu hr I.env0 b r h) fun res s' hq => ?_)
  cases res with
  | error e => exact False.elim hq
  | ok fl =>
    cases fl with
    | ret u => exact I.after hq
    | next => exact False.elim hq
    | brk => exact False.elim hq
    | cont => exact False.elim hq
/-- f(e, ..), f a def by its mirror -/
theorem e_callG {w : W ι} (G : FnG X.prog X.w X.K X.mg X.base CX0 k f fd ps (spW args osf wf ro)) (hgu : X.A.guards = some []) (hr : Room k X.A) (hm : X.mg x = some (.ref f)) (hk : PySem.W.keepIn X.K (.ref f) = true) (hb : Binds X.K fd ps [])
    (ha : AA X B env os (e :: es) args w) (ho : ∀ i, OsLe os (osf i)) (hnd : ∀ i, ((osf i).map (·.1)).Nodup) (hg : Gl X x := by rfl) (hdb : (x == ("__debug__" : Str)) = false := by decide)
    (he : starEach (e :: es) X.env = (false, eval e X.env) :: starEach es X.env := by rfl) (hpl : (backTo pos (starEach es X.env)).any (·.1) = false := by rfl) :
    EE X B env os (.Call (.Name x p) (e :: es) [] pos) ro (bnd w fun i => noX (wf i)) := by
  refine ⟨fun pins s σ H Q I h => ?_⟩
  refine wpAny_Call_Name_kw (ld_glob I hg hm ?_ hdb)
  refine PySem.W.callWith_K (h₀ := X.base) I.ok.mod.kin hk (thn (ha.run pos pins s σ H _ I (call_back ho hnd h)) fun us s1 ⟨vs, H1, I1, r, q⟩ => ⟨I1.kIn, ?_⟩) he hpl
  exact run_fnG G hgu hr hb I1 r q
theorem e_call {w : W ι} (G : FnOk X.prog X.w X.K X.mg X.base CX0 k f fd ps (spW args osf wf ro)) (hr : Room k X.A) (hm : X.mg x = some (.ref f)) (hk : PySem.W.keepIn X.K (.ref f) = true) (hb : Binds X.K fd ps [])
    (ha : AA X B env os (e :: es) args w) (ho : ∀ i, OsLe os (osf i)) (hnd : ∀ i, ((osf i).map (·.1)).Nodup) (hg : Gl X x := by rfl) (hdb : (x == ("__debug__" : Str)) = false := by decide)
    (he : starEach (e :: es) X.env = (false, eval e X.env) :: starEach es X.env := by rfl) (hpl : (backTo pos (starEach es X.env)).any (·.1) = false := by rfl) :
    EE X B env os (.Call (.Name x p) (e :: es) [] pos) ro (bnd w fun i => noX (wf i)) :=
  PE.imp (pe_call G hr hg hm hk hb .nil pass0 ha hdb he hpl) fun σ H Q h => by
    have q := call_back (args := args) ho hnd h
    obtain ⟨F, P, S, hw, k⟩ := q
    refine ⟨F, P, S, hw, fun i hi vs F' H' S' e' ok => ?_⟩
    show spW args osf wf ro (vs ++ []) H' Q E0
    rw [List.append_nil]
    exact k i hi vs F' H' S' e' ok
/-- f(), no argument -/
theorem e_call0 {wf0 : Unit → W ρ} (G : FnOk X.prog X.w X.K X.mg X.base CX0 k f fd ps (spW (fun _ : Unit => []) (fun _ => []) wf0 ro)) (hr : Room k X.A) (hm : X.mg x = some (.ref f)) (hk : PySem.W.keepIn X.K (.ref f) = true) (hb : Binds X.K fd ps []) (hg : Gl X x := by rfl) (hdb : (x == ("__debug__" : Str)) = false := by decide) :
    EE X B env os (.Call (.Name x p) [] [] pos) ro (noX (wf0 ())) :=
  PE.imp (pe_call0 G hr hg hm hk hb .nil pass0 hdb) fun σ H Q ⟨F, P, S, hw, k⟩ => by
    refine ⟨(), F, P, S.fh, .nil, fun p hp => absurd hp (by simp), by simp, hw, fun y hy v F2 H2 fn ow okv => ?_⟩
    exact k y hy v F2 H2 (S.back (fun p hp => absurd hp (by simp)) fn ow) fn.bf okv
end
end Mi

namespace Mi
open PySem L2 Evl
open PyProof.Rows (envOfC IntsAre AllBare)

/-! ### the end: the law's own call -/
/-- nothing is tracked but perhaps the script, which is locked -/
theorem law_run {P : Program} {w : World} {K : PySem.W.Frag} {mg mb : Str → Option Value} {k : Nat} {fa a : Addr} {fd : FuncData} {x : Str} {sp : Sp} {s : Shared} {vs : List Value} {H : Hp}
    (KX : K.In s.heap) (hns : s.heap.Ns mainGlobals mg) (hb : s.heap.Ns builtinsNs mb) (hbb : ∀ x : Str, x ≠ "__name__" → mb x = bootBuiltins x) (hlim : s.heap.NoLimit) (hg : s.gens = #[])
    (ha : s.heap.get? a = some { cls := .type "list", data := .seq vs.toArray }) (hr : Room k callerA)
    (F : ∀ base : Heap, K.In base → base.Ns mainGlobals mg → FnG P w K mg base CX0 k fa fd [x] sp) (hbind : ∀ (s : Shared) (u : Value), BindsTo s fd ⟨[u], []⟩ [(x, u)])
    (hO : Only H) (hok : HOk P w H s.heap) (hA : ∀ b, H b ≠ none → b = a ∧ K.lookup a = none) (hsp : sp [.ref a] H (fun v _ => v = .bl true) fun _ _ _ => False) :
    codeAny (model P w) callerA (.call (.ref fa) ⟨[.ref a], []⟩) (fun r s' => r = .ok (.ret (.bool true)) ∧ OldK s.heap s'.heap ∧ s'.os = s.os ∧ AllBare s'.gens) s := by
  have off : ∀ {b : Addr}, b ≠ a → H b = none := fun {b} hb => by
    cases q : H b with
    | none => rfl
    | some u => exact absurd (hA b (by rw [q]; simp)).1 hb
  have here : ∀ {b : Addr} {o : Obj}, s.heap.get? b = some o → H b = none → (hidT s.heap H).get? b = some o := fun e n => hidT_get e n
  have ns_ : ∀ {b : Addr} {m : Str → Option Value}, s.heap.Ns b m → (hidT s.heap H).Ns b m := fun {b m} ⟨o, es, ep, e, d, r⟩ => by
    refine ⟨o, es, ep, here e (off fun z => ?_), d, r⟩
    subst z
    rw [ha] at e
    cases e
    cases d
  have kin : K.In (hidT s.heap H) := fun b o e => here (KX b o e) (by
    cases q : H b with
    | none => rfl
    | some u =>
      obtain ⟨z, n⟩ := hA b (by rw [q]; simp)
      rw [z, n] at e
      cases e)
  have md : Mod K mg (hidT s.heap H) := ⟨kin, ns_ hns, ⟨mb, ns_ hb, hbb⟩, hlim.elim fun mc hm => ⟨mc, ns_ hm.1, hm.2⟩⟩
  have e0 : Env0 P w K mg (hidT s.heap H) callerA [] s H :=
    { frames := rfl, mod := md, bs := fun b o e => of_hidT e, bsz := Nat.le_of_eq (hidT_size _ _), funs := trivial, frf := fun b hb => (by cases hb), hok := hok, bare := .of_eq hg }
  refine codeAny_mono ((F _ kin (ns_ hns)).go callerA [] s H ⟨[.ref a], []⟩ [.ref a] [.ref a] _ _ rfl hr e0 (hbind s (.ref a)) (.cons rfl .nil) hsp) fun r s' h => ?_
  cases r with
  | error e => exact False.elim h
  | ok fl =>
    cases fl with
    | next => exact False.elim h
    | brk => exact False.elim h
    | cont => exact False.elim h
    | ret u =>
      obtain ⟨v, H', os, bare, un, hok', rv, q⟩ := h
      have q : v = .bl true := q
      subst q
      have rv : u = Value.bool true := rv
      subst rv
      refine ⟨rfl, OldK.of_keep fun b o e => ?_, os, bare⟩
      cases q : H b with
      | none => exact un.keep b o e q (fun z => by cases z) (fun z => by cases z)
      | some u =>
        rcases hO b with z | ⟨ob, xs, z⟩
        · rw [q] at z
          cases z
        · have e1 := (hok b _ z).1
          have e2 := (hok' b _ (un.frzs b ob _ z)).1
          rw [e] at e1
          cases e1
          exact e2
theorem law_callG {P : Program} {w : World} {K : PySem.W.Frag} {mg mb : Str → Option Value} {k : Nat} {fa a : Addr} {fd : FuncData} {x : Str} {sp : Sp} {s : Shared} {vs : List Value} {ns : List Int}
    (KX : K.In s.heap) (hns : s.heap.Ns mainGlobals mg) (hb : s.heap.Ns builtinsNs mb) (hbb : ∀ x : Str, x ≠ "__name__" → mb x = bootBuiltins x) (hlim : s.heap.NoLimit) (hg : s.gens = #[])
    (ha : s.heap.get? a = some { cls := .type "list", data := .seq vs.toArray }) (hi : IntsAre vs ns) (hl : ns.length ≤ sizeLine) (hr : Room k callerA)
    (F : ∀ base : Heap, K.In base → base.Ns mainGlobals mg → FnG P w K mg base CX0 k fa fd [x] sp) (hbind : ∀ (s : Shared) (u : Value), BindsTo s fd ⟨[u], []⟩ [(x, u)])
    (hsp : ∀ H : Hp, Only H → SqL K H a (ns.map V.int) → sp [.ref a] H (fun v _ => v = .bl true) fun _ _ _ => False) :
    codeAny (model P w) callerA (.call (.ref fa) ⟨[.ref a], []⟩) (fun r s' => r = .ok (.ret (.bool true)) ∧ OldK s.heap s'.heap ∧ s'.os = s.os ∧ AllBare s'.gens) s := by
  have rv := vals_ints hi
  have lenV := hi.length
  cases hk : K.lookup a with
  | some o =>
    have e := (KX a o hk).symm.trans ha
    have e' := Option.some.inj e
    subst e'
    have O0 : Only fun _ => none := fun _ => .inl rfl
    refine law_run KX hns hb hbb hlim hg ha hr F hbind O0 (fun b u z => by cases z) (fun b z => absurd rfl z) (hsp _ O0 (.inr ⟨_, vs.toArray, _, hk, rfl, rfl, rfl, ?_, ?_⟩))
    · rw [List.size_toArray, lenV]
      exact hl
    · exact rv
  | none =>
    have at_a : (fun b => if b = a then some (HO.frz { cls := .type "list", data := .seq vs.toArray } (.lst (ns.map V.int))) else none : Hp) a = some (HO.frz { cls := .type "list", data := .seq vs.toArray } (.lst (ns.map V.int))) := if_pos rfl
    have O1 : Only fun b => if b = a then some (HO.frz { cls := .type "list", data := .seq vs.toArray } (.lst (ns.map V.int))) else none := fun b => by
      by_cases h : b = a
      · exact .inr ⟨_, _, if_pos h⟩
      · exact .inl (if_neg h)
    refine law_run KX hns hb hbb hlim hg ha hr F hbind O1 (fun b u z => ?_) (fun b z => ?_) (hsp _ O1 (.inl (.inr ⟨_, at_a⟩)))
    · by_cases h : b = a
      · have z' := (if_pos h).symm.trans z
        cases z'
        subst h
        exact ⟨ha, by rw [List.length_map]; exact hl, vs, _, rv, ha⟩
      · have z' := (if_neg h).symm.trans z
        cases z'
    · by_cases h : b = a
      · exact ⟨h, hk⟩
      · exact absurd (if_neg h) z
/-- the goal that the head leaves -/
theorem walk_G {l : PySem.W.OpenLaw} {n k : Nat} {q : Program} {loose : List Str} {XP : (Str → Option Value) → Heap → Prop} {YP : World → Heap → Prop} {d : DefRec} {K : Params → PySem.W.Frag} {sp : PySem.W.Frag → Sp} {x : Str}
    (hn : l.most = some n) (hn2 : n ≤ sizeLine) (hdf : d.params.defaults = []) (hr : Room k callerA) (hY : ∀ (w : World) (h : Heap), YP w h → (K w.params).In h)
    (F : ∀ (w : World) (mg : Str → Option Value) (fa : Addr) (h : Heap), (K w.params).In h → h.Ns mainGlobals mg → mg d.name = some (.ref fa) →
      ∃ fd : FuncData, (∀ (s : Shared) (u : Value), BindsTo s fd ⟨[u], []⟩ [(x, u)]) ∧ ∀ base : Heap, (K w.params).In base → base.Ns mainGlobals mg → FnG l.prog w (K w.params) mg base CX0 k fa fd [x] (sp (K w.params)))
    (hsp : ∀ (K : PySem.W.Frag) (H : Hp) (a : Addr) (ns : List Int), ns.length ≤ n → Only H → SqL K H a (ns.map V.int) → sp K [.ref a] H (fun v _ => v = .bl true) fun _ _ _ => False) :
    PySem.W.WalkO q loose XP YP l.row.toRowW d [] (fun f vs => PySem.call f vs) :=
  Att.attach_call hn hdf fun w s₀ s₁ mg mb fa o pm cd doc a vs ns G Y ho hd hcd hmg hobj hints hlen hg => by
    obtain ⟨fd, hb, hF⟩ := F w mg fa _ (hY w _ Y) G.T.g hmg
    exact law_callG (hY w _ Y) G.T.g G.T.b G.T.builtins G.T.nolimit hg hobj hints (Nat.le_trans hlen hn2) hr hF hb fun H hO hS => hsp _ H a ns hlen hO hS
end Mi

namespace Mi
open PySem L2 Evl

/-! ### a list of unlike things, one's own -/
def oHet (ss : List Slot) : Own := ⟨fun F o => ∃ vs : List V, o = .lst vs ∧ Paired (fun (s : Slot) (v : V) => s.ok F (some v)) ss vs, fun e ⟨vs, h1, h2⟩ => ⟨vs, h1, Paired.imp (fun s _ => s.mono e) h2⟩⟩
section
variable {X : Cx} {B : Bs} {env : Env} {os : Os} {pos : Pos} {α β : Type} {r : Rp α} {e : Expr} {rest : List Stmt} {post : Post β}
theorem Sit.het {F H : Hp} {σ : L2.St} {i j : Nat} {a : Addr} {ss : List Slot} (S : Sit B F H σ env os) (hi : env[i]? = some (sv (rAdr a) ())) (hj : os[j]? = some (a, oHet ss)) : σ[i]? = some (some (.ref a)) ∧ F a = none ∧ ∃ vs, H a = some (.lst vs) ∧ Paired (fun (s : Slot) (v : V) => s.ok F (some v)) ss vs := by
  obtain ⟨ov, g1, v, g2, g3⟩ := S.env.get hi
  have g3' : v = .ref a := g3
  subst g2 g3'
  obtain ⟨z1, ⟨o, z2, vs, z3, z5⟩, _⟩ := S.ow _ (List.mem_of_getElem? hj)
  subst z3
  exact ⟨g1, z1, vs, z2, z5⟩
theorem atI_nat' {α : Type} {xs : List α} {n : Nat} {x : α} {c : Int} (hc : c = (n : Int)) (h : xs[n]? = some x) : atI xs c = some x := by
  rw [hc]
  exact atI_nat h
theorem e_hidx (i j n : Nat) {x : Str} {p2 p3 : Pos} {c : Int} {q} {a : Addr} {ss : List Slot} {y : α} (hi : env[i]? = some (sv (rAdr a) ())) (hj : os[j]? = some (a, oHet ss)) (hn : ss[n]? = some (sv r y)) (hc : c = (n : Int) := by rfl) (hN : X.N[i]? = some x := by rfl)
    (hv : Vis X.env.scope x := by first | exact Or.inl rfl | exact Or.inr (Or.inl rfl) | exact Or.inr (Or.inr rfl)) (hd : (x == ("__debug__" : Str)) = false := by decide) (hcd : (x == ("__classdict__" : Str)) = false := by decide) (hs : PlainIx (.Constant (.int c) q p3) := by exact fun _ _ => rfl) :
    EE X B env os (.Subscript (.Name x p2) (.Constant (.int c) q p3) pos) r (ret y) :=
  PE.imp (pe_ix ix_list (pe_var hN hv hd hcd) pe_int hs) fun σ H Q ⟨F, P, S, hw, k⟩ => by
  obtain ⟨g1, g2, vs, g3, g5⟩ := S.het hi hj
  obtain ⟨v, hv, w, ew, okw⟩ := Paired.get' g5 hn
  cases ew
  exact ⟨.ref a, g1, a, vs, c, v, rfl, rfl, SqL.of g3, atI_nat' hc hv, k y hw v F H S (Ex.refl F) okw⟩
theorem b_hput (i j n : Nat) {x : Str} {p1 p2 p3 : Pos} {c : Int} {q} {a : Addr} {ss : List Slot} {w : W α} {w2 : α → W β} (hi : env[i]? = some (sv (rAdr a) ())) (hj : os[j]? = some (a, oHet ss)) (hn : n < ss.length) (he : EE X B env os e r w)
    (hr : ∀ y, BG X B env (os.set j (a, oHet (ss.set n (sv r y)))) rest post (w2 y)) (hc : c = (n : Int) := by rfl) (hN : X.N[i]? = some x := by rfl)
    (hv : Vis X.env.scope x := by first | exact Or.inl rfl | exact Or.inr (Or.inl rfl) | exact Or.inr (Or.inr rfl)) (hd : (x == ("__debug__" : Str)) = false := by decide) (hcd : (x == ("__classdict__" : Str)) = false := by decide)
    (ha : ∀ v, assign (.Subscript (.Name x p1) (.Constant (.int c) q p3) p2) X.env v = (do
      let ov ← holding [v] (eval (.Name x p1) X.env)
      let iv ← holding [v, ov] (eval (.Constant (.int c) q p3) X.env)
      standAt p2
      holding [v, ov, iv] (setItem ov iv v)
      release [v, ov, iv] []) := by intro _; rfl)
    (hs : swapsWithSole [.Subscript (.Name x p1) (.Constant (.int c) q p3) p2] e pos.line X.env = pure false := by rfl) (hw : swappedStores [.Subscript (.Name x p1) (.Constant (.int c) q p3) p2] e X.env = pure none := by rfl)
    (h1 : (assignEach [.Subscript (.Name x p1) (.Constant (.int c) q p3) p2] X.env).map (·.2) = [assign (.Subscript (.Name x p1) (.Constant (.int c) q p3) p2) X.env] := by rfl) :
    BG X B env os (.Assign [.Subscript (.Name x p1) (.Constant (.int c) q p3) p2] e pos :: rest) post (bnd w w2) :=
  PSs.imp (pss_cons (ps_asg he (pg_sub (pe_var hN hv hd hcd) pe_int set_list ha) hs hw h1) (PSs.ex hr)) fun D σ H ⟨F, P, S, hw, k⟩ => ⟨F, _, S, hw, fun y hy v F1 H1 S1 e1 ok => by
  obtain ⟨g1, g2, vs, g3, g5⟩ := S1.het hi hj
  have hlt : n < vs.length := by rw [← Paired.length g5]; exact hn
  have hix : ixN vs.length c = some n := by
    unfold ixN
    rw [hc, if_pos (by omega), if_pos (by omega)]
    simp
  exact ⟨.ref a, g1, a, vs, c, n, rfl, rfl, g3, hix, y, F1, P, S1.change hj ⟨_, rfl, Paired.setR (R := fun (s : Slot) (v : V) => s.ok F1 (some v)) (x := sv r y) (y := v) ⟨v, rfl, ok⟩ g5⟩, hy, k⟩⟩
/-- an own object is seen in more detail -/
theorem b_open {ι : Type} (j : Nat) {a : Addr} {o : Own} {oi : ι → Own} {w : W β} (hj : os[j]? = some (a, o)) (hop : ∀ F h, o.ok F h → ∃ i, (oi i).ok F h) (hr : ∀ i, BG X B env (os.set j (a, oi i)) rest post w) : BG X B env os rest post w :=
  PSs.imp (PSs.ex hr) fun D σ H ⟨F, P, S, hw, k⟩ => by
  obtain ⟨z1, ⟨h, z2, z3⟩, z4⟩ := S.ow _ (List.mem_of_getElem? hj)
  obtain ⟨i, hi⟩ := hop F h z3
  have S2 := S.change (ow' := oi i) (o' := h) hj hi
  have e : upd H a h = H := by
    funext b
    by_cases hb : b = a
    · subst hb
      rw [upd_same]
      exact z2.symm
    · rw [upd_ne hb]
  rw [e] at S2
  exact ⟨i, F, P, S2, hw, k⟩
end

/-! ### the bag of draws -/
abbrev bagS (cells : List Int) (n : Nat) (d m k : Int) : List Slot := [sv (rLst rInt) cells, sv rInt (n : Int), sv rInt d, sv rInt m, sv rInt k]
def oBag (cells : List Int) : Own := ⟨fun F o => ∃ p : Nat × Int × Int × Int, (oHet (bagS cells p.1 p.2.1 p.2.2.1 p.2.2.2)).ok F o, fun e ⟨p, h⟩ => ⟨p, (oHet _).mono e h⟩⟩
/-- any number below most -/
def drawW (most : Int) : W Int := fun P _ => 0 < most ∧ most.natAbs.log2 < 9000 ∧ ∀ r, 0 ≤ r → r < most → P r
def anyW {α : Type} (xs : List α) : W α := bnd (noX (drawW (xs.length : Int))) fun i => idx xs i
/-- the script, as it was handed in -/
def rScr (K : PySem.W.Frag) : Rp (List Int) := ⟨fun F v xs => ∃ a, v = .ref a ∧ SqL K F a (xs.map V.int) ∧ xs.length ≤ sizeLine, fun e ⟨a, h1, h2, h3⟩ => ⟨a, h1, ex_l e h2, h3⟩⟩
end Mi

namespace Mi
open PySem L2 Evl

/-! ### several targets at once -/
section
variable {X : Cx} {B : Bs} {env : Env} {os : Os} {pos : Pos} {α β γ δ : Type} {r : Rp α} {s : Rp γ} {t : Rp δ} {e a b c : Expr} {rest : List Stmt} {post : Post β} {i j l : Nat} {x y z : Str} {px py pz pt pt2 : Pos} {kt k2 : Nat}
variable {w1 : W α} {w2 : α → W γ} {w3 : α → γ → W δ} {w4 : α → γ → W β} {w5 : α → γ → δ → W β}
abbrev tA2 (B : Bs) (env : Env) (os : Os) (r : Rp α) (s : Rp γ) (w1 : W α) (w2 : α → W γ) : TA := tCons (tOf B env os r w1) (tCons (fun σ H Q => ∃ x, tOf B env os s (w2 x) σ H Q) tNil)
abbrev tA3 (B : Bs) (env : Env) (os : Os) (r : Rp α) (s : Rp γ) (t : Rp δ) (w1 : W α) (w2 : α → W γ) (w3 : α → γ → W δ) : TA := tCons (tOf B env os r w1) (tCons (fun σ H Q => ∃ x, tOf B env os s (w2 x) σ H Q) (tCons (fun σ H Q => ∃ p : α × γ, tOf B env os t (w3 p.1 p.2) σ H Q) tNil))
abbrev tO3 (B : Bs) (env : Env) (os : Os) (r : Rp α) (s : Rp γ) (t : Rp δ) (w1 : W (List α)) (v2 : γ) (v3 : δ) : TA := tCons (tNew B env os r w1) (tCons (fun σ H Q => ∃ p : Addr × List α, tOf B env ((p.1, oLst r p.2) :: os) s (ret v2) σ H Q) (tCons (fun σ H Q => ∃ p : Addr × List α, tOf B env ((p.1, oLst r p.2) :: os) t (ret v3) σ H Q) tNil))
theorem pa2 (ha : EE X B env os a r w1) (hb : ∀ x, EE X B env os b s (w2 x)) (hs : starEach [a, b] X.env = (false, eval a X.env) :: starEach [b] X.env := by rfl) (hs2 : starEach [b] X.env = (false, eval b X.env) :: starEach [] X.env := by rfl) : PA X [a, b] (tA2 B env os r s w1 w2) :=
  pa_cons ha (pa_cons (PE.ex hb) pa_nil hs2) hs
theorem pa3 (ha : EE X B env os a r w1) (hb : ∀ x, EE X B env os b s (w2 x)) (hc : ∀ x y, EE X B env os c t (w3 x y)) (hs : starEach [a, b, c] X.env = (false, eval a X.env) :: starEach [b, c] X.env := by rfl)
    (hs2 : starEach [b, c] X.env = (false, eval b X.env) :: starEach [c] X.env := by rfl) (hs3 : starEach [c] X.env = (false, eval c X.env) :: starEach [] X.env := by rfl) : PA X [a, b, c] (tA3 B env os r s t w1 w2 w3) :=
  pa_cons ha (pa_cons (PE.ex hb) (pa_cons (PE.ex fun p : α × γ => hc p.1 p.2) pa_nil hs3) hs2) hs
/-- a, b = e1, e2, by the statement's rule -/
theorem b_par2 (cc : PS X (.Assign [.Tuple [.Name x px, .Name y py] kt pt] (.Tuple [a, b] k2 pt2) pos) (tPar i j (tA2 B env os r s w1 w2))) (hr : ∀ u v, BG X B ((env.set i (sv r u)).set j (sv s v)) os rest post (w4 u v)) :
    BG X B env os (.Assign [.Tuple [.Name x px, .Name y py] kt pt] (.Tuple [a, b] k2 pt2) pos :: rest) post (bnd w1 fun u => bnd (w2 u) fun v => w4 u v) :=
  PSs.imp (pss_cons cc (PSs.ex fun p : α × γ => hr p.1 p.2)) fun D σ H ⟨F, P, S, hw, k⟩ => ⟨F, _, S, hw, fun u hu v1 F1 H1 S1 e1 ok1 => ⟨u, F1, _, S1, hu, fun v hv v2 F2 H2 S2 e2 ok2 =>
    ⟨v1, v2, rfl, (u, v), F2, P, (S2.store (sl := sv r u) ⟨v1, rfl, r.mono e2 ok1⟩).store (sl := sv s v) ⟨v2, rfl, ok2⟩, hv, k⟩⟩⟩
theorem b_par2T (cc : PS X (.Assign [.Tuple [.Name x px, .Name y py] kt pt] (.Tuple [a, b] k2 pt2) pos) (tAsg (tTup (tA2 B env os r s w1 w2)) (gTup X.K 2 (gCons (gName i) (gCons (gName j) gNil))))) (hr : ∀ u v, BG X B ((env.set i (sv r u)).set j (sv s v)) os rest post (w4 u v)) :
    BG X B env os (.Assign [.Tuple [.Name x px, .Name y py] kt pt] (.Tuple [a, b] k2 pt2) pos :: rest) post (bnd w1 fun u => bnd (w2 u) fun v => w4 u v) :=
  PSs.imp (pss_cons cc (PSs.ex fun p : α × γ => hr p.1 p.2)) fun D σ H ⟨F, P, S, hw, k⟩ => ⟨F, _, S, hw, fun u hu v1 F1 H1 S1 e1 ok1 => ⟨u, F1, _, S1, hu, fun v hv v2 F2 H2 S2 e2 ok2 =>
    ⟨(by show 2 ≤ sizeLine; decide), fun p hp => by
      have g : Grow F2 H2 (upd F2 p (.tup [v1, v2])) (upd H2 p (.tup [v1, v2])) := Grow.alloc S2.fh hp
      have S3 := S2.grow g
      exact ⟨p, [v1, v2], rfl, SqT.of upd_same, rfl, v1, [v2], rfl, v2, [], rfl, rfl, (u, v), _, P, (S3.store (sl := sv r u) ⟨v1, rfl, r.mono (e2.trans g.f) ok1⟩).store (sl := sv s v) ⟨v2, rfl, s.mono g.f ok2⟩, hv, k⟩⟩⟩⟩
theorem b_par3 (cc : PS X (.Assign [.Tuple [.Name x px, .Name y py, .Name z pz] kt pt] (.Tuple [a, b, c] k2 pt2) pos) (tPar3 i j l (tA3 B env os r s t w1 w2 w3))) (hr : ∀ u v q, BG X B (((env.set i (sv r u)).set j (sv s v)).set l (sv t q)) os rest post (w5 u v q)) :
    BG X B env os (.Assign [.Tuple [.Name x px, .Name y py, .Name z pz] kt pt] (.Tuple [a, b, c] k2 pt2) pos :: rest) post (bnd w1 fun u => bnd (w2 u) fun v => bnd (w3 u v) fun q => w5 u v q) :=
  PSs.imp (pss_cons cc (PSs.ex fun p : α × γ × δ => hr p.1 p.2.1 p.2.2)) fun D σ H ⟨F, P, S, hw, k⟩ => ⟨F, _, S, hw, fun u hu v1 F1 H1 S1 e1 ok1 => ⟨u, F1, _, S1, hu, fun v hv v2 F2 H2 S2 e2 ok2 => ⟨(u, v), F2, _, S2, hv, fun q hq v3 F3 H3 S3 e3 ok3 =>
    ⟨v1, v2, v3, rfl, (u, v, q), F3, P, ((S3.store (sl := sv r u) ⟨v1, rfl, r.mono (e2.trans e3) ok1⟩).store (sl := sv s v) ⟨v2, rfl, s.mono e3 ok2⟩).store (sl := sv t q) ⟨v3, rfl, ok3⟩, hq, k⟩⟩⟩⟩
theorem b_par3T (cc : PS X (.Assign [.Tuple [.Name x px, .Name y py, .Name z pz] kt pt] (.Tuple [a, b, c] k2 pt2) pos) (tAsg (tTup (tA3 B env os r s t w1 w2 w3)) (gTup X.K 3 (gCons (gName i) (gCons (gName j) (gCons (gName l) gNil)))))) (hr : ∀ u v q, BG X B (((env.set i (sv r u)).set j (sv s v)).set l (sv t q)) os rest post (w5 u v q)) :
    BG X B env os (.Assign [.Tuple [.Name x px, .Name y py, .Name z pz] kt pt] (.Tuple [a, b, c] k2 pt2) pos :: rest) post (bnd w1 fun u => bnd (w2 u) fun v => bnd (w3 u v) fun q => w5 u v q) :=
  PSs.imp (pss_cons cc (PSs.ex fun p : α × γ × δ => hr p.1 p.2.1 p.2.2)) fun D σ H ⟨F, P, S, hw, k⟩ => ⟨F, _, S, hw, fun u hu v1 F1 H1 S1 e1 ok1 => ⟨u, F1, _, S1, hu, fun v hv v2 F2 H2 S2 e2 ok2 => ⟨(u, v), F2, _, S2, hv, fun q hq v3 F3 H3 S3 e3 ok3 =>
    ⟨(by show 3 ≤ sizeLine; decide), fun p hp => by
      have g : Grow F3 H3 (upd F3 p (.tup [v1, v2, v3])) (upd H3 p (.tup [v1, v2, v3])) := Grow.alloc S3.fh hp
      have S4 := S3.grow g
      exact ⟨p, [v1, v2, v3], rfl, SqT.of upd_same, rfl, v1, [v2, v3], rfl, v2, [v3], rfl, v3, [], rfl, rfl, (u, v, q), _, P, ((S4.store (sl := sv r u) ⟨v1, rfl, r.mono ((e2.trans e3).trans g.f) ok1⟩).store (sl := sv s v) ⟨v2, rfl, s.mono (e3.trans g.f) ok2⟩).store (sl := sv t q) ⟨v3, rfl, t.mono g.f ok3⟩, hq, k⟩⟩⟩⟩⟩
/-- the first a new list of one's own, the others plain -/
theorem b_own3T {w1 : W (List α)} {v2 : γ} {v3 : δ} {w5 : List α → W β} (cc : PS X (.Assign [.Tuple [.Name x px, .Name y py, .Name z pz] kt pt] (.Tuple [a, b, c] k2 pt2) pos) (tAsg (tTup (tO3 B env os r s t w1 v2 v3)) (gTup X.K 3 (gCons (gName i) (gCons (gName j) (gCons (gName l) gNil))))))
    (hr : ∀ u xs, BG X B (((env.set i (sv (rAdr u) ())).set j (sv s v2)).set l (sv t v3)) ((u, oLst r xs) :: os) rest post (w5 xs)) :
    BG X B env os (.Assign [.Tuple [.Name x px, .Name y py, .Name z pz] kt pt] (.Tuple [a, b, c] k2 pt2) pos :: rest) post (bnd w1 w5) :=
  PSs.imp (pss_cons cc (PSs.ex fun p : Addr × List α => hr p.1 p.2)) fun D σ H ⟨F, P, S, hw, k⟩ => ⟨F, _, S, hw, fun xs hx u F1 H1 S1 e1 => ⟨(u, xs), F1, fun q => q = v2, S1, rfl, fun q hq v2' F2 H2 S2 e2 ok2 => ⟨(u, xs), F2, fun q => q = v3, S2, rfl, fun q3 hq3 v3' F3 H3 S3 e3 ok3 => by
    subst hq hq3
    refine ⟨(by show 3 ≤ sizeLine; decide), fun p hp => ?_⟩
    have g : Grow F3 H3 (upd F3 p (.tup [V.ref u, v2', v3'])) (upd H3 p (.tup [V.ref u, v2', v3'])) := Grow.alloc S3.fh hp
    have S4 := S3.grow g
    exact ⟨p, [V.ref u, v2', v3'], rfl, SqT.of upd_same, rfl, V.ref u, [v2', v3'], rfl, v2', [v3'], rfl, v3', [], rfl, rfl, (u, xs), _, P, ((S4.store (sl := sv (rAdr u) ()) ⟨V.ref u, rfl, rfl⟩).store (sl := sv s q) ⟨v2', rfl, s.mono (e3.trans g.f) ok2⟩).store (sl := sv t q3) ⟨v3', rfl, t.mono g.f ok3⟩, hx, k⟩⟩⟩⟩
theorem b_own3 {w1 : W (List α)} {v2 : γ} {v3 : δ} {w5 : List α → W β} (cc : PS X (.Assign [.Tuple [.Name x px, .Name y py, .Name z pz] kt pt] (.Tuple [a, b, c] k2 pt2) pos) (tPar3 i j l (tO3 B env os r s t w1 v2 v3)))
    (hr : ∀ u xs, BG X B (((env.set i (sv (rAdr u) ())).set j (sv s v2)).set l (sv t v3)) ((u, oLst r xs) :: os) rest post (w5 xs)) :
    BG X B env os (.Assign [.Tuple [.Name x px, .Name y py, .Name z pz] kt pt] (.Tuple [a, b, c] k2 pt2) pos :: rest) post (bnd w1 w5) :=
  PSs.imp (pss_cons cc (PSs.ex fun p : Addr × List α => hr p.1 p.2)) fun D σ H ⟨F, P, S, hw, k⟩ => ⟨F, _, S, hw, fun xs hx u F1 H1 S1 e1 => ⟨(u, xs), F1, fun q => q = v2, S1, rfl, fun q hq v2' F2 H2 S2 e2 ok2 => ⟨(u, xs), F2, fun q => q = v3, S2, rfl, fun q3 hq3 v3' F3 H3 S3 e3 ok3 => by
    subst hq hq3
    exact ⟨V.ref u, v2', v3', rfl, (u, xs), F3, P, ((S3.store (sl := sv (rAdr u) ()) ⟨V.ref u, rfl, rfl⟩).store (sl := sv s q) ⟨v2', rfl, s.mono e3 ok2⟩).store (sl := sv t q3) ⟨v3', rfl, ok3⟩, hx, k⟩⟩⟩⟩
theorem paO3 {w1 : W (List α)} {v2 : γ} {v3 : δ} (ha : EN X B env os a r w1) (hb : ∀ u xs, EE X B env ((u, oLst r xs) :: os) b s (ret v2)) (hc : ∀ u xs, EE X B env ((u, oLst r xs) :: os) c t (ret v3)) (hs : starEach [a, b, c] X.env = (false, eval a X.env) :: starEach [b, c] X.env := by rfl)
    (hs2 : starEach [b, c] X.env = (false, eval b X.env) :: starEach [c] X.env := by rfl) (hs3 : starEach [c] X.env = (false, eval c X.env) :: starEach [] X.env := by rfl) : PA X [a, b, c] (tO3 B env os r s t w1 v2 v3) :=
  pa_cons ha (pa_cons (PE.ex fun p : Addr × List α => hb p.1 p.2) (pa_cons (PE.ex fun p : Addr × List α => hc p.1 p.2) pa_nil hs3) hs2) hs
/-- xs[i], xs[j] = e1, e2 for one's own list xs -/
theorem b_swap {a0 : Addr} {xs : List α} {ei ej : Expr} {w1 w2 : W α} {w3 : W Int} {w4 : List α → W Int} {w5 : List α → W β} {i j : Nat} (hi : env[i]? = some (sv (rAdr a0) ())) (hj : os[j]? = some (a0, oLst r xs))
    (hr : ∀ ys, BG X B env (os.set j (a0, oLst r ys)) rest post (w5 ys))
    (cc : PS X (.Assign [.Tuple [.Subscript (.Name x px) ei py, .Subscript (.Name x pz) ej pt] kt pt2] e pos)
      (tAsg (tTup (tCons (tOf B env os r w1) (tCons (tOf B env os r w2) tNil))) (gTup X.K 2 (gCons (gSub (tVar i) (tOf B env os rInt w3) rSetL) (gCons (gSub (tVar i) (fun σ H Q => ∃ ys, tOf B env (os.set j (a0, oLst r ys)) rInt (w4 ys) σ H Q) rSetL) gNil))))) :
    BG X B env os (.Assign [.Tuple [.Subscript (.Name x px) ei py, .Subscript (.Name x pz) ej pt] kt pt2] e pos :: rest) post
      (bnd w1 fun u => bnd w2 fun v => bnd w3 fun k1 => bnd (putL xs k1 u) fun ys => bnd (w4 ys) fun k2 => bnd (putL ys k2 v) w5) :=
  PSs.imp (pss_cons cc (PSs.ex hr)) fun D σ H ⟨F, P, S, hw, k⟩ => ⟨F, _, S, hw, fun u hu v1 F1 H1 S1 e1 ok1 => ⟨F1, _, S1, hu, fun v hv v2 F2 H2 S2 e2 ok2 => ⟨(by show 2 ≤ sizeLine; decide), fun p hp => by
  have g : Grow F2 H2 (upd F2 p (.tup [v1, v2])) (upd H2 p (.tup [v1, v2])) := Grow.alloc S2.fh hp
  have S3 := S2.grow g
  obtain ⟨g1, _, _, _, _, _⟩ := S3.own hi hj
  refine ⟨p, [v1, v2], rfl, SqT.of upd_same, rfl, v1, [v2], rfl, ⟨.ref a0, g1, _, _, S3, hv, fun k1 hk1 vk F4 H4 S4 e4 ok4 => ?_⟩⟩
  obtain ⟨_, _, vs, h3, h4, h5⟩ := S4.own hi hj
  obtain ⟨l1, hl1, pl1⟩ := putL_of hk1
  refine ⟨a0, vs, k1, l1, rfl, ok4, h3, by rw [h5.length]; exact hl1, v2, [], rfl, ?_⟩
  have S5 := S4.change (ow' := oLst r (xs.set l1 u)) (o' := .lst (vs.set l1 v1)) hj ⟨_, rfl, by rw [List.length_set]; exact h4, Paired.setR (r.mono ((e2.trans g.f).trans e4) ok1) h5⟩
  have hjl : j < os.length := (List.getElem?_eq_some_iff.mp hj).1
  have hj5 : (os.set j (a0, oLst r (xs.set l1 u)))[j]? = some (a0, oLst r (xs.set l1 u)) := List.getElem?_set_self hjl
  obtain ⟨g5, _, _, _, _, _⟩ := S5.own hi hj5
  refine ⟨.ref a0, g5, xs.set l1 u, F4, _, S5, pl1, fun k2 hk2 vk2 F6 H6 S6 e6 ok6 => ?_⟩
  obtain ⟨_, _, vs6, h63, h64, h65⟩ := S6.own hi hj5
  obtain ⟨l2, hl2, pl2⟩ := putL_of hk2
  refine ⟨a0, vs6, k2, l2, rfl, ok6, h63, by rw [h65.length]; exact hl2, rfl, ?_⟩
  have S7 := S6.change (ow' := oLst r ((xs.set l1 u).set l2 v)) (o' := .lst (vs6.set l2 v2)) hj5 ⟨_, rfl, by rw [List.length_set]; exact h64, Paired.setR (r.mono ((g.f.trans e4).trans e6) ok2) h65⟩
  rw [List.set_set] at S7
  exact ⟨_, F6, P, S7, pl2, k⟩⟩⟩⟩
end
end Mi

namespace Mi
open PySem L2 Evl

/-! ### calls by keywords alone -/
/-- how keywords ks bind: g puts their values in the parameters' order -/
def KwB (K : PySem.W.Frag) (fd : FuncData) (ps ks : List Str) (g : {α : Type} → List α → List α) : Prop := ∀ (s : Shared) (ws : List Value), K.In s.heap → ws.length = ks.length → BindsTo s fd ⟨[], ks.zip ws⟩ (ps.zip (g ws))
/-- a def without defaults -/
theorem kwB_of {K : PySem.W.Frag} {x qual : Str} {st : Stmt} {f : Addr} {fd : FuncData} {ps ks : List Str} {g : {α : Type} → List α → List α} (F : Fun K x qual st f fd)
    (h : ∀ (kV doc pm : Value) (an : Option Addr) (cdv ct : Value) (ws : List Value), ws.length = ks.length → bindArgs (PySem.W.fnOf x qual (defArgs st) (defBody st) (defScope st) .none kV doc pm an cdv ct) ⟨[], ks.zip ws⟩ = pure (ps.zip (g ws))) : KwB K fd ps ks g := by
  obtain ⟨oc, od, kV, doc, pm, an, cdv, ct, osl, rfl, lk, hcd⟩ := F.ex
  exact fun s ws _ hl => .of_eq (h kV doc pm an cdv ct ws hl)
def tKK (B : Bs) (env : Env) (os : Os) {ι : Type} (sl : ι → Env) (w : W ι) : TA := tAA B env os sl w
def KK (X : Cx) (B : Bs) (env : Env) (os : Os) (kws : List Keyword) {ι : Type} (sl : ι → Env) (w : W ι) : Prop := PK X kws (tKK B env os sl w)
section
variable {X : Cx} {B : Bs} {env : Env} {os : Os} {pos p : Pos} {α β ι κ ρ : Type} {r : Rp α} {sl : κ → Env} {args : ι → Env} {osf : ι → Os} {wf : ι → W ρ} {ro : Rp ρ} {e : Expr} {kws : List Keyword} {x : Str} {k : Nat} {f : Addr} {fd : FuncData} {ps ks : List Str} {g : {α : Type} → List α → List α}
theorem PK.imp {t t' : TA} (h : PK X kws t) (i : ∀ σ H Q, t' σ H Q → t σ H Q) : PK X kws t' := ⟨fun pos pins s σ H Q I q => h.run pos pins s σ H Q I (i _ _ _ q)⟩
theorem PK.ex {ι : Type} {t : ι → TA} (h : ∀ i, PK X kws (t i)) : PK X kws (fun σ H Q => ∃ i, t i σ H Q) := ⟨fun pos pins s σ H Q I ⟨i, q⟩ => (h i).run pos pins s σ H Q I q⟩
theorem kk_nil : KK X B env os [] (fun _ : Unit => []) (ret ()) := PK.imp pk_nil fun σ H Q ⟨F, P, S, hw, k⟩ => k () hw [] F H S (Ex.refl F) .nil
theorem kk_cons {nm : Option Str} {kpos : Pos} {w1 : W α} {w2 : α → W κ} (h : EE X B env os e r w1) (ht : ∀ y, KK X B env os kws sl (w2 y)) : KK X B env os (⟨nm, e, kpos⟩ :: kws) (fun q : α × κ => sv r q.1 :: sl q.2) (bnd w1 fun y => bnd (w2 y) fun i => ret (y, i)) :=
  PK.imp (pk_cons h (PK.ex ht)) fun σ H Q ⟨F, P, S, hw, k⟩ => ⟨F, _, S, hw, fun y hy v F1 H1 S1 e1 ok1 => ⟨y, F1, _, S1, hy, fun i hi vs F2 H2 S2 e2 ok2 => k _ hi (v :: vs) F2 H2 S2 (e1.trans e2) (.cons ⟨v, rfl, r.mono e2 ok1⟩ ok2)⟩⟩
/-- f(k = v, ..) -/
theorem e_callK {w : W κ} {conv : κ → ι} (G : FnOk X.prog X.w X.K X.mg X.base CX0 k f fd ps (spW args osf wf ro)) (hr : Room k X.A) (hm : X.mg x = some (.ref f)) (hk : PySem.W.keepIn X.K (.ref f) = true) (hb : KwB X.K fd ps ks g)
    (hrel : ∀ {vs : List V} {us : List Value}, Vals vs us → Vals (g vs) (g us)) (hconv : ∀ q vs F, EnvOk F (sl q) (vs.map some) → EnvOk F (args (conv q)) ((g vs).map some))
    (hkw : KK X B env os kws sl w) (ho : ∀ i, OsLe os (osf i)) (hnd : ∀ i, ((osf i).map (·.1)).Nodup) (hln : ∀ q, (sl q).length = ks.length) (hall : (backToKw pos (keywordEach kws X.env)).all (·.1.isSome) = true := by rfl) (hks : (backToKw pos (keywordEach kws X.env)).filterMap (·.1) = ks := by rfl)
    (hg : Gl X x := by rfl) (hdb : (x == ("__debug__" : Str)) = false := by decide) (hpl : ((backTo pos (starEach [] X.env)).any (·.1) || (backToKw pos (keywordEach kws X.env)).any (·.1.isNone)) = false := by rfl) :
    EE X B env os (.Call (.Name x p) [] kws pos) ro (bnd w fun q => noX (wf (conv q))) := by
  refine ⟨fun pins s σ H Q I h => ?_⟩
  refine wpAny_Call_Name_kw (ld_glob I hg hm ?_ hdb)
  refine PySem.W.callWith_KW0 (h₀ := X.base) I.ok.mod.kin hk hall ?_ hpl
  obtain ⟨F, P, S, hw, kk⟩ := h
  refine thn (hkw.run pos pins s σ H (fun zs H2 => ∃ us' : Unit, zs.length = ks.length ∧ spW args osf wf ro (g zs) H2 Q E0) I ⟨F, _, S, hw, fun q hq vs F1 H1 S1 e1 ok => ⟨(), ?_, conv q, F1, P, S1.fh, hconv q vs F1 ok, fun p hp => ?_, hnd _, hq, fun y hy v F2 H2 fn ow okv => ?_⟩⟩) fun ws s2 ⟨zs, H2, I2, rz, _, l2, q2⟩ => ⟨I2.kIn, ?_⟩
  · have := ok.len
    rw [List.length_map, hln q] at this
    exact this.symm
  · obtain ⟨h1, h2, _⟩ := S1.ow p (ho _ p hp)
    exact ⟨h1, h2⟩
  · exact kk y hy v F2 H2 (S1.back (ho _) fn ow) (e1.trans fn.bf) okv
  · rw [hks]
    have r2 : Vals (g zs) (g ws) := hrel rz
    have b := hb s2 ws I2.kIn (rz.length.symm.trans l2)
    refine wpAny_call (codeAny_mono (G.run X.A X.stack s2 H2 ⟨[], ks.zip ws⟩ (g ws) (g zs) Q E0 hr I2.env0 b r2 q2) fun res s' hq => ?_)
    cases res with
    | error e => exact False.elim hq
    | ok fl =>
      cases fl with
      | ret u => exact I2.after hq
      | next => exact False.elim hq
      | brk => exact False.elim hq
      | cont => exact False.elim hq
end
theorem swap_vals {vs : List V} {us : List Value} (h : Vals vs us) : Vals vs.reverse us.reverse := by
  induction h with
  | nil => exact .nil
  | cons r t ih =>
    rw [List.reverse_cons, List.reverse_cons]
    exact Vals.append ih (.cons r .nil)

/-! ### small things for printed proofs -/
theorem OsLe.mem {os : Os} {p : Addr × Own} (h : p ∈ os) : OsLe os [p] := fun q hq => by
  rcases List.mem_cons.mp hq with e | e
  · exact e ▸ h
  · cases e
theorem OsLe.none {os : Os} : OsLe os [] := fun q hq => by cases hq
/-- behind a loop that may be left by return -/
def flEnd {S ρ β : Type} (inj : ρ → β) (k : S → W β) : Fl S ρ → W β
  | .rt x => ret (inj x)
  | .nx s => k s
  | .bk _ => fail
  | .ct _ => fail
@[simp] theorem flEnd_rt {S ρ β : Type} (inj : ρ → β) (k : S → W β) (x : ρ) : flEnd inj k (.rt x) = ret (inj x) := rfl
@[simp] theorem flEnd_nx {S ρ β : Type} (inj : ρ → β) (k : S → W β) (s : S) : flEnd inj k (.nx s) = k s := rfl
section
variable {X : Cx} {B : Bs} {env : Env} {os : Os} {pos : Pos} {α β : Type} {r : Rp α} {f : α → PyData} {n : Nat}
theorem eqv_nil {xs : List α} : PyData.eqv (.list (xs.map f)) (.list []) = xs.isEmpty := by
  cases xs <;> simp [PyData.eqv, PyData.eqvAll]
/-- found == [], found != [], found one's own list -/
theorem e_eqNilO (i j : Nat) {x : Str} {p1 p2 : Pos} {a : Addr} {xs : List α} (hu : X.A.units + 64 < cLine) (d : DD X.K r f n) (hi : env[i]? = some (sv (rAdr a) ())) (hj : os[j]? = some (a, oLst r xs)) (hn : n + 1 ≤ 64 := by decide) (hN : X.N[i]? = some x := by rfl)
    (hv : Vis X.env.scope x := by first | exact Or.inl rfl | exact Or.inr (Or.inl rfl) | exact Or.inr (Or.inr rfl)) (hd : (x == ("__debug__" : Str)) = false := by decide) (hcd : (x == ("__classdict__" : Str)) = false := by decide) :
    EE X B env os (.Compare (.Name x p1) [.Eq] [.List [] p2] pos) rBool (ret xs.isEmpty) :=
  PE.imp (pe_cmpR (op_eqD hu) (pe_var hN hv hd hcd) (pe_lst pa_nil) (nomark _)) fun σ H Q ⟨F, P, S, hw, k⟩ => by
  obtain ⟨g1, g2, vs, g3, g4, g5⟩ := S.own hi hj
  refine ⟨.ref a, g1, Nat.zero_le _, fun p hp => ?_⟩
  have g : Grow F H (upd F p (.lst [])) (upd H p (.lst [])) := Grow.alloc S.fh hp
  have S2 := S.grow g
  obtain ⟨k1, k2, k3⟩ := dd_all d (F := upd H p (.lst [])) (Paired.imp (fun _ _ => r.mono (g.f.trans S2.fh)) g5)
  refine ⟨.list (xs.map f), .list [], .lst (SqL.of (Ex.new hp _ _ g3)) k1, .lst (SqL.of upd_same) .nil, shaped_of (n := n + 1) (by rw [PyData.canLay0]; exact k2) (by rw [PyData.depth]; omega) hn, by decide, ?_⟩
  rw [eqv_nil]
  exact k _ hw _ _ _ S2 g.f rfl
theorem e_neNilO (i j : Nat) {x : Str} {p1 p2 : Pos} {a : Addr} {xs : List α} (hu : X.A.units + 64 < cLine) (d : DD X.K r f n) (hi : env[i]? = some (sv (rAdr a) ())) (hj : os[j]? = some (a, oLst r xs)) (hn : n + 1 ≤ 64 := by decide) (hN : X.N[i]? = some x := by rfl)
    (hv : Vis X.env.scope x := by first | exact Or.inl rfl | exact Or.inr (Or.inl rfl) | exact Or.inr (Or.inr rfl)) (hd : (x == ("__debug__" : Str)) = false := by decide) (hcd : (x == ("__classdict__" : Str)) = false := by decide) :
    EE X B env os (.Compare (.Name x p1) [.NotEq] [.List [] p2] pos) rBool (ret (!xs.isEmpty)) :=
  PE.imp (pe_cmpR (op_neD hu) (pe_var hN hv hd hcd) (pe_lst pa_nil) (nomark _)) fun σ H Q ⟨F, P, S, hw, k⟩ => by
  obtain ⟨g1, g2, vs, g3, g4, g5⟩ := S.own hi hj
  refine ⟨.ref a, g1, Nat.zero_le _, fun p hp => ?_⟩
  have g : Grow F H (upd F p (.lst [])) (upd H p (.lst [])) := Grow.alloc S.fh hp
  have S2 := S.grow g
  obtain ⟨k1, k2, k3⟩ := dd_all d (F := upd H p (.lst [])) (Paired.imp (fun _ _ => r.mono (g.f.trans S2.fh)) g5)
  refine ⟨.list (xs.map f), .list [], .lst (SqL.of (Ex.new hp _ _ g3)) k1, .lst (SqL.of upd_same) .nil, shaped_of (n := n + 1) (by rw [PyData.canLay0]; exact k2) (by rw [PyData.depth]; omega) hn, by decide, ?_⟩
  rw [eqv_nil]
  exact k _ hw _ _ _ S2 g.f rfl
end
end Mi

namespace Mi
open PySem L2 Evl

section
variable {X : Cx} {B : Bs} {env : Env} {os : Os} {pos : Pos} {α β γ ρ S : Type} {r : Rp α} {s : Rp β} {f : α → PyData} {g : β → PyData} {n m : Nat} {e a b tg : Expr}
/-! ### other words for the same -/
theorem t_conv {w w' : W Bool} (h : ET X B env os e w) (q : w' = w) : ET X B env os e w' := q ▸ h
theorem n_conv {w w' : W (List α)} (h : EN X B env os e r w) (q : w' = w) : EN X B env os e r w' := q ▸ h
theorem s_conv {w w' : W (List α)} (h : ES X B env os tg e r w) (q : w' = w) : ES X B env os tg e r w' := q ▸ h
/-! the mirror's words put in one line (told so that no unfolding is asked of the kernel) -/
theorem wn_br {α β : Type} (x : α) (f : α → W β) : bnd (ret x) f = f x := funext fun _ => rfl
theorem wn_rb {α : Type} (m : W α) : bnd m ret = m := funext fun _ => rfl
theorem wn_bb {α β γ : Type} (m : W α) (f : α → W β) (g : β → W γ) : bnd (bnd m f) g = bnd m fun x => bnd (f x) g := funext fun _ => rfl
theorem wn_cb {c : Prop} {α β : Type} (w : W α) (f : α → W β) : bnd (chk c w) f = chk c (bnd w f) := funext fun _ => rfl
/-! ### comparisons as tests -/
section
variable {w1 : W Int} {w2 : Int → W Int}
theorem t_lt (ha : EE X B env os a rInt w1) (hb : ∀ x, EE X B env os b rInt (w2 x)) : ET X B env os (.Compare a [.Lt] [b] pos) (bnd w1 fun x => bnd (w2 x) fun y => ret (decide (x < y))) := t_cmp op_lt (r2i fun _ _ _ => rfl) (nomark _) ha hb
theorem t_le (ha : EE X B env os a rInt w1) (hb : ∀ x, EE X B env os b rInt (w2 x)) : ET X B env os (.Compare a [.LtE] [b] pos) (bnd w1 fun x => bnd (w2 x) fun y => ret (decide (x ≤ y))) := t_cmp op_le (r2i fun _ _ _ => rfl) (nomark _) ha hb
theorem t_gt (ha : EE X B env os a rInt w1) (hb : ∀ x, EE X B env os b rInt (w2 x)) : ET X B env os (.Compare a [.Gt] [b] pos) (bnd w1 fun x => bnd (w2 x) fun y => ret (decide (y < x))) := t_cmp op_gt (r2i fun _ _ _ => rfl) (nomark _) ha hb
theorem t_ge (ha : EE X B env os a rInt w1) (hb : ∀ x, EE X B env os b rInt (w2 x)) : ET X B env os (.Compare a [.GtE] [b] pos) (bnd w1 fun x => bnd (w2 x) fun y => ret (decide (y ≤ x))) := t_cmp op_ge (r2i fun _ _ _ => rfl) (nomark _) ha hb
theorem t_eqI (ha : EE X B env os a rInt w1) (hb : ∀ x, EE X B env os b rInt (w2 x)) : ET X B env os (.Compare a [.Eq] [b] pos) (bnd w1 fun x => bnd (w2 x) fun y => ret (decide (x = y))) := t_cmp op_eq sem_eqI (nomark _) ha hb
theorem t_neI (ha : EE X B env os a rInt w1) (hb : ∀ x, EE X B env os b rInt (w2 x)) : ET X B env os (.Compare a [.NotEq] [b] pos) (bnd w1 fun x => bnd (w2 x) fun y => ret (!decide (x = y))) := t_cmp op_ne sem_neI (nomark _) ha hb
end
theorem t_eqS {w1 : W Str} {w2 : Str → W Str} (ha : EE X B env os a rStr w1) (hb : ∀ x, EE X B env os b rStr (w2 x)) : ET X B env os (.Compare a [.Eq] [b] pos) (bnd w1 fun x => bnd (w2 x) fun y => ret (decide (x = y))) := t_cmp op_eq sem_eqS (nomark _) ha hb
theorem t_neS {w1 : W Str} {w2 : Str → W Str} (ha : EE X B env os a rStr w1) (hb : ∀ x, EE X B env os b rStr (w2 x)) : ET X B env os (.Compare a [.NotEq] [b] pos) (bnd w1 fun x => bnd (w2 x) fun y => ret (!decide (x = y))) := t_cmp op_ne sem_neS (nomark _) ha hb
theorem t_eqD {w1 : W α} {w2 : α → W β} (hu : X.A.units + 64 < cLine) (d : DD X.K r f n) (e : DD X.K s g m) (ha : EE X B env os a r w1) (hb : ∀ x, EE X B env os b s (w2 x)) (hn : n ≤ 64 := by decide) (hm : m ≤ 64 := by decide) : ET X B env os (.Compare a [.Eq] [b] pos) (bnd w1 fun x => bnd (w2 x) fun y => ret (PyData.eqv (f x) (g y))) := t_cmp (op_eqD hu) (sem_eqD d e hn hm) (nomark _) ha hb
theorem t_neD {w1 : W α} {w2 : α → W β} (hu : X.A.units + 64 < cLine) (d : DD X.K r f n) (e : DD X.K s g m) (ha : EE X B env os a r w1) (hb : ∀ x, EE X B env os b s (w2 x)) (hn : n ≤ 64 := by decide) (hm : m ≤ 64 := by decide) : ET X B env os (.Compare a [.NotEq] [b] pos) (bnd w1 fun x => bnd (w2 x) fun y => ret (!PyData.eqv (f x) (g y))) := t_cmp (op_neD hu) (sem_neD d e hn hm) (nomark _) ha hb
theorem t_eqNilO (i j : Nat) {x : Str} {p1 p2 : Pos} {a : Addr} {xs : List α} (hu : X.A.units + 64 < cLine) (d : DD X.K r f n) (hi : env[i]? = some (sv (rAdr a) ())) (hj : os[j]? = some (a, oLst r xs)) (hn : n + 1 ≤ 64 := by decide) (hN : X.N[i]? = some x := by rfl)
    (hv : Vis X.env.scope x := by first | exact Or.inl rfl | exact Or.inr (Or.inl rfl) | exact Or.inr (Or.inr rfl)) (hd : (x == ("__debug__" : Str)) = false := by decide) (hcd : (x == ("__classdict__" : Str)) = false := by decide) :
    ET X B env os (.Compare (.Name x p1) [.Eq] [.List [] p2] pos) (ret xs.isEmpty) :=
  PT.imp (pt_cmpR (op_eqD hu) (pe_var hN hv hd hcd) (pe_lst pa_nil) (nomark _)) fun σ H Q ⟨F, P, S, hw, k⟩ => by
  obtain ⟨g1, g2, vs, g3, g4, g5⟩ := S.own hi hj
  refine ⟨.ref a, g1, Nat.zero_le _, fun p hp => ?_⟩
  have g : Grow F H (upd F p (.lst [])) (upd H p (.lst [])) := Grow.alloc S.fh hp
  have S2 := S.grow g
  obtain ⟨k1, k2, k3⟩ := dd_all d (F := upd H p (.lst [])) (Paired.imp (fun _ _ => r.mono (g.f.trans S2.fh)) g5)
  refine ⟨.list (xs.map f), .list [], .lst (SqL.of (Ex.new hp _ _ g3)) k1, .lst (SqL.of upd_same) .nil, shaped_of (n := n + 1) (by rw [PyData.canLay0]; exact k2) (by rw [PyData.depth]; omega) hn, by decide, ?_⟩
  rw [eqv_nil]
  exact ⟨_, rfl, k _ hw _ _ S2 g.f⟩
theorem t_neNilO (i j : Nat) {x : Str} {p1 p2 : Pos} {a : Addr} {xs : List α} (hu : X.A.units + 64 < cLine) (d : DD X.K r f n) (hi : env[i]? = some (sv (rAdr a) ())) (hj : os[j]? = some (a, oLst r xs)) (hn : n + 1 ≤ 64 := by decide) (hN : X.N[i]? = some x := by rfl)
    (hv : Vis X.env.scope x := by first | exact Or.inl rfl | exact Or.inr (Or.inl rfl) | exact Or.inr (Or.inr rfl)) (hd : (x == ("__debug__" : Str)) = false := by decide) (hcd : (x == ("__classdict__" : Str)) = false := by decide) :
    ET X B env os (.Compare (.Name x p1) [.NotEq] [.List [] p2] pos) (ret (!xs.isEmpty)) :=
  PT.imp (pt_cmpR (op_neD hu) (pe_var hN hv hd hcd) (pe_lst pa_nil) (nomark _)) fun σ H Q ⟨F, P, S, hw, k⟩ => by
  obtain ⟨g1, g2, vs, g3, g4, g5⟩ := S.own hi hj
  refine ⟨.ref a, g1, Nat.zero_le _, fun p hp => ?_⟩
  have g : Grow F H (upd F p (.lst [])) (upd H p (.lst [])) := Grow.alloc S.fh hp
  have S2 := S.grow g
  obtain ⟨k1, k2, k3⟩ := dd_all d (F := upd H p (.lst [])) (Paired.imp (fun _ _ => r.mono (g.f.trans S2.fh)) g5)
  refine ⟨.list (xs.map f), .list [], .lst (SqL.of (Ex.new hp _ _ g3)) k1, .lst (SqL.of upd_same) .nil, shaped_of (n := n + 1) (by rw [PyData.canLay0]; exact k2) (by rw [PyData.depth]; omega) hn, by decide, ?_⟩
  rw [eqv_nil]
  exact ⟨_, rfl, k _ hw _ _ S2 g.f⟩
/-! ### texts put together -/
theorem strOk_app {x y : Str} (h1 : PyData.strOk x = true) (h2 : PyData.strOk y = true) : PyData.strOk (x ++ y) = true := by
  unfold PyData.strOk at *
  show (x.cps ++ y.cps).all _ = true
  rw [Array.all_append, h1, h2]
  rfl
def catS (x y : Str) : W Str := chk (x.length + y.length ≤ sizeLine) (ret (x ++ y))
theorem sem_catS : R2T (fun x y H Q => ∃ i j, x = .str i ∧ y = .str j ∧ i.length + j.length ≤ sizeLine ∧ Q (.str (i ++ j)) H) rStr rStr rStr catS := fun F H v u x y P E Q fh ⟨o1, _, o2⟩ ⟨p1, _, p2⟩ ⟨c, hw⟩ k =>
  ⟨x, y, o1, p1, c, k _ hw _ F H (Grow.refl fh) ⟨rfl, by
    show (x.cps ++ y.cps).size ≤ sizeLine
    rw [Array.size_append]
    exact c, strOk_app o2 p2⟩⟩
theorem e_catS {w1 : W Str} {w2 : Str → W Str} (ha : EE X B env os a rStr w1) (hb : ∀ x, EE X B env os b rStr (w2 x)) : EE X B env os (.BinOp a .Add b pos) rStr (bnd w1 fun x => bnd (w2 x) fun y => catS x y) := e_op op_add_str sem_catS ha hb

/-! ### what a loop's turn leaves behind -/
theorem Sit.sub {F H : Hp} {σ : L2.St} {os' : Os} (s : Sit B F H σ env os) (h : os'.Sublist os) : Sit B F H σ env os' := ⟨s.fin, s.env, fun p hp => s.ow p (h.subset hp), s.nd.sublist (h.map _)⟩
theorem NxOk.nxS {envS : S → Env} {osS : S → Os} {s : S} (h : EnvLe env (envS s)) (ho : (osS s).Sublist os) : NxOk B (pNx B envS osS) env os s := ⟨fun D q σ F H z => q σ F H ((z.le h).sub ho)⟩
theorem NxOk.flS {osR : Os} {ro : Rp ρ} {envS : S → Env} {osS : S → Os} {s : S} (h : EnvLe env (envS s)) (ho : (osS s).Sublist os) : NxOk B (pFl B osR ro envS osS) env os (.nx s) := ⟨fun D q σ F H z => q σ F H ((z.le h).sub ho)⟩
end

/-! ### the bag, made -/
/-- bag(script): a new list of the script's first cells and four ints -/
def spBag (K : PySem.W.Frag) : Sp := fun vs H Q _ => ∃ (a : Addr) (ns : List Int), vs = [.ref a] ∧ SqL K H a (ns.map V.int) ∧ ns.length ≤ sizeLine ∧ ∀ (b c : Addr) (cells : List Int) (m : Int) (H' : Hp), Ex H H' → H b = none → H c = none → b ≠ c → cells.length ≤ sizeLine →
  H' c = some (.lst (cells.map V.int)) → H' b = some (.lst [.ref c, .int 0, .int 0, .int m, .int 0]) → Q (.ref b) H'
section
variable {X : Cx} {B : Bs} {env : Env} {os : Os} {pos pos' p : Pos} {β : Type} {e : Expr} {rest : List Stmt} {post : Post β}
theorem ints_paired {F : Hp} : ∀ xs : List Int, Paired (rInt.ok F) (xs.map V.int) xs
  | [] => .nil
  | _ :: xs => .cons rfl (ints_paired xs)
theorem b_bag (i : Nat) {x bagf : Str} {k : Nat} {f : Addr} {fd : FuncData} {ps : List Str} {xs : List Int} {w : W β} (G : FnOk X.prog X.w X.K X.mg X.base CX0 k f fd ps (spBag X.K)) (hr : Room k X.A) (hm : X.mg bagf = some (.ref f)) (hk : PySem.W.keepIn X.K (.ref f) = true) (hb : Binds X.K fd ps [])
    (he : EE X B env os e (rScr X.K) (ret xs)) (hrest : ∀ b cells, BG X B (env.set i (sv (rAdr b) ())) ((b, oBag cells) :: os) rest post w) (hN : X.N.Nodup) (hi : X.N[i]? = some x := by rfl)
    (hx : Loc X.env.scope x := by first | exact Or.inl rfl | exact Or.inr rfl) (hg : Gl X bagf := by rfl) (hdb : (bagf == ("__debug__" : Str)) = false := by decide)
    (hst : starEach [e] X.env = (false, eval e X.env) :: starEach [] X.env := by rfl) (hpl : (backTo p (starEach [] X.env)).any (·.1) = false := by rfl)
    {p0 : Pos} (hs : swapsWith (.Call (.Name bagf p0) [e] [] p) (some (.Name x pos')) pos.line X.env = pure false := by rfl) (hf : X.fn x = true ∨ X.env.scope.names.lookup x = some .local := by first | exact .inl rfl | exact .inr rfl | assumption) :
    BG X B env os (.Assign [.Name x pos'] (.Call (.Name bagf p0) [e] [] p) pos :: rest) post w :=
  PSs.imp (pss_cons (ps_set hN hi hx (pe_call G hr hg hm hk hb .nil pass0 (pa_cons he pa_nil hst) hdb hst hpl) hs hf) (PSs.ex fun q : Addr × List Int => hrest q.1 q.2)) fun D σ H ⟨F, P, S, hw, k⟩ => ⟨F, fun z => z = xs, S, rfl, fun z hz v F1 H1 S1 e1 ⟨a, ev, hsq, hl⟩ => by
  subst hz ev
  refine ⟨a, z, rfl, ex_l S1.fh hsq, hl, fun b c cells m H' hex hb0 hc0 hbc hcl hc' hb' => ?_⟩
  have fc : F1 c = none := fresh_back S1.fh hc0
  have fb : F1 b = none := fresh_back S1.fh hb0
  have eF : Ex F1 (upd F1 c (.lst (cells.map V.int))) := Ex.new fc
  have S2 : Sit B (upd F1 c (.lst (cells.map V.int))) H' σ env ((b, oBag cells) :: os) := by
    refine ⟨⟨fun q u hq => ?_, S1.fin.bf.trans eF, S1.fin.mrk.trans eF, S1.fin.bb, fun q hq => ?_, fun q u k1 k2 k3 => ?_⟩, S1.env.mono eF, fun q hq => ?_, ?_⟩
    · by_cases hqc : q = c
      · rw [hqc, upd_same] at hq
        rw [hqc, hc']
        exact hq
      · rw [upd_ne hqc] at hq
        exact hex q u (S1.fh q u hq)
    · obtain ⟨u, hu⟩ := S1.fin.ios q hq
      exact ⟨u, hex q u hu⟩
    · obtain ⟨z1, z2⟩ := S1.fin.keep q u k1 k2 k3
      have hqc : q ≠ c := ne_of_none z1 hc0
      exact ⟨hex q u z1, by rw [upd_ne hqc]; exact z2⟩
    · rcases List.mem_cons.mp hq with e | hq
      · subst e
        refine ⟨by rw [upd_ne hbc]; exact fb, ⟨_, hb', (0, 0, m, 0), _, rfl, .cons ⟨.ref c, rfl, c, _, rfl, upd_same, by rw [List.length_map]; exact hcl, ints_paired cells⟩ (.cons ⟨_, rfl, rfl⟩ (.cons ⟨_, rfl, rfl⟩ (.cons ⟨_, rfl, rfl⟩ (.cons ⟨_, rfl, rfl⟩ .nil))))⟩, .inl (S1.fin.fresh hb0)⟩
      · obtain ⟨z1, ⟨u, z2, z3⟩, z4⟩ := S1.ow q hq
        have hqc : q.1 ≠ c := ne_of_none z2 hc0
        exact ⟨by rw [upd_ne hqc]; exact z1, ⟨u, hex _ _ z2, q.2.mono eF z3⟩, z4⟩
    · rw [List.map_cons]
      refine List.nodup_cons.mpr ⟨fun hm => ?_, S1.nd⟩
      obtain ⟨q, hq, e⟩ := List.mem_map.mp hm
      obtain ⟨_, ⟨u, h2, _⟩, _⟩ := S1.ow q hq
      have e' : q.1 = b := e
      rw [e', hb0] at h2
      cases h2
  exact ⟨(b, cells), _, P, S2.store ⟨_, rfl, rfl⟩, hw, k⟩⟩
end
/-! ### the bag's own functions -/
theorem bag_in {cells : List Int} : ∀ F h, (oBag cells).ok F h → ∃ p : Nat × Int × Int × Int, (oHet (bagS cells p.1 p.2.1 p.2.2.1 p.2.2.2)).ok F h := fun _ _ h => h
theorem bag_out {cells : List Int} {i : Int} {n : Nat} {d m k : Int} (e : i = (n : Int)) : ∀ F h, (oHet [sv (rLst rInt) cells, sv rInt i, sv rInt d, sv rInt m, sv rInt k]).ok F h → (oBag cells).ok F h := fun _ _ h => ⟨(n, d, m, k), by rw [e] at h; exact h⟩
/-- what a turn of the bag's mixing makes; each draw lies below most -/
theorem BG.imp {X : Cx} {B : Bs} {env : Env} {os : Os} {blk : List Stmt} {β : Type} {post : Post β} {w w' : W β} (h : BG X B env os blk post w) (i : ∀ P E, w' P E → w P E) : BG X B env os blk post w' :=
  PSs.imp h fun D σ H ⟨F, P, S, hw, k⟩ => ⟨F, P, S, i _ _ hw, k⟩
theorem mul_small {a b : Int} (h : b.natAbs < 2 ^ 64) : IntMulOk a b := IntMulOk.of_right (intBits_le_64 (by omega) (by omega))
theorem mul_smallL {a b : Int} (h : a.natAbs < 2 ^ 64) : IntMulOk a b := IntMulOk.of_left (intBits_le_64 (by omega) (by omega))
end Mi

namespace Mi
open PySem L2 Evl

/-! ### a draw, piece by piece: the words that the walk of draw is proved over -/
def drC (cells : List Int) (n : Nat) (d most : Int) : W Bool := bnd (ret (decide (d < most))) fun x => if x = true then bnd (ret (decide ((n : Int) < (cells.length : Int)))) fun z => ret z else ret false
def drA (cells : List Int) (n : Nat) (m : Int) : W Unit :=
  bnd (bnd (idx cells (n : Int)) fun t => ret t) fun cell => bnd (ret ((n : Int) + 1)) fun i1 => chk (i1 = (n : Int) + 1) <|
  bnd (bnd (mulI m 40639) fun t1 => bnd (modI cell 2147483549) fun t2 => bnd (modI (t1 + t2 + 41) 2147483579) fun t3 => ret t3) fun _ =>
  bnd (bnd (powI 10 18) fun t => bnd (if decide (t ≤ cell) = true then ret cell else ret 0) fun z => ret z) fun _ => ret ()
def drB (d most : Int) : W Int := bnd (bnd (modI d most) fun t => ret t) fun digit => bnd (bnd (divI d most) fun t => ret t) fun _ => bnd (ret digit) fun z => ret z
def drR (m k most : Int) : W Int :=
  bnd (ret (k + 1)) fun k1 => bnd (bnd (mulI k1 8353) fun t => bnd (modI (m + t) 2147483543) fun t => ret t) fun base =>
  bnd (bnd (mulI base base) fun t1 => bnd (modI t1 2147483563) fun t2 => bnd (modI base 41039) fun t3 => bnd (mulI t2 (t3 + 13)) fun t4 => ret t4) fun late =>
  bnd (bnd (mulI 30011 base) fun t1 => bnd (modI (late + t1 + 709) 2147483579) fun t2 => ret t2) fun m1 =>
  bnd (bnd (divI m1 79) fun t1 => bnd (modI m1 9011) fun t2 => bnd (mulI t2 59) fun t3 => bnd (modI (t1 + t3) most) fun t4 => ret t4) fun z => ret z
/-- what the mirror checks may be used -/
theorem b_chk {X : Cx} {B : Bs} {env : Env} {os : Os} {blk : List Stmt} {β : Type} {post : Post β} {w : W β} {c : Prop} (h : c → BG X B env os blk post w) : BG X B env os blk post (chk c w) :=
  ⟨fun pins s σ H D I ⟨F, P, S, ⟨hc, hw⟩, k⟩ => (h hc).run pins s σ H D I ⟨F, P, S, hw, k⟩⟩
theorem modI_of {x y : Int} {P : Int → Prop} {E : Er → Prop} (h : 0 < y) (k : ∀ r, 0 ≤ r → r < y → P r) : modI x y P E := ⟨by omega, k _ (Int.fmod_nonneg_of_pos x h) (Int.fmod_lt_of_pos x h)⟩
theorem divI_of {x y : Int} {P : Int → Prop} {E : Er → Prop} (h : y ≠ 0) (h2 : y.natAbs.log2 < 9000) (k : ∀ r, P r) : divI x y P E := ⟨⟨h, h2⟩, k _⟩
theorem mulI_of {x y : Int} {P : Int → Prop} {E : Er → Prop} (h : IntMulOk x y) (k : P (x * y)) : mulI x y P E := ⟨h, k⟩
theorem drC_of {cells : List Int} {n : Nat} {d most : Int} {P : Bool → Prop} {E : Er → Prop} (h1 : n < cells.length → P true) (h2 : P false) : drC cells n d most P E := by
  unfold drC
  show (if decide (d < most) = true then bnd (ret (decide ((n : Int) < (cells.length : Int)))) fun z => ret z else ret false) P E
  by_cases a : d < most
  · rw [if_pos (decide_eq_true a)]
    show P (decide ((n : Int) < (cells.length : Int)))
    by_cases b : n < cells.length
    · rw [decide_eq_true (show (n : Int) < (cells.length : Int) by omega)]
      exact h1 b
    · rw [decide_eq_false (show ¬ (n : Int) < (cells.length : Int) by omega)]
      exact h2
  · rw [if_neg (by simpa using a)]
    exact h2
theorem idx_nat {α : Type} {xs : List α} {n : Nat} {x : α} (h : xs[n]? = some x) : idx xs (n : Int) = ret x := by
  unfold idx
  rw [atI_nat h]
theorem drA_of {cells : List Int} {n : Nat} {m : Int} {P : Unit → Prop} {E : Er → Prop} (h : n < cells.length) (k : P ()) : drA cells n m P E := by
  unfold drA
  rw [idx_nat (List.getElem?_eq_getElem h)]
  refine ⟨rfl, ?_⟩
  refine mulI_of (mul_small (by decide)) ?_
  refine modI_of (by decide) fun r _ _ => ?_
  refine modI_of (by decide) fun r2 _ _ => ?_
  refine ⟨⟨by decide, by decide, by decide⟩, ?_⟩
  show (if _ then ret _ else ret _ : W Int) (fun _ => P ()) E
  split <;> exact k
theorem drB_of {d most : Int} {P : Int → Prop} {E : Er → Prop} (h : 0 < most) (h2 : most.natAbs.log2 < 9000) (k : ∀ r, 0 ≤ r → r < most → P r) : drB d most P E := by
  unfold drB
  refine modI_of h fun r h1 h3 => ?_
  exact divI_of (by omega) h2 fun _ => k r h1 h3
theorem drR_of {m k most : Int} {P : Int → Prop} {E : Er → Prop} (h : 0 < most) (h2 : most.natAbs.log2 < 9000) (kk : ∀ r, 0 ≤ r → r < most → P r) : drR m k most P E := by
  unfold drR
  refine mulI_of (mul_small (by decide)) ?_
  refine modI_of (by decide) fun base b1 b2 => ?_
  refine mulI_of (mul_small (by omega)) ?_
  refine modI_of (by decide) fun t2 c1 c2 => ?_
  refine modI_of (by decide) fun t3 d1 d2 => ?_
  refine mulI_of (mul_small (by omega)) ?_
  refine mulI_of (mul_smallL (by decide)) ?_
  refine modI_of (by decide) fun m1 e1 e2 => ?_
  refine divI_of (by decide) (by decide) fun q => ?_
  refine modI_of (by decide) fun t5 f1 f2 => ?_
  refine mulI_of (mul_small (by decide)) ?_
  exact modI_of h fun r g1 g2 => kk r g1 g2
end Mi
namespace Mi
open PySem L2 Evl
theorem room100 {k : Nat} {A : Around} (hr : Room k A) : A.units + 100 < cLine := by
  have := hr.un
  omega
theorem guards_deeper {A : Around} {q : Str} {sc : Scope} {n : Nat} {f : Addr} {c : Value} (h : A.guards = some []) : (A.deeper (PyProof.Rows.envOfC q sc n f c)).guards = some [] := h
/-- whether two things show themselves alike -/
def sameW {α β : Type} (f : α → PyData) (g : β → PyData) (x : α) (y : β) : W Bool := bnd (reprW (f x)) fun a => bnd (reprW (g y)) fun b => ret (decide (a = b))
end Mi

namespace Mi
open PySem L2 Evl
section
variable {X : Cx} {B : Bs} {env : Env} {os : Os} {pos : Pos} {α β : Type} {r : Rp α} {s : Rp β} {f : α → PyData} {n : Nat} {e a : Expr} {rest : List Stmt} {post : Post β}
theorem bg_nx {S ρ : Type} {env : Env} {blk : List Stmt} {rt : ρ → β} {w : S → W β} {s : S} (h : BG X B env os blk post (w s)) : BG X B env os blk post (flEnd rt w (.nx s)) := h
/-- seen by another reading -/
theorem e_map {w : W α} {g : α → β} (hg : ∀ {F v x}, r.ok F v x → s.ok F v (g x)) (h : EE X B env os e r w) : EE X B env os e s (bnd w fun x => ret (g x)) :=
  PE.imp h fun σ H Q ⟨F, P, S, hw, k⟩ => ⟨F, _, S, hw, fun x hx v F1 H1 S1 e1 ok => k _ hx v F1 H1 S1 e1 (hg ok)⟩
theorem e_toD {w : W α} (d : DD X.K r f n) (h : EE X B env os e r w) (hn : n ≤ 30 := by decide) : EE X B env os e (rD X.K) (bnd w fun x => ret (f x)) :=
  e_map (s := rD X.K) (fun {F v x} ok => ⟨(d.ok ok).1, (d.ok ok).2.1, Nat.le_trans (d.ok ok).2.2 hn⟩) h
/-- a part of the script -/
theorem n_sliceScr {w1 : W (List Int)} {w2 w3 : W (Option Int)} {lo hi : Option Expr} {p2 : Pos} (ha : EE X B env os a (rScr X.K) w1) (hl : EO X B env os lo w2) (hh : EO X B env os hi w3) :
    EN X B env os (.Subscript a (.Slice lo hi none p2) pos) rInt (bnd w1 fun x => bnd w2 fun l => bnd w3 fun h => ret (cutL x l h)) :=
  PE.imp (pe_slice sl_list ha hl hh) fun σ H Q ⟨F, P, S, hw, k⟩ => ⟨F, _, S, hw, fun x hx v F1 H1 S1 e1 ⟨p1, q1, h1, z1⟩ => ⟨F1, _, S1, hx, fun l hl' F2 H2 S2 e2 => ⟨F2, _, S2, hl', fun h hh' F3 H3 S3 e3 => by
  exact ⟨p1, x.map V.int, q1, ex_l S3.fh (ex_l e3 (ex_l e2 h1)), fun p hp => k _ hh' p F3 _ (S3.newOwn hp ⟨_, rfl, Nat.le_trans (cutV_length _ l h) (by rw [List.length_map]; exact z1), cut_paired (ints_paired x) l h⟩) ((e1.trans e2).trans e3)⟩⟩⟩⟩
theorem ints_of {F : Hp} : ∀ {vs : List V} {xs : List Int}, Paired (rInt.ok F) vs xs → vs = xs.map V.int
  | _, _, .nil => rfl
  | _, _, .cons h t => by
    rw [List.map_cons, ← ints_of t]
    have h' : _ = V.int _ := h
    rw [h']
/-- what the bag's maker gives back -/
def pBag (B : Bs) : Post (List Int × Int) := fun D x => ∀ (b c : Addr) (H : Hp), Ex B.F H → B.H b = none → B.H c = none → b ≠ c → x.1.length ≤ sizeLine → H c = some (.lst (x.1.map V.int)) → H b = some (.lst [.ref c, .int 0, .int 0, .int x.2, .int 0]) → D.rt (.ref b) H
theorem b_bagR {w1 : W (List Int)} {w2 : List Int → W Int} {m : Expr} {q1 q2 q4 : Nat} {p1 p2 p4 p5 : Pos} (hio : ∀ a, a ∉ B.io) (ha : EN X B env [] a rInt w1) (hm : ∀ x c, EE X B env [(c, oLst rInt x)] m rInt (w2 x))
    (h1 : starEach [a, .Constant (.int 0) q1 p1, .Constant (.int 0) q2 p2, m, .Constant (.int 0) q4 p4] X.env = (false, eval a X.env) :: starEach [.Constant (.int 0) q1 p1, .Constant (.int 0) q2 p2, m, .Constant (.int 0) q4 p4] X.env := by rfl)
    (h2 : starEach [.Constant (.int 0) q1 p1, .Constant (.int 0) q2 p2, m, .Constant (.int 0) q4 p4] X.env = (false, eval (.Constant (.int 0) q1 p1) X.env) :: starEach [.Constant (.int 0) q2 p2, m, .Constant (.int 0) q4 p4] X.env := by rfl)
    (h3 : starEach [.Constant (.int 0) q2 p2, m, .Constant (.int 0) q4 p4] X.env = (false, eval (.Constant (.int 0) q2 p2) X.env) :: starEach [m, .Constant (.int 0) q4 p4] X.env := by rfl)
    (h4 : starEach [m, .Constant (.int 0) q4 p4] X.env = (false, eval m X.env) :: starEach [.Constant (.int 0) q4 p4] X.env := by rfl)
    (h5 : starEach [.Constant (.int 0) q4 p4] X.env = (false, eval (.Constant (.int 0) q4 p4) X.env) :: starEach [] X.env := by rfl) :
    BG X B env [] [.Return (some (.List [a, .Constant (.int 0) q1 p1, .Constant (.int 0) q2 p2, m, .Constant (.int 0) q4 p4] p5)) pos] (pBag B) (bnd w1 fun x => bnd (w2 x) fun y => ret (x, y)) :=
  PSs.imp (pss_one (ps_ret (pe_lst (pa_cons ha (pa_cons pe_int (pa_cons pe_int (pa_cons (PE.ex (ι := List Int × Addr) fun q => hm q.1 q.2) (pa_cons pe_int pa_nil h5) h4) h3) h2) h1)))) fun D σ H ⟨F, P, S, hw, k⟩ =>
  ⟨F, _, S, hw, fun x hx c F1 H1 S1 e1 => ⟨(x, c), F1, _, S1, hx, fun y hy v F2 H2 S2 e2 hv => ⟨by show 5 ≤ sizeLine; decide, fun b hb => by
    have hv' : v = V.int y := hv
    subst hv'
    obtain ⟨z1, ⟨o, z2, vs, z3, z4, z5⟩, z6⟩ := S2.ow (c, oLst rInt x) (List.mem_cons_self)
    subst z3
    have evs := ints_of z5
    subst evs
    have hbc : b ≠ c := fun e => by
      rw [e] at hb
      rw [hb] at z2
      cases z2
    have eb : Ex B.F H2 := S2.fin.bf.trans S2.fh
    refine k (x, y) hy b c _ (eb.trans (Ex.new hb)) (S2.fin.fresh hb) ?_ hbc (by rw [List.length_map] at z4; exact z4) ?_ upd_same
    · rcases z6 with z | z
      · exact z
      · exact absurd z (hio _)
    · rw [upd_ne (Ne.symm hbc)]
      exact z2⟩⟩⟩
theorem env_swap {F : Hp} {a b : Slot} : ∀ {vs : List V}, EnvOk F [a, b] (vs.map some) → EnvOk F [b, a] (vs.reverse.map some)
  | [_, _], .cons x (.cons y .nil) => .cons y (.cons x .nil)
theorem forW_of {α S : Type} {f : S → α → W S} {E : Er → Prop} {I : S → Prop} : ∀ {xs : List α} {s : S} {P : S → Prop}, (∀ s x Q, I s → (∀ s', I s' → Q s') → f s x Q E) → I s → (∀ s, I s → P s) → forW f s xs P E
  | [], s, P, hf, hs, hp => hp s hs
  | x :: xs, s, P, hf, hs, hp => hf s x _ hs fun s' h' => forW_of hf h' hp
end
end Mi

namespace Mi
open PySem L2 Evl

/-! ### plain reasoning over mirrors -/
/-- every answer of w is one that I allows, and w gives one -/
def Ok {α : Type} (w : W α) (I : α → Prop) : Prop := ∀ (P : α → Prop) (E : Er → Prop), (∀ x, I x → P x) → w P E
section
variable {α β γ S ρ : Type} {I J : α → Prop} {w m : W α}
theorem Ok.ret {x : α} (h : I x) : Ok (ret x) I := fun P E hp => hp x h
theorem Ok.eq {x : α} : Ok (Mi.ret x) (· = x) := fun P E hp => hp x rfl
theorem Ok.bnd {f : α → W β} {I : β → Prop} (h : Ok m J) (k : ∀ x, J x → Ok (f x) I) : Ok (bnd m f) I := fun P E hp => h _ E fun x hx => k x hx P E hp
theorem Ok.chk {c : Prop} (hc : c) (h : Ok w I) : Ok (chk c w) I := fun P E hp => ⟨hc, h P E hp⟩
theorem Ok.noX (h : Ok w I) : Ok (noX w) I := fun P E hp => h P _ hp
theorem Ok.mono (h : Ok w J) (i : ∀ x, J x → I x) : Ok w I := fun P E hp => h P E fun x hx => hp x (i x hx)
theorem Ok.run {P : α → Prop} {E : Er → Prop} (h : Ok w P) : w P E := h P E fun _ hx => hx
theorem Ok.ite {c : Prop} [Decidable c] {w1 w2 : W α} (h1 : c → Ok w1 I) (h2 : ¬ c → Ok w2 I) : Ok (if c then w1 else w2) I := by
  split
  · exact h1 ‹_›
  · exact h2 ‹_›
theorem Ok.bndE {f : α → W β} {I : β → Prop} {x : α} (h : Ok m (· = x)) (k : Ok (f x) I) : Ok (Mi.bnd m f) I := Ok.bnd h fun y hy => by
  subst hy
  exact k
theorem Ok.retB {f : α → W β} {I : β → Prop} {x : α} (k : Ok (f x) I) : Ok (Mi.bnd (Mi.ret x) f) I := k
theorem Ok.draw {k : Int} (h0 : 0 < k) (h : k.natAbs.log2 < 9000) : Ok (drawW k) fun r => 0 ≤ r ∧ r < k := fun P E hp => ⟨h0, h, fun r h1 h2 => hp r ⟨h1, h2⟩⟩
theorem Ok.idxN {xs : List α} {n : Nat} {x : α} (h : xs[n]? = some x) : Ok (idx xs (n : Int)) (· = x) := by
  rw [idx_nat h]
  exact Ok.eq
theorem Ok.any {xs : List α} (h0 : 0 < xs.length) (h1 : xs.length < 2 ^ 64) (h : ∀ x ∈ xs, I x) : Ok (anyW xs) I := by
  refine Ok.bnd (Ok.noX (Ok.draw (by omega) ?_)) fun r ⟨r0, r1⟩ => ?_
  · refine Nat.lt_of_lt_of_le (Nat.log2_lt (by omega) |>.mpr (show _ < 2 ^ 64 from ?_)) (by decide)
    omega
  · obtain ⟨n, rfl⟩ := Int.eq_ofNat_of_zero_le r0
    have hn : n < xs.length := by omega
    exact (Ok.idxN (List.getElem?_eq_getElem hn)).mono fun x e => e ▸ h _ (List.getElem_mem hn)
theorem Ok.map {f : α → W β} {g : α → β} : ∀ {xs : List α}, (∀ x ∈ xs, Ok (f x) (· = g x)) → Ok (mapW f xs) (· = xs.map g)
  | [], _ => Ok.eq
  | x :: xs, h => Ok.bndE (h x List.mem_cons_self) (Ok.bndE (Ok.map fun y hy => h y (List.mem_cons_of_mem _ hy)) Ok.eq)
theorem Ok.mapP {f : α → W β} {I : β → Prop} : ∀ {xs : List α}, (∀ x ∈ xs, Ok (f x) I) → Ok (mapW f xs) (fun ys => ys.length = xs.length ∧ ∀ y ∈ ys, I y)
  | [], _ => Ok.ret ⟨rfl, fun _ h => nomatch h⟩
  | x :: xs, h => Ok.bnd (h x List.mem_cons_self) fun y hy => Ok.bnd (Ok.mapP fun z hz => h z (List.mem_cons_of_mem _ hz)) fun ys ⟨h1, h2⟩ => Ok.ret ⟨by simp [h1], fun z hz => by
    rcases List.mem_cons.mp hz with e | hz
    · exact e ▸ hy
    · exact h2 z hz⟩
theorem Ok.filt {c : α → W Bool} {f : α → W β} {p : α → Bool} {g : α → β} : ∀ {xs : List α}, (∀ x ∈ xs, Ok (c x) (· = p x)) → (∀ x ∈ xs, p x = true → Ok (f x) (· = g x)) → Ok (filtW c f xs) (· = (xs.filter p).map g)
  | [], _, _ => Ok.eq
  | x :: xs, h, k => by
    have ih := Ok.filt (xs := xs) (c := c) (f := f) (p := p) (g := g) (fun y hy => h y (List.mem_cons_of_mem _ hy)) fun y hy => k y (List.mem_cons_of_mem _ hy)
    refine Ok.bndE (h x List.mem_cons_self) ?_
    by_cases q : p x = true
    · rw [if_pos q, List.filter_cons_of_pos q]
      exact Ok.bndE (k x List.mem_cons_self q) (Ok.bndE ih Ok.eq)
    · rw [if_neg q, List.filter_cons_of_neg q]
      exact ih
theorem Ok.forW {f : S → α → W S} {J : S → Prop} : ∀ {xs : List α} {s0 : S} (inv : Nat → S → Prop), inv 0 s0 → (∀ k (hk : k < xs.length) s, inv k s → Ok (f s xs[k]) (inv (k + 1))) → (∀ s, inv xs.length s → J s) → Ok (forW f s0 xs) J
  | [], s0, inv, h0, _, h2 => Ok.ret (h2 _ h0)
  | x :: xs, s0, inv, h0, h1, h2 => Ok.bnd (h1 0 (by simp) s0 h0) fun s hs => Ok.forW (fun k => inv (k + 1)) hs (fun k hk s hs => h1 (k + 1) (by simpa using hk) s hs) fun s hs => h2 s hs
theorem Ok.forF {f : S → α → W (Fl S ρ)} {J : Fl S ρ → Prop} : ∀ {xs : List α} {s0 : S} (inv : Nat → S → Prop) (R : ρ → Prop), inv 0 s0 → (∀ k (hk : k < xs.length) s, inv k s → Ok (f s xs[k]) fun r => match r with | .nx s => inv (k + 1) s | .rt z => R z | _ => False) →
    (∀ s, inv xs.length s → J (.nx s)) → (∀ z, R z → J (.rt z)) → Ok (forF f s0 xs) J
  | [], s0, inv, R, h0, _, h2, _ => Ok.ret (h2 _ h0)
  | x :: xs, s0, inv, R, h0, h1, h2, h3 => Ok.bnd (h1 0 (by simp) s0 h0) fun r hr => by
    cases r with
    | nx s => exact Ok.forF (fun k => inv (k + 1)) R hr (fun k hk s hs => h1 (k + 1) (by simpa using hk) s hs) (fun s hs => h2 s hs) h3
    | rt z => exact Ok.ret (h3 z hr)
    | bk s => exact False.elim hr
    | ct s => exact False.elim hr
/-! numbers -/
theorem Ok.mul {x y : Int} {m : Nat} (hx : x.natAbs < 2 ^ m) (hy : y.natAbs < 2 ^ m) (hm : m ≤ 1048576) : Ok (mulI x y) (· = x * y) :=
  Ok.chk (IntMulOk.of_bits (intBits_le_iff.mpr (Nat.lt_of_lt_of_le hx (Nat.pow_le_pow_right (by decide) hm))) (intBits_le_iff.mpr (Nat.lt_of_lt_of_le hy (Nat.pow_le_pow_right (by decide) hm)))) Ok.eq
theorem Ok.mulR {x y : Int} (hy : y.natAbs < 2 ^ 64) : Ok (mulI x y) (· = x * y) := Ok.chk (mul_small hy) Ok.eq
theorem Ok.mulL {x y : Int} (hx : x.natAbs < 2 ^ 64) : Ok (mulI x y) (· = x * y) := Ok.chk (mul_smallL hx) Ok.eq
theorem log2_lt {n m : Nat} (h : n < 2 ^ m) (hm : 0 < m) : n.log2 < m := by
  by_cases e : n = 0
  · subst e
    exact hm
  · exact (Nat.log2_lt e).mpr h
theorem Ok.div {x y : Int} (h : y ≠ 0) (hy : y.natAbs < 2 ^ 9000) : Ok (divI x y) (· = x.fdiv y) := Ok.chk ⟨h, log2_lt hy (by decide)⟩ Ok.eq
theorem Ok.mod {x y : Int} (h : y ≠ 0) : Ok (modI x y) (· = x.fmod y) := Ok.chk h Ok.eq
theorem Ok.rng1 {n : Nat} (h : n ≤ 16777216) : Ok (rng1 (n : Int)) (· = (List.range n).map fun k : Nat => (k : Int)) := by
  refine Ok.chk ⟨by omega, by omega, by omega, by omega, by omega⟩ (Ok.ret ?_)
  unfold rangeI
  rw [show ((n : Int) - 0).toNat = n by omega]
  exact List.map_congr_left fun k _ => by omega
theorem Ok.rng2 {a n : Nat} (h : a ≤ n) (h2 : n ≤ 16777216) : Ok (rng2 (a : Int) (n : Int)) (· = (List.range (n - a)).map fun k : Nat => ((a + k : Nat) : Int)) := by
  refine Ok.chk ⟨by omega, by omega, by omega, by omega, by omega⟩ (Ok.ret ?_)
  unfold rangeI
  rw [show ((n : Int) - (a : Int)).toNat = n - a by omega]
  exact List.map_congr_left fun k _ => by omega
/-- a map over a range -/
theorem Ok.mapR {f : Int → W β} {g : Nat → β} {n a : Nat} (h : ∀ k, k < n → Ok (f ((a + k : Nat) : Int)) (· = g (a + k))) : Ok (mapW f ((List.range n).map fun k : Nat => ((a + k : Nat) : Int))) (· = (List.range n).map fun k => g (a + k)) := by
  refine (Ok.map (g := fun i : Int => g i.toNat) fun x hx => ?_).mono fun ys e => ?_
  · obtain ⟨k, hk, rfl⟩ := List.mem_map.mp hx
    exact h k (List.mem_range.mp hk)
  · rw [e, List.map_map]
    exact List.map_congr_left fun k _ => rfl
theorem Ok.mapR0 {f : Int → W β} {g : Nat → β} {n : Nat} (h : ∀ k, k < n → Ok (f (k : Int)) (· = g k)) : Ok (mapW f ((List.range n).map fun k : Nat => (k : Int))) (· = (List.range n).map g) := by
  refine (Ok.map (g := fun i : Int => g i.toNat) fun x hx => ?_).mono fun ys e => ?_
  · obtain ⟨k, hk, rfl⟩ := List.mem_map.mp hx
    exact h k (List.mem_range.mp hk)
  · rw [e, List.map_map]
    exact List.map_congr_left fun k _ => rfl
theorem idx_range {g : Nat → β} {n k : Nat} (h : k < n) : idx ((List.range n).map g) (k : Int) = Mi.ret (g k) := idx_nat (by simp [h])
theorem putL_range {g : Nat → β} {n k : Nat} {y : β} (h : k < n) : putL ((List.range n).map g) (k : Int) y = Mi.ret ((List.range n).map fun i => if i = k then y else g i) := by
  unfold putL
  rw [List.length_map, List.length_range, ixN_nat h]
  refine congrArg Mi.ret ?_
  refine List.ext_getElem? fun i => ?_
  rw [List.getElem?_set]
  by_cases hi : i < n
  · by_cases e : k = i
    · subst e
      simp [h]
    · simp [e, hi, show ¬ i = k from fun q => e q.symm]
  · have hk : k ≠ i := fun e => by omega
    rw [if_neg hk]
    simp [hi]
end
/-! ### what a thing shows -/
theorem piled_le {ts : List Str} {m : Nat} (h : ∀ t ∈ ts, t.length ≤ m) : piled ts ≤ ts.length * (m + 2) := by
  induction ts with
  | nil => simp [piled]
  | cons t ts ih =>
    have := ih fun u hu => h u (List.mem_cons_of_mem _ hu)
    have := h t List.mem_cons_self
    rw [piled_cons, List.length_cons, Nat.add_mul]
    omega
theorem textFrom_len_le : ∀ (ts : List Str) (k : Nat) (acc : Str), (textFrom k acc ts).length ≤ acc.length + piled ts
  | [], k, acc => by
    show acc.length ≤ _
    omega
  | t :: r, k, acc => by
    have h := textFrom_len_le r (k + 1) (acc ++ (if k > 0 then ", " else "" : String) ++ t)
    have e : (acc ++ (if k > 0 then ", " else "" : String) ++ t).length = acc.length + (if k > 0 then 2 else 0) + t.length := by
      rw [strLen_append, strLen_append]
      split <;> rfl
    rw [e] at h
    rw [piled_cons]
    show (textFrom (k + 1) _ r).length ≤ _
    have : (if k > 0 then 2 else 0 : Nat) ≤ 2 := by split <;> decide
    omega
theorem listText_len_le (ts : List Str) : (listText ts).length ≤ 2 + piled ts := by
  unfold listText
  rw [strLen_append]
  have := textFrom_len_le ts 0 "["
  have e : ((("[" : String) : Str)).length = 1 := rfl
  have e2 : ((("]" : String) : Str)).length = 1 := rfl
  omega
theorem strOk_str (s : String) : PyData.strOk (Str.ofString s) = true := by
  unfold PyData.strOk
  rw [Str.ofString_eq_toList, ← Array.all_toList, List.all_eq_true]
  intro y hy
  obtain ⟨c, _, rfl⟩ := List.mem_map.mp (by simpa using hy)
  have := c.valid
  simp only [decide_eq_true_eq]
  unfold Char.toNat
  rcases this with h | ⟨_, h⟩
  · exact Nat.lt_trans h (by decide)
  · exact h
theorem textFrom_ok : ∀ (ts : List Str) (k : Nat) (acc : Str), PyData.strOk acc = true → (∀ t ∈ ts, PyData.strOk t = true) → PyData.strOk (textFrom k acc ts) = true
  | [], k, acc, h, _ => h
  | t :: r, k, acc, h, h2 => by
    show PyData.strOk (textFrom (k + 1) _ r) = true
    exact textFrom_ok r (k + 1) _ (strOk_app (strOk_app h (strOk_str _)) (h2 t List.mem_cons_self)) fun u hu => h2 u (List.mem_cons_of_mem _ hu)
theorem listText_ok {ts : List Str} (h : ∀ t ∈ ts, PyData.strOk t = true) : PyData.strOk (listText ts) = true := strOk_app (textFrom_ok ts 0 _ (strOk_str _) h) (strOk_str _)
/-- it can be shown, in at most m signs -/
structure Shw (d : PyData) (m : Nat) : Prop where
  s : d.showable = true
  l : d.shown.length ≤ m
  o : PyData.strOk d.shown = true
theorem Shw.mono {d : PyData} {m n : Nat} (h : Shw d m) (hm : m ≤ n) : Shw d n := ⟨h.s, Nat.le_trans h.l hm, h.o⟩
theorem Shw.int {i : Int} (h : i.natAbs < 2 ^ 1920) : Shw (.int i) 1921 := by
  have q : i.natAbs.log2 < 1920 := log2_lt h (by decide)
  refine ⟨by simp [PyData.showable, q], ?_, ?_⟩
  · rw [PyData.shown]
    exact PyProof.Rows.int_text_len_1921 q
  · rw [PyData.shown]
    exact strOk_str _
theorem Shw.list {ds : List PyData} {m n : Nat} (h : ∀ d ∈ ds, Shw d m) (hn : ds.length ≤ n) : Shw (.list ds) (n * (m + 2) + 2) := by
  have e : ∀ ds : List PyData, PyData.shownAll ds = ds.map PyData.shown := fun ds => by
    induction ds with
    | nil => rfl
    | cons d ds ih => rw [PyData.shownAll, ih, List.map_cons]
  have e2 : ∀ ds : List PyData, (∀ d ∈ ds, d.showable = true) → PyData.showableAll ds = true := fun ds => by
    induction ds with
    | nil => exact fun _ => rfl
    | cons d ds ih => exact fun h => by rw [PyData.showableAll, h d List.mem_cons_self, ih fun u hu => h u (List.mem_cons_of_mem _ hu)]; rfl
  refine ⟨by rw [PyData.showable]; exact e2 ds fun d hd => (h d hd).s, ?_, ?_⟩
  · rw [PyData.shown, e]
    refine Nat.le_trans (listText_len_le _) ?_
    have := piled_le (ts := ds.map PyData.shown) (m := m) fun t ht => by
      obtain ⟨d, hd, rfl⟩ := List.mem_map.mp ht
      exact (h d hd).l
    rw [List.length_map] at this
    have := Nat.mul_le_mul_right (m + 2) hn
    omega
  · rw [PyData.shown, e]
    refine listText_ok fun t ht => ?_
    obtain ⟨d, hd, rfl⟩ := List.mem_map.mp ht
    exact (h d hd).o
theorem Ok.repr {d : PyData} {m : Nat} (h : Shw d m) (hm : m ≤ sizeLine) : Ok (reprW d) (· = d.shown) := Ok.chk ⟨h.s, Nat.le_trans h.l hm, h.o⟩ Ok.eq
theorem Ok.same {α β : Type} {f : α → PyData} {g : β → PyData} {x : α} {y : β} {m : Nat} (h : Shw (f x) m) (hm : m ≤ sizeLine) (e : f x = g y) : Ok (sameW f g x y) (· = true) := by
  unfold sameW
  refine Ok.bndE (Ok.repr h hm) (Ok.bndE (Ok.repr (e ▸ h) hm) (Ok.ret ?_))
  rw [e]
  simp
end Mi

local macro_rules | `(tactic| walk_at "wn") => `(tactic| first | with_reducible rfl | simp only [Mi.wn_bb, Mi.wn_br, Mi.wn_rb])
local macro_rules | `(tactic| walk_at "lev") => `(tactic| first | decide | exact Nat.le_refl _ | exact Nat.le_trans (by decide) (Nat.le_add_right _ _))
local macro_rules | `(tactic| walk_at "loc") => `(tactic| first | exact Or.inl rfl | exact Or.inr rfl)
namespace K07
open PySem L2 Evl Mi
def topS (i : Nat) : Stmt := PySem.Challenge.pw_anydial_k07_products_and_determinants.main.body.getD i (.Pass ⟨0, 0, 0, 0⟩)
abbrev s_unit_rows : Stmt := topS 1
abbrev N_unit_rows : List Str := ["size", "k", "at"]
theorem sc_unit_rows : FnScope N_unit_rows ["size"] (defScope s_unit_rows) := ⟨rfl, rfl, rfl, by decide +kernel, rfl, by decide +kernel, by decide +kernel⟩
abbrev s_product : Stmt := topS 2
abbrev N_product : List Str := ["one", "other", "wide", "k", "at", "row"]
theorem sc_product : FnScope N_product ["one", "other"] (defScope s_product) := ⟨rfl, rfl, rfl, by decide +kernel, rfl, by decide +kernel, by decide +kernel⟩
abbrev s_determinant : Stmt := topS 3
abbrev N_determinant : List Str := ["rows", "work", "sign", "before", "row", "size", "at", "live", "k", "late", "j", "item"]
theorem sc_determinant : FnScope N_determinant ["rows"] (defScope s_determinant) := ⟨rfl, rfl, rfl, by decide +kernel, rfl, by decide +kernel, by decide +kernel⟩
abbrev s_law_bag : Stmt := topS 5
abbrev N_law_bag : List Str := ["_law_script", "_law_mark", "_law_cell"]
theorem sc_law_bag : FnScope N_law_bag ["_law_script"] (defScope s_law_bag) := ⟨rfl, rfl, rfl, by decide +kernel, rfl, by decide +kernel, by decide +kernel⟩
abbrev s_law_draw : Stmt := topS 6
abbrev N_law_draw : List Str := ["_law_bag_here", "_law_most", "_law_cell", "_law_digit", "_law_base", "_law_late"]
theorem sc_law_draw : FnScope N_law_draw ["_law_bag_here", "_law_most"] (defScope s_law_draw) := ⟨rfl, rfl, rfl, by decide +kernel, rfl, by decide +kernel, by decide +kernel⟩
abbrev s_law_any : Stmt := topS 7
abbrev N_law_any : List Str := ["_law_bag_here", "_law_some"]
theorem sc_law_any : FnScope N_law_any ["_law_bag_here", "_law_some"] (defScope s_law_any) := ⟨rfl, rfl, rfl, by decide +kernel, rfl, by decide +kernel, by decide +kernel⟩
abbrev s_law_same : Stmt := topS 8
abbrev N_law_same : List Str := ["_law_found", "_law_due"]
theorem sc_law_same : FnScope N_law_same ["_law_found", "_law_due"] (defScope s_law_same) := ⟨rfl, rfl, rfl, by decide +kernel, rfl, by decide +kernel, by decide +kernel⟩
abbrev s_law_rows : Stmt := topS 9
abbrev N_law_rows : List Str := ["_law_bag_here", "_law_many", "_law_wide", "_law_far", "_law_found", "_law_k", "_law_way", "_law_by", "_law_item", "_law_at"]
theorem sc_law_rows : FnScope N_law_rows ["_law_bag_here", "_law_many", "_law_wide", "_law_far"] (defScope s_law_rows) := ⟨rfl, rfl, rfl, by decide +kernel, rfl, by decide +kernel, by decide +kernel⟩
abbrev s_law_matrix : Stmt := topS 10
abbrev N_law_matrix : List Str := ["_law_one_z", "_law_other_z", "_law_wide", "_law_k", "_law_at", "_law_row"]
theorem sc_law_matrix : FnScope N_law_matrix ["_law_one_z", "_law_other_z", "_law_wide"] (defScope s_law_matrix) := ⟨rfl, rfl, rfl, by decide +kernel, rfl, by decide +kernel, by decide +kernel⟩
abbrev s_law_det : Stmt := topS 11
abbrev N_law_det : List Str := ["_law_rows_z", "_law_found", "_law_sign", "_law_at", "_law_row"]
theorem sc_law_det : FnScope N_law_det ["_law_rows_z"] (defScope s_law_det) := ⟨rfl, rfl, rfl, by decide +kernel, rfl, by decide +kernel, by decide +kernel⟩
abbrev s_law : Stmt := topS 12
abbrev N_law : List Str := ["_law_script", "_law_bag_here", "_law_turn", "_law_size", "_law_wide", "_law_one_z", "_law_other_z", "_law_kept", "_law_dets", "_law_found", "_law_more", "_law_due", "_law_units", "_law_tall", "_law_at", "_law_k"]
theorem sc_law : FnScope N_law ["_law_script"] (defScope s_law) := ⟨rfl, rfl, rfl, by decide +kernel, rfl, by decide +kernel, by decide +kernel⟩
/-- where the defs stand -/
structure Ad where
  f_unit_rows : Addr
  d_unit_rows : FuncData
  f_product : Addr
  d_product : FuncData
  f_determinant : Addr
  d_determinant : FuncData
  f_law_bag : Addr
  d_law_bag : FuncData
  f_law_draw : Addr
  d_law_draw : FuncData
  f_law_any : Addr
  d_law_any : FuncData
  f_law_same : Addr
  d_law_same : FuncData
  f_law_rows : Addr
  d_law_rows : FuncData
  f_law_matrix : Addr
  d_law_matrix : FuncData
  f_law_det : Addr
  d_law_det : FuncData
  f_law : Addr
  d_law : FuncData
structure Txt (K : PySem.W.Frag) (mg : Str → Option Value) (ad : Ad) : Prop where
  b_int : mg "int" = none
  b_len : mg "len" = none
  b_list : mg "list" = none
  b_range : mg "range" = none
  b_repr : mg "repr" = none
  b_sum : mg "sum" = none
  m_unit_rows : mg "unit_rows" = some (.ref ad.f_unit_rows)
  F_unit_rows : Fun K "unit_rows" "unit_rows" s_unit_rows ad.f_unit_rows ad.d_unit_rows
  bd_unit_rows : Binds K ad.d_unit_rows ["size"] []
  m_product : mg "product" = some (.ref ad.f_product)
  F_product : Fun K "product" "product" s_product ad.f_product ad.d_product
  bd_product : Binds K ad.d_product ["one", "other"] []
  m_determinant : mg "determinant" = some (.ref ad.f_determinant)
  F_determinant : Fun K "determinant" "determinant" s_determinant ad.f_determinant ad.d_determinant
  bd_determinant : Binds K ad.d_determinant ["rows"] []
  m_law_bag : mg "_law_bag" = some (.ref ad.f_law_bag)
  F_law_bag : Fun K "_law_bag" "_law_bag" s_law_bag ad.f_law_bag ad.d_law_bag
  bd_law_bag : Binds K ad.d_law_bag ["_law_script"] []
  m_law_draw : mg "_law_draw" = some (.ref ad.f_law_draw)
  F_law_draw : Fun K "_law_draw" "_law_draw" s_law_draw ad.f_law_draw ad.d_law_draw
  bd_law_draw : Binds K ad.d_law_draw ["_law_bag_here", "_law_most"] []
  m_law_any : mg "_law_any" = some (.ref ad.f_law_any)
  F_law_any : Fun K "_law_any" "_law_any" s_law_any ad.f_law_any ad.d_law_any
  bd_law_any : Binds K ad.d_law_any ["_law_bag_here", "_law_some"] []
  m_law_same : mg "_law_same" = some (.ref ad.f_law_same)
  F_law_same : Fun K "_law_same" "_law_same" s_law_same ad.f_law_same ad.d_law_same
  bd_law_same : Binds K ad.d_law_same ["_law_found", "_law_due"] []
  m_law_rows : mg "_law_rows" = some (.ref ad.f_law_rows)
  F_law_rows : Fun K "_law_rows" "_law_rows" s_law_rows ad.f_law_rows ad.d_law_rows
  bd_law_rows : Binds K ad.d_law_rows ["_law_bag_here", "_law_many", "_law_wide", "_law_far"] []
  m_law_matrix : mg "_law_matrix" = some (.ref ad.f_law_matrix)
  F_law_matrix : Fun K "_law_matrix" "_law_matrix" s_law_matrix ad.f_law_matrix ad.d_law_matrix
  bd_law_matrix : Binds K ad.d_law_matrix ["_law_one_z", "_law_other_z", "_law_wide"] []
  m_law_det : mg "_law_det" = some (.ref ad.f_law_det)
  F_law_det : Fun K "_law_det" "_law_det" s_law_det ad.f_law_det ad.d_law_det
  bd_law_det : Binds K ad.d_law_det ["_law_rows_z"] []
  m_law : mg "law" = some (.ref ad.f_law)
  F_law : Fun K "law" "law" s_law ad.f_law ad.d_law
  bd_law : Binds K ad.d_law ["_law_script"] []
  kw_determinant_rows : KwB K ad.d_determinant ["rows"] ["rows"] (fun {α} l => l)
  kw_product_other_one : KwB K ad.d_product ["one", "other"] ["other", "one"] (fun {α} l => l.reverse)
section
variable {P : Program} {w : World} {K : PySem.W.Frag} {mg : Str → Option Value} {base : Heap} {ad : Ad}
def m_unit_rows (a_size : Int) : W (List (List Int)) :=
  bnd (bnd (rng1 a_size) fun l1 => mapW (fun (x2 : Int) => bnd (rng1 a_size) fun l3 => mapW (fun (x4 : Int) => ret ((if decide (x4 = x2) = true then 1 else 0))) l3) l1) fun z => ret z
theorem ok_unit_rows (T : Txt K mg ad) : FnOk P w K mg base CX0 1 ad.f_unit_rows ad.d_unit_rows ["size"] (spW (fun i : Int × Unit => [sv rInt i.1]) (fun _ => []) (fun i => m_unit_rows i.1) (rLst (rLst rInt))) := by
  refine okW T.F_unit_rows sc_unit_rows (fun _ => rfl) fun cdv A outer s0 H0 E0 B i hr => ?_
  obtain ⟨a_size, _⟩ := i
  have hu := hr.units
  have hu2 := room100 hr
  show BG _ _ _ _ _ _ (m_unit_rows a_size)
  unfold m_unit_rows
  exact b_ret RtOk.fn OsW.nil (e_conv (e_new (n_comp rfl sc_unit_rows.nd (s_rng1 (e_name 0) T.b_range) (blkOk_by (own := [("at", 2)]) rfl) (tg_name (i := 2)) (fun _ _ _ _ _ => (pg_name (i := 2) sc_unit_rows.nd rfl (by walk_at "loc"))) (by decide) (fun _ _ _ _ _ _ _ _ _ => (e_new (n_comp rfl sc_unit_rows.nd (s_rng1 (e_name 0) T.b_range) (blkOk_by (own := [("k", 1)]) rfl) (tg_name (i := 1)) (fun _ _ _ _ _ => (pg_name (i := 1) sc_unit_rows.nd rfl (by walk_at "loc"))) (by decide) (fun _ _ _ _ _ _ _ _ _ => (e_intB (e_eqI (e_name 1) fun _ => (e_name 2)) T.b_int))))))) (by walk_at "wn"))
def m_product (a_one : (List (List Int))) (a_other : (List (List Int))) : W (List (List Int)) :=
  bnd (bnd (ret (!(PyData.eqv ((fun xs => PyData.list (xs.map (fun xs => PyData.list (xs.map .int)))) a_other) ((fun xs => PyData.list (xs.map (fun xs => PyData.list (xs.map .int)))) (([] : (List (List Int)))))))) fun c => if c = true then bnd (idx a_other ((0 : Int))) fun t2 => ret ((t2.length : Int)) else ret ((0 : Int))) fun wide_1 => bnd (mapW (fun (x4 : (List Int)) => bnd (rng1 wide_1) fun l5 => mapW (fun (x6 : Int) => bnd (rng1 ((a_other.length : Int))) fun l7 => bnd (mapW (fun (x8 : Int) => bnd (idx x4 x8) fun t9 => bnd (idx a_other x8) fun t10 => bnd (idx t10 x6) fun t11 => mulI t9 t11) l7) fun ys13 => ret (ys13.sum)) l5) a_one) fun z => ret z
theorem ok_product (T : Txt K mg ad) : FnOk P w K mg base CX0 1 ad.f_product ad.d_product ["one", "other"] (spW (fun i : (List (List Int)) × (List (List Int)) × Unit => [sv (rLst (rLst rInt)) i.1, sv (rLst (rLst rInt)) i.2.1]) (fun _ => []) (fun i => m_product i.1 i.2.1) (rLst (rLst rInt))) := by
  refine okW T.F_product sc_product (fun _ => rfl) fun cdv A outer s0 H0 E0 B i hr => ?_
  obtain ⟨a_one, a_other, _⟩ := i
  have hu := hr.units
  have hu2 := room100 hr
  show BG _ _ _ _ _ _ (m_product a_one a_other)
  unfold m_product
  refine b_set 2 (e_conv (e_if (t_neD hu (dd_lst (dd_lst dd_int)) (dd_lst (dd_lst dd_int)) (e_name 1) fun _ => (e_new (n_list (r := (rLst rInt)) al_nil))) (e_len (e_idx (e_name 1) fun _ => e_int) T.b_len) e_int) (by walk_at "wn")) (fun wide_1 => ?_) sc_product.nd
  exact b_ret RtOk.fn OsW.nil (e_conv (e_new (n_comp rfl sc_product.nd (s_list (e_name 0)) (blkOk_by (own := [("row", 5)]) rfl) (tg_name (i := 5)) (fun _ _ _ _ _ => (pg_name (i := 5) sc_product.nd rfl (by walk_at "loc"))) (by decide) (fun _ _ _ _ _ _ _ _ _ => (e_new (n_comp rfl sc_product.nd (s_rng1 (e_name 2) T.b_range) (blkOk_by (own := [("at", 4)]) rfl) (tg_name (i := 4)) (fun _ _ _ _ _ => (pg_name (i := 4) sc_product.nd rfl (by walk_at "loc"))) (by decide) (fun _ _ _ _ _ _ _ _ _ => (e_sum rfl (e_new (n_comp rfl sc_product.nd (s_rng1 (e_len (e_name 1) T.b_len) T.b_range) (blkOk_by (own := [("k", 3)]) rfl) (tg_name (i := 3)) (fun _ _ _ _ _ => (pg_name (i := 3) sc_product.nd rfl (by walk_at "loc"))) (by decide) (fun _ _ _ _ _ _ _ _ _ => (e_mul (e_idx (e_name 5) fun _ => (e_name 3)) fun _ => (e_idx (e_idx (e_name 1) fun _ => (e_name 3)) fun _ => (e_name 4)))))) T.b_sum))))))) (by walk_at "wn"))
def m_determinant_l2 (size_7 : Int) (s10 : ((List (List Int)) × Int × Int)) (x9 : Int) (s34 : (List (List Int))) (x33 : Int) : W (List (List Int)) :=
  bnd (bnd (rng1 size_7) fun l36 => mapW (fun (x37 : Int) => bnd (idx s34 x33) fun t38 => bnd (idx t38 x37) fun t39 => bnd (idx s34 x9) fun t40 => bnd (idx t40 x9) fun t41 => bnd (mulI t39 t41) fun t42 => bnd (idx s34 x33) fun t43 => bnd (idx t43 x9) fun t44 => bnd (idx s34 x9) fun t45 => bnd (idx t45 x37) fun t46 => bnd (mulI t44 t46) fun t47 => ret (t42 - t47)) l36) fun late_35 => bnd (mapW (fun (x49 : Int) => divI x49 s10.2.2) late_35) fun y53 => bnd (ret (x33)) fun k54 => bnd (putL s34 k54 y53) fun work_52 => ret (work_52)
def m_determinant_l1 (size_7 : Int) (s10 : ((List (List Int)) × Int × Int)) (x9 : Int) : W (Fl ((List (List Int)) × Int × Int) Int) :=
  bnd (bnd (rng2 x9 size_7) fun l12 => filtW (fun (x13 : Int) => bnd (idx s10.1 x13) fun t15 => bnd (idx t15 x9) fun t16 => ret (!decide (t16 = (0 : Int)))) (fun (x13 : Int) => ret (x13)) l12) fun live_11 => bnd (ret (PyData.eqv ((fun xs => PyData.list (xs.map .int)) live_11) ((fun xs => PyData.list (xs.map .int)) (([] : (List Int)))))) fun b17 => if b17 = true then (bnd (ret ((0 : Int))) fun z => ret (.rt z)) else (bnd (bnd (idx live_11 ((0 : Int))) fun t18 => ret (!decide (t18 = x9))) fun b19 => bnd (if b19 = true then (bnd (bnd (idx live_11 ((0 : Int))) fun t20 => idx s10.1 t20) fun y23 => bnd (idx s10.1 x9) fun y24 => bnd (ret (x9)) fun k26 => bnd (putL s10.1 k26 y23) fun ys25 => bnd (idx live_11 ((0 : Int))) fun k27 => bnd (putL ys25 k27 y24) fun work_29 => bnd (ret (-s10.2.1)) fun sign_30 => ret ((work_29, sign_30))) else (ret ((s10.1, s10.2.1)))) fun (s31 : ((List (List Int)) × Int)) => bnd (rng2 (x9 + ((1 : Int))) size_7) fun xs55 => bnd (forW (m_determinant_l2 size_7 s10 x9) (s31.1) xs55) fun (s56 : (List (List Int))) => bnd (bnd (idx s56 x9) fun t58 => idx t58 x9) fun before_57 => ret (.nx ((s56, s31.2, before_57))))
def m_determinant (a_rows : (List (List Int))) : W Int :=
  bnd (mapW (fun (x4 : (List Int)) => ret (x4)) a_rows) fun work_1 => bnd (ret ((work_1.length : Int))) fun size_7 => bnd (rng1 size_7) fun xs60 => bnd (forF (m_determinant_l1 size_7) ((work_1, (1 : Int), (1 : Int))) xs60) (flEnd (fun z => z) fun (s61 : ((List (List Int)) × Int × Int)) => bnd (mulI s61.2.1 s61.2.2) fun z => ret z)
theorem ok_determinant (T : Txt K mg ad) : FnOk P w K mg base CX0 1 ad.f_determinant ad.d_determinant ["rows"] (spW (fun i : (List (List Int)) × Unit => [sv (rLst (rLst rInt)) i.1]) (fun _ => []) (fun i => m_determinant i.1) rInt) := by
  refine okW T.F_determinant sc_determinant (fun _ => rfl) fun cdv A outer s0 H0 E0 B i hr => ?_
  obtain ⟨a_rows, _⟩ := i
  have hu := hr.units
  have hu2 := room100 hr
  show BG _ _ _ _ _ _ (m_determinant a_rows)
  unfold m_determinant
  first | refine b_own3 (ps_par3 rfl sc_determinant.nd rfl rfl rfl (by decide) (by decide) (by decide) rfl rfl rfl (paO3 (n_conv (n_comp rfl sc_determinant.nd (s_list (e_name 0)) (blkOk_by (own := [("row", 4)]) rfl) (tg_name (i := 4)) (fun _ _ _ _ _ => (pg_name (i := 4) sc_determinant.nd rfl (by walk_at "loc"))) (by decide) (fun _ _ _ _ _ _ _ _ _ => (e_new (n_listL (e_name 4) T.b_list)))) (by walk_at "wn")) (fun _ _ => e_int) (fun _ _ => e_int)) rfl) (fun p6 work_1 => ?_) | refine b_own3T (ps_asg (pe_tup (paO3 (n_conv (n_comp rfl sc_determinant.nd (s_list (e_name 0)) (blkOk_by (own := [("row", 4)]) rfl) (tg_name (i := 4)) (fun _ _ _ _ _ => (pg_name (i := 4) sc_determinant.nd rfl (by walk_at "loc"))) (by decide) (fun _ _ _ _ _ _ _ _ _ => (e_new (n_listL (e_name 4) T.b_list)))) (by walk_at "wn")) (fun _ _ => e_int) (fun _ _ => e_int))) (pg_tup rfl (pgs_cons (pg_name (i := 1) sc_determinant.nd rfl (by walk_at "loc")) (pgs_cons (pg_name (i := 2) sc_determinant.nd rfl (by walk_at "loc")) (pgs_cons (pg_name (i := 3) sc_determinant.nd rfl (by walk_at "loc")) pgs_nil))))) (fun p6 work_1 => ?_)
  refine b_set 5 (e_conv (e_lenO 1 0 rfl rfl T.b_len) (by walk_at "wn")) (fun size_7 => ?_) sc_determinant.nd
  refine b_forG (S := ((List (List Int)) × Int × Int)) (osR := []) (ro := rInt) (fun z => z) (fun s => [sv (rLst (rLst rInt)) a_rows, sv (rAdr p6) (), sv rInt s.2.1, sv rInt s.2.2, sa, sv rInt size_7, sa, sa, sa, sa, sa, sa]) (fun s => [(p6, oLst (rLst rInt) s.1)]) ((work_1, (1 : Int), (1 : Int)) : ((List (List Int)) × Int × Int)) rfl PassesOwn.never (s_conv (s_rng1 (e_name 5) T.b_range) (by walk_at "wn")) (tg_name (i := 6)) (pg_name (i := 6) sc_determinant.nd rfl (by walk_at "loc")) (fun M s10 x9 => ?_) (fun s61 => ?_) (fun _ => rfl) RtOk.fn ⟨.inl rfl, .inl rfl, .inl rfl, .inl rfl, .inr rfl, .inl rfl, .inr rfl, .inr rfl, .inr rfl, .inr rfl, .inr rfl, .inr rfl, trivial⟩ rfl
  · unfold m_determinant_l1
    first | refine b_setC 7 (c_compF rfl sc_determinant.nd (s_rng2 (e_name 6) (fun _ => (e_name 5)) T.b_range) (blkOk_by (own := [("k", 8)]) rfl) (tg_name (i := 8)) (fun _ _ _ _ _ => (pg_name (i := 8) sc_determinant.nd rfl (by walk_at "loc"))) (by decide) (fun _ _ _ _ _ _ _ _ _ => (t_neI (e_idx (e_idxO 1 1 rfl rfl (e_name 8)) fun _ => (e_name 6)) fun _ => e_int)) (fun _ _ _ _ _ _ _ _ _ => (e_name 8)) rfl rfl (sw_true rfl rfl rfl (by decide +kernel))) (fun live_11 => ?_) | refine b_set 7 (e_conv (e_new (n_compF rfl sc_determinant.nd (s_rng2 (e_name 6) (fun _ => (e_name 5)) T.b_range) (blkOk_by (own := [("k", 8)]) rfl) (tg_name (i := 8)) (fun _ _ _ _ _ => (pg_name (i := 8) sc_determinant.nd rfl (by walk_at "loc"))) (by decide) (fun _ _ _ _ _ _ _ _ _ => (t_neI (e_idx (e_idxO 1 1 rfl rfl (e_name 8)) fun _ => (e_name 6)) fun _ => e_int)) (fun _ _ _ _ _ _ _ _ _ => (e_name 8)))) rfl) (fun live_11 => ?_) sc_determinant.nd
    refine b_ifA (t_conv (t_eqD hu (dd_lst dd_int) (dd_lst dd_int) (e_name 7) fun _ => (e_new (n_list (r := rInt) al_nil))) (by walk_at "wn")) ?_ ?_
    · exact b_ret (RtOk.x RtOk.fl) OsW.nil (e_conv e_int (by walk_at "wn"))
    · refine b_ifJ (S := ((List (List Int)) × Int)) (fun s => [sv (rLst (rLst rInt)) a_rows, sv (rAdr p6) (), sv rInt s.2, sv rInt s10.2.2, sa, sv rInt size_7, sv rInt x9, sv (rLst rInt) live_11, sa, sa, sa, sa]) (fun s => [(p6, oLst (rLst rInt) s.1)]) (t_conv (t_neI (e_idx (e_name 7) fun _ => e_int) fun _ => (e_name 6)) (by walk_at "wn")) ?_ ?_ (fun s31 => ?_)
      · refine b_swap (i := 1) (j := 0) rfl rfl (fun work_29 => ?_) (ps_asg (pe_tup (pa_cons (show PE _ _ (tOf _ _ _ _ _) from e_conv (e_idxO 1 0 rfl rfl (e_idx (e_name 7) fun _ => e_int)) rfl) (pa_cons (show PE _ _ (tOf _ _ _ _ _) from e_conv (e_idxO 1 0 rfl rfl (e_name 6)) rfl) pa_nil))) (pg_tup rfl (pgs_cons (pg_sub (pv 1) (e_conv (e_name 6) (by walk_at "wn")) set_list) (pgs_cons (pg_sub (pv 1) (PE.ex fun _ => e_conv (e_idx (e_name 7) fun _ => e_int) rfl) set_list) pgs_nil))))
        refine b_set 2 (e_conv (e_neg (e_name 2)) (by walk_at "wn")) (fun sign_30 => ?_) sc_determinant.nd
        exact b_end (NxOk.nxS (s := ((work_29, sign_30) : ((List (List Int)) × Int))) ⟨.inl rfl, .inl rfl, .inl rfl, .inl rfl, .inr rfl, .inl rfl, .inl rfl, .inl rfl, .inr rfl, .inr rfl, .inr rfl, .inr rfl, trivial⟩ (.cons_cons _ .slnil))
      · exact b_end (NxOk.nxS (s := ((s10.1, s10.2.1) : ((List (List Int)) × Int))) ⟨.inl rfl, .inl rfl, .inl rfl, .inl rfl, .inr rfl, .inl rfl, .inl rfl, .inl rfl, .inr rfl, .inr rfl, .inr rfl, .inr rfl, trivial⟩ (.cons_cons _ .slnil))
      · refine b_for (S := (List (List Int))) (fun s => [sv (rLst (rLst rInt)) a_rows, sv (rAdr p6) (), sv rInt s31.2, sv rInt s10.2.2, sa, sv rInt size_7, sv rInt x9, sv (rLst rInt) live_11, sa, sa, sa, sa]) (fun s => [(p6, oLst (rLst rInt) s)]) (s31.1 : (List (List Int))) rfl PassesOwn.never (s_conv (s_rng2 (e_add (e_name 6) fun _ => e_int) (fun _ => (e_name 5)) T.b_range) (by walk_at "wn")) (tg_name (i := 8)) (pg_name (i := 8) sc_determinant.nd rfl (by walk_at "loc")) (fun M s34 x33 => ?_) (fun s56 => ?_) ⟨.inl rfl, .inl rfl, .inl rfl, .inl rfl, .inr rfl, .inl rfl, .inl rfl, .inl rfl, .inr rfl, .inr rfl, .inr rfl, .inr rfl, trivial⟩ rfl
        · unfold m_determinant_l2
          first | refine b_setC 9 (c_comp rfl sc_determinant.nd (s_rng1 (e_name 5) T.b_range) (blkOk_by (own := [("j", 10)]) rfl) (tg_name (i := 10)) (fun _ _ _ _ _ => (pg_name (i := 10) sc_determinant.nd rfl (by walk_at "loc"))) (by decide) (fun _ _ _ _ _ _ _ _ _ => (e_sub (e_mul (e_idx (e_idxO 1 1 rfl rfl (e_name 8)) fun _ => (e_name 10)) fun _ => (e_idx (e_idxO 1 1 rfl rfl (e_name 6)) fun _ => (e_name 6))) fun _ => (e_mul (e_idx (e_idxO 1 1 rfl rfl (e_name 8)) fun _ => (e_name 6)) fun _ => (e_idx (e_idxO 1 1 rfl rfl (e_name 6)) fun _ => (e_name 10))))) rfl rfl (sw_true rfl rfl rfl (by decide +kernel))) (fun late_35 => ?_) | refine b_set 9 (e_conv (e_new (n_comp rfl sc_determinant.nd (s_rng1 (e_name 5) T.b_range) (blkOk_by (own := [("j", 10)]) rfl) (tg_name (i := 10)) (fun _ _ _ _ _ => (pg_name (i := 10) sc_determinant.nd rfl (by walk_at "loc"))) (by decide) (fun _ _ _ _ _ _ _ _ _ => (e_sub (e_mul (e_idx (e_idxO 1 1 rfl rfl (e_name 8)) fun _ => (e_name 10)) fun _ => (e_idx (e_idxO 1 1 rfl rfl (e_name 6)) fun _ => (e_name 6))) fun _ => (e_mul (e_idx (e_idxO 1 1 rfl rfl (e_name 8)) fun _ => (e_name 6)) fun _ => (e_idx (e_idxO 1 1 rfl rfl (e_name 6)) fun _ => (e_name 10))))))) rfl) (fun late_35 => ?_) sc_determinant.nd
          refine b_put 1 0 rfl rfl (e_conv (e_new (n_comp rfl sc_determinant.nd (s_list (e_name 9)) (blkOk_by (own := [("item", 11)]) rfl) (tg_name (i := 11)) (fun _ _ _ _ _ => (pg_name (i := 11) sc_determinant.nd rfl (by walk_at "loc"))) (by decide) (fun _ _ _ _ _ _ _ _ _ => (e_div (e_name 11) fun _ => (e_name 3))))) (by walk_at "wn")) (fun _ => e_conv (e_name 8) rfl) (fun work_52 => ?_)
          exact b_end (NxOk.nxS (s := (work_52 : (List (List Int)))) ⟨.inl rfl, .inl rfl, .inl rfl, .inl rfl, .inr rfl, .inl rfl, .inl rfl, .inl rfl, .inr rfl, .inr rfl, .inr rfl, .inr rfl, trivial⟩ (.cons_cons _ .slnil))
        · refine b_set 3 (e_conv (e_idx (e_idxO 1 0 rfl rfl (e_name 6)) fun _ => (e_name 6)) (by walk_at "wn")) (fun before_57 => ?_) sc_determinant.nd
          exact b_end (NxOk.flS (s := ((s56, s31.2, before_57) : ((List (List Int)) × Int × Int))) ⟨.inl rfl, .inl rfl, .inl rfl, .inl rfl, .inr rfl, .inl rfl, .inr rfl, .inr rfl, .inr rfl, .inr rfl, .inr rfl, .inr rfl, trivial⟩ (.cons_cons _ .slnil))
  · refine bg_nx ?_
    exact b_ret RtOk.fn OsW.nil (e_conv (e_mul (e_name 2) fun _ => (e_name 3)) (by walk_at "wn"))
def m_law_bag_l1 (s : Int) (x : Int) : W Int :=
  bnd (bnd (mulI s 50147) fun t1 => bnd (modI x 2147483543) fun t2 => bnd (modI (t1 + t2 + 31) 2147483563) fun t3 => ret t3) fun m => ret m
def m_law_bag (ns : List Int) : W (List Int × Int) :=
  bnd (ret 12021) fun m => bnd (ret (cutL ns none (some 63))) fun xs => bnd (forW m_law_bag_l1 m xs) fun s : Int => bnd (ret (cutL ns none (some 63))) fun c => bnd (ret s) fun y => ret (c, y)
theorem ok_law_bag (T : Txt K mg ad) : FnOk P w K mg base CX0 1 ad.f_law_bag ad.d_law_bag ["_law_script"] (spBag K) := by
  refine T.F_law_bag.ok sc_law_bag (fun vs H Q E ⟨a, ns, e, _⟩ => by rw [e]; rfl) fun cdv A outer s H vs Q E hr hsp => ?_
  obtain ⟨a, ns, rfl, hsq, hlen, hk⟩ := hsp
  refine ⟨_, (?_ : BG _ (bs0 H H []) [sv (rScr K) ns, sa, sa] [] _ (pBag (bs0 H H [])) (m_law_bag ns)), H, fun _ => True, ⟨bs0_start (Ex.refl H) (fun p hp => nomatch hp), .cons ⟨_, rfl, a, rfl, hsq, hlen⟩ (.cons trivial (.cons trivial .nil)), (fun p hp => nomatch hp), List.nodup_nil⟩, ?_, fun y hy b c H' h1 h2 h3 h4 h5 h6 h7 => hk b c _ _ H' h1 h2 h3 h4 h5 h6 h7⟩
  · unfold m_law_bag
    refine b_set 1 e_int (fun m => ?_) sc_law_bag.nd
    refine b_for (S := Int) (fun s => [sv (rScr K) ns, sv rInt s, sa]) (fun _ => []) (m : Int) rfl PassesOwn.never (s_conv (s_list (e_new (n_sliceScr (e_name 0) o_none (o_some e_int)))) (by walk_at "wn")) (tg_name (i := 2)) (pg_name (i := 2) sc_law_bag.nd rfl (by walk_at "loc")) (fun M s x => ?_) (fun s => ?_) ⟨.inl rfl, .inl rfl, .inr rfl, trivial⟩ rfl
    · unfold m_law_bag_l1
      refine b_set 1 (e_conv (e_mod (e_intI (e_add (e_add (e_mul (e_name 1) fun _ => e_int) fun _ => e_mod (e_intI (e_name 2) T.b_int) fun _ => e_int) fun _ => e_int) T.b_int) fun _ => e_int) (by walk_at "wn")) (fun m => ?_) sc_law_bag.nd
      exact b_end (NxOk.nxS (s := m) ⟨.inl rfl, .inl rfl, .inr rfl, trivial⟩ .slnil)
    · exact b_bagR (w1 := ret (cutL ns none (some 63))) (w2 := fun _ => ret s) (fun _ h => nomatch h) (n_conv (n_listL (e_new (n_sliceScr (e_name 0) o_none (o_some e_int))) T.b_list) (by walk_at "wn")) (fun _ _ => e_name 1)
  · unfold m_law_bag
    show forW m_law_bag_l1 12021 _ (fun _ => True) (fun _ => False)
    refine forW_of (I := fun _ => True) (fun s x Q _ h => ?_) trivial (fun _ _ => trivial)
    unfold m_law_bag_l1
    refine mulI_of (mul_small (by decide)) ?_
    refine modI_of (by decide) fun _ _ _ => ?_
    exact modI_of (by decide) fun _ _ _ => h _ trivial
theorem ok_law_draw (T : Txt K mg ad) (b : Addr) (cells : List Int) : FnOk P w K mg base CX0 1 ad.f_law_draw ad.d_law_draw ["_law_bag_here", "_law_most"] (spW (fun i : Unit × Int × Unit => [sv (rAdr b) i.1, sv rInt i.2.1]) (fun _ => [(b, oBag cells)]) (fun i => drawW i.2.1) rInt) := by
  refine okW T.F_law_draw sc_law_draw (fun _ => rfl) fun cdv A outer s H E B i hr => ?_
  obtain ⟨_, most, _⟩ := i
  refine b_open 0 rfl bag_in fun p => ?_
  obtain ⟨n, d, m, k⟩ := p
  refine BG.imp (w := bnd (drC cells n d most) fun b => bnd (if b = true then drA cells n m else ret ()) fun _ : Unit => drawW most) ?_ ?_
  · unfold drC
    refine b_ifJ (S := Unit) (fun _ => [sv (rAdr b) (), sv rInt most, sa, sa, sa, sa]) (fun _ => [(b, oBag cells)])
      (t_conv (t_pw (w_and (t_lt (e_hidx 0 0 2 rfl rfl rfl) fun _ => e_name 1) (w_and1 (t_lt (e_hidx 0 0 1 rfl rfl rfl) fun _ => e_len (e_hidx 0 0 0 rfl rfl rfl) T.b_len)))) (by walk_at "wn")) ?_ ?_ (fun _ => ?_)
    · unfold drA
      refine b_set 2 (e_conv (e_idx (e_hidx 0 0 0 rfl rfl rfl) fun _ => e_hidx 0 0 1 rfl rfl rfl) (by walk_at "wn")) (fun cell => ?_) sc_law_draw.nd
      refine b_hput 0 0 1 rfl rfl (by show (1 : Nat) < 5; decide) (e_conv (e_add (e_hidx 0 0 1 rfl rfl rfl) fun _ => e_int) (by walk_at "wn")) (fun i1 => ?_)
      refine b_chk fun hi1 => ?_
      refine b_hput 0 0 3 rfl rfl (by show (3 : Nat) < 5; decide) (e_conv (e_mod (e_intI (e_add (e_add (e_mul (e_hidx 0 0 3 rfl rfl rfl) fun _ => e_int) fun _ => e_mod (e_intI (e_name 2) T.b_int) fun _ => e_int) fun _ => e_int) T.b_int) fun _ => e_int) (by walk_at "wn")) (fun m1 => ?_)
      refine b_hput 0 0 2 rfl rfl (by show (2 : Nat) < 5; decide) (e_conv (e_if (t_ge (e_name 2) fun _ => e_pow e_int fun _ => e_int) (e_name 2) e_int) (by walk_at "wn")) (fun d1 => ?_)
      exact b_end (NxOk.one rfl ⟨.inl rfl, .inl rfl, .inr rfl, .inr rfl, .inr rfl, .inr rfl, trivial⟩ (bag_out (n := n + 1) (by omega)))
    · exact b_end (NxOk.one rfl ⟨.inl rfl, .inl rfl, .inr rfl, .inr rfl, .inr rfl, .inr rfl, trivial⟩ (bag_out rfl))
    · refine b_open 0 rfl bag_in fun p => ?_
      obtain ⟨n, d, m, k⟩ := p
      refine BG.imp (w := bnd (ret (decide (most ≤ d))) fun b => if b = true then drB d most else drR m k most) ?_ ?_
      · refine b_ifA (t_conv (t_ge (e_hidx 0 0 2 rfl rfl rfl) fun _ => e_name 1) (by walk_at "wn")) ?_ ?_
        · unfold drB
          refine b_set 3 (e_conv (e_mod (e_intI (e_hidx 0 0 2 rfl rfl rfl) T.b_int) fun _ => e_name 1) (by walk_at "wn")) (fun digit => ?_) sc_law_draw.nd
          refine b_hput 0 0 2 rfl rfl (by show (2 : Nat) < 5; decide) (e_conv (e_div (e_hidx 0 0 2 rfl rfl rfl) fun _ => e_name 1) (by walk_at "wn")) (fun d1 => ?_)
          exact b_ret (RtOk.x RtOk.fn) (OsW.one (bag_out rfl)) (e_name 3)
        · unfold drR
          refine b_hput 0 0 4 rfl rfl (by show (4 : Nat) < 5; decide) (e_conv (e_add (e_hidx 0 0 4 rfl rfl rfl) fun _ => e_int) (by walk_at "wn")) (fun k1 => ?_)
          refine b_set 4 (e_conv (e_mod (e_intI (e_add (e_hidx 0 0 3 rfl rfl rfl) fun _ => e_mul (e_hidx 0 0 4 rfl rfl rfl) fun _ => e_int) T.b_int) fun _ => e_int) (by walk_at "wn")) (fun base => ?_) sc_law_draw.nd
          refine b_set 5 (e_conv (e_mul (e_mod (e_intI (e_mul (e_name 4) fun _ => e_name 4) T.b_int) fun _ => e_int) fun _ => e_add (e_mod (e_intI (e_name 4) T.b_int) fun _ => e_int) fun _ => e_int) (by walk_at "wn")) (fun late => ?_) sc_law_draw.nd
          refine b_hput 0 0 3 rfl rfl (by show (3 : Nat) < 5; decide) (e_conv (e_mod (e_intI (e_add (e_add (e_name 5) fun _ => e_mul e_int fun _ => e_name 4) fun _ => e_int) T.b_int) fun _ => e_int) (by walk_at "wn")) (fun m1 => ?_)
          exact b_ret RtOk.fn (OsW.one (bag_out rfl)) (e_conv (e_mod (e_intI (e_add (e_div (e_hidx 0 0 3 rfl rfl rfl) fun _ => e_int) fun _ => e_mul (e_mod (e_intI (e_hidx 0 0 3 rfl rfl rfl) T.b_int) fun _ => e_int) fun _ => e_int) T.b_int) fun _ => e_name 1) (by walk_at "wn"))
      · rintro P E ⟨h1, h2, h3⟩
        show (if decide (most ≤ d) = true then drB d most else drR m k most) P E
        split
        · exact drB_of h1 h2 h3
        · exact drR_of h1 h2 h3
  · intro P E h
    refine drC_of (fun hn => drA_of hn ?_) ?_
    · exact h
    · exact h
theorem ok_law_any {α : Type} (T : Txt K mg ad) (b : Addr) (cells : List Int) (r : Rp α) : FnOk P w K mg base CX0 2 ad.f_law_any ad.d_law_any ["_law_bag_here", "_law_some"] (spW (fun i : Unit × List α × Unit => [sv (rAdr b) i.1, sv (rLst r) i.2.1]) (fun _ => [(b, oBag cells)]) (fun i => anyW i.2.1) r) := by
  refine okW T.F_law_any sc_law_any (fun _ => rfl) fun cdv A outer s H E B i hr => ?_
  obtain ⟨_, xs, _⟩ := i
  show BG _ _ _ _ _ _ (anyW xs)
  refine b_conv (b_ret RtOk.fn (OsW.of (OsLe.mem (List.Mem.head _))) (e_idx (e_name 1) fun _ => e_call (ok_law_draw T b cells) (hr.mono (by walk_at "lev")) T.m_law_draw T.F_law_draw.kp T.bd_law_draw (aa_cons (e_name 0) fun _ => aa_cons (e_len (e_name 1) T.b_len) fun _ => aa_nil) (fun _ => OsLe.mem (List.Mem.head _)) (fun _ => by simp))) ?_
  unfold anyW
  simp only [Mi.wn_bb, Mi.wn_br, Mi.wn_rb]
theorem ok_law_same {α β : Type} {r : Rp α} {s : Rp β} {f : α → PyData} {g : β → PyData} {n m : Nat} (T : Txt K mg ad) (d : DD K r f n) (e : DD K s g m) (hn : n ≤ 64 := by decide) (hm : m ≤ 64 := by decide) :
    FnG P w K mg base CX0 1 ad.f_law_same ad.d_law_same ["_law_found", "_law_due"] (spW (fun i : α × β × Unit => [sv r i.1, sv s i.2.1]) (fun _ => []) (fun i => sameW f g i.1 i.2.1) rBool) := by
  refine fnW T.F_law_same sc_law_same (fun _ => rfl) fun cdv A outer s0 H E B i hr hgu0 => ?_
  obtain ⟨x, y, _⟩ := i
  have hu2 := room100 hr
  have hgu := guards_deeper (q := "_law_same") (sc := defScope s_law_same) (n := s0.heap.objs.size) (f := ad.f_law_same) (c := cdv) hgu0
  show BG _ _ _ _ _ _ (sameW f g x y)
  refine b_conv (b_ret RtOk.fn OsW.nil (e_eqS (e_repr hu2 hgu d (e_name 0) T.b_repr hn) fun _ => e_repr hu2 hgu e (e_name 1) T.b_repr hm)) ?_
  unfold sameW
  simp only [Mi.wn_bb, Mi.wn_br, Mi.wn_rb]
def m_law_rows_l1 (a_law_wide : Int) (a_law_far : Int) (s5 : (List (List Int))) (x4 : Int) : W (List (List Int)) :=
  bnd (noX (drawW ((6 : Int)))) fun way_6 => bnd (bnd (ret (decide (way_6 = (0 : Int)))) fun c8 => if c8 = true then (ret (!s5.isEmpty)) else ret false) fun b10 => bnd (if b10 = true then (bnd (bnd (noX (drawW ((5 : Int)))) fun r12 => ret (r12 - ((2 : Int)))) fun by_11 => bnd (bnd (idx s5 (((s5.length : Int)) - ((1 : Int)))) fun t13 => mapW (fun (x14 : Int) => mulI x14 by_11) t13) fun y17 => chk (s5.length < sizeLine) (ret ((s5 ++ [y17])))) else (bnd (bnd (rng1 a_law_wide) fun l18 => mapW (fun (x19 : Int) => bnd (mulI ((2 : Int)) a_law_far) fun t20 => bnd (noX (drawW (t20 + ((1 : Int))))) fun r21 => noX (anyW ([(0 : Int), r21 - a_law_far]))) l18) fun y24 => chk (s5.length < sizeLine) (ret ((s5 ++ [y24]))))) fun (s25 : (List (List Int))) => ret (s25)
def m_law_rows (a_law_many : Int) (a_law_wide : Int) (a_law_far : Int) : W (List (List Int)) :=
  bnd (ret (([] : (List (List Int))))) fun found_1 => bnd (rng1 a_law_many) fun xs26 => bnd (forW (m_law_rows_l1 a_law_wide a_law_far) (found_1) xs26) fun (s27 : (List (List Int))) => bnd (ret (s27)) fun z => ret z
theorem ok_law_rows (T : Txt K mg ad) (b : Addr) (cells : List Int) : FnOk P w K mg base CX0 3 ad.f_law_rows ad.d_law_rows ["_law_bag_here", "_law_many", "_law_wide", "_law_far"] (spW (fun i : Unit × Int × Int × Int × Unit => [sv (rAdr b) i.1, sv rInt i.2.1, sv rInt i.2.2.1, sv rInt i.2.2.2.1]) (fun _ => [(b, oBag cells)]) (fun i => m_law_rows i.2.1 i.2.2.1 i.2.2.2.1) (rLst (rLst rInt))) := by
  refine okW T.F_law_rows sc_law_rows (fun _ => rfl) fun cdv A outer s0 H0 E0 B i hr => ?_
  obtain ⟨_, a_law_many, a_law_wide, a_law_far, _⟩ := i
  have hu := hr.units
  have hu2 := room100 hr
  show BG _ _ _ _ _ _ (m_law_rows a_law_many a_law_wide a_law_far)
  unfold m_law_rows
  refine b_own 4 (n_conv (n_list (r := (rLst rInt)) al_nil) (by walk_at "wn")) (fun p2 found_1 => ?_) sc_law_rows.nd
  refine b_for (S := (List (List Int))) (fun s => [sv (rAdr b) (()), sv rInt a_law_many, sv rInt a_law_wide, sv rInt a_law_far, sv (rAdr p2) (), sa, sa, sa, sa, sa]) (fun s => [(p2, oLst (rLst rInt) s), (b, oBag cells)]) (found_1 : (List (List Int))) rfl PassesOwn.never (s_conv (s_rng1 (e_name 1) T.b_range) (by walk_at "wn")) (tg_name (i := 5)) (pg_name (i := 5) sc_law_rows.nd rfl (by walk_at "loc")) (fun M s5 x4 => ?_) (fun s27 => ?_) ⟨.inl rfl, .inl rfl, .inl rfl, .inl rfl, .inl rfl, .inr rfl, .inr rfl, .inr rfl, .inr rfl, .inr rfl, trivial⟩ rfl
  · unfold m_law_rows_l1
    refine b_set 6 (e_conv (e_call (ok_law_draw T b cells) (hr.mono (by walk_at "lev")) T.m_law_draw T.F_law_draw.kp T.bd_law_draw (aa_cons (e_name 0) fun _ => (aa_cons e_int fun _ => aa_nil)) (fun _ => OsLe.mem (List.Mem.tail _ (List.Mem.head _))) (fun _ => by simp)) (by walk_at "wn")) (fun way_6 => ?_) sc_law_rows.nd
    refine b_ifJ (S := (List (List Int))) (fun s => [sv (rAdr b) (()), sv rInt a_law_many, sv rInt a_law_wide, sv rInt a_law_far, sv (rAdr p2) (), sv rInt x4, sv rInt way_6, sa, sa, sa]) (fun s => [(p2, oLst (rLst rInt) s), (b, oBag cells)]) (t_conv (t_pw (w_and (t_eqI (e_name 6) fun _ => e_int) (w_and1 (t_neNilO 4 0 hu (dd_lst dd_int) rfl rfl)))) (by walk_at "wn")) ?_ ?_ (fun s25 => ?_)
    · refine b_set 7 (e_conv (e_sub (e_call (ok_law_draw T b cells) (hr.mono (by walk_at "lev")) T.m_law_draw T.F_law_draw.kp T.bd_law_draw (aa_cons (e_name 0) fun _ => (aa_cons e_int fun _ => aa_nil)) (fun _ => OsLe.mem (List.Mem.tail _ (List.Mem.head _))) (fun _ => by simp)) fun _ => e_int) (by walk_at "wn")) (fun by_11 => ?_) sc_law_rows.nd
      refine b_append 4 0 rfl rfl (e_conv (e_new (n_comp rfl sc_law_rows.nd (s_list (e_idxO 4 0 rfl rfl (e_sub (e_lenO 4 0 rfl rfl T.b_len) fun _ => e_int))) (blkOk_by (own := [("_law_item", 8)]) rfl) (tg_name (i := 8)) (fun _ _ _ _ _ => (pg_name (i := 8) sc_law_rows.nd rfl (by walk_at "loc"))) (by decide) (fun _ _ _ _ _ _ _ _ _ => (e_mul (e_name 8) fun _ => (e_name 7))))) (by walk_at "wn")) (fun y17 => ?_)
      exact b_end (NxOk.nxS (s := ((s5 ++ [y17]) : (List (List Int)))) ⟨.inl rfl, .inl rfl, .inl rfl, .inl rfl, .inl rfl, .inl rfl, .inl rfl, .inr rfl, .inr rfl, .inr rfl, trivial⟩ (.cons_cons _ (.cons_cons _ .slnil)))
    · refine b_append 4 0 rfl rfl (e_conv (e_new (n_comp rfl sc_law_rows.nd (s_rng1 (e_name 2) T.b_range) (blkOk_by (own := [("_law_at", 9)]) rfl) (tg_name (i := 9)) (fun _ _ _ _ _ => (pg_name (i := 9) sc_law_rows.nd rfl (by walk_at "loc"))) (by decide) (fun _ _ _ _ _ _ _ _ _ => (e_call (ok_law_any T b cells rInt) (hr.mono (by walk_at "lev")) T.m_law_any T.F_law_any.kp T.bd_law_any (aa_cons (e_name 0) fun _ => (aa_cons (e_new (n_list (al_cons e_int (al_cons (e_sub (e_call (ok_law_draw T b cells) (hr.mono (by walk_at "lev")) T.m_law_draw T.F_law_draw.kp T.bd_law_draw (aa_cons (e_name 0) fun _ => (aa_cons (e_add (e_mul e_int fun _ => (e_name 3)) fun _ => e_int) fun _ => aa_nil)) (fun _ => OsLe.mem (List.Mem.tail _ (List.Mem.tail _ (List.Mem.head _)))) (fun _ => by simp)) fun _ => (e_name 3)) al_nil)))) fun _ => aa_nil)) (fun _ => OsLe.mem (List.Mem.tail _ (List.Mem.tail _ (List.Mem.head _)))) (fun _ => by simp))))) (by walk_at "wn")) (fun y24 => ?_)
      exact b_end (NxOk.nxS (s := ((s5 ++ [y24]) : (List (List Int)))) ⟨.inl rfl, .inl rfl, .inl rfl, .inl rfl, .inl rfl, .inl rfl, .inl rfl, .inr rfl, .inr rfl, .inr rfl, trivial⟩ (.cons_cons _ (.cons_cons _ .slnil)))
    · exact b_end (NxOk.nxS (s := (s25 : (List (List Int)))) ⟨.inl rfl, .inl rfl, .inl rfl, .inl rfl, .inl rfl, .inr rfl, .inr rfl, .inr rfl, .inr rfl, .inr rfl, trivial⟩ (.cons_cons _ (.cons_cons _ .slnil)))
  · refine b_freeze 4 0 rfl rfl ?_
    exact b_ret RtOk.fn (OsW.of (OsLe.mem (List.Mem.head _))) (e_conv (e_name 4) (by walk_at "wn"))
def m_law_matrix (a_law_one_z : (List (List Int))) (a_law_other_z : (List (List Int))) (a_law_wide : Int) : W (List (List Int)) :=
  bnd (mapW (fun (x1 : (List Int)) => bnd (rng1 a_law_wide) fun l2 => mapW (fun (x3 : Int) => bnd (rng1 ((a_law_other_z.length : Int))) fun l4 => bnd (mapW (fun (x5 : Int) => bnd (idx x1 x5) fun t6 => bnd (idx a_law_other_z x5) fun t7 => bnd (idx t7 x3) fun t8 => mulI t6 t8) l4) fun ys10 => ret (ys10.sum)) l2) a_law_one_z) fun z => ret z
theorem ok_law_matrix (T : Txt K mg ad) : FnOk P w K mg base CX0 1 ad.f_law_matrix ad.d_law_matrix ["_law_one_z", "_law_other_z", "_law_wide"] (spW (fun i : (List (List Int)) × (List (List Int)) × Int × Unit => [sv (rLst (rLst rInt)) i.1, sv (rLst (rLst rInt)) i.2.1, sv rInt i.2.2.1]) (fun _ => []) (fun i => m_law_matrix i.1 i.2.1 i.2.2.1) (rLst (rLst rInt))) := by
  refine okW T.F_law_matrix sc_law_matrix (fun _ => rfl) fun cdv A outer s0 H0 E0 B i hr => ?_
  obtain ⟨a_law_one_z, a_law_other_z, a_law_wide, _⟩ := i
  have hu := hr.units
  have hu2 := room100 hr
  show BG _ _ _ _ _ _ (m_law_matrix a_law_one_z a_law_other_z a_law_wide)
  unfold m_law_matrix
  exact b_ret RtOk.fn OsW.nil (e_conv (e_new (n_comp rfl sc_law_matrix.nd (s_list (e_name 0)) (blkOk_by (own := [("_law_row", 5)]) rfl) (tg_name (i := 5)) (fun _ _ _ _ _ => (pg_name (i := 5) sc_law_matrix.nd rfl (by walk_at "loc"))) (by decide) (fun _ _ _ _ _ _ _ _ _ => (e_new (n_comp rfl sc_law_matrix.nd (s_rng1 (e_name 2) T.b_range) (blkOk_by (own := [("_law_at", 4)]) rfl) (tg_name (i := 4)) (fun _ _ _ _ _ => (pg_name (i := 4) sc_law_matrix.nd rfl (by walk_at "loc"))) (by decide) (fun _ _ _ _ _ _ _ _ _ => (e_sum rfl (e_new (n_comp rfl sc_law_matrix.nd (s_rng1 (e_len (e_name 1) T.b_len) T.b_range) (blkOk_by (own := [("_law_k", 3)]) rfl) (tg_name (i := 3)) (fun _ _ _ _ _ => (pg_name (i := 3) sc_law_matrix.nd rfl (by walk_at "loc"))) (by decide) (fun _ _ _ _ _ _ _ _ _ => (e_mul (e_idx (e_name 5) fun _ => (e_name 3)) fun _ => (e_idx (e_idx (e_name 1) fun _ => (e_name 3)) fun _ => (e_name 4)))))) T.b_sum))))))) (by walk_at "wn"))
def m_law_det_l1 (self : (List (List Int)) → W Int) (a_law_rows_z : (List (List Int))) (s6 : (Int × Int)) (x5 : Int) : W (Int × Int) :=
  bnd (bnd (idx a_law_rows_z ((0 : Int))) fun t7 => bnd (idx t7 x5) fun t8 => ret (!decide (t8 = (0 : Int)))) fun b9 => bnd (if b9 = true then (bnd (bnd (idx a_law_rows_z ((0 : Int))) fun t11 => bnd (idx t11 x5) fun t12 => bnd (mulI s6.2 t12) fun t13 => bnd (mapW (fun (x14 : (List Int)) => catL (cutL x14 none (some x5)) (cutL x14 (some (x5 + ((1 : Int)))) none)) (cutL a_law_rows_z (some ((1 : Int))) none)) fun ys16 => bnd (noX (self ys16)) fun r17 => bnd (mulI t13 r17) fun t18 => ret (s6.1 + t18)) fun found_10 => ret (found_10)) else (ret (s6.1))) fun (s19 : Int) => bnd (ret (((0 : Int)) - s6.2)) fun sign_20 => ret ((s19, sign_20))
def m_law_det : Nat → (List (List Int)) → W Int
  | 0 => fun a_law_rows_z => fail
  | n + 1 => fun a_law_rows_z =>
  bnd (ret (PyData.eqv ((fun xs => PyData.list (xs.map (fun xs => PyData.list (xs.map .int)))) a_law_rows_z) ((fun xs => PyData.list (xs.map (fun xs => PyData.list (xs.map .int)))) (([] : (List (List Int))))))) fun b1 => if b1 = true then (bnd (ret ((1 : Int))) fun z => ret z) else (bnd (ret ((0 : Int))) fun found_2 => bnd (ret ((1 : Int))) fun sign_3 => bnd (rng1 ((a_law_rows_z.length : Int))) fun xs21 => bnd (forW (m_law_det_l1 (m_law_det n) a_law_rows_z) ((found_2, sign_3)) xs21) fun (s22 : (Int × Int)) => bnd (ret (s22.1)) fun z => ret z)
theorem ok_law_det (T : Txt K mg ad) : ∀ n : Nat, FnOk P w K mg base CX0 (1 + n) ad.f_law_det ad.d_law_det ["_law_rows_z"] (spW (fun i : (List (List Int)) × Unit => [sv (rLst (rLst rInt)) i.1]) (fun _ => []) (fun i => m_law_det n i.1) rInt)
  | 0 => okW T.F_law_det sc_law_det (fun _ => rfl) fun _ _ _ _ _ _ _ _ _ => b_never
  | n + 1 => by
    have ih := ok_law_det T n
    refine okW T.F_law_det sc_law_det (fun _ => rfl) fun cdv A outer s0 H0 E0 B i hr => ?_
    obtain ⟨a_law_rows_z, _⟩ := i
    have hu := hr.units
    have hu2 := room100 hr
    show BG _ _ _ _ _ _ (m_law_det (n + 1) a_law_rows_z)
    unfold m_law_det
    refine b_ifA (t_conv (t_eqD hu (dd_lst (dd_lst dd_int)) (dd_lst (dd_lst dd_int)) (e_name 0) fun _ => (e_new (n_list (r := (rLst rInt)) al_nil))) (by walk_at "wn")) ?_ ?_
    · exact b_ret (RtOk.x RtOk.fn) OsW.nil (e_conv e_int (by walk_at "wn"))
    · first | refine b_par2 (ps_par (i := 1) (j := 2) rfl sc_law_det.nd rfl rfl (by decide) rfl rfl (pa2 (e_conv e_int (by walk_at "wn")) (fun _ => e_conv e_int rfl)) rfl) (fun found_2 sign_3 => ?_) | refine b_par2T (ps_asg (pe_tup (pa2 (e_conv e_int (by walk_at "wn")) (fun _ => e_conv e_int rfl))) (pg_tup rfl (pgs_cons (pg_name (i := 1) sc_law_det.nd rfl (by walk_at "loc")) (pgs_cons (pg_name (i := 2) sc_law_det.nd rfl (by walk_at "loc")) pgs_nil)))) (fun found_2 sign_3 => ?_)
      refine b_for (S := (Int × Int)) (fun s => [sv (rLst (rLst rInt)) a_law_rows_z, sv rInt s.1, sv rInt s.2, sa, sa]) (fun s => []) ((found_2, sign_3) : (Int × Int)) rfl PassesOwn.never (s_conv (s_rng1 (e_len (e_name 0) T.b_len) T.b_range) (by walk_at "wn")) (tg_name (i := 3)) (pg_name (i := 3) sc_law_det.nd rfl (by walk_at "loc")) (fun M s6 x5 => ?_) (fun s22 => ?_) ⟨.inl rfl, .inl rfl, .inl rfl, .inr rfl, .inr rfl, trivial⟩ rfl
      · unfold m_law_det_l1
        refine b_ifJ (S := Int) (fun s => [sv (rLst (rLst rInt)) a_law_rows_z, sv rInt s, sv rInt s6.2, sv rInt x5, sa]) (fun s => []) (t_conv (t_neI (e_idx (e_idx (e_name 0) fun _ => e_int) fun _ => (e_name 3)) fun _ => e_int) (by walk_at "wn")) ?_ ?_ (fun s19 => ?_)
        · refine b_set 1 (e_conv (e_add (e_name 1) fun _ => (e_mul (e_mul (e_name 2) fun _ => (e_idx (e_idx (e_name 0) fun _ => e_int) fun _ => (e_name 3))) fun _ => (e_call ih (hr.mono (by walk_at "lev")) T.m_law_det T.F_law_det.kp T.bd_law_det (aa_cons (e_new (n_comp rfl sc_law_det.nd (s_list (e_new (n_slice (e_name 0) (o_some e_int) o_none))) (blkOk_by (own := [("_law_row", 4)]) rfl) (tg_name (i := 4)) (fun _ _ _ _ _ => (pg_name (i := 4) sc_law_det.nd rfl (by walk_at "loc"))) (by decide) (fun _ _ _ _ _ _ _ _ _ => (e_new (n_cat (e_new (n_slice (e_name 4) o_none (o_some (e_name 3)))) fun _ => (e_new (n_slice (e_name 4) (o_some (e_add (e_name 3) fun _ => e_int)) o_none))))))) fun _ => aa_nil) (fun _ => OsLe.none) (fun _ => List.nodup_nil)))) (by walk_at "wn")) (fun found_10 => ?_) sc_law_det.nd
          exact b_end (NxOk.nxS (s := (found_10 : Int)) ⟨.inl rfl, .inl rfl, .inl rfl, .inl rfl, .inr rfl, trivial⟩ .slnil)
        · exact b_end (NxOk.nxS (s := (s6.1 : Int)) ⟨.inl rfl, .inl rfl, .inl rfl, .inl rfl, .inr rfl, trivial⟩ .slnil)
        · refine b_set 2 (e_conv (e_sub e_int fun _ => (e_name 2)) (by walk_at "wn")) (fun sign_20 => ?_) sc_law_det.nd
          exact b_end (NxOk.nxS (s := ((s19, sign_20) : (Int × Int))) ⟨.inl rfl, .inl rfl, .inl rfl, .inr rfl, .inr rfl, trivial⟩ .slnil)
      · exact b_ret RtOk.fn OsW.nil (e_conv (e_name 1) (by walk_at "wn"))
def m_law_l1 (s4 : Unit) (x3 : Int) : W (Fl Unit Bool) :=
  bnd (noX (drawW ((5 : Int)))) fun size_5 => bnd (bnd (noX (drawW ((4 : Int)))) fun r9 => ret (((1 : Int)) + r9)) fun wide_6 => bnd (noX (m_law_rows size_5 size_5 ((9 : Int)))) fun one_z_10 => bnd (bnd (powI ((10 : Int)) ((15 : Int))) fun t14 => bnd (noX (anyW ([(9 : Int), t14]))) fun r15 => noX (m_law_rows size_5 size_5 r15)) fun other_z_11 => bnd (reprW ((fun xs => PyData.list (xs.map (fun xs => PyData.list (xs.map (fun xs => PyData.list (xs.map .int)))))) ([one_z_10, other_z_11]))) fun kept_17 => bnd (bnd (noX (m_law_det 6 one_z_10)) fun r20 => bnd (noX (m_law_det 6 other_z_11)) fun r21 => ret ([r20, r21])) fun dets_19 => bnd (bnd (noX (m_determinant one_z_10)) fun r23 => bnd (noX (m_determinant other_z_11)) fun r24 => bnd (noX (m_product one_z_10 other_z_11)) fun r25 => bnd (noX (m_determinant r25)) fun r26 => bnd (noX (m_unit_rows size_5)) fun r27 => bnd (noX (m_determinant r27)) fun r28 => ret ([r23, r24, r26, r28])) fun found_22 => bnd (bnd (bnd (idx dets_19 ((0 : Int))) fun t29 => bnd (idx dets_19 ((1 : Int))) fun t30 => bnd (idx dets_19 ((0 : Int))) fun t31 => bnd (idx dets_19 ((1 : Int))) fun t32 => bnd (mulI t31 t32) fun t33 => bnd (noX (sameW (fun xs => PyData.list (xs.map .int)) (fun xs => PyData.list (xs.map .int)) found_22 ([t29, t30, t33, (1 : Int)]))) fun r34 => ret (!r34)) fun c36 => if c36 = true then ret true else (bnd (reprW ((fun xs => PyData.list (xs.map (fun xs => PyData.list (xs.map (fun xs => PyData.list (xs.map .int)))))) ([one_z_10, other_z_11]))) fun t35 => ret (!decide (t35 = kept_17)))) fun b38 => if b38 = true then (bnd (ret (false)) fun z => ret (.rt z)) else (bnd (noX (m_law_rows size_5 wide_6 ((9 : Int)))) fun more_39 => bnd (bnd (bnd (ret (decide (((0 : Int)) < size_5))) fun c => if c = true then ret (wide_6) else ret ((0 : Int))) fun t42 => noX (m_law_matrix one_z_10 more_39 t42)) fun due_41 => bnd (bnd (bnd (noX (m_product one_z_10 more_39)) fun r44 => bnd (noX (m_product one_z_10 more_39)) fun r45 => bnd (noX (sameW (fun xs => PyData.list (xs.map (fun xs => PyData.list (xs.map (fun xs => PyData.list (xs.map .int)))))) (fun xs => PyData.list (xs.map (fun xs => PyData.list (xs.map (fun xs => PyData.list (xs.map .int)))))) ([r44, r45]) ([due_41, due_41]))) fun r46 => ret (!r46)) fun c50 => if c50 = true then ret true else (bnd (noX (m_unit_rows size_5)) fun r47 => bnd (noX (m_product r47 more_39)) fun r48 => bnd (noX (sameW (fun xs => PyData.list (xs.map (fun xs => PyData.list (xs.map .int)))) (fun xs => PyData.list (xs.map (fun xs => PyData.list (xs.map .int)))) r48 more_39)) fun r49 => ret (!r49))) fun b52 => if b52 = true then (bnd (ret (false)) fun z => ret (.rt z)) else (ret (.nx (()))))
def m_law (a_law_script : (List Int)) : W Bool :=
  bnd (rng1 ((4 : Int))) fun xs53 => bnd (forF m_law_l1 (()) xs53) (flEnd (fun z => z) fun (s54 : Unit) => bnd (noX (m_unit_rows ((20 : Int)))) fun units_55 => bnd (bnd (rng1 ((20 : Int))) fun l58 => mapW (fun (x59 : Int) => bnd (rng1 ((20 : Int))) fun l60 => mapW (fun (x61 : Int) => bnd (modI (x59 + ((1 : Int))) ((20 : Int))) fun t62 => ret ((if decide (x61 = t62) = true then 1 else 0))) l60) l58) fun tall_57 => bnd (bnd (bnd (rng1 ((20 : Int))) fun l65 => bnd (mapW (fun (x66 : Int) => bnd (rng1 ((20 : Int))) fun l67 => mapW (fun (x68 : Int) => ret ((if decide (x68 = x66) = true then 1 else 0))) l67) l65) fun ys70 => bnd (noX (sameW (fun xs => PyData.list (xs.map (fun xs => PyData.list (xs.map .int)))) (fun xs => PyData.list (xs.map (fun xs => PyData.list (xs.map .int)))) units_55 ys70)) fun r71 => ret (!r71)) fun c73 => if c73 = true then ret true else (bnd (noX (m_determinant tall_57)) fun r72 => ret (!decide (r72 = -((1 : Int)))))) fun b75 => if b75 = true then (bnd (ret (false)) fun z => ret z) else (bnd (bnd (noX (m_product ([([] : (List Int)), ([] : (List Int))]) (([] : (List (List Int)))))) fun r77 => bnd (noX (m_product (([] : (List (List Int)))) ([[(1 : Int), (2 : Int)]]))) fun r78 => bnd (noX (m_determinant (([] : (List (List Int)))))) fun r79 => bnd (noX (m_determinant ([[(0 : Int), (1 : Int)], [(1 : Int), (0 : Int)]]))) fun r80 => bnd (noX (m_determinant ([[(0 : Int), (0 : Int)], [(0 : Int), (5 : Int)]]))) fun r81 => ret ([(fun xs => PyData.list (xs.map (fun xs => PyData.list (xs.map .int)))) r77, (fun xs => PyData.list (xs.map (fun xs => PyData.list (xs.map .int)))) r78, .int r79, .int r80, .int r81])) fun found_76 => bnd (noX (sameW (fun xs => PyData.list (xs.map id)) (fun xs => PyData.list (xs.map id)) found_76 ([(fun xs => PyData.list (xs.map (fun xs => PyData.list (xs.map .int)))) ([([] : (List Int)), ([] : (List Int))]), (fun xs => PyData.list (xs.map .int)) (([] : (List Int))), .int ((1 : Int)), .int (-((1 : Int))), .int ((0 : Int))]))) fun z => ret z))
theorem ok_law (T : Txt K mg ad) : FnG P w K mg base CX0 8 ad.f_law ad.d_law ["_law_script"] (spW (fun i : (List Int) × Unit => [sv (rScr K) i.1]) (fun _ => []) (fun i => m_law i.1) rBool) := by
  refine fnW T.F_law sc_law (fun _ => rfl) fun cdv A outer s0 H0 E0 B i hr hgu0 => ?_
  obtain ⟨a_law_script, _⟩ := i
  have hu := hr.units
  have hu2 := room100 hr
  have hgu := guards_deeper (q := "law") (sc := defScope s_law) (n := s0.heap.objs.size) (f := ad.f_law) (c := cdv) hgu0
  show BG _ _ _ _ _ _ (m_law a_law_script)
  unfold m_law
  refine b_bag 1 (ok_law_bag T) (hr.mono (by walk_at "lev")) T.m_law_bag T.F_law_bag.kp T.bd_law_bag (e_name 0) (fun b cells => ?_) sc_law.nd
  refine b_forG (S := Unit) (osR := []) (ro := rBool) (fun z => z) (fun s => [sv (rScr K) a_law_script, sv (rAdr b) (()), sa, sa, sa, sa, sa, sa, sa, sa, sa, sa, sa, sa, sa, sa]) (fun s => [(b, oBag cells)]) (() : Unit) rfl PassesOwn.never (s_conv (s_rng1 e_int T.b_range) (by walk_at "wn")) (tg_name (i := 2)) (pg_name (i := 2) sc_law.nd rfl (by walk_at "loc")) (fun M s4 x3 => ?_) (fun s54 => ?_) (fun _ => rfl) RtOk.fn ⟨.inl rfl, .inl rfl, .inr rfl, .inr rfl, .inr rfl, .inr rfl, .inr rfl, .inr rfl, .inr rfl, .inr rfl, .inr rfl, .inr rfl, .inr rfl, .inr rfl, .inr rfl, .inr rfl, trivial⟩ rfl
  · unfold m_law_l1
    first | refine b_par2 (ps_par (i := 3) (j := 4) rfl sc_law.nd rfl rfl (by decide) rfl rfl (pa2 (e_conv (e_call (ok_law_draw T b cells) (hr.mono (by walk_at "lev")) T.m_law_draw T.F_law_draw.kp T.bd_law_draw (aa_cons (e_name 1) fun _ => (aa_cons e_int fun _ => aa_nil)) (fun _ => OsLe.mem (List.Mem.head _)) (fun _ => by simp)) (by walk_at "wn")) (fun _ => e_conv (e_add e_int fun _ => (e_call (ok_law_draw T b cells) (hr.mono (by walk_at "lev")) T.m_law_draw T.F_law_draw.kp T.bd_law_draw (aa_cons (e_name 1) fun _ => (aa_cons e_int fun _ => aa_nil)) (fun _ => OsLe.mem (List.Mem.head _)) (fun _ => by simp))) rfl)) rfl) (fun size_5 wide_6 => ?_) | refine b_par2T (ps_asg (pe_tup (pa2 (e_conv (e_call (ok_law_draw T b cells) (hr.mono (by walk_at "lev")) T.m_law_draw T.F_law_draw.kp T.bd_law_draw (aa_cons (e_name 1) fun _ => (aa_cons e_int fun _ => aa_nil)) (fun _ => OsLe.mem (List.Mem.head _)) (fun _ => by simp)) (by walk_at "wn")) (fun _ => e_conv (e_add e_int fun _ => (e_call (ok_law_draw T b cells) (hr.mono (by walk_at "lev")) T.m_law_draw T.F_law_draw.kp T.bd_law_draw (aa_cons (e_name 1) fun _ => (aa_cons e_int fun _ => aa_nil)) (fun _ => OsLe.mem (List.Mem.head _)) (fun _ => by simp))) rfl))) (pg_tup rfl (pgs_cons (pg_name (i := 3) sc_law.nd rfl (by walk_at "loc")) (pgs_cons (pg_name (i := 4) sc_law.nd rfl (by walk_at "loc")) pgs_nil)))) (fun size_5 wide_6 => ?_)
    first | refine b_par2 (ps_par (i := 5) (j := 6) rfl sc_law.nd rfl rfl (by decide) rfl rfl (pa2 (e_conv (e_call (ok_law_rows T b cells) (hr.mono (by walk_at "lev")) T.m_law_rows T.F_law_rows.kp T.bd_law_rows (aa_cons (e_name 1) fun _ => (aa_cons (e_name 3) fun _ => (aa_cons (e_name 3) fun _ => (aa_cons e_int fun _ => aa_nil)))) (fun _ => OsLe.mem (List.Mem.head _)) (fun _ => by simp)) (by walk_at "wn")) (fun _ => e_conv (e_call (ok_law_rows T b cells) (hr.mono (by walk_at "lev")) T.m_law_rows T.F_law_rows.kp T.bd_law_rows (aa_cons (e_name 1) fun _ => (aa_cons (e_name 3) fun _ => (aa_cons (e_name 3) fun _ => (aa_cons (e_call (ok_law_any T b cells rInt) (hr.mono (by walk_at "lev")) T.m_law_any T.F_law_any.kp T.bd_law_any (aa_cons (e_name 1) fun _ => (aa_cons (e_new (n_list (al_cons e_int (al_cons (e_pow e_int fun _ => e_int) al_nil)))) fun _ => aa_nil)) (fun _ => OsLe.mem (List.Mem.head _)) (fun _ => by simp)) fun _ => aa_nil)))) (fun _ => OsLe.mem (List.Mem.head _)) (fun _ => by simp)) rfl)) rfl) (fun one_z_10 other_z_11 => ?_) | refine b_par2T (ps_asg (pe_tup (pa2 (e_conv (e_call (ok_law_rows T b cells) (hr.mono (by walk_at "lev")) T.m_law_rows T.F_law_rows.kp T.bd_law_rows (aa_cons (e_name 1) fun _ => (aa_cons (e_name 3) fun _ => (aa_cons (e_name 3) fun _ => (aa_cons e_int fun _ => aa_nil)))) (fun _ => OsLe.mem (List.Mem.head _)) (fun _ => by simp)) (by walk_at "wn")) (fun _ => e_conv (e_call (ok_law_rows T b cells) (hr.mono (by walk_at "lev")) T.m_law_rows T.F_law_rows.kp T.bd_law_rows (aa_cons (e_name 1) fun _ => (aa_cons (e_name 3) fun _ => (aa_cons (e_name 3) fun _ => (aa_cons (e_call (ok_law_any T b cells rInt) (hr.mono (by walk_at "lev")) T.m_law_any T.F_law_any.kp T.bd_law_any (aa_cons (e_name 1) fun _ => (aa_cons (e_new (n_list (al_cons e_int (al_cons (e_pow e_int fun _ => e_int) al_nil)))) fun _ => aa_nil)) (fun _ => OsLe.mem (List.Mem.head _)) (fun _ => by simp)) fun _ => aa_nil)))) (fun _ => OsLe.mem (List.Mem.head _)) (fun _ => by simp)) rfl))) (pg_tup rfl (pgs_cons (pg_name (i := 5) sc_law.nd rfl (by walk_at "loc")) (pgs_cons (pg_name (i := 6) sc_law.nd rfl (by walk_at "loc")) pgs_nil)))) (fun one_z_10 other_z_11 => ?_)
    refine b_set 7 (e_conv (e_repr hu2 hgu (dd_lst (dd_lst (dd_lst dd_int))) (e_new (n_list (al_cons (e_name 5) (al_cons (e_name 6) al_nil)))) T.b_repr) (by walk_at "wn")) (fun kept_17 => ?_) sc_law.nd
    refine b_set 8 (e_conv (e_new (n_list (al_cons (e_call (ok_law_det T 6) (hr.mono (by walk_at "lev")) T.m_law_det T.F_law_det.kp T.bd_law_det (aa_cons (e_name 5) fun _ => aa_nil) (fun _ => OsLe.none) (fun _ => List.nodup_nil)) (al_cons (e_call (ok_law_det T 6) (hr.mono (by walk_at "lev")) T.m_law_det T.F_law_det.kp T.bd_law_det (aa_cons (e_name 6) fun _ => aa_nil) (fun _ => OsLe.none) (fun _ => List.nodup_nil)) al_nil)))) (by walk_at "wn")) (fun dets_19 => ?_) sc_law.nd
    refine b_set 9 (e_conv (e_new (n_list (al_cons (e_call (ok_determinant T) (hr.mono (by walk_at "lev")) T.m_determinant T.F_determinant.kp T.bd_determinant (aa_cons (e_name 5) fun _ => aa_nil) (fun _ => OsLe.none) (fun _ => List.nodup_nil)) (al_cons (e_callK (ks := ["rows"]) (ok_determinant T) (hr.mono (by walk_at "lev")) T.m_determinant T.F_determinant.kp (g := fun l => l) (conv := fun q => q) T.kw_determinant_rows (fun h => h) (fun _ _ _ h => h) (kk_cons (e_name 6) fun _ => kk_nil) (fun _ => OsLe.none) (fun _ => List.nodup_nil) (fun _ => rfl)) (al_cons (e_call (ok_determinant T) (hr.mono (by walk_at "lev")) T.m_determinant T.F_determinant.kp T.bd_determinant (aa_cons (e_call (ok_product T) (hr.mono (by walk_at "lev")) T.m_product T.F_product.kp T.bd_product (aa_cons (e_name 5) fun _ => (aa_cons (e_name 6) fun _ => aa_nil)) (fun _ => OsLe.none) (fun _ => List.nodup_nil)) fun _ => aa_nil) (fun _ => OsLe.none) (fun _ => List.nodup_nil)) (al_cons (e_call (ok_determinant T) (hr.mono (by walk_at "lev")) T.m_determinant T.F_determinant.kp T.bd_determinant (aa_cons (e_call (ok_unit_rows T) (hr.mono (by walk_at "lev")) T.m_unit_rows T.F_unit_rows.kp T.bd_unit_rows (aa_cons (e_name 3) fun _ => aa_nil) (fun _ => OsLe.none) (fun _ => List.nodup_nil)) fun _ => aa_nil) (fun _ => OsLe.none) (fun _ => List.nodup_nil)) al_nil)))))) (by walk_at "wn")) (fun found_22 => ?_) sc_law.nd
    refine b_ifA (t_conv (t_pw (w_or (t_not (t_val (e_callG (ok_law_same T (dd_lst dd_int) (dd_lst dd_int)) hgu (hr.mono (by walk_at "lev")) T.m_law_same T.F_law_same.kp T.bd_law_same (aa_cons (e_name 9) fun _ => (aa_cons (e_new (n_list (al_cons (e_idx (e_name 8) fun _ => e_int) (al_cons (e_idx (e_name 8) fun _ => e_int) (al_cons (e_mul (e_idx (e_name 8) fun _ => e_int) fun _ => (e_idx (e_name 8) fun _ => e_int)) (al_cons e_int al_nil)))))) fun _ => aa_nil)) (fun _ => OsLe.none) (fun _ => List.nodup_nil)))) (w_or1 (t_neS (e_repr hu2 hgu (dd_lst (dd_lst (dd_lst dd_int))) (e_new (n_list (al_cons (e_name 5) (al_cons (e_name 6) al_nil)))) T.b_repr) fun _ => (e_name 7))))) (by walk_at "wn")) ?_ ?_
    · exact b_ret (RtOk.x RtOk.fl) OsW.nil (e_conv e_bl (by walk_at "wn"))
    · refine b_set 10 (e_conv (e_call (ok_law_rows T b cells) (hr.mono (by walk_at "lev")) T.m_law_rows T.F_law_rows.kp T.bd_law_rows (aa_cons (e_name 1) fun _ => (aa_cons (e_name 3) fun _ => (aa_cons (e_name 4) fun _ => (aa_cons e_int fun _ => aa_nil)))) (fun _ => OsLe.mem (List.Mem.head _)) (fun _ => by simp)) (by walk_at "wn")) (fun more_39 => ?_) sc_law.nd
      refine b_set 11 (e_conv (e_call (ok_law_matrix T) (hr.mono (by walk_at "lev")) T.m_law_matrix T.F_law_matrix.kp T.bd_law_matrix (aa_cons (e_name 5) fun _ => (aa_cons (e_name 10) fun _ => (aa_cons (e_if (t_gt (e_name 3) fun _ => e_int) (e_name 4) e_int) fun _ => aa_nil))) (fun _ => OsLe.none) (fun _ => List.nodup_nil)) (by walk_at "wn")) (fun due_41 => ?_) sc_law.nd
      refine b_ifA (t_conv (t_pw (w_or (t_not (t_val (e_callG (ok_law_same T (dd_lst (dd_lst (dd_lst dd_int))) (dd_lst (dd_lst (dd_lst dd_int)))) hgu (hr.mono (by walk_at "lev")) T.m_law_same T.F_law_same.kp T.bd_law_same (aa_cons (e_new (n_list (al_cons (e_call (ok_product T) (hr.mono (by walk_at "lev")) T.m_product T.F_product.kp T.bd_product (aa_cons (e_name 5) fun _ => (aa_cons (e_name 10) fun _ => aa_nil)) (fun _ => OsLe.none) (fun _ => List.nodup_nil)) (al_cons (e_callK (ks := ["other", "one"]) (ok_product T) (hr.mono (by walk_at "lev")) T.m_product T.F_product.kp (g := fun l => l.reverse) (conv := fun q : (List (List Int)) × (List (List Int)) × Unit => (q.2.1, q.1, ())) T.kw_product_other_one swap_vals (fun _ _ _ h => env_swap h) (kk_cons (e_name 10) fun _ => (kk_cons (e_name 5) fun _ => kk_nil)) (fun _ => OsLe.none) (fun _ => List.nodup_nil) (fun _ => rfl)) al_nil)))) fun _ => (aa_cons (e_new (n_list (al_cons (e_name 11) (al_cons (e_name 11) al_nil)))) fun _ => aa_nil)) (fun _ => OsLe.none) (fun _ => List.nodup_nil)))) (w_or1 (t_not (t_val (e_callG (ok_law_same T (dd_lst (dd_lst dd_int)) (dd_lst (dd_lst dd_int))) hgu (hr.mono (by walk_at "lev")) T.m_law_same T.F_law_same.kp T.bd_law_same (aa_cons (e_call (ok_product T) (hr.mono (by walk_at "lev")) T.m_product T.F_product.kp T.bd_product (aa_cons (e_call (ok_unit_rows T) (hr.mono (by walk_at "lev")) T.m_unit_rows T.F_unit_rows.kp T.bd_unit_rows (aa_cons (e_name 3) fun _ => aa_nil) (fun _ => OsLe.none) (fun _ => List.nodup_nil)) fun _ => (aa_cons (e_name 10) fun _ => aa_nil)) (fun _ => OsLe.none) (fun _ => List.nodup_nil)) fun _ => (aa_cons (e_name 10) fun _ => aa_nil)) (fun _ => OsLe.none) (fun _ => List.nodup_nil))))))) (by walk_at "wn")) ?_ ?_
      · exact b_ret (RtOk.x RtOk.fl) OsW.nil (e_conv e_bl (by walk_at "wn"))
      · exact b_end (NxOk.flS (s := (() : Unit)) ⟨.inl rfl, .inl rfl, .inr rfl, .inr rfl, .inr rfl, .inr rfl, .inr rfl, .inr rfl, .inr rfl, .inr rfl, .inr rfl, .inr rfl, .inr rfl, .inr rfl, .inr rfl, .inr rfl, trivial⟩ (.cons_cons _ .slnil))
  · refine bg_nx ?_
    refine b_set 12 (e_conv (e_call (ok_unit_rows T) (hr.mono (by walk_at "lev")) T.m_unit_rows T.F_unit_rows.kp T.bd_unit_rows (aa_cons e_int fun _ => aa_nil) (fun _ => OsLe.none) (fun _ => List.nodup_nil)) (by walk_at "wn")) (fun units_55 => ?_) sc_law.nd
    first | refine b_setC 13 (c_comp rfl sc_law.nd (s_rng1 e_int T.b_range) (blkOk_by (own := [("_law_k", 15)]) rfl) (tg_name (i := 15)) (fun _ _ _ _ _ => (pg_name (i := 15) sc_law.nd rfl (by walk_at "loc"))) (by decide) (fun _ _ _ _ _ _ _ _ _ => (e_new (n_comp rfl sc_law.nd (s_rng1 e_int T.b_range) (blkOk_by (own := [("_law_at", 14)]) rfl) (tg_name (i := 14)) (fun _ _ _ _ _ => (pg_name (i := 14) sc_law.nd rfl (by walk_at "loc"))) (by decide) (fun _ _ _ _ _ _ _ _ _ => (e_intB (e_eqI (e_name 14) fun _ => (e_mod (e_intI (e_add (e_name 15) fun _ => e_int) T.b_int) fun _ => e_int)) T.b_int))))) rfl rfl (sw_true rfl rfl rfl (by decide +kernel))) (fun tall_57 => ?_) | refine b_set 13 (e_conv (e_new (n_comp rfl sc_law.nd (s_rng1 e_int T.b_range) (blkOk_by (own := [("_law_k", 15)]) rfl) (tg_name (i := 15)) (fun _ _ _ _ _ => (pg_name (i := 15) sc_law.nd rfl (by walk_at "loc"))) (by decide) (fun _ _ _ _ _ _ _ _ _ => (e_new (n_comp rfl sc_law.nd (s_rng1 e_int T.b_range) (blkOk_by (own := [("_law_at", 14)]) rfl) (tg_name (i := 14)) (fun _ _ _ _ _ => (pg_name (i := 14) sc_law.nd rfl (by walk_at "loc"))) (by decide) (fun _ _ _ _ _ _ _ _ _ => (e_intB (e_eqI (e_name 14) fun _ => (e_mod (e_intI (e_add (e_name 15) fun _ => e_int) T.b_int) fun _ => e_int)) T.b_int))))))) rfl) (fun tall_57 => ?_) sc_law.nd
    refine b_ifA (t_conv (t_pw (w_or (t_not (t_val (e_callG (ok_law_same T (dd_lst (dd_lst dd_int)) (dd_lst (dd_lst dd_int))) hgu (hr.mono (by walk_at "lev")) T.m_law_same T.F_law_same.kp T.bd_law_same (aa_cons (e_name 12) fun _ => (aa_cons (e_new (n_comp rfl sc_law.nd (s_rng1 e_int T.b_range) (blkOk_by (own := [("_law_k", 15)]) rfl) (tg_name (i := 15)) (fun _ _ _ _ _ => (pg_name (i := 15) sc_law.nd rfl (by walk_at "loc"))) (by decide) (fun _ _ _ _ _ _ _ _ _ => (e_new (n_comp rfl sc_law.nd (s_rng1 e_int T.b_range) (blkOk_by (own := [("_law_at", 14)]) rfl) (tg_name (i := 14)) (fun _ _ _ _ _ => (pg_name (i := 14) sc_law.nd rfl (by walk_at "loc"))) (by decide) (fun _ _ _ _ _ _ _ _ _ => (e_intB (e_eqI (e_name 14) fun _ => (e_name 15)) T.b_int))))))) fun _ => aa_nil)) (fun _ => OsLe.none) (fun _ => List.nodup_nil)))) (w_or1 (t_neI (e_call (ok_determinant T) (hr.mono (by walk_at "lev")) T.m_determinant T.F_determinant.kp T.bd_determinant (aa_cons (e_name 13) fun _ => aa_nil) (fun _ => OsLe.none) (fun _ => List.nodup_nil)) fun _ => (e_neg e_int))))) (by walk_at "wn")) ?_ ?_
    · exact b_ret (RtOk.x RtOk.fn) OsW.nil (e_conv e_bl (by walk_at "wn"))
    · refine b_set 9 (e_conv (e_new (n_list (al_cons (e_toD (dd_lst (dd_lst dd_int)) (e_call (ok_product T) (hr.mono (by walk_at "lev")) T.m_product T.F_product.kp T.bd_product (aa_cons (e_new (n_list (al_cons (e_new (n_list (r := rInt) al_nil)) (al_cons (e_new (n_list (r := rInt) al_nil)) al_nil)))) fun _ => (aa_cons (e_new (n_list (r := (rLst rInt)) al_nil)) fun _ => aa_nil)) (fun _ => OsLe.none) (fun _ => List.nodup_nil))) (al_cons (e_toD (dd_lst (dd_lst dd_int)) (e_call (ok_product T) (hr.mono (by walk_at "lev")) T.m_product T.F_product.kp T.bd_product (aa_cons (e_new (n_list (r := (rLst rInt)) al_nil)) fun _ => (aa_cons (e_new (n_list (al_cons (e_new (n_list (al_cons e_int (al_cons e_int al_nil)))) al_nil))) fun _ => aa_nil)) (fun _ => OsLe.none) (fun _ => List.nodup_nil))) (al_cons (e_toD dd_int (e_call (ok_determinant T) (hr.mono (by walk_at "lev")) T.m_determinant T.F_determinant.kp T.bd_determinant (aa_cons (e_new (n_list (r := (rLst rInt)) al_nil)) fun _ => aa_nil) (fun _ => OsLe.none) (fun _ => List.nodup_nil))) (al_cons (e_toD dd_int (e_call (ok_determinant T) (hr.mono (by walk_at "lev")) T.m_determinant T.F_determinant.kp T.bd_determinant (aa_cons (e_new (n_list (al_cons (e_new (n_list (al_cons e_int (al_cons e_int al_nil)))) (al_cons (e_new (n_list (al_cons e_int (al_cons e_int al_nil)))) al_nil)))) fun _ => aa_nil) (fun _ => OsLe.none) (fun _ => List.nodup_nil))) (al_cons (e_toD dd_int (e_call (ok_determinant T) (hr.mono (by walk_at "lev")) T.m_determinant T.F_determinant.kp T.bd_determinant (aa_cons (e_new (n_list (al_cons (e_new (n_list (al_cons e_int (al_cons e_int al_nil)))) (al_cons (e_new (n_list (al_cons e_int (al_cons e_int al_nil)))) al_nil)))) fun _ => aa_nil) (fun _ => OsLe.none) (fun _ => List.nodup_nil))) al_nil))))))) (by walk_at "wn")) (fun found_76 => ?_) sc_law.nd
      exact b_ret RtOk.fn OsW.nil (e_conv (e_callG (ok_law_same T (dd_lst dd_D) (dd_lst dd_D)) hgu (hr.mono (by walk_at "lev")) T.m_law_same T.F_law_same.kp T.bd_law_same (aa_cons (e_name 9) fun _ => (aa_cons (e_new (n_list (al_cons (e_toD (dd_lst (dd_lst dd_int)) (e_new (n_list (al_cons (e_new (n_list (r := rInt) al_nil)) (al_cons (e_new (n_list (r := rInt) al_nil)) al_nil))))) (al_cons (e_toD (dd_lst dd_int) (e_new (n_list (r := rInt) al_nil))) (al_cons (e_toD dd_int e_int) (al_cons (e_toD dd_int (e_neg e_int)) (al_cons (e_toD dd_int e_int) al_nil))))))) fun _ => aa_nil)) (fun _ => OsLe.none) (fun _ => List.nodup_nil)) (by walk_at "wn"))
end
end K07

namespace K07
open PySem L2 Evl Mi
def mat (n : Nat) (b : Nat → Nat → Int) : List (List Int) := (List.range n).map fun i => (List.range n).map (b i)
def swp (k t : Nat) (b : Nat → Nat → Int) : Nat → Nat → Int := fun i j => if i = t then b k j else if i = k then b t j else b i j
def elim (k : Nat) (p : Int) (b : Nat → Nat → Int) : Nat → Nat → Int := fun i j => if k < i then (b i j * b k k - b i k * b k j).fdiv p else b i j
theorem mat_congr {n : Nat} {b c : Nat → Nat → Int} (h : ∀ i j, i < n → j < n → b i j = c i j) : mat n b = mat n c :=
  List.map_congr_left fun i hi => List.map_congr_left fun j hj => h i j (List.mem_range.mp hi) (List.mem_range.mp hj)
theorem idx_mat {n i : Nat} {b : Nat → Nat → Int} (h : i < n) : idx (mat n b) (i : Int) = ret ((List.range n).map (b i)) := idx_range h
def Bd (n m : Nat) (b : Nat → Nat → Int) : Prop := ∀ i j, i < n → j < n → (b i j).natAbs < 2 ^ m
/-- the inner loop -/
theorem l2_ok {n k : Nat} {b : Nat → Nat → Int} {s p : Int} {w0 : List (List Int)} (hn : n ≤ 16777216) (hk : k < n) (hb : Bd n 500000 b) (hp : p ≠ 0) (hp2 : p.natAbs < 2 ^ 9000) :
    Ok (forW (m_determinant_l2 (n : Int) (w0, s, p) (k : Int)) (mat n b) ((List.range (n - (k + 1))).map fun i : Nat => ((k + 1 + i : Nat) : Int))) (· = mat n (elim k p b)) := by
  refine Ok.forW (fun m w => w = mat n fun i j => if k < i ∧ i < k + 1 + m then elim k p b i j else b i j) ?_ ?_ ?_
  · exact mat_congr fun i j _ _ => by rw [if_neg (by omega)]
  · intro m hm w hw
    subst hw
    rw [List.length_map, List.length_range] at hm
    have hx : ((List.range (n - (k + 1))).map fun i : Nat => ((k + 1 + i : Nat) : Int))[m]'(by simpa using hm) = ((k + 1 + m : Nat) : Int) := by simp
    rw [hx]
    have hi : k + 1 + m < n := by omega
    unfold m_determinant_l2
    have ek : (fun j => if k < k ∧ k < k + 1 + m then elim k p b k j else b k j) = b k := by
      funext j
      rw [if_neg (by omega)]
    have ei : (fun j => if k < k + 1 + m ∧ k + 1 + m < k + 1 + m then elim k p b (k + 1 + m) j else b (k + 1 + m) j) = b (k + 1 + m) := by
      funext j
      rw [if_neg (by omega)]
    refine Ok.bnd (Ok.bndE (Ok.rng1 hn) (Ok.mapR0 (g := fun j => b (k + 1 + m) j * b k k - b (k + 1 + m) k * b k j) fun j hj => ?_)) fun late hl => ?_
    · rw [idx_mat hi, bnd_ret, ei, idx_range hj, bnd_ret, idx_mat hk, bnd_ret, ek, idx_range hk, bnd_ret]
      refine Ok.bndE (Ok.mul (hb _ _ hi hj) (hb _ _ hk hk) (by decide)) ?_
      rw [bnd_ret, idx_range hk, bnd_ret, bnd_ret, idx_range hj, bnd_ret]
      exact Ok.bndE (Ok.mul (hb _ _ hi hk) (hb _ _ hk hj) (by decide)) Ok.eq
    · subst hl
      refine Ok.bndE (Ok.map (g := fun x => x.fdiv p) fun x _ => Ok.div hp hp2) ?_
      rw [bnd_ret]
      unfold mat
      rw [putL_range hi, bnd_ret]
      refine Ok.ret (List.map_congr_left fun i hi' => ?_)
      by_cases e : i = k + 1 + m
      · subst e
        rw [if_pos rfl, List.map_map]
        refine List.map_congr_left fun j _ => ?_
        show _ = if _ then _ else _
        rw [if_pos (by omega)]
        unfold elim
        rw [if_pos (by omega)]
        rfl
      · rw [if_neg e]
        refine List.map_congr_left fun j _ => ?_
        by_cases h : k < i ∧ i < k + 1 + m
        · show (if _ then _ else _) = (if _ then _ else _)
          rw [if_pos h, if_pos (by omega)]
        · show (if _ then _ else _) = (if _ then _ else _)
          rw [if_neg h, if_neg (by omega)]
  · intro w hw
    rw [hw, List.length_map, List.length_range]
    refine mat_congr fun i j hi hj => ?_
    by_cases h : k < i
    · rw [if_pos (by omega)]
    · rw [if_neg (by omega)]
      unfold elim
      rw [if_neg h]
/-- the first row at or below k whose entry in column k is not nought -/
theorem first_row {n k : Nat} {b : Nat → Nat → Int} (hk : k ≤ n) : ((List.range (n - k)).map fun i : Nat => ((k + i : Nat) : Int)).filter (fun x => !decide (b x.toNat k = 0)) = [] ∧ (∀ i, k ≤ i → i < n → b i k = 0) ∨
    ∃ (t : Nat) (l : List Int), ((List.range (n - k)).map fun i : Nat => ((k + i : Nat) : Int)).filter (fun x => !decide (b x.toNat k = 0)) = (t : Int) :: l ∧ k ≤ t ∧ t < n ∧ b t k ≠ 0 ∧ ∀ i, k ≤ i → i < t → b i k = 0 := by
  generalize hd : n - k = d
  induction d generalizing n with
  | zero => exact .inl ⟨rfl, fun i h1 h2 => by omega⟩
  | succ d ih =>
    rw [List.range_succ, List.map_append, List.filter_append]
    rcases ih (n := n - 1) (by omega) (by omega) with ⟨e, h⟩ | ⟨t, l, e, h1, h2, h3, h4⟩
    · rw [e]
      by_cases q : b (k + d) k = 0
      · refine .inl ⟨by simp [-Int.natCast_add, q], fun i h1 h2 => ?_⟩
        by_cases e : i = k + d
        · rw [e]
          exact q
        · exact h i h1 (by omega)
      · exact .inr ⟨k + d, [], by simp [-Int.natCast_add, q], by omega, by omega, q, fun i h1 h2 => h i h1 (by omega)⟩
    · rw [e]
      exact .inr ⟨t, _, rfl, h1, by omega, h3, h4⟩
theorem eqv_nilI (xs : List Int) : PyData.eqv (.list (xs.map .int)) (.list (([] : List Int).map .int)) = xs.isEmpty := by
  rw [List.map_nil, eqv_nil]
/-- the determinant's def, over any invariant -/
theorem det_by {n : Nat} {a : Nat → Nat → Int} {r : Int} (hn : n ≤ 16777216) (Inv : Nat → (Nat → Nat → Int) → Int → Int → Prop) (h0 : Inv 0 a 1 1)
    (hb : ∀ k b s p, k < n → Inv k b s p → p ≠ 0 ∧ p.natAbs < 2 ^ 9000 ∧ Bd n 500000 b)
    (hz : ∀ k b s p, k < n → Inv k b s p → (∀ i, k ≤ i → i < n → b i k = 0) → r = 0)
    (hs : ∀ k b s p t, k < n → Inv k b s p → k ≤ t → t < n → b t k ≠ 0 → (∀ i, k ≤ i → i < t → b i k = 0) → Inv (k + 1) (elim k p (swp k t b)) (if t = k then s else -s) (b t k))
    (he : ∀ b s p, Inv n b s p → s.natAbs < 2 ^ 64 ∧ s * p = r) : Ok (m_determinant (mat n a)) (· = r) := by
  unfold m_determinant
  refine Ok.bndE (x := mat n a) ((Ok.map (g := fun x => x) fun x _ => Ok.eq).mono fun ys e => by rw [e, List.map_id']) ?_
  have hl : (mat n a).length = n := by
    unfold mat
    rw [List.length_map, List.length_range]
  rw [hl, bnd_ret]
  refine Ok.bndE (Ok.rng1 hn) ?_
  refine Ok.bnd (Ok.forF (J := fun q => match q with | .nx s => ∃ b, s.1 = mat n b ∧ Inv n b s.2.1 s.2.2 | .rt z => z = r | _ => False) (fun k s => ∃ b, s.1 = mat n b ∧ Inv k b s.2.1 s.2.2) (fun z => z = r) ⟨a, rfl, h0⟩ ?_ ?_ ?_) ?_
  · rintro k hk ⟨w, s, p⟩ ⟨b, e, hi⟩
    have e' : w = mat n b := e
    subst e'
    rw [List.length_map, List.length_range] at hk
    have hx : ((List.range n).map fun k : Nat => (k : Int))[k]'(by simpa using hk) = (k : Int) := by simp
    rw [hx]
    obtain ⟨p0, p1, bd⟩ := hb k b s p hk hi
    unfold m_determinant_l1
    refine Ok.bndE (x := (((List.range (n - k)).map fun i : Nat => ((k + i : Nat) : Int)).filter (fun x => !decide (b x.toNat k = 0)))) ?_ ?_
    · refine Ok.bndE (Ok.rng2 (by omega) hn) ?_
      refine (Ok.filt (p := fun x => !decide (b x.toNat k = 0)) (g := fun x => x) (fun x hx => ?_) fun x _ _ => Ok.eq).mono fun ys e => by rw [e, List.map_id']
      obtain ⟨i, hi, rfl⟩ := List.mem_map.mp hx
      have hi := List.mem_range.mp hi
      show Ok (bnd (idx (mat n b) ((k + i : Nat) : Int)) _) _
      rw [idx_mat (show k + i < n by omega), bnd_ret, idx_range hk, bnd_ret]
      exact Ok.eq
    · show Ok (bnd (ret (PyData.eqv (.list (List.map PyData.int _)) (.list (List.map PyData.int [])))) _) _
      rw [eqv_nilI, bnd_ret]
      rcases first_row (b := b) (Nat.le_of_lt hk) with ⟨e, hall⟩ | ⟨t, l, e, h1, h2, h3, h4⟩
      · rw [e]
        show Ok (ret (Fl.rt (0 : Int))) _
        refine Ok.ret ?_
        exact (hz k b s p hk hi hall).symm
      · rw [e]
        have i0 : idx ((t : Int) :: l) 0 = ret (t : Int) := idx_nat (n := 0) rfl
        rw [i0]
        rw [if_neg (show ¬ ((t : Int) :: l).isEmpty = true from Bool.false_ne_true), bnd_ret, bnd_ret]
        refine Ok.bndE (x := (mat n (swp k t b), if t = k then s else -s)) ?_ ?_
        · by_cases q : t = k
          · subst q
            rw [if_neg (by simp), if_pos rfl]
            refine Ok.ret (Prod.ext (mat_congr fun i j _ _ => ?_) rfl)
            unfold swp
            split
            · subst_vars
              rfl
            · rfl
          · rw [if_pos (by simp; omega), if_neg q]
            rw [bnd_ret]
            show Ok (bnd (idx (mat n b) (t : Int)) _) _
            rw [idx_mat h2, bnd_ret]
            show Ok (bnd (idx (mat n b) (k : Int)) _) _
            rw [idx_mat hk, bnd_ret, bnd_ret]
            show Ok (bnd (putL (mat n b) (k : Int) _) _) _
            unfold mat
            rw [putL_range hk, bnd_ret, bnd_ret, putL_range h2, bnd_ret, bnd_ret]
            refine Ok.ret (Prod.ext (List.map_congr_left fun i hi => ?_) rfl)
            unfold swp
            by_cases e1 : i = t
            · subst e1
              rw [if_pos rfl]
              exact List.map_congr_left fun j _ => by rw [if_pos rfl]
            · rw [if_neg e1]
              by_cases e2 : i = k
              · subst e2
                rw [if_pos rfl]
                exact List.map_congr_left fun j _ => by rw [if_neg e1, if_pos rfl]
              · rw [if_neg e2]
                exact List.map_congr_left fun j _ => by rw [if_neg e1, if_neg e2]
        · have bd2 : Bd n 500000 (swp k t b) := fun i j hi hj => by
            unfold swp
            split
            · exact bd _ _ hk hj
            · split
              · exact bd _ _ h2 hj
              · exact bd _ _ hi hj
          show Ok (bnd (rng2 ((k : Int) + 1) (n : Int)) _) _
          refine Ok.bndE (Ok.rng2 (a := k + 1) (by omega) hn) ?_
          refine Ok.bndE (l2_ok hn hk bd2 p0 p1) ?_
          rw [idx_mat hk, bnd_ret, idx_range hk, bnd_ret]
          refine Ok.ret ?_
          refine ⟨_, rfl, ?_⟩
          have ev : elim k p (swp k t b) k k = b t k := by
            unfold elim swp
            rw [if_neg (by omega)]
            split
            · subst_vars
              rfl
            · rw [if_pos rfl]
          show Inv (k + 1) _ _ (elim k p (swp k t b) k k)
          rw [ev]
          exact hs k b s p t hk hi h1 h2 h3 h4
  · rintro s hs'
    rw [List.length_map, List.length_range] at hs'
    exact hs'
  · exact fun z hz => hz
  · intro q hq
    cases q with
    | nx s =>
      obtain ⟨b, e, hi⟩ := hq
      obtain ⟨h1, h2⟩ := he b _ _ hi
      exact Ok.bndE (Ok.mulL h1) (Ok.ret h2)
    | rt z => exact Ok.ret hq
    | bk s => exact False.elim hq
    | ct s => exact False.elim hq
end K07

namespace K07
open PySem L2 Evl Mi
abbrev Mx := Nat → Nat → Int
def det2 (a b c d : Int) : Int := a * d - b * c
def det3 (a b c d e f g h i : Int) : Int := a * (e * i - f * h) - b * (d * i - f * g) + c * (d * h - e * g)
def M (k : Nat) (a : Mx) (i j : Nat) : Int := match k with
  | 0 => a i j
  | 1 => a i j * a 0 0 - a i 0 * a 0 j
  | 2 => det3 (a 0 0) (a 0 1) (a 0 j) (a 1 0) (a 1 1) (a 1 j) (a i 0) (a i 1) (a i j)
  | 3 => a 0 0 * det3 (a 1 1) (a 1 2) (a 1 j) (a 2 1) (a 2 2) (a 2 j) (a i 1) (a i 2) (a i j) - a 0 1 * det3 (a 1 0) (a 1 2) (a 1 j) (a 2 0) (a 2 2) (a 2 j) (a i 0) (a i 2) (a i j)
    + a 0 2 * det3 (a 1 0) (a 1 1) (a 1 j) (a 2 0) (a 2 1) (a 2 j) (a i 0) (a i 1) (a i j) - a 0 j * det3 (a 1 0) (a 1 1) (a 1 2) (a 2 0) (a 2 1) (a 2 2) (a i 0) (a i 1) (a i 2)
  | _ => 0
def prev (k : Nat) (a : Mx) : Int := match k with
  | 0 => 1
  | k + 1 => M k a k k
theorem syl {k : Nat} (hk : k < 3) (a : Mx) (i j : Nat) : M k a i j * M k a k k - M k a i k * M k a k j = prev k a * M (k + 1) a i j := by
  match k, hk with
  | 0, _ => simp only [M, prev]; grind
  | 1, _ => simp only [M, prev, det3]; grind
  | 2, _ => simp only [M, prev, det3]; grind
theorem M_swp {k t : Nat} (hk : k ≤ 3) (ht : k ≤ t) (a : Mx) (i j : Nat) (hi : k ≤ i) : M k (swp k t a) i j = M k a (if i = t then k else if i = k then t else i) j := by
  have row : ∀ j, swp k t a i j = a (if i = t then k else if i = k then t else i) j := fun j => by
    unfold swp
    split
    · rfl
    · split <;> rfl
  have low : ∀ l j, l < k → swp k t a l j = a l j := fun l j hl => by
    unfold swp
    rw [if_neg (by omega), if_neg (by omega)]
  match k, hk with
  | 0, _ => exact row j
  | 1, _ => simp only [M, row, low 0 _ (by decide)]
  | 2, _ => simp only [M, row, low 0 _ (by decide), low 1 _ (by decide)]
  | 3, _ => simp only [M, row, low 0 _ (by decide), low 1 _ (by decide), low 2 _ (by decide)]
theorem prev_swp {k t : Nat} (hk : k ≤ 3) (ht : k ≤ t) (a : Mx) : prev k (swp k t a) = prev k a := by
  have low : ∀ l j, l < k → swp k t a l j = a l j := fun l j hl => by
    unfold swp
    rw [if_neg (by omega), if_neg (by omega)]
  match k, hk with
  | 0, _ => rfl
  | 1, _ => simp only [prev, M, low 0 _ (by decide)]
  | 2, _ => simp only [prev, M, low 0 _ (by decide), low 1 _ (by decide)]
  | 3, _ => simp only [prev, M, low 0 _ (by decide), low 1 _ (by decide), low 2 _ (by decide)]
theorem prev_swpN {n k t : Nat} (hn : n ≤ 4) (hk : k < t) (ht : t < n) (a : Mx) : prev n (swp k t a) = - prev n a := by
  have q : (n = 2 ∧ k = 0 ∧ t = 1) ∨ (n = 3 ∧ k = 0 ∧ t = 1) ∨ (n = 3 ∧ k = 0 ∧ t = 2) ∨ (n = 3 ∧ k = 1 ∧ t = 2) ∨ (n = 4 ∧ k = 0 ∧ t = 1) ∨ (n = 4 ∧ k = 0 ∧ t = 2) ∨ (n = 4 ∧ k = 0 ∧ t = 3) ∨ (n = 4 ∧ k = 1 ∧ t = 2) ∨ (n = 4 ∧ k = 1 ∧ t = 3) ∨ (n = 4 ∧ k = 2 ∧ t = 3) := by omega
  rcases q with ⟨rfl, rfl, rfl⟩ | ⟨rfl, rfl, rfl⟩ | ⟨rfl, rfl, rfl⟩ | ⟨rfl, rfl, rfl⟩ | ⟨rfl, rfl, rfl⟩ | ⟨rfl, rfl, rfl⟩ | ⟨rfl, rfl, rfl⟩ | ⟨rfl, rfl, rfl⟩ | ⟨rfl, rfl, rfl⟩ | ⟨rfl, rfl, rfl⟩
  · simp [prev, M, swp]; grind
  · simp [prev, M, swp, det3]; grind
  · simp [prev, M, swp, det3]; grind
  · simp [prev, M, swp, det3]; grind
  · simp [prev, M, swp, det3]; grind
  · simp [prev, M, swp, det3]; grind
  · simp [prev, M, swp, det3]; grind
  · simp [prev, M, swp, det3]; grind
  · simp [prev, M, swp, det3]; grind
  · simp [prev, M, swp, det3]; grind
/-- a column of noughts at and below the pivot -/
theorem prev_zero {n k : Nat} (hn : n ≤ 4) (hk : k < n) (a : Mx) (hp : prev k a ≠ 0) (h : ∀ i, k ≤ i → i < n → M k a i k = 0) : prev n a = 0 := by
  match n, k, hn, hk with
  | 1, 0, _, _ => exact h 0 (by decide) (by decide)
  | 2, 0, _, _ =>
    have h0 : a 0 0 = 0 := h 0 (by decide) (by decide)
    have h1 : a 1 0 = 0 := h 1 (by decide) (by decide)
    simp only [prev, M]; grind
  | 2, 1, _, _ => exact h 1 (by decide) (by decide)
  | 3, 0, _, _ =>
    have h0 : a 0 0 = 0 := h 0 (by decide) (by decide)
    have h1 : a 1 0 = 0 := h 1 (by decide) (by decide)
    have h2 : a 2 0 = 0 := h 2 (by decide) (by decide)
    simp only [prev, M, det3]; grind
  | 3, 1, _, _ =>
    have h1 : M 1 a 1 1 = 0 := h 1 (by decide) (by decide)
    have h2 : M 1 a 2 1 = 0 := h 2 (by decide) (by decide)
    have e := syl (k := 1) (by decide) a 2 2
    rw [h1, h2] at e
    have e2 : prev 1 a * M 2 a 2 2 = 0 := by rw [← e]; simp
    exact (Int.mul_eq_zero.mp e2).resolve_left hp
  | 3, 2, _, _ => exact h 2 (by decide) (by decide)
  | 4, 0, _, _ =>
    have h0 : a 0 0 = 0 := h 0 (by decide) (by decide)
    have h1 : a 1 0 = 0 := h 1 (by decide) (by decide)
    have h2 : a 2 0 = 0 := h 2 (by decide) (by decide)
    have h3 : a 3 0 = 0 := h 3 (by decide) (by decide)
    simp only [prev, M, det3]; grind
  | 4, 1, _, _ =>
    have h1 : M 1 a 1 1 = 0 := h 1 (by decide) (by decide)
    have h2 : M 1 a 2 1 = 0 := h 2 (by decide) (by decide)
    have h3 : M 1 a 3 1 = 0 := h 3 (by decide) (by decide)
    have e : a 0 0 * a 0 0 * M 3 a 3 3 = det3 (M 1 a 1 1) (M 1 a 1 2) (M 1 a 1 3) (M 1 a 2 1) (M 1 a 2 2) (M 1 a 2 3) (M 1 a 3 1) (M 1 a 3 2) (M 1 a 3 3) := by
      simp only [M, det3]; grind
    rw [h1, h2, h3] at e
    have e2 : a 0 0 * a 0 0 * M 3 a 3 3 = 0 := by rw [e]; simp [det3]
    have hp' : a 0 0 ≠ 0 := hp
    rcases Int.mul_eq_zero.mp e2 with e3 | e3
    · rcases Int.mul_eq_zero.mp e3 with e4 | e4 <;> exact absurd e4 hp'
    · exact e3
  | 4, 2, _, _ =>
    have h1 : M 2 a 2 2 = 0 := h 2 (by decide) (by decide)
    have h2 : M 2 a 3 2 = 0 := h 3 (by decide) (by decide)
    have e := syl (k := 2) (by decide) a 3 3
    rw [h1, h2] at e
    have e2 : prev 2 a * M 3 a 3 3 = 0 := by rw [← e]; simp
    exact (Int.mul_eq_zero.mp e2).resolve_left hp
  | 4, 3, _, _ => exact h 3 (by decide) (by decide)
end K07

namespace K07
open PySem L2 Evl Mi
def bits (k : Nat) : Nat := 201 * 2 ^ k - 1
theorem bits_succ (k : Nat) : bits (k + 1) = bits k + bits k + 1 := by
  unfold bits
  have : 0 < 2 ^ k := Nat.pow_pos (by decide)
  rw [Nat.pow_succ]
  omega
theorem bits_le {k : Nat} (h : k ≤ 4) : bits k ≤ 3215 := by
  have q : k = 0 ∨ k = 1 ∨ k = 2 ∨ k = 3 ∨ k = 4 := by omega
  rcases q with rfl | rfl | rfl | rfl | rfl <;> decide
theorem bits_mono {k l : Nat} (h : k ≤ l) : bits k ≤ bits l := by
  unfold bits
  have := Nat.pow_le_pow_right (n := 2) (by decide) h
  omega
theorem mulsub_lt {x y z w : Int} {m : Nat} (hx : x.natAbs < 2 ^ m) (hy : y.natAbs < 2 ^ m) (hz : z.natAbs < 2 ^ m) (hw : w.natAbs < 2 ^ m) : (x * y - z * w).natAbs < 2 ^ (m + m + 1) := by
  have h1 : (x * y).natAbs < 2 ^ (m + m) := by
    rw [Int.natAbs_mul, Nat.pow_add]
    exact Nat.mul_lt_mul'' hx hy
  have h2 : (z * w).natAbs < 2 ^ (m + m) := by
    rw [Int.natAbs_mul, Nat.pow_add]
    exact Nat.mul_lt_mul'' hz hw
  rw [Nat.pow_succ]
  omega
theorem fdiv_abs_le (x p : Int) : (x.fdiv p).natAbs ≤ x.natAbs := by
  by_cases hp : p = 0
  · subst hp
    simp
  have e := Int.mul_fdiv_add_fmod x p
  by_cases h0 : 0 < p
  · have h1 := Int.fmod_nonneg_of_pos x h0
    have h2 := Int.fmod_lt_of_pos x h0
    generalize x.fdiv p = q at *
    generalize x.fmod p = r at *
    by_cases hq : 0 ≤ q
    · have : q ≤ p * q := by
        have := Int.mul_le_mul_of_nonneg_right (show (1 : Int) ≤ p by omega) hq
        omega
      omega
    · have : p * q ≤ p * (-1) := Int.mul_le_mul_of_nonneg_left (by omega) (by omega)
      have h3 : p * (q + 1) ≤ q + 1 := by
        have := Int.mul_le_mul_of_nonpos_right (show (1 : Int) ≤ p by omega) (show q + 1 ≤ 0 by omega)
        omega
      rw [Int.mul_add] at h3
      omega
  · have h0' : 0 < -p := by omega
    have e2 : x.fdiv p = (-x).fdiv (-p) := by rw [Int.neg_fdiv_neg]
    have e3 : (-x).natAbs = x.natAbs := Int.natAbs_neg x
    rw [e2, ← e3]
    have e := Int.mul_fdiv_add_fmod (-x) (-p)
    have h1 := Int.fmod_nonneg_of_pos (-x) h0'
    have h2 := Int.fmod_lt_of_pos (-x) h0'
    generalize (-x).fdiv (-p) = q at *
    generalize (-x).fmod (-p) = r at *
    generalize -p = p at *
    generalize -x = x at *
    by_cases hq : 0 ≤ q
    · have : q ≤ p * q := by
        have := Int.mul_le_mul_of_nonneg_right (show (1 : Int) ≤ p by omega) hq
        omega
      omega
    · have : p * q ≤ p * (-1) := Int.mul_le_mul_of_nonneg_left (by omega) (by omega)
      have h3 : p * (q + 1) ≤ q + 1 := by
        have := Int.mul_le_mul_of_nonpos_right (show (1 : Int) ≤ p by omega) (show q + 1 ≤ 0 by omega)
        omega
      rw [Int.mul_add] at h3
      omega
structure Inv4 (n : Nat) (r : Int) (k : Nat) (b : Mx) (s p : Int) : Prop where
  kn : k ≤ n
  bd : Bd n (bits k) b
  pb : p.natAbs < 2 ^ bits k
  p0 : p ≠ 0
  s1 : s = 1 ∨ s = -1
  ex : ∃ a, (∀ i j, k ≤ i → i < n → k ≤ j → j < n → b i j = M k a i j) ∧ p = prev k a ∧ s * prev n a = r
theorem fdiv_mul_left {p m : Int} (h : p ≠ 0) : (p * m).fdiv p = m := by rw [Int.mul_comm]; exact Int.mul_fdiv_cancel m h
theorem det4_ok {n : Nat} (hn : n ≤ 4) {a : Mx} (ha : Bd n 200 a) : Ok (m_determinant (mat n a)) (· = prev n a) := by
  have hm : ∀ {k : Nat} {x : Int}, k ≤ n → x.natAbs < 2 ^ bits k → x.natAbs < 2 ^ 3215 := fun hk hx => Nat.lt_of_lt_of_le hx (Nat.pow_le_pow_right (by decide) (bits_le (Nat.le_trans hk hn)))
  refine det_by (by omega) (Inv4 n (prev n a)) ⟨Nat.zero_le _, ha, by show 1 < 2 ^ 200; decide, by decide, .inl rfl, a, fun i j _ _ _ _ => rfl, rfl, by omega⟩ ?_ ?_ ?_ ?_
  · intro k b s p hk I
    refine ⟨I.p0, Nat.lt_of_lt_of_le (hm I.kn I.pb) (Nat.pow_le_pow_right (by decide) (by decide)), fun i j hi hj => ?_⟩
    exact Nat.lt_of_lt_of_le (hm I.kn (I.bd i j hi hj)) (Nat.pow_le_pow_right (by decide) (by decide))
  · intro k b s p hk I hz
    obtain ⟨a', h1, h2, h3⟩ := I.ex
    have := prev_zero hn hk a' (h2 ▸ I.p0) fun i hi1 hi2 => by rw [← h1 i k hi1 hi2 (Nat.le_refl k) hk, hz i hi1 hi2]
    rw [← h3, this, Int.mul_zero]
  · intro k b s p t hk I ht1 ht2 hnz _
    obtain ⟨a', h1, h2, h3⟩ := I.ex
    have hk3 : k ≤ 3 := by omega
    have sb : ∀ i j, k ≤ i → i < n → k ≤ j → j < n → swp k t b i j = M k (swp k t a') i j := fun i j h4 h5 h6 h7 => by
      rw [M_swp hk3 ht1 a' i j h4]
      unfold swp
      split
      · exact h1 k j (Nat.le_refl k) hk h6 h7
      · split
        · exact h1 t j ht1 ht2 h6 h7
        · exact h1 i j h4 h5 h6 h7
    have bds : Bd n (bits k) (swp k t b) := fun i j hi hj => by
      unfold swp
      split
      · exact I.bd _ _ hk hj
      · split
        · exact I.bd _ _ ht2 hj
        · exact I.bd _ _ hi hj
    have pk : b t k = prev (k + 1) (swp k t a') := by
      show _ = M k (swp k t a') k k
      rw [← sb k k (Nat.le_refl k) hk (Nat.le_refl k) hk]
      unfold swp
      split
      · subst_vars
        rfl
      · rw [if_pos rfl]
    refine ⟨hk, fun i j hi hj => ?_, ?_, hnz, ?_, swp k t a', ?_, pk, ?_⟩
    · unfold elim
      rw [bits_succ]
      split
      · exact Nat.lt_of_le_of_lt (fdiv_abs_le _ _) (mulsub_lt (bds _ _ hi hj) (bds _ _ hk hk) (bds _ _ hi hk) (bds _ _ hk hj))
      · exact Nat.lt_of_lt_of_le (bds _ _ hi hj) (Nat.pow_le_pow_right (by decide) (by omega))
    · exact Nat.lt_of_lt_of_le (I.bd t k ht2 hk) (Nat.pow_le_pow_right (by decide) (bits_mono (Nat.le_succ k)))
    · rcases I.s1 with e | e <;> split <;> simp [e]
    · intro i j h4 h5 h6 h7
      unfold elim
      rw [if_pos (by omega), sb i j (by omega) h5 (by omega) h7, sb k k (Nat.le_refl k) hk (Nat.le_refl k) hk, sb i k (by omega) h5 (Nat.le_refl k) hk, sb k j (Nat.le_refl k) hk (by omega) h7, syl (by omega), h2, prev_swp hk3 ht1]
      exact fdiv_mul_left (h2 ▸ I.p0)
    · by_cases e : t = k
      · subst e
        rw [if_pos rfl]
        have : swp t t a' = a' := by
          funext i j
          unfold swp
          split
          · subst_vars
            rfl
          · rfl
        rw [this]
        exact h3
      · rw [if_neg e, prev_swpN hn (by omega) ht2]
        rw [← h3, Int.neg_mul_neg]
  · intro b s p I
    obtain ⟨a', h1, h2, h3⟩ := I.ex
    refine ⟨?_, ?_⟩
    · rcases I.s1 with e | e <;> subst e <;> decide
    · rw [h2]
      exact h3
/-- the matrix of a turn: nineteen swaps -/
def cyc : Mx := fun i j => if j = (i + 1) % 20 then 1 else 0
structure Inv20 (k : Nat) (b : Mx) (s p : Int) : Prop where
  kn : k ≤ 20
  p1 : p = 1
  s1 : s = if k = 0 then 1 else if k = 20 then -1 else if k % 2 = 0 then 1 else -1
  ex : ∀ i j, i < 20 → j < 20 → b i j = if i < k then (if j = i then 1 else 0) else if i < 19 then (if j = i + 1 then 1 else 0) else if k = 20 then (if j = 19 then 1 else 0) else (if j = k then 1 else 0)
theorem cyc_ok : Ok (m_determinant (mat 20 cyc)) (· = -1) := by
  refine det_by (by omega) Inv20 ⟨by omega, rfl, rfl, fun i j hi hj => ?_⟩ ?_ ?_ ?_ ?_
  · unfold cyc
    (repeat' split) <;> first | rfl | omega
  · intro k b s p hk I
    refine ⟨by rw [I.p1]; decide, by rw [I.p1]; exact Nat.one_lt_two_pow (by decide), fun i j hi hj => ?_⟩
    rw [I.ex i j hi hj]
    refine Nat.lt_of_le_of_lt (m := 1) ?_ (Nat.one_lt_two_pow (by decide))
    repeat' split
    all_goals decide
  · intro k b s p hk I hz
    have := hz 19 (by omega) (by omega)
    rw [I.ex 19 k (by omega) hk] at this
    revert this
    (repeat' split) <;> intro _ <;> omega
  · intro k b s p t hk I h1 h2 h3 h4
    have ht : t = 19 := by
      have h5 := h3
      rw [I.ex t k h2 hk] at h5
      revert h5
      (repeat' split) <;> intro _ <;> omega
    subst ht
    have hb : b 19 k = 1 := by
      rw [I.ex 19 k (by omega) hk]
      (repeat' split) <;> first | rfl | omega
    refine ⟨by omega, hb, ?_, fun i j hi hj => ?_⟩
    · rw [I.s1]
      clear h3 h4 hb
      (repeat' split) <;> first | rfl | omega
    · have sw : ∀ i j, i < 20 → j < 20 → swp k 19 b i j = if i ≤ k then (if j = i then 1 else 0) else if i < 19 then (if j = i + 1 then 1 else 0) else (if j = k + 1 then 1 else 0) := by
        intro i j hi hj
        unfold swp
        rw [I.ex k j hk hj, I.ex 19 j (by omega) hj, I.ex i j hi hj]
        (repeat' split) <;> first | rfl | omega
      unfold elim
      rw [I.p1]
      have low : swp k 19 b i j = if i < k + 1 then (if j = i then 1 else 0) else if i < 19 then (if j = i + 1 then 1 else 0) else if k + 1 = 20 then (if j = 19 then 1 else 0) else (if j = k + 1 then 1 else 0) := by
        rw [sw i j hi hj]
        (repeat' split) <;> first | rfl | omega
      rw [← low]
      split
      · have e1 : swp k 19 b k k = 1 := by rw [sw k k hk hk, if_pos (Nat.le_refl k), if_pos rfl]
        have e2 : swp k 19 b i k = 0 := by
          rw [sw i k hi hk]
          (repeat' split) <;> first | rfl | omega
        rw [e1, e2, Int.mul_one, Int.zero_mul, Int.sub_zero, Int.fdiv_one]
      · rfl
  · intro b s p I
    rw [I.s1, I.p1]
    decide
end K07

namespace K07
open PySem L2 Evl Mi
def mulM (n : Nat) (a b : Mx) : Mx := fun i j => ((List.range n).map fun l => a i l * b l j).sum
theorem det_mul {n : Nat} (hn : n ≤ 4) (a b : Mx) : prev n (mulM n a b) = prev n a * prev n b := by
  have q : n = 0 ∨ n = 1 ∨ n = 2 ∨ n = 3 ∨ n = 4 := by omega
  rcases q with rfl | rfl | rfl | rfl | rfl
  · rfl
  · simp [prev, M, mulM, List.range_succ]
  · simp [prev, M, mulM, List.range_succ]; grind
  · simp [prev, M, mulM, List.range_succ, det3]; grind
  · simp [prev, M, mulM, List.range_succ, det3]; grind
def minor (j : Nat) (a : Mx) : Mx := fun i l => a (i + 1) (if l < j then l else l + 1)
def lapS (n : Nat) (a : Mx) : Nat → Int
  | 0 => 0
  | k + 1 => lapS n a k + (if k % 2 = 0 then 1 else -1) * a 0 k * prev n (minor k a)
theorem lap_eq {n : Nat} (hn : n < 4) (a : Mx) : lapS n a (n + 1) = prev (n + 1) a := by
  have q : n = 0 ∨ n = 1 ∨ n = 2 ∨ n = 3 := by omega
  rcases q with rfl | rfl | rfl | rfl
  · simp [lapS, prev, M]
  · simp [lapS, prev, M, minor]; grind
  · simp [lapS, prev, M, minor, det3]; grind
  · simp [lapS, prev, M, minor, det3]; grind
/-! ### oblong matrices -/
def rmat (m n : Nat) (b : Mx) : List (List Int) := (List.range m).map fun i => (List.range n).map (b i)
theorem rmat_len {m n : Nat} {b : Mx} : (rmat m n b).length = m := by
  unfold rmat
  rw [List.length_map, List.length_range]
theorem idx_rmat {m n i : Nat} {b : Mx} (h : i < m) : idx (rmat m n b) (i : Int) = ret ((List.range n).map (b i)) := idx_range h
theorem rmat_congr {m n : Nat} {b c : Mx} (h : ∀ i j, i < m → j < n → b i j = c i j) : rmat m n b = rmat m n c :=
  List.map_congr_left fun i hi => List.map_congr_left fun j hj => h i j (List.mem_range.mp hi) (List.mem_range.mp hj)
theorem range_get {α : Type} {xs : List α} {d : α} : xs = (List.range xs.length).map fun i => xs.getD i d := by
  refine List.ext_getElem (by simp) fun i h1 h2 => ?_
  simp [h1]
theorem rmat_of {m n : Nat} {w : List (List Int)} (h : w.length = m) (h2 : ∀ x ∈ w, x.length = n) : w = rmat m n fun i j => (w.getD i []).getD j 0 := by
  subst h
  refine (range_get (d := [])).trans (List.map_congr_left fun i hi => ?_)
  have hi := List.mem_range.mp hi
  have hl : (w.getD i []).length = n := h2 _ (by rw [List.getD_eq_getElem?_getD, List.getElem?_eq_getElem hi]; exact List.getElem_mem hi)
  rw [← hl]
  exact range_get (d := 0)
def Bo (m n : Nat) (k : Nat) (b : Mx) : Prop := ∀ i j, i < m → j < n → (b i j).natAbs < 2 ^ k
theorem sum_lt {n k : Nat} {f : Nat → Int} (h : ∀ i, i < n → (f i).natAbs < 2 ^ k) : (((List.range n).map f).sum).natAbs ≤ n * 2 ^ k := by
  induction n with
  | zero => simp
  | succ n ih =>
    have := ih fun i hi => h i (by omega)
    have := h n (by omega)
    rw [List.range_succ, List.map_append, List.sum_append, Nat.add_mul]
    simp only [List.map_cons, List.map_nil, List.sum_cons, List.sum_nil]
    omega
def mulR (k : Nat) (a b : Mx) : Mx := fun i j => ((List.range k).map fun l => a i l * b l j).sum
theorem prod_inner {m k n : Nat} {a b : Mx} (hk : k ≤ 16777216) (hn : n ≤ 16777216) (hb : Bo k n 64 b) {i : Nat} :
    Ok (bnd (rng1 (n : Int)) fun l5 => mapW (fun (x6 : Int) => bnd (rng1 (((rmat k n b).length : Nat) : Int)) fun l7 => bnd (mapW (fun (x8 : Int) => bnd (idx ((List.range k).map (a i)) x8) fun t9 => bnd (idx (rmat k n b) x8) fun t10 => bnd (idx t10 x6) fun t11 => mulI t9 t11) l7) fun ys13 => ret (ys13.sum)) l5) (· = (List.range n).map (mulR k a b i)) := by
  rw [rmat_len]
  refine Ok.bndE (Ok.rng1 hn) (Ok.mapR0 fun j hj => ?_)
  refine Ok.bndE (Ok.rng1 hk) ?_
  refine Ok.bndE (Ok.mapR0 (g := fun l => a i l * b l j) fun l hl => ?_) Ok.eq
  rw [idx_range hl, bnd_ret, idx_rmat hl, bnd_ret, idx_range hj, bnd_ret]
  exact Ok.mulR (hb l j hl hj)
theorem eqv_nilL (xs : List (List Int)) : PyData.eqv (.list (xs.map fun x => .list (x.map .int))) (.list (([] : List (List Int)).map fun x => .list (x.map .int))) = xs.isEmpty := by
  rw [List.map_nil, eqv_nil]
theorem product_ok {m k n : Nat} {a b : Mx} (hm : k = 0 → m = 0 ∨ n = 0) (hk : k ≤ 16777216) (hn : n ≤ 16777216) (hb : Bo k n 64 b) : Ok (m_product (rmat m k a) (rmat k n b)) (· = rmat m n (mulR k a b)) := by
  unfold m_product
  show Ok (bnd (bnd (ret (!PyData.eqv (.list (List.map (fun xs => .list (List.map .int xs)) _)) (.list (List.map (fun xs => .list (List.map .int xs)) [])))) _) _) _
  rw [eqv_nilL]
  by_cases q : k = 0
  · subst q
    show Ok (bnd (ret 0) _) _
    rw [bnd_ret]
    rcases hm rfl with e | e
    · subst e
      exact Ok.eq
    · subst e
      refine Ok.bndE (x := rmat m 0 (mulR 0 a b)) ?_ Ok.eq
      refine (Ok.map (g := fun _ => []) fun x hx => ?_).mono fun ys e => ?_
      · obtain ⟨i, _, rfl⟩ := List.mem_map.mp hx
        exact prod_inner (m := m) (k := 0) (n := 0) (a := a) (b := b) hk hn hb (i := i)
      · rw [e]
        unfold rmat
        rw [List.map_map]
        rfl
  · have he : (rmat k n b).isEmpty = false := by
      cases e : rmat k n b with
      | nil =>
        have := rmat_len (m := k) (n := n) (b := b)
        rw [e] at this
        exact absurd this.symm q
      | cons => rfl
    rw [he]
    show Ok (bnd (bnd (idx (rmat k n b) ((0 : Nat) : Int)) fun t2 => ret (t2.length : Int)) _) _
    rw [idx_rmat (by omega), bnd_ret, bnd_ret, List.length_map, List.length_range]
    refine Ok.bndE (x := rmat m n (mulR k a b)) ?_ Ok.eq
    refine (Ok.map (g := fun x : List Int => (List.range n).map fun j => ((List.range k).map fun l => x.getD l 0 * b l j).sum) fun x hx => ?_).mono fun ys e => ?_
    · obtain ⟨i, _, rfl⟩ := List.mem_map.mp hx
      refine (prod_inner (m := m) (a := a) hk hn hb (i := i)).mono fun ys e => e.trans (List.map_congr_left fun j _ => ?_)
      refine congrArg List.sum (List.map_congr_left fun l hl => ?_)
      simp [List.mem_range.mp hl]
    · rw [e]
      unfold rmat
      rw [List.map_map]
      refine List.map_congr_left fun i _ => List.map_congr_left fun j _ => ?_
      refine congrArg List.sum (List.map_congr_left fun l hl => ?_)
      simp [List.mem_range.mp hl]
theorem matrix_ok {m k n : Nat} {a b : Mx} (hk : k ≤ 16777216) (hn : n ≤ 16777216) (hb : Bo k n 64 b) : Ok (m_law_matrix (rmat m k a) (rmat k n b) (n : Int)) (· = rmat m n (mulR k a b)) := by
  unfold m_law_matrix
  refine Ok.bndE (x := rmat m n (mulR k a b)) ?_ Ok.eq
  refine (Ok.map (g := fun x : List Int => (List.range n).map fun j => ((List.range k).map fun l => x.getD l 0 * b l j).sum) fun x hx => ?_).mono fun ys e => ?_
  · obtain ⟨i, _, rfl⟩ := List.mem_map.mp hx
    refine (prod_inner (m := m) (a := a) hk hn hb (i := i)).mono fun ys e => e.trans (List.map_congr_left fun j _ => ?_)
    refine congrArg List.sum (List.map_congr_left fun l hl => ?_)
    simp [List.mem_range.mp hl]
  · rw [e]
    unfold rmat
    rw [List.map_map]
    refine List.map_congr_left fun i _ => List.map_congr_left fun j _ => ?_
    refine congrArg List.sum (List.map_congr_left fun l hl => ?_)
    simp [List.mem_range.mp hl]
def one : Mx := fun i j => if j = i then 1 else 0
theorem unit_ok {n : Nat} (hn : n ≤ 16777216) : Ok (m_unit_rows (n : Int)) (· = mat n one) := by
  unfold m_unit_rows
  refine Ok.bndE (x := mat n one) ?_ Ok.eq
  refine Ok.bndE (Ok.rng1 hn) ?_
  refine (Ok.mapR0 (g := fun i => (List.range n).map (one i)) fun i hi => ?_)
  refine Ok.bndE (Ok.rng1 hn) ?_
  refine (Ok.mapR0 (g := one i) fun j hj => Ok.ret ?_)
  unfold one
  by_cases e : j = i
  · subst e
    simp
  · rw [if_neg e, if_neg (by simp; omega)]
theorem one_mul {k n : Nat} {b : Mx} {i j : Nat} (hi : i < k) : mulR k one b i j = b i j := by
  unfold mulR one
  have h : ∀ k, ((List.range k).map fun l => (if l = i then (1 : Int) else 0) * b l j).sum = if i < k then b i j else 0 := fun k => by
    induction k with
    | zero => simp
    | succ k ih =>
      rw [List.range_succ, List.map_append, List.sum_append, ih]
      simp only [List.map_cons, List.map_nil, List.sum_cons, List.sum_nil]
      by_cases e : k = i
      · subst e
        simp
      · rw [if_neg e]
        by_cases q : i < k
        · rw [if_pos q, if_pos (by omega)]
          simp
        · rw [if_neg q, if_neg (by omega)]
          simp
  rw [h, if_pos hi]
end K07

namespace K07
open PySem L2 Evl Mi
theorem sIx_nat {n j d : Nat} (h : j ≤ n) : HT.sIx n d (some (j : Int)) = j := by
  unfold HT.sIx
  simp
  rw [if_neg (by omega)]
  omega
theorem cut_head {f : Nat → Int} {n j : Nat} (h : j ≤ n) : cutL ((List.range n).map f) none (some (j : Int)) = (List.range j).map f := by
  unfold cutL
  rw [List.length_map, List.length_range, sIx_nat h]
  show List.take (j - 0) (List.drop 0 _) = _
  rw [Nat.sub_zero, List.drop_zero, ← List.map_take, List.take_range, Nat.min_eq_left h]
theorem cut_tail {α : Type} {f : Nat → α} {n j : Nat} (h : j ≤ n) : cutL ((List.range n).map f) (some (j : Int)) none = (List.range (n - j)).map fun l => f (j + l) := by
  unfold cutL
  rw [List.length_map, List.length_range, sIx_nat h]
  show List.take (n - j) (List.drop j _) = _
  refine List.ext_getElem (by simp) fun i h1 h2 => ?_
  simp
theorem drop_col {f : Nat → Int} {n j : Nat} (h : j ≤ n) : (List.range j).map f ++ ((List.range (n + 1 - (j + 1))).map fun l => f (j + 1 + l)) = (List.range n).map fun l => f (if l < j then l else l + 1) := by
  refine List.ext_getElem (by simp; omega) fun i h1 h2 => ?_
  rw [List.getElem_append]
  split
  · rename_i q
    have q : i < j := by simpa using q
    simp [q]
  · rename_i q
    have q : ¬ i < j := by simpa using q
    simp [q]
    exact congrArg f (by omega)
theorem det_ok : ∀ {f n : Nat} {a : Mx}, n < f → n ≤ 4 → Bo n n 64 a → Ok (m_law_det f (mat n a)) (· = prev n a)
  | f + 1, 0, a, _, _, _ => by
    unfold m_law_det
    exact Ok.ret rfl
  | f + 1, n + 1, a, hf, hn, hb => by
    unfold m_law_det
    show Ok (bnd (ret (PyData.eqv (.list (List.map (fun xs => .list (List.map .int xs)) _)) (.list (List.map (fun xs => .list (List.map .int xs)) [])))) _) _
    rw [eqv_nilL, bnd_ret]
    have he : (mat (n + 1) a).isEmpty = false := by
      cases e : mat (n + 1) a with
      | nil =>
        have := rmat_len (m := n + 1) (n := n + 1) (b := a)
        have e' : rmat (n + 1) (n + 1) a = [] := e
        rw [e'] at this
        cases this
      | cons => rfl
    rw [he, if_neg Bool.false_ne_true, bnd_ret, bnd_ret]
    have hl : (mat (n + 1) a).length = n + 1 := rmat_len (m := n + 1) (n := n + 1)
    rw [hl]
    refine Ok.bndE (Ok.rng1 (by omega)) ?_
    refine Ok.bnd (J := fun s : Int × Int => s.1 = prev (n + 1) a) (Ok.forW (fun k s => s = (lapS n a k, if k % 2 = 0 then 1 else -1)) rfl ?_ ?_) fun s hs => Ok.ret hs
    · intro k hk s hs
      subst hs
      rw [List.length_map, List.length_range] at hk
      have hx : ((List.range (n + 1)).map fun k : Nat => (k : Int))[k]'(by simpa using hk) = (k : Int) := by simp
      rw [hx]
      unfold m_law_det_l1
      show Ok (bnd (bnd (idx (mat (n + 1) a) ((0 : Nat) : Int)) _) _) _
      rw [idx_mat (by omega), bnd_ret, idx_range hk, bnd_ret, bnd_ret]
      have done : ∀ v : Int, v = lapS n a (k + 1) → Ok (bnd (ret (0 - (if k % 2 = 0 then 1 else -1 : Int))) fun sign_20 => ret ((v, sign_20))) (· = (lapS n a (k + 1), if (k + 1) % 2 = 0 then (1 : Int) else -1)) := fun v hv => by
        refine Ok.ret (Prod.ext hv ?_)
        show (0 : Int) - (if k % 2 = 0 then 1 else -1) = _
        (repeat' split) <;> omega
      by_cases z : a 0 k = 0
      · rw [if_neg (by simp [z])]
        refine done _ ?_
        show lapS n a k = lapS n a k + _ * a 0 k * _
        rw [z]
        simp
      · rw [if_pos (by simp [z])]
        refine Ok.bndE (x := lapS n a (k + 1)) ?_ (done _ rfl)
        rw [bnd_bnd]
        show Ok (bnd (idx (mat (n + 1) a) ((0 : Nat) : Int)) _) _
        rw [idx_mat (by omega), bnd_ret, idx_range hk, bnd_ret, bnd_bnd]
        have hs1 : (if k % 2 = 0 then 1 else -1 : Int).natAbs < 2 ^ 64 := by split <;> decide
        refine Ok.bndE (Ok.mulL hs1) ?_
        rw [bnd_bnd]
        have ec : cutL (mat (n + 1) a) (some ((1 : Nat) : Int)) none = (List.range n).map fun i => (List.range (n + 1)).map (a (1 + i)) := cut_tail (by omega)
        show Ok (bnd (mapW _ (cutL (mat (n + 1) a) (some ((1 : Nat) : Int)) none)) _) _
        rw [ec]
        refine Ok.bndE (x := mat n (minor k a)) ?_ ?_
        · refine (Ok.map (g := fun x : List Int => cutL x none (some (k : Int)) ++ cutL x (some ((k + 1 : Nat) : Int)) none) fun x hx => ?_).mono fun ys e => ?_
          · obtain ⟨i, _, rfl⟩ := List.mem_map.mp hx
            refine Ok.chk ?_ Ok.eq
            show (cutL _ none (some (k : Int))).length + (cutL _ (some ((k + 1 : Nat) : Int)) none).length ≤ sizeLine
            rw [cut_head (by omega), cut_tail (by omega)]
            simp
            exact Nat.le_trans (show k + (n - k) ≤ 4 by omega) (by decide)
          · rw [e, List.map_map]
            refine List.map_congr_left fun i _ => ?_
            show cutL _ none (some (k : Int)) ++ cutL _ (some ((k + 1 : Nat) : Int)) none = _
            rw [cut_head (by omega), cut_tail (by omega)]
            refine (drop_col (n := n) (by omega)).trans (List.map_congr_left fun l _ => ?_)
            unfold minor
            rw [Nat.add_comm 1 i]
        · rw [bnd_bnd]
          refine Ok.bndE (Ok.noX (det_ok (a := minor k a) (by omega) (by omega) fun i l hi hl => ?_)) ?_
          · unfold minor
            exact hb _ _ (by omega) (by split <;> omega)
          · rw [bnd_bnd]
            refine Ok.bndE (x := (if k % 2 = 0 then 1 else -1) * a 0 k * prev n (minor k a)) (Ok.mulL ?_) (Ok.ret rfl)
            have := hb 0 k (by omega) hk
            rw [Int.natAbs_mul]
            split <;> simpa using this
    · intro s hs
      rw [List.length_map, List.length_range] at hs
      rw [hs]
      exact lap_eq (by omega) a
/-! ### the rows drawn -/
theorem rows_ok {m n : Nat} {f : Int} (hm : m ≤ 4) (hn : n ≤ 4) (h0 : 0 ≤ f) (hf : f ≤ 1000000000000000) : Ok (m_law_rows (m : Int) (n : Int) f) fun w => ∃ b, w = rmat m n b ∧ Bo m n 60 b := by
  unfold m_law_rows
  rw [bnd_ret]
  refine Ok.bndE (Ok.rng1 (by omega)) ?_
  refine Ok.bnd (J := fun w : List (List Int) => w.length = m ∧ ∀ x ∈ w, x.length = n ∧ ∀ y ∈ x, y.natAbs ≤ 1000000000000000 * 2 ^ m) (Ok.forW (fun k w => w.length = k ∧ ∀ x ∈ w, x.length = n ∧ ∀ y ∈ x, y.natAbs ≤ 1000000000000000 * 2 ^ k) ⟨rfl, fun x h => nomatch h⟩ ?_ ?_) ?_
  · intro k hk w ⟨h1, h2⟩
    rw [List.length_map, List.length_range] at hk
    have hw : w.length < sizeLine := by rw [h1]; exact Nat.lt_of_lt_of_le hk (Nat.le_trans hm (by decide))
    have old : ∀ x ∈ w, x.length = n ∧ ∀ y ∈ x, y.natAbs ≤ 1000000000000000 * 2 ^ (k + 1) := fun x hx => ⟨(h2 x hx).1, fun y hy => by
      have := (h2 x hx).2 y hy
      rw [Nat.pow_succ]
      omega⟩
    have add : ∀ x : List Int, (x.length = n ∧ ∀ y ∈ x, y.natAbs ≤ 1000000000000000 * 2 ^ (k + 1)) → Ok (chk (w.length < sizeLine) (ret (w ++ [x]))) fun w' => w'.length = k + 1 ∧ ∀ x ∈ w', x.length = n ∧ ∀ y ∈ x, y.natAbs ≤ 1000000000000000 * 2 ^ (k + 1) := fun x hx => by
      refine Ok.chk hw (Ok.ret ⟨by rw [List.length_append, h1]; rfl, fun z hz => ?_⟩)
      rcases List.mem_append.mp hz with hz | hz
      · exact old z hz
      · rw [List.mem_singleton.mp hz]
        exact hx
    unfold m_law_rows_l1
    refine Ok.bnd (Ok.noX (Ok.draw (by decide) (by decide))) fun way _ => ?_
    refine Ok.bnd (J := fun b : Bool => b = true → w ≠ []) ?_ fun b hb => ?_
    · rw [bnd_ret]
      refine Ok.ite (fun _ => Ok.ret fun h => ?_) fun _ => Ok.ret fun h => absurd h Bool.false_ne_true
      intro e
      subst e
      exact absurd h (by decide)
    · show Ok (bnd _ fun s => ret s) _
      rw [ret_bnd]
      refine Ok.ite (fun q => ?_) fun _ => ?_
      · have hne := hb q
        refine Ok.bnd (J := fun by_ : Int => by_.natAbs ≤ 2) ?_ fun by_ hby => ?_
        · refine Ok.bnd (Ok.noX (Ok.draw (by decide) (by decide))) fun r ⟨r0, r1⟩ => Ok.ret ?_
          omega
        · have hl : 0 < w.length := List.length_pos_iff.mpr hne
          have ei : (w.length : Int) - 1 = ((w.length - 1 : Nat) : Int) := by omega
          rw [ei, idx_nat (List.getElem?_eq_getElem (show w.length - 1 < w.length by omega)), bnd_ret]
          have hx := h2 _ (List.getElem_mem (show w.length - 1 < w.length by omega))
          refine Ok.bndE (Ok.map (g := fun x => x * by_) fun x _ => Ok.mulR (by omega)) (add _ ⟨by rw [List.length_map]; exact hx.1, fun y hy => ?_⟩)
          obtain ⟨x, hx2, rfl⟩ := List.mem_map.mp hy
          have := hx.2 x hx2
          rw [Int.natAbs_mul, Nat.pow_succ]
          have := Nat.mul_le_mul this hby
          omega
      · refine Ok.bnd (J := fun x : List Int => x.length = n ∧ ∀ y ∈ x, y.natAbs ≤ 1000000000000000 * 2 ^ (k + 1)) ?_ fun x hx => add x hx
        refine Ok.bndE (Ok.rng1 (by omega)) ?_
        refine (Ok.mapP (I := fun y : Int => y.natAbs ≤ 1000000000000000 * 2 ^ (k + 1)) fun x _ => ?_).mono fun ys ⟨e1, e2⟩ => ⟨by rw [e1, List.length_map, List.length_range], e2⟩
        refine Ok.bndE (Ok.mulL (by decide)) ?_
        refine Ok.bnd (Ok.noX (Ok.draw (by omega) ?_)) fun r ⟨r0, r1⟩ => ?_
        · exact Nat.lt_of_lt_of_le (log2_lt (m := 64) (show _ < 2 ^ 64 by omega) (by decide)) (by decide)
        · refine Ok.noX (Ok.any (by simp) (by simp) fun y hy => ?_)
          have h1 : 1 ≤ 2 ^ (k + 1) := Nat.one_le_two_pow
          have : y.natAbs ≤ 1000000000000000 := by
            rcases List.mem_cons.mp hy with e | hy
            · subst e
              decide
            · rw [List.mem_singleton.mp hy]
              omega
          omega
  · intro w hw
    rw [List.length_map, List.length_range] at hw
    exact hw
  · intro w ⟨h1, h2⟩
    refine Ok.ret ⟨_, rmat_of h1 fun x hx => (h2 x hx).1, fun i j hi hj => ?_⟩
    have hi' : i < w.length := by omega
    have hg : w.getD i [] = w[i] := by simp [hi']
    have hx := h2 _ (List.getElem_mem hi')
    show ((w.getD i []).getD j 0).natAbs < _
    rw [hg]
    have hj' : j < w[i].length := by rw [hx.1]; exact hj
    have hg2 : w[i].getD j 0 = w[i][j] := by simp [hj']
    rw [hg2]
    refine Nat.lt_of_le_of_lt (hx.2 _ (List.getElem_mem hj')) ?_
    have : 2 ^ m ≤ 2 ^ 4 := Nat.pow_le_pow_right (by decide) hm
    omega
end K07

namespace K07
open PySem L2 Evl Mi
abbrev dM : List (List Int) → PyData := fun xs => PyData.list (xs.map (fun xs => PyData.list (xs.map .int)))
theorem abs3 {a b c d e f g h i : Int} {m : Nat} (ha : a.natAbs < 2 ^ m) (hb : b.natAbs < 2 ^ m) (hc : c.natAbs < 2 ^ m) (hd : d.natAbs < 2 ^ m) (he : e.natAbs < 2 ^ m) (hf : f.natAbs < 2 ^ m) (hg : g.natAbs < 2 ^ m) (hh : h.natAbs < 2 ^ m) (hi : i.natAbs < 2 ^ m) :
    (det3 a b c d e f g h i).natAbs < 2 ^ (m + (m + m + 1) + 2) := by
  have q : ∀ {x y z w v : Int}, v.natAbs < 2 ^ m → x.natAbs < 2 ^ m → y.natAbs < 2 ^ m → z.natAbs < 2 ^ m → w.natAbs < 2 ^ m → (v * (x * y - z * w)).natAbs < 2 ^ (m + (m + m + 1)) := fun hv hx hy hz hw => by
    rw [Int.natAbs_mul, Nat.pow_add]
    exact Nat.mul_lt_mul'' hv (mulsub_lt hx hy hz hw)
  have q1 := q ha he hi hf hh
  have q2 := q hb hd hi hf hg
  have q3 := q hc hd hh he hg
  unfold det3
  rw [Nat.pow_add _ _ 2]
  generalize 2 ^ (m + (m + m + 1)) = p at *
  omega
theorem prev_lt {n : Nat} (hn : n ≤ 4) {a : Mx} (h : Bo n n 60 a) : (prev n a).natAbs < 2 ^ 245 := by
  have q : n = 0 ∨ n = 1 ∨ n = 2 ∨ n = 3 ∨ n = 4 := by omega
  rcases q with rfl | rfl | rfl | rfl | rfl
  · exact (by decide : (1 : Int).natAbs < 2 ^ 245)
  · exact Nat.lt_trans (h 0 0 (by decide) (by decide)) (by decide)
  · exact Nat.lt_trans (mulsub_lt (h 1 1 (by decide) (by decide)) (h 0 0 (by decide) (by decide)) (h 1 0 (by decide) (by decide)) (h 0 1 (by decide) (by decide))) (by decide)
  · exact Nat.lt_trans (abs3 (h 0 0 (by decide) (by decide)) (h 0 1 (by decide) (by decide)) (h 0 2 (by decide) (by decide)) (h 1 0 (by decide) (by decide)) (h 1 1 (by decide) (by decide)) (h 1 2 (by decide) (by decide)) (h 2 0 (by decide) (by decide)) (h 2 1 (by decide) (by decide)) (h 2 2 (by decide) (by decide))) (by decide)
  · have m3 : ∀ j k l : Nat, j < 4 → k < 4 → l < 4 → ∀ v : Int, v.natAbs < 2 ^ 60 → (v * det3 (a 1 j) (a 1 k) (a 1 l) (a 2 j) (a 2 k) (a 2 l) (a 3 j) (a 3 k) (a 3 l)).natAbs < 2 ^ 243 := fun j k l hj hk hl v hv => by
      rw [Int.natAbs_mul, show 243 = 60 + 183 from rfl, Nat.pow_add]
      exact Nat.mul_lt_mul'' hv (abs3 (h 1 j (by decide) hj) (h 1 k (by decide) hk) (h 1 l (by decide) hl) (h 2 j (by decide) hj) (h 2 k (by decide) hk) (h 2 l (by decide) hl) (h 3 j (by decide) hj) (h 3 k (by decide) hk) (h 3 l (by decide) hl))
    have q0 := m3 1 2 3 (by decide) (by decide) (by decide) _ (h 0 0 (by decide) (by decide))
    have q1 := m3 0 2 3 (by decide) (by decide) (by decide) _ (h 0 1 (by decide) (by decide))
    have q2 := m3 0 1 3 (by decide) (by decide) (by decide) _ (h 0 2 (by decide) (by decide))
    have q3 := m3 0 1 2 (by decide) (by decide) (by decide) _ (h 0 3 (by decide) (by decide))
    simp only [prev, M]
    rw [show 245 = 243 + 2 from rfl, Nat.pow_add]
    generalize 2 ^ 243 = p at *
    omega
theorem Bo.mono {m n k l : Nat} {b : Mx} (h : Bo m n k b) (hk : k ≤ l) : Bo m n l b := fun i j hi hj => Nat.lt_of_lt_of_le (h i j hi hj) (Nat.pow_le_pow_right (by decide) hk)
theorem mulR_lt {m k n : Nat} {a b : Mx} (hk : k ≤ 4) (ha : Bo m k 60 a) (hb : Bo k n 60 b) : Bo m n 123 (mulR k a b) := fun i j hi hj => by
  refine Nat.lt_of_le_of_lt (sum_lt (k := 120) fun l hl => ?_) ?_
  · rw [Int.natAbs_mul, show 120 = 60 + 60 from rfl, Nat.pow_add]
    exact Nat.mul_lt_mul'' (ha i l hi hl) (hb l j hl hj)
  · refine Nat.lt_of_le_of_lt (Nat.mul_le_mul_right _ hk) (by decide)
theorem shwR {n c : Nat} {f : Nat → Int} (hn : n ≤ c) (h : ∀ j, j < n → (f j).natAbs < 2 ^ 1900) : Shw (.list (((List.range n).map f).map .int)) (c * 1923 + 2) := by
  refine Shw.list (m := 1921) (fun d hd => ?_) (by simpa using hn)
  obtain ⟨x, hx, rfl⟩ := List.mem_map.mp hd
  obtain ⟨j, hj, rfl⟩ := List.mem_map.mp hx
  exact Shw.int (Nat.lt_of_lt_of_le (h j (List.mem_range.mp hj)) (Nat.pow_le_pow_right (by decide) (by decide)))
theorem shwM {m n c : Nat} {b : Mx} (hm : m ≤ c) (hn : n ≤ c) (h : Bo m n 1900 b) : Shw (dM (rmat m n b)) (c * (c * 1923 + 2 + 2) + 2) := by
  refine Shw.list (m := c * 1923 + 2) (fun d hd => ?_) (by simpa [rmat_len] using hm)
  obtain ⟨x, hx, rfl⟩ := List.mem_map.mp hd
  obtain ⟨i, hi, rfl⟩ := List.mem_map.mp hx
  exact shwR hn fun j hj => h i j (List.mem_range.mp hi) hj
theorem shw2 {m n m' n' c : Nat} {a b : Mx} (hm : m ≤ c) (hn : n ≤ c) (hm' : m' ≤ c) (hn' : n' ≤ c) (h : Bo m n 1900 a) (h' : Bo m' n' 1900 b) : Shw (.list ([rmat m n a, rmat m' n' b].map dM)) (2 * (c * (c * 1923 + 2 + 2) + 2 + 2) + 2) := by
  refine Shw.list (m := c * (c * 1923 + 2 + 2) + 2) (fun d hd => ?_) (by simp)
  obtain ⟨x, hx, rfl⟩ := List.mem_map.mp hd
  rcases List.mem_cons.mp hx with e | hx
  · subst e
    exact shwM hm hn h
  · rw [List.mem_singleton.mp hx]
    exact shwM hm' hn' h'
theorem shwL {xs : List Int} {c : Nat} (hl : xs.length ≤ c) (h : ∀ x ∈ xs, x.natAbs < 2 ^ 1900) : Shw (.list (xs.map .int)) (c * 1923 + 2) := by
  refine Shw.list (m := 1921) (fun d hd => ?_) (by simpa using hl)
  obtain ⟨x, hx, rfl⟩ := List.mem_map.mp hd
  exact Shw.int (Nat.lt_of_lt_of_le (h x hx) (Nat.pow_le_pow_right (by decide) (by decide)))
theorem prev_one {n : Nat} (hn : n ≤ 4) : prev n one = 1 := by
  have q : n = 0 ∨ n = 1 ∨ n = 2 ∨ n = 3 ∨ n = 4 := by omega
  rcases q with rfl | rfl | rfl | rfl | rfl <;> decide
theorem one_lt {n : Nat} : Bo n n 2 one := fun i j _ _ => by
  unfold one
  split <;> decide
theorem unit_in {n : Nat} (hn : n ≤ 16777216) : Ok (mapW (fun (x2 : Int) => bnd (rng1 (n : Int)) fun l3 => mapW (fun (x4 : Int) => ret (if decide (x4 = x2) = true then (1 : Int) else 0)) l3) ((List.range n).map fun k : Nat => (k : Int))) (· = mat n one) := by
  refine (Ok.mapR0 (g := fun i => (List.range n).map (one i)) fun i hi => ?_)
  refine Ok.bndE (Ok.rng1 hn) ?_
  refine (Ok.mapR0 (g := one i) fun j hj => Ok.ret ?_)
  unfold one
  by_cases e : j = i
  · subst e
    simp
  · rw [if_neg e, if_neg (by simp; omega)]
theorem turn_ok (x : Int) : Ok (m_law_l1 () x) (· = .nx ()) := by
  unfold m_law_l1
  refine Ok.bnd (Ok.noX (Ok.draw (by decide) (by decide))) fun size ⟨s0, s1⟩ => ?_
  obtain ⟨s, rfl⟩ := Int.eq_ofNat_of_zero_le s0
  have hs : s ≤ 4 := by omega
  refine Ok.bnd (J := fun w : Int => ∃ n : Nat, w = (n : Int) ∧ n ≤ 4) ?_ fun w hw => ?_
  · refine Ok.bnd (Ok.noX (Ok.draw (by decide) (by decide))) fun r ⟨r0, r1⟩ => Ok.ret ?_
    obtain ⟨n, rfl⟩ := Int.eq_ofNat_of_zero_le r0
    exact ⟨1 + n, by omega, by omega⟩
  obtain ⟨n, rfl, hn⟩ := hw
  refine Ok.bnd (Ok.noX (rows_ok hs hs (by decide) (by decide))) fun one_z ⟨a, ea, ba⟩ => ?_
  subst ea
  refine Ok.bnd (J := fun w => ∃ b, w = rmat s s b ∧ Bo s s 60 b) ?_ fun other_z ⟨b, eb, bb⟩ => ?_
  · refine Ok.bnd (J := fun t : Int => t = 1000000000000000) (Ok.chk ⟨by decide, by decide, by decide⟩ (Ok.ret rfl)) fun t ht => ?_
    subst ht
    refine Ok.bnd (J := fun f : Int => 0 ≤ f ∧ f ≤ 1000000000000000) (Ok.noX (Ok.any (by decide) (by decide) fun y hy => ?_)) fun f ⟨f0, f1⟩ => Ok.noX (rows_ok hs hs f0 f1)
    rcases List.mem_cons.mp hy with e | hy
    · subst e
      decide
    · rw [List.mem_singleton.mp hy]
      decide
  subst eb
  have ba' : Bo s s 64 a := ba.mono (by decide)
  have bb' : Bo s s 64 b := bb.mono (by decide)
  have bab : Bo s s 123 (mulR s a b) := mulR_lt hs ba bb
  refine Ok.bndE (Ok.repr (shw2 hs hs hs hs (ba.mono (by decide)) (bb.mono (by decide))) (by decide)) ?_
  refine Ok.bndE (x := [prev s a, prev s b]) ?_ ?_
  · refine Ok.bndE (Ok.noX (det_ok (f := 6) (by omega) hs ba')) ?_
    refine Ok.bndE (Ok.noX (det_ok (f := 6) (by omega) hs bb')) Ok.eq
  refine Ok.bndE (x := [prev s a, prev s b, prev s a * prev s b, 1]) ?_ ?_
  · refine Ok.bndE (Ok.noX (det4_ok hs (ba.mono (by decide)))) ?_
    refine Ok.bndE (Ok.noX (det4_ok hs (bb.mono (by decide)))) ?_
    refine Ok.bndE (Ok.noX (product_ok (fun h => .inl h) (by omega) (by omega) bb')) ?_
    refine Ok.bndE (Ok.noX (det4_ok hs (bab.mono (by decide)))) ?_
    refine Ok.bndE (Ok.noX (unit_ok (by omega))) ?_
    refine Ok.bndE (Ok.noX (det4_ok hs (one_lt.mono (by decide)))) ?_
    refine Ok.ret ?_
    rw [prev_one hs]
    exact congrArg (fun z => [prev s a, prev s b, z, 1]) (det_mul hs a b)
  have la := prev_lt hs ba
  have lb := prev_lt hs bb
  refine Ok.bndE (x := false) ?_ ?_
  · rw [bnd_bnd]
    show Ok (bnd (ret (prev s a)) _) _
    rw [bnd_ret, bnd_bnd]
    show Ok (bnd (ret (prev s b)) _) _
    rw [bnd_ret, bnd_bnd]
    show Ok (bnd (ret (prev s a)) _) _
    rw [bnd_ret, bnd_bnd]
    show Ok (bnd (ret (prev s b)) _) _
    rw [bnd_ret, bnd_bnd]
    refine Ok.bndE (Ok.mul (m := 245) la lb (by decide)) ?_
    rw [bnd_bnd]
    refine Ok.bndE (Ok.noX (Ok.same (shwL (c := 4) (by simp) fun x hx => ?_) (by decide) rfl)) ?_
    · have lab : (prev s a * prev s b).natAbs < 2 ^ 490 := by
        rw [Int.natAbs_mul, show 490 = 245 + 245 from rfl, Nat.pow_add]
        exact Nat.mul_lt_mul'' la lb
      simp only [List.mem_cons, List.not_mem_nil, or_false] at hx
      rcases hx with rfl | rfl | rfl | rfl
      · exact Nat.lt_trans la (Nat.pow_lt_pow_right (by decide) (by decide))
      · exact Nat.lt_trans lb (Nat.pow_lt_pow_right (by decide) (by decide))
      · exact Nat.lt_trans lab (Nat.pow_lt_pow_right (by decide) (by decide))
      · exact Nat.one_lt_two_pow (by decide)
    rw [bnd_ret, if_neg (show ¬ (!true) = true by decide)]
    refine Ok.bndE (Ok.repr (shw2 hs hs hs hs (ba.mono (by decide)) (bb.mono (by decide))) (by decide)) (Ok.ret ?_)
    simp
  rw [if_neg Bool.false_ne_true]
  refine Ok.bnd (Ok.noX (rows_ok hs hn (by decide) (by decide))) fun more ⟨c, ec, bc⟩ => ?_
  subst ec
  have bc' : Bo s n 64 c := bc.mono (by decide)
  have bac : Bo s n 123 (mulR s a c) := mulR_lt hs ba bc
  have hpr : Ok (m_product (rmat s s a) (rmat s n c)) (· = rmat s n (mulR s a c)) := product_ok (fun h => .inl h) (by omega) (by omega) bc'
  refine Ok.bndE (x := rmat s n (mulR s a c)) ?_ ?_
  · by_cases q : s = 0
    · subst q
      exact Ok.noX (Ok.eq (x := ([] : List (List Int))))
    · refine Ok.bndE (x := (n : Int)) ?_ (Ok.noX (matrix_ok (by omega) (by omega) bc'))
      rw [bnd_ret, if_pos (by simp; omega)]
      exact Ok.eq
  refine Ok.bndE (x := false) ?_ ?_
  · rw [bnd_bnd]
    refine Ok.bndE (Ok.noX hpr) ?_
    rw [bnd_bnd]
    refine Ok.bndE (Ok.noX hpr) ?_
    rw [bnd_bnd]
    refine Ok.bndE (Ok.noX (Ok.same (shw2 hs hn hs hn (bac.mono (by decide)) (bac.mono (by decide))) (by decide) rfl)) ?_
    rw [bnd_ret, if_neg (show ¬ (!true) = true by decide)]
    refine Ok.bndE (Ok.noX (unit_ok (by omega))) ?_
    refine Ok.bndE (Ok.noX (product_ok (m := s) (k := s) (n := n) (a := one) (fun h => .inl h) (by omega) (by omega) bc')) ?_
    have e1 : rmat s n (mulR s one c) = rmat s n c := rmat_congr fun i j hi hj => one_mul (n := n) hi
    rw [e1]
    refine Ok.bndE (Ok.noX (Ok.same (shwM hs hn (bc.mono (by decide))) (by decide) rfl)) (Ok.ret rfl)
  rw [if_neg Bool.false_ne_true]
  exact Ok.eq
theorem law_ok (ns : List Int) : Ok (m_law ns) (· = true) := by
  unfold m_law
  refine Ok.bndE (Ok.rng1 (n := 4) (by decide)) ?_
  refine Ok.bnd (J := fun q => q = .nx ()) (Ok.forF (fun _ _ => True) (fun _ => False) trivial (fun k hk s _ => ?_) (fun _ _ => rfl) fun _ h => h.elim) fun q hq => ?_
  · refine (turn_ok _).mono fun r hr => ?_
    subst hr
    trivial
  subst hq
  rw [flEnd_nx]
  refine Ok.bndE (Ok.noX (unit_ok (n := 20) (by decide))) ?_
  refine Ok.bndE (x := mat 20 cyc) ?_ ?_
  · refine Ok.bndE (Ok.rng1 (n := 20) (by decide)) ?_
    refine (Ok.mapR0 (g := fun i => (List.range 20).map (cyc i)) fun i hi => ?_)
    refine Ok.bndE (Ok.rng1 (n := 20) (by decide)) ?_
    refine (Ok.mapR0 (g := cyc i) fun j hj => ?_)
    refine Ok.bndE (Ok.mod (by decide)) (Ok.ret ?_)
    unfold cyc
    have em : ((i : Int) + 1).fmod 20 = (((i + 1) % 20 : Nat) : Int) := by
      rw [Int.fmod_eq_emod_of_nonneg _ (by decide)]
      omega
    rw [em]
    by_cases e : j = (i + 1) % 20
    · rw [if_pos e, if_pos (by simp; omega)]
    · rw [if_neg e, if_neg (by simp; omega)]
  refine Ok.bndE (x := false) ?_ ?_
  · rw [bnd_bnd]
    refine Ok.bndE (Ok.rng1 (n := 20) (by decide)) ?_
    rw [bnd_bnd]
    refine Ok.bndE (unit_in (n := 20) (by decide)) ?_
    rw [bnd_bnd]
    refine Ok.bndE (Ok.noX (Ok.same (shwM (m := 20) (n := 20) (c := 20) (b := one) (by decide) (by decide) (one_lt.mono (by decide))) (by decide) rfl)) ?_
    rw [bnd_ret, if_neg (show ¬ (!true) = true by decide)]
    exact Ok.bndE (Ok.noX cyc_ok) (Ok.ret rfl)
  rw [if_neg Bool.false_ne_true]
  have d2 : ∀ p q r s : Int, p.natAbs < 2 ^ 200 → q.natAbs < 2 ^ 200 → r.natAbs < 2 ^ 200 → s.natAbs < 2 ^ 200 → Ok (m_determinant [[p, q], [r, s]]) (· = s * p - r * q) := fun p q r s hp hq hr hs => by
    refine det4_ok (n := 2) (a := fun i j => if i = 0 then if j = 0 then p else q else if j = 0 then r else s) (by decide) fun i j _ _ => ?_
    dsimp only
    (repeat' split) <;> assumption
  refine Ok.bndE (x := [dM [[], []], dM [], .int 1, .int (-1), .int 0]) ?_ ?_
  · refine Ok.bndE (Ok.noX (product_ok (m := 2) (k := 0) (n := 0) (a := one) (b := one) (fun _ => .inr rfl) (by decide) (by decide) fun i j h => nomatch h)) ?_
    refine Ok.bndE (x := []) (Ok.noX ?_) ?_
    · exact product_ok (m := 0) (k := 1) (n := 2) (a := one) (b := fun i j => (j : Int) + 1) (fun _ => .inl rfl) (by decide) (by decide) fun i j hi hj => by
        show ((j : Int) + 1).natAbs < 2 ^ 64
        omega
    refine Ok.bndE (Ok.noX (det4_ok (n := 0) (a := one) (by decide) fun i j h => nomatch h)) ?_
    refine Ok.bndE (Ok.noX (d2 0 1 1 0 (by decide) (by decide) (by decide) (by decide))) ?_
    refine Ok.bndE (Ok.noX (d2 0 0 0 5 (by decide) (by decide) (by decide) (by decide))) (Ok.ret rfl)
  refine Ok.bndE (x := true) (Ok.noX (Ok.same (m := 1000) ⟨by decide +kernel, by decide +kernel, by decide +kernel⟩ (by decide) rfl)) Ok.eq
theorem law_true (ns : List Int) : m_law ns (fun x => x = true) (fun _ => False) := (law_ok ns).run
end K07

namespace K07
open PySem L2 Evl Mi
abbrev spL (K : PySem.W.Frag) : Sp := spW (fun i : List Int × Unit => [sv (rScr K) i.1]) (fun _ => []) (fun i => m_law i.1) rBool
theorem all_mk {P : Program} {w : World} {K : PySem.W.Frag} {h : Heap} {mg : Str → Option Value} {fa f_unit_rows f_product f_determinant f_law_bag f_law_draw f_law_any f_law_same f_law_rows f_law_matrix f_law_det f_law : Addr} (X : K.In h) (G : h.Ns mainGlobals mg) (hfa : mg "law" = some (.ref fa))
    {od_unit_rows an_unit_rows od_product an_product od_determinant an_determinant od_law_bag an_law_bag od_law_draw an_law_draw od_law_any an_law_any od_law_same an_law_same od_law_rows an_law_rows od_law_matrix an_law_matrix od_law_det an_law_det od_law an_law : Option Addr} {sl_unit_rows sl_product sl_determinant sl_law_bag sl_law_draw sl_law_any sl_law_same sl_law_rows sl_law_matrix sl_law_det sl_law : Array (Option Value)} {oc_unit_rows kV_unit_rows dc_unit_rows pm_unit_rows cd_unit_rows ct_unit_rows oc_product kV_product dc_product pm_product cd_product ct_product oc_determinant kV_determinant dc_determinant pm_determinant cd_determinant ct_determinant oc_law_bag kV_law_bag dc_law_bag pm_law_bag cd_law_bag ct_law_bag oc_law_draw kV_law_draw dc_law_draw pm_law_draw cd_law_draw ct_law_draw oc_law_any kV_law_any dc_law_any pm_law_any cd_law_any ct_law_any oc_law_same kV_law_same dc_law_same pm_law_same cd_law_same ct_law_same oc_law_rows kV_law_rows dc_law_rows pm_law_rows cd_law_rows ct_law_rows oc_law_matrix kV_law_matrix dc_law_matrix pm_law_matrix cd_law_matrix ct_law_matrix oc_law_det kV_law_det dc_law_det pm_law_det cd_law_det ct_law_det oc_law kV_law dc_law pm_law cd_law ct_law : Value}
    (a_unit_rows : PySem.W.nsIn K mainGlobals "unit_rows" = some (some (.ref f_unit_rows))) (l_unit_rows : K.lookup f_unit_rows = some ⟨oc_unit_rows, od_unit_rows, .func (PySem.W.fnOf "unit_rows" "unit_rows" (defArgs s_unit_rows) (defBody s_unit_rows) (defScope s_unit_rows) .none kV_unit_rows dc_unit_rows pm_unit_rows an_unit_rows cd_unit_rows ct_unit_rows), sl_unit_rows⟩) (c_unit_rows : PySem.W.codeIn K cd_unit_rows "unit_rows" = true) (k_unit_rows : PySem.W.keepIn K (.ref f_unit_rows) = true)
    (a_product : PySem.W.nsIn K mainGlobals "product" = some (some (.ref f_product))) (l_product : K.lookup f_product = some ⟨oc_product, od_product, .func (PySem.W.fnOf "product" "product" (defArgs s_product) (defBody s_product) (defScope s_product) .none kV_product dc_product pm_product an_product cd_product ct_product), sl_product⟩) (c_product : PySem.W.codeIn K cd_product "product" = true) (k_product : PySem.W.keepIn K (.ref f_product) = true)
    (a_determinant : PySem.W.nsIn K mainGlobals "determinant" = some (some (.ref f_determinant))) (l_determinant : K.lookup f_determinant = some ⟨oc_determinant, od_determinant, .func (PySem.W.fnOf "determinant" "determinant" (defArgs s_determinant) (defBody s_determinant) (defScope s_determinant) .none kV_determinant dc_determinant pm_determinant an_determinant cd_determinant ct_determinant), sl_determinant⟩) (c_determinant : PySem.W.codeIn K cd_determinant "determinant" = true) (k_determinant : PySem.W.keepIn K (.ref f_determinant) = true)
    (a_law_bag : PySem.W.nsIn K mainGlobals "_law_bag" = some (some (.ref f_law_bag))) (l_law_bag : K.lookup f_law_bag = some ⟨oc_law_bag, od_law_bag, .func (PySem.W.fnOf "_law_bag" "_law_bag" (defArgs s_law_bag) (defBody s_law_bag) (defScope s_law_bag) .none kV_law_bag dc_law_bag pm_law_bag an_law_bag cd_law_bag ct_law_bag), sl_law_bag⟩) (c_law_bag : PySem.W.codeIn K cd_law_bag "_law_bag" = true) (k_law_bag : PySem.W.keepIn K (.ref f_law_bag) = true)
    (a_law_draw : PySem.W.nsIn K mainGlobals "_law_draw" = some (some (.ref f_law_draw))) (l_law_draw : K.lookup f_law_draw = some ⟨oc_law_draw, od_law_draw, .func (PySem.W.fnOf "_law_draw" "_law_draw" (defArgs s_law_draw) (defBody s_law_draw) (defScope s_law_draw) .none kV_law_draw dc_law_draw pm_law_draw an_law_draw cd_law_draw ct_law_draw), sl_law_draw⟩) (c_law_draw : PySem.W.codeIn K cd_law_draw "_law_draw" = true) (k_law_draw : PySem.W.keepIn K (.ref f_law_draw) = true)
    (a_law_any : PySem.W.nsIn K mainGlobals "_law_any" = some (some (.ref f_law_any))) (l_law_any : K.lookup f_law_any = some ⟨oc_law_any, od_law_any, .func (PySem.W.fnOf "_law_any" "_law_any" (defArgs s_law_any) (defBody s_law_any) (defScope s_law_any) .none kV_law_any dc_law_any pm_law_any an_law_any cd_law_any ct_law_any), sl_law_any⟩) (c_law_any : PySem.W.codeIn K cd_law_any "_law_any" = true) (k_law_any : PySem.W.keepIn K (.ref f_law_any) = true)
    (a_law_same : PySem.W.nsIn K mainGlobals "_law_same" = some (some (.ref f_law_same))) (l_law_same : K.lookup f_law_same = some ⟨oc_law_same, od_law_same, .func (PySem.W.fnOf "_law_same" "_law_same" (defArgs s_law_same) (defBody s_law_same) (defScope s_law_same) .none kV_law_same dc_law_same pm_law_same an_law_same cd_law_same ct_law_same), sl_law_same⟩) (c_law_same : PySem.W.codeIn K cd_law_same "_law_same" = true) (k_law_same : PySem.W.keepIn K (.ref f_law_same) = true)
    (a_law_rows : PySem.W.nsIn K mainGlobals "_law_rows" = some (some (.ref f_law_rows))) (l_law_rows : K.lookup f_law_rows = some ⟨oc_law_rows, od_law_rows, .func (PySem.W.fnOf "_law_rows" "_law_rows" (defArgs s_law_rows) (defBody s_law_rows) (defScope s_law_rows) .none kV_law_rows dc_law_rows pm_law_rows an_law_rows cd_law_rows ct_law_rows), sl_law_rows⟩) (c_law_rows : PySem.W.codeIn K cd_law_rows "_law_rows" = true) (k_law_rows : PySem.W.keepIn K (.ref f_law_rows) = true)
    (a_law_matrix : PySem.W.nsIn K mainGlobals "_law_matrix" = some (some (.ref f_law_matrix))) (l_law_matrix : K.lookup f_law_matrix = some ⟨oc_law_matrix, od_law_matrix, .func (PySem.W.fnOf "_law_matrix" "_law_matrix" (defArgs s_law_matrix) (defBody s_law_matrix) (defScope s_law_matrix) .none kV_law_matrix dc_law_matrix pm_law_matrix an_law_matrix cd_law_matrix ct_law_matrix), sl_law_matrix⟩) (c_law_matrix : PySem.W.codeIn K cd_law_matrix "_law_matrix" = true) (k_law_matrix : PySem.W.keepIn K (.ref f_law_matrix) = true)
    (a_law_det : PySem.W.nsIn K mainGlobals "_law_det" = some (some (.ref f_law_det))) (l_law_det : K.lookup f_law_det = some ⟨oc_law_det, od_law_det, .func (PySem.W.fnOf "_law_det" "_law_det" (defArgs s_law_det) (defBody s_law_det) (defScope s_law_det) .none kV_law_det dc_law_det pm_law_det an_law_det cd_law_det ct_law_det), sl_law_det⟩) (c_law_det : PySem.W.codeIn K cd_law_det "_law_det" = true) (k_law_det : PySem.W.keepIn K (.ref f_law_det) = true)
    (a_law : PySem.W.nsIn K mainGlobals "law" = some (some (.ref f_law))) (l_law : K.lookup f_law = some ⟨oc_law, od_law, .func (PySem.W.fnOf "law" "law" (defArgs s_law) (defBody s_law) (defScope s_law) .none kV_law dc_law pm_law an_law cd_law ct_law), sl_law⟩) (c_law : PySem.W.codeIn K cd_law "law" = true) (k_law : PySem.W.keepIn K (.ref f_law) = true)
    (z_int : PySem.W.nsIn K mainGlobals "int" = some none)
    (z_len : PySem.W.nsIn K mainGlobals "len" = some none)
    (z_list : PySem.W.nsIn K mainGlobals "list" = some none)
    (z_range : PySem.W.nsIn K mainGlobals "range" = some none)
    (z_repr : PySem.W.nsIn K mainGlobals "repr" = some none)
    (z_sum : PySem.W.nsIn K mainGlobals "sum" = some none)
    : ∃ fd : FuncData, (∀ (s : Shared) (u : Value), BindsTo s fd ⟨[u], []⟩ [("_law_script", u)]) ∧ ∀ base : Heap, K.In base → base.Ns mainGlobals mg → FnG P w K mg base CX0 8 fa fd ["_law_script"] (spL K) := by
  have e := hfa.symm.trans (PySem.W.mg_of X G a_law)
  cases e
  have F_unit_rows := fun_mk (st := s_unit_rows) l_unit_rows c_unit_rows k_unit_rows
  have F_product := fun_mk (st := s_product) l_product c_product k_product
  have F_determinant := fun_mk (st := s_determinant) l_determinant c_determinant k_determinant
  have F_law_bag := fun_mk (st := s_law_bag) l_law_bag c_law_bag k_law_bag
  have F_law_draw := fun_mk (st := s_law_draw) l_law_draw c_law_draw k_law_draw
  have F_law_any := fun_mk (st := s_law_any) l_law_any c_law_any k_law_any
  have F_law_same := fun_mk (st := s_law_same) l_law_same c_law_same k_law_same
  have F_law_rows := fun_mk (st := s_law_rows) l_law_rows c_law_rows k_law_rows
  have F_law_matrix := fun_mk (st := s_law_matrix) l_law_matrix c_law_matrix k_law_matrix
  have F_law_det := fun_mk (st := s_law_det) l_law_det c_law_det k_law_det
  have F_law := fun_mk (st := s_law) l_law c_law k_law
  have T : Txt K mg ⟨f_unit_rows, PySem.W.fnOf "unit_rows" "unit_rows" (defArgs s_unit_rows) (defBody s_unit_rows) (defScope s_unit_rows) .none kV_unit_rows dc_unit_rows pm_unit_rows an_unit_rows cd_unit_rows ct_unit_rows, f_product, PySem.W.fnOf "product" "product" (defArgs s_product) (defBody s_product) (defScope s_product) .none kV_product dc_product pm_product an_product cd_product ct_product, f_determinant, PySem.W.fnOf "determinant" "determinant" (defArgs s_determinant) (defBody s_determinant) (defScope s_determinant) .none kV_determinant dc_determinant pm_determinant an_determinant cd_determinant ct_determinant, f_law_bag, PySem.W.fnOf "_law_bag" "_law_bag" (defArgs s_law_bag) (defBody s_law_bag) (defScope s_law_bag) .none kV_law_bag dc_law_bag pm_law_bag an_law_bag cd_law_bag ct_law_bag, f_law_draw, PySem.W.fnOf "_law_draw" "_law_draw" (defArgs s_law_draw) (defBody s_law_draw) (defScope s_law_draw) .none kV_law_draw dc_law_draw pm_law_draw an_law_draw cd_law_draw ct_law_draw, f_law_any, PySem.W.fnOf "_law_any" "_law_any" (defArgs s_law_any) (defBody s_law_any) (defScope s_law_any) .none kV_law_any dc_law_any pm_law_any an_law_any cd_law_any ct_law_any, f_law_same, PySem.W.fnOf "_law_same" "_law_same" (defArgs s_law_same) (defBody s_law_same) (defScope s_law_same) .none kV_law_same dc_law_same pm_law_same an_law_same cd_law_same ct_law_same, f_law_rows, PySem.W.fnOf "_law_rows" "_law_rows" (defArgs s_law_rows) (defBody s_law_rows) (defScope s_law_rows) .none kV_law_rows dc_law_rows pm_law_rows an_law_rows cd_law_rows ct_law_rows, f_law_matrix, PySem.W.fnOf "_law_matrix" "_law_matrix" (defArgs s_law_matrix) (defBody s_law_matrix) (defScope s_law_matrix) .none kV_law_matrix dc_law_matrix pm_law_matrix an_law_matrix cd_law_matrix ct_law_matrix, f_law_det, PySem.W.fnOf "_law_det" "_law_det" (defArgs s_law_det) (defBody s_law_det) (defScope s_law_det) .none kV_law_det dc_law_det pm_law_det an_law_det cd_law_det ct_law_det, fa, PySem.W.fnOf "law" "law" (defArgs s_law) (defBody s_law) (defScope s_law) .none kV_law dc_law pm_law an_law cd_law ct_law⟩ := ⟨PySem.W.mg_none_of X G z_int, PySem.W.mg_none_of X G z_len, PySem.W.mg_none_of X G z_list, PySem.W.mg_none_of X G z_range, PySem.W.mg_none_of X G z_repr, PySem.W.mg_none_of X G z_sum, PySem.W.mg_of X G a_unit_rows, F_unit_rows, F_unit_rows.binds fun _ _ _ _ _ _ us hl => match us, hl with | [_], _ => rfl, PySem.W.mg_of X G a_product, F_product, F_product.binds fun _ _ _ _ _ _ us hl => match us, hl with | [_, _], _ => rfl, PySem.W.mg_of X G a_determinant, F_determinant, F_determinant.binds fun _ _ _ _ _ _ us hl => match us, hl with | [_], _ => rfl, PySem.W.mg_of X G a_law_bag, F_law_bag, F_law_bag.binds fun _ _ _ _ _ _ us hl => match us, hl with | [_], _ => rfl, PySem.W.mg_of X G a_law_draw, F_law_draw, F_law_draw.binds fun _ _ _ _ _ _ us hl => match us, hl with | [_, _], _ => rfl, PySem.W.mg_of X G a_law_any, F_law_any, F_law_any.binds fun _ _ _ _ _ _ us hl => match us, hl with | [_, _], _ => rfl, PySem.W.mg_of X G a_law_same, F_law_same, F_law_same.binds fun _ _ _ _ _ _ us hl => match us, hl with | [_, _], _ => rfl, PySem.W.mg_of X G a_law_rows, F_law_rows, F_law_rows.binds fun _ _ _ _ _ _ us hl => match us, hl with | [_, _, _, _], _ => rfl, PySem.W.mg_of X G a_law_matrix, F_law_matrix, F_law_matrix.binds fun _ _ _ _ _ _ us hl => match us, hl with | [_, _, _], _ => rfl, PySem.W.mg_of X G a_law_det, F_law_det, F_law_det.binds fun _ _ _ _ _ _ us hl => match us, hl with | [_], _ => rfl, PySem.W.mg_of X G a_law, F_law, F_law.binds fun _ _ _ _ _ _ us hl => match us, hl with | [_], _ => rfl, kwB_of F_determinant fun _ _ _ _ _ _ us hl => match us, hl with | [_], _ => rfl, kwB_of F_product fun _ _ _ _ _ _ us hl => match us, hl with | [_, _], _ => rfl⟩
  exact ⟨_, fun s u => .of_eq rfl, fun base _ _ => ok_law T⟩
theorem sp_law {K : PySem.W.Frag} {H : Hp} {a : Addr} {ns : List Int} (hl : ns.length ≤ 63) (hS : SqL K H a (ns.map V.int)) : spL K [.ref a] H (fun v _ => v = .bl true) fun _ _ _ => False :=
  ⟨(ns, ()), H, fun x => x = true, Ex.refl H, .cons ⟨_, rfl, a, rfl, hS, Nat.le_trans hl (by decide)⟩ .nil, (fun p hp => nomatch hp), List.nodup_nil, law_true ns, fun x hx v F' H' _ _ ok => by subst hx; exact ok⟩
end K07
open PySem PySem.W PyProof.Rows
set_option maxHeartbeats 0 in
theorem PySem.Challenge.cw_anydial_k07_products_and_determinants_holds : PySem.Challenge.rw_anydial_k07_products_and_determinants.Holds := by
  w_on; o_law; k_head; (case hw => w_witness2)
  k_fill
  refine Mi.walk_G (l := PySem.Challenge.rw_anydial_k07_products_and_determinants) (n := 63) (k := 8) (x := "_law_script") (sp := K07.spL) rfl (by decide) rfl ⟨rfl, by decide, by decide⟩ (fun w h Y => PySem.W.kIn_of Y) ?F (fun K H a ns hl _ hS => K07.sp_law hl hS)
  case F =>
    intro w mg fa h KX G hmg
    refine' K07.all_mk KX G hmg ?a_unit_rows ?l_unit_rows ?c_unit_rows ?k_unit_rows ?a_product ?l_product ?c_product ?k_product ?a_determinant ?l_determinant ?c_determinant ?k_determinant ?a_law_bag ?l_law_bag ?c_law_bag ?k_law_bag ?a_law_draw ?l_law_draw ?c_law_draw ?k_law_draw ?a_law_any ?l_law_any ?c_law_any ?k_law_any ?a_law_same ?l_law_same ?c_law_same ?k_law_same ?a_law_rows ?l_law_rows ?c_law_rows ?k_law_rows ?a_law_matrix ?l_law_matrix ?c_law_matrix ?k_law_matrix ?a_law_det ?l_law_det ?c_law_det ?k_law_det ?a_law ?l_law ?c_law ?k_law ?z_int ?z_len ?z_list ?z_range ?z_repr ?z_sum
    (case a_unit_rows => k_is)
    (case l_unit_rows => k_is)
    (case c_unit_rows => k_is)
    (case k_unit_rows => k_is)
    (case a_product => k_is)
    (case l_product => k_is)
    (case c_product => k_is)
    (case k_product => k_is)
    (case a_determinant => k_is)
    (case l_determinant => k_is)
    (case c_determinant => k_is)
    (case k_determinant => k_is)
    (case a_law_bag => k_is)
    (case l_law_bag => k_is)
    (case c_law_bag => k_is)
    (case k_law_bag => k_is)
    (case a_law_draw => k_is)
    (case l_law_draw => k_is)
    (case c_law_draw => k_is)
    (case k_law_draw => k_is)
    (case a_law_any => k_is)
    (case l_law_any => k_is)
    (case c_law_any => k_is)
    (case k_law_any => k_is)
    (case a_law_same => k_is)
    (case l_law_same => k_is)
    (case c_law_same => k_is)
    (case k_law_same => k_is)
    (case a_law_rows => k_is)
    (case l_law_rows => k_is)
    (case c_law_rows => k_is)
    (case k_law_rows => k_is)
    (case a_law_matrix => k_is)
    (case l_law_matrix => k_is)
    (case c_law_matrix => k_is)
    (case k_law_matrix => k_is)
    (case a_law_det => k_is)
    (case l_law_det => k_is)
    (case c_law_det => k_is)
    (case k_law_det => k_is)
    (case a_law => k_is)
    (case l_law => k_is)
    (case c_law => k_is)
    (case k_law => k_is)
    (case z_int => k_is)
    (case z_len => k_is)
    (case z_list => k_is)
    (case z_range => k_is)
    (case z_repr => k_is)
    (case z_sum => k_is)

