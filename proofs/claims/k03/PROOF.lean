import PyProof.Rows.All
import Wide.All
import OpenK.AllK
import Wide.FinOn
import HandS.ForMost
import HandS.Evl
import HandS.Wide
import HandS.Style
import HandS.Star
import HandS.Property
import HandS.SlotsOwn
import HandS.IsInst
import HandS.FStr
import HandS.Codes
import KE.GoesEnum
import KE.KOpsOwn
import HandS.Text
import PyProof.StrLawsRepr
import HandS.Exc
import HandS.ExcInit
import HandS.Nested
import KE.KExcSuper
import HandS.Lambda
import HandS.ExcValue
import HandS.WordsExc
import KE.KTryMore
import HandS.ExcField
import HandS.HotCalls
import HandS.EndOwn
import HandS.Small
import HandS.Records
import HandS.More
import PyProof.Rows.Range3
import PyProof.InstNe
import PyProof.TwoTypes
import HandS.Dict
import HandS.WordsDict
import HandS.Iter
import HandS.DictComp
import HandS.ClsMeth
import HandS.MakeKw
import PyProof.ExcFactsAll.LookupError
import PyProof.ExcFactsAll.IndexError
import PyProof.Rows.StrMeet
import PySem.Challenge.RW_anydial_k03_forms_told
set_option Elab.async false
set_option linter.all false
set_option maxRecDepth 100000
set_option maxHeartbeats 4000000
set_option exponentiation.threshold 2000
/-! Mi: a program's mirror as a predicate transformer (W), and the rules that tie it to the text -/
namespace Mi
open PySem L2 Evl

/-! ### the mirror's monad -/
structure Er where
  cls : String
  vals : List PyData
def W (α : Type) : Type := (α → Prop) → (Er → Prop) → Prop
def ret {α : Type} (x : α) : W α := fun P _ => P x
def bnd {α β : Type} (m : W α) (f : α → W β) : W β := fun P E => m (fun x => f x P E) E
def fail {α : Type} : W α := fun _ _ => False
def thr {α : Type} (e : Er) : W α := fun _ E => E e
/-- go on only if c holds -/
def chk (c : Prop) {α : Type} (w : W α) : W α := fun P E => c ∧ w P E
/-- what is raised is not wanted -/
def noX {α : Type} (m : W α) : W α := fun P _ => m P fun _ => False
@[simp] theorem noX_ret {α : Type} (x : α) : noX (ret x) = ret x := rfl
@[simp] theorem noX_chk {α : Type} (c : Prop) (m : W α) : noX (chk c m) = chk c (noX m) := rfl
@[simp] theorem noX_noX {α : Type} (m : W α) : noX (noX m) = noX m := rfl
@[simp] theorem noX_bnd {α β : Type} (m : W α) (f : α → W β) : noX (bnd m f) = bnd (noX m) fun x => noX (f x) := rfl
@[simp] theorem noX_fail {α : Type} : noX (fail : W α) = fail := rfl
@[simp] theorem bnd_ret {α β : Type} (x : α) (f : α → W β) : bnd (ret x) f = f x := rfl
@[simp] theorem ret_bnd {α : Type} (m : W α) : bnd m ret = m := rfl
@[simp] theorem bnd_bnd {α β γ : Type} (m : W α) (f : α → W β) (g : β → W γ) : bnd (bnd m f) g = bnd m fun x => bnd (f x) g := rfl
@[simp] theorem bnd_fail {α β : Type} (f : α → W β) : bnd (fail : W α) f = fail := rfl
@[simp] theorem bnd_thr {α β : Type} (e : Er) (f : α → W β) : bnd (thr e : W α) f = thr e := rfl
theorem chk_true {c : Prop} {α : Type} {w : W α} (h : c) : chk c w = w := by
  funext P E
  exact propext ⟨fun q => q.2, fun q => ⟨h, q⟩⟩
@[simp] theorem chk_bnd {c : Prop} {α β : Type} (w : W α) (f : α → W β) : bnd (chk c w) f = chk c (bnd w f) := rfl
@[simp] theorem ite_bnd {c : Prop} [Decidable c] {α β : Type} (w1 w2 : W α) (f : α → W β) : bnd (if c then w1 else w2) f = if c then bnd w1 f else bnd w2 f := by
  by_cases h : c
  · rw [if_pos h, if_pos h]
  · rw [if_neg h, if_neg h]
def mapW {α β : Type} (f : α → W β) : List α → W (List β)
  | [] => ret []
  | x :: xs => bnd (f x) fun y => bnd (mapW f xs) fun ys => ret (y :: ys)
def filtW {α β : Type} (c : α → W Bool) (f : α → W β) : List α → W (List β)
  | [] => ret []
  | x :: xs => bnd (c x) fun b => if b = true then bnd (f x) fun y => bnd (filtW c f xs) fun ys => ret (y :: ys) else filtW c f xs
/-- a loop that is never left early -/
def forW {α S : Type} (f : S → α → W S) : S → List α → W S
  | s, [] => ret s
  | s, x :: xs => bnd (f s x) fun s' => forW f s' xs
/-- how a block ends -/
inductive Fl (S ρ : Type) where
  | nx (s : S) | rt (x : ρ) | bk (s : S) | ct (s : S)
/-- behind a turn -/
def flGo {S ρ : Type} (k : S → W (Fl S ρ)) : Fl S ρ → W (Fl S ρ)
  | .nx s => k s
  | .ct s => k s
  | .bk s => ret (.nx s)
  | .rt z => ret (.rt z)
/-- a loop that may be left: by return (.rt), by break or at its end (.nx) -/
def forF {α S ρ : Type} (f : S → α → W (Fl S ρ)) : S → List α → W (Fl S ρ)
  | s, [] => ret (.nx s)
  | s, x :: xs => bnd (f s x) (flGo fun s' => forF f s' xs)
theorem mapW_ret {α β : Type} {f : α → W β} {g : α → β} : ∀ {xs : List α}, (∀ x, x ∈ xs → f x = ret (g x)) → mapW f xs = ret (xs.map g)
  | [], _ => rfl
  | x :: xs, h => by
    show bnd (f x) _ = _
    rw [h x (List.mem_cons_self ..), bnd_ret, mapW_ret (xs := xs) fun y hy => h y (List.mem_cons_of_mem _ hy)]
    rfl

/-! ### what stands for what -/
structure Rp (α : Type) where
  ok : Hp → V → α → Prop
  mono : ∀ {F F' : Hp} {v : V} {x : α}, Ex F F' → ok F v x → ok F' v x
def rInt : Rp Int := ⟨fun _ v x => v = .int x, fun _ h => h⟩
def rBool : Rp Bool := ⟨fun _ v x => v = .bl x, fun _ h => h⟩
def rStr : Rp Str := ⟨fun _ v x => v = .str x ∧ x.length ≤ sizeLine ∧ PyData.strOk x = true, fun _ h => h⟩
def rNon : Rp Unit := ⟨fun _ v _ => v = .non, fun _ h => h⟩
def rAdr (a : Addr) : Rp Unit := ⟨fun _ v _ => v = .ref a, fun _ h => h⟩
theorem Paired.imp {α β : Type} {R S : α → β → Prop} : ∀ {l : List α} {m : List β}, (∀ a b, R a b → S a b) → Paired R l m → Paired S l m
  | _, _, _, .nil => .nil
  | _, _, f, .cons r t => .cons (f _ _ r) (Paired.imp f t)
def rLst {α : Type} (r : Rp α) : Rp (List α) :=
  ⟨fun F v xs => ∃ a vs, v = .ref a ∧ F a = some (.lst vs) ∧ vs.length ≤ sizeLine ∧ Paired (r.ok F) vs xs, fun e ⟨a, vs, h1, h2, h3, h4⟩ => ⟨a, vs, h1, e _ _ h2, h3, Paired.imp (fun _ _ => r.mono e) h4⟩⟩
/-- a tuple of things of one kind -/
def rTup (K : PySem.W.Frag) {α : Type} (r : Rp α) : Rp (List α) :=
  ⟨fun F v xs => ∃ a vs, v = .ref a ∧ SqT K F a vs ∧ vs.length ≤ sizeLine ∧ Paired (r.ok F) vs xs, fun e ⟨a, vs, h1, h2, h3, h4⟩ => ⟨a, vs, h1, ex_t e h2, h3, Paired.imp (fun _ _ => r.mono e) h4⟩⟩
/-- a pair, a triple as a tuple -/
def rT2 (K : PySem.W.Frag) {α β : Type} (r : Rp α) (s : Rp β) : Rp (α × β) :=
  ⟨fun F v x => ∃ a v1 v2, v = .ref a ∧ SqT K F a [v1, v2] ∧ r.ok F v1 x.1 ∧ s.ok F v2 x.2, fun e ⟨a, v1, v2, h1, h2, h3, h4⟩ => ⟨a, v1, v2, h1, ex_t e h2, r.mono e h3, s.mono e h4⟩⟩
def rT3 (K : PySem.W.Frag) {α β γ : Type} (r : Rp α) (s : Rp β) (t : Rp γ) : Rp (α × β × γ) :=
  ⟨fun F v x => ∃ a v1 v2 v3, v = .ref a ∧ SqT K F a [v1, v2, v3] ∧ r.ok F v1 x.1 ∧ s.ok F v2 x.2.1 ∧ t.ok F v3 x.2.2, fun e ⟨a, v1, v2, v3, h1, h2, h3, h4, h5⟩ => ⟨a, v1, v2, v3, h1, ex_t e h2, r.mono e h3, s.mono e h4, t.mono e h5⟩⟩
def rOpt {α : Type} (r : Rp α) : Rp (Option α) :=
  ⟨fun F v x => match x with | none => v = .non | some y => v ≠ .non ∧ r.ok F v y, fun {F F' v x} e h => by
    cases x with
    | none => exact h
    | some y => exact ⟨h.1, r.mono e h.2⟩⟩
/-- data of any kind -/
def rD (K : PySem.W.Frag) : Rp PyData := ⟨fun F v d => Dp K F v d ∧ d.canLay0 = true ∧ d.depth ≤ 30, fun e ⟨h, hc⟩ => ⟨by
  refine (show ∀ {v d}, Dp K _ v d → Dp K _ v d from ?_) h
  intro v d h
  refine Dp.rec (K := K) (H := _) (motive_1 := fun v d _ => Dp K _ v d) (motive_2 := fun vs ds _ => DpAll K _ vs ds) .non .bl .int .str (fun h1 _ ih => .lst (ex_l e h1) ih) (fun h1 _ ih => .tup (ex_t e h1) ih) .nil (fun _ _ i1 i2 => .cons i1 i2) h, hc⟩⟩
end Mi

namespace Mi
open PySem L2 Evl

/-! ### the state: slots, owned objects -/
structure Slot where
  ok : Hp → Option V → Prop
  mono : ∀ {F F' : Hp} {v : Option V}, Ex F F' → ok F v → ok F' v
def sv {α : Type} (r : Rp α) (x : α) : Slot := ⟨fun F ov => ∃ v, ov = some v ∧ r.ok F v x, fun e ⟨v, h1, h2⟩ => ⟨v, h1, r.mono e h2⟩⟩
/-- anything, or nothing -/
def sa : Slot := ⟨fun _ _ => True, fun _ _ => trivial⟩
structure Own where
  ok : Hp → HO → Prop
  mono : ∀ {F F' : Hp} {o : HO}, Ex F F' → ok F o → ok F' o
def oLst {α : Type} (r : Rp α) (xs : List α) : Own := ⟨fun F o => ∃ vs, o = .lst vs ∧ vs.length ≤ sizeLine ∧ Paired (r.ok F) vs xs, fun e ⟨vs, h1, h2, h3⟩ => ⟨vs, h1, h2, Paired.imp (fun _ _ => r.mono e) h3⟩⟩
/-- the base: the heap at the def's entry (F: what never changes of it), the objects handed in to be changed, what is allowed of errors -/
structure Bs where
  F : Hp
  H : Hp
  M : Hp
  io : List Addr
  E0 : Er → Prop
/-- a mark within a body: what a loop's source leans on -/
abbrev Bs.at (B : Bs) (M : Hp) : Bs := { B with M := M }
structure Fn (B : Bs) (F H : Hp) : Prop where
  fh : Ex F H
  bf : Ex B.F F
  mrk : Ex B.M F
  bb : Ex B.F B.H
  ios : ∀ a ∈ B.io, ∃ o, H a = some o
  keep : ∀ a o, B.F a = none → B.H a = some o → a ∉ B.io → H a = some o ∧ F a = none
abbrev Env := List Slot
abbrev Os := List (Addr × Own)
def EnvOk (F : Hp) (env : Env) (σ : L2.St) : Prop := Paired (fun (s : Slot) (ov : Option V) => s.ok F ov) env σ
structure Sit (B : Bs) (F H : Hp) (σ : L2.St) (env : Env) (os : Os) : Prop where
  fin : Fn B F H
  env : EnvOk F env σ
  ow : ∀ p ∈ os, F p.1 = none ∧ (∃ o, H p.1 = some o ∧ p.2.ok F o) ∧ (B.H p.1 = none ∨ p.1 ∈ B.io)
  nd : (os.map (·.1)).Nodup
theorem EnvOk.mono {F F' : Hp} {env : Env} {σ : L2.St} (e : Ex F F') (h : EnvOk F env σ) : EnvOk F' env σ := Paired.imp (fun s _ => s.mono e) h
theorem EnvOk.get {F : Hp} : ∀ {env : Env} {σ : L2.St} {i : Nat} {s : Slot}, EnvOk F env σ → env[i]? = some s → ∃ ov, σ[i]? = some ov ∧ s.ok F ov
  | _, _, i, s, .nil, h => by simp at h
  | _, _, 0, s, .cons r t, h => by
    simp at h
    subst h
    exact ⟨_, rfl, r⟩
  | _, _, i + 1, s, .cons r t, h => by
    obtain ⟨ov, h1, h2⟩ := EnvOk.get (i := i) t (by simpa using h)
    exact ⟨ov, by simpa using h1, h2⟩
theorem EnvOk.set {F : Hp} {s : Slot} {ov : Option V} (r : s.ok F ov) : ∀ {env : Env} {σ : L2.St} {i : Nat}, EnvOk F env σ → EnvOk F (env.set i s) (σ.set i ov)
  | _, _, _, .nil => .nil
  | _, _, 0, .cons _ t => .cons r t
  | _, _, i + 1, .cons q t => .cons q (EnvOk.set r (i := i) t)
theorem EnvOk.len {F : Hp} {env : Env} {σ : L2.St} (h : EnvOk F env σ) : env.length = σ.length := Paired.length h

/-! ### new objects that will never change -/
structure Grow (F H F' H' : Hp) : Prop where
  f : Ex F F'
  h : Ex H H'
  new : ∀ a, H a = none → F' a = H' a
  old : ∀ a o, H a = some o → F' a = F a
theorem Grow.refl {F H : Hp} (fh : Ex F H) : Grow F H F H := by
  refine ⟨Ex.refl F, Ex.refl H, fun a h => ?_, fun _ _ _ => rfl⟩
  rw [h]
  exact fresh_back fh h
theorem Grow.trans {F H F1 H1 F2 H2 : Hp} (a : Grow F H F1 H1) (b : Grow F1 H1 F2 H2) : Grow F H F2 H2 := by
  refine ⟨a.f.trans b.f, a.h.trans b.h, fun p hp => ?_, fun p o hp => ?_⟩
  · cases e : H1 p with
    | none => exact b.new p e
    | some o =>
      have e2 : F1 p = some o := (a.new p hp).trans e
      rw [b.f p o e2, b.h p o e]
  · rw [b.old p o (a.h p o hp), a.old p o hp]
theorem Grow.fh {F H F' H' : Hp} (g : Grow F H F' H') (fh : Ex F H) : Ex F' H' := fun a o h => by
  cases e : H a with
  | none => exact (g.new a e).symm.trans h
  | some u =>
    have z := (g.old a u e).symm.trans h
    exact g.h a o (fh a o z)
theorem upd_apply {H : Hp} {a b : Addr} {o : HO} : upd H a o b = if b = a then some o else H b := rfl
theorem Grow.alloc {F H : Hp} {p : Addr} {o : HO} (fh : Ex F H) (hp : H p = none) : Grow F H (upd F p o) (upd H p o) := by
  have fp : F p = none := fresh_back fh hp
  refine ⟨Ex.new fp, Ex.new hp, fun a ha => ?_, fun a u ha => ?_⟩
  · by_cases e : a = p
    · rw [e, upd_same, upd_same]
    · rw [upd_ne e, upd_ne e, ha]
      exact fresh_back fh ha
  · have e : a ≠ p := ne_of_none ha hp
    rw [upd_ne e]
section
variable {B : Bs} {F H F' H' : Hp} {σ : L2.St} {env : Env} {os : Os}
theorem Fn.grow (s : Fn B F H) (g : Grow F H F' H') : Fn B F' H' :=
  ⟨g.fh s.fh, s.bf.trans g.f, s.mrk.trans g.f, s.bb, fun a ha => let ⟨o, h⟩ := s.ios a ha; ⟨o, g.h a o h⟩, fun a o h1 h2 h3 => by
    obtain ⟨k1, k2⟩ := s.keep a o h1 h2 h3
    exact ⟨g.h a o k1, (g.old a o k1).trans k2⟩⟩
theorem Sit.grow (s : Sit B F H σ env os) (g : Grow F H F' H') : Sit B F' H' σ env os :=
  ⟨s.fin.grow g, s.env.mono g.f, fun p hp => by
    obtain ⟨h1, ⟨o, h2, h3⟩, h4⟩ := s.ow p hp
    exact ⟨(g.old _ o h2).trans h1, ⟨o, g.h _ _ h2, p.2.mono g.f h3⟩, h4⟩, s.nd⟩
theorem Sit.fh (s : Sit B F H σ env os) : Ex F H := s.fin.fh
theorem Sit.store {i : Nat} {sl : Slot} {v : V} (s : Sit B F H σ env os) (r : sl.ok F (some v)) : Sit B F H (σ.set i (some v)) (env.set i sl) os := ⟨s.fin, s.env.set r, s.ow, s.nd⟩
end

/-! ### the judgement of an expression -/
def tOf (B : Bs) (env : Env) (os : Os) {α : Type} (r : Rp α) (w : W α) : TE := fun σ H Q => ∃ F P, Sit B F H σ env os ∧ w P B.E0 ∧ ∀ x, P x → ∀ v F' H', Sit B F' H' σ env os → Ex F F' → r.ok F' v x → Q v H'
def EE (X : Cx) (B : Bs) (env : Env) (os : Os) (e : Expr) {α : Type} (r : Rp α) (w : W α) : Prop := PE X e (tOf B env os r w)
theorem PE.imp {X : Cx} {e : Expr} {t t' : TE} (h : PE X e t) (i : ∀ σ H Q, t' σ H Q → t σ H Q) : PE X e t' := ⟨fun pins s σ H Q I q => h.run pins s σ H Q I (i _ _ _ q)⟩
theorem PE.ex {X : Cx} {e : Expr} {ι : Type} {t : ι → TE} (h : ∀ i, PE X e (t i)) : PE X e (fun σ H Q => ∃ i, t i σ H Q) := ⟨fun pins s σ H Q I ⟨i, q⟩ => (h i).run pins s σ H Q I q⟩
section
variable {X : Cx} {B : Bs} {env : Env} {os : Os} {pos : Pos} {α β γ : Type} {r : Rp α} {s : Rp β} {t : Rp γ} {e a b : Expr}
theorem e_conv {w w' : W α} (h : EE X B env os e r w) (q : w' = w) : EE X B env os e r w' := q ▸ h
theorem e_name (i : Nat) {x : Str} {y : α} (he : env[i]? = some (sv r y) := by rfl) (hN : X.N[i]? = some x := by rfl) (hv : Vis X.env.scope x := by first | exact Or.inl rfl | exact Or.inr (Or.inl rfl) | exact Or.inr (Or.inr rfl))
    (hd : (x == ("__debug__" : Str)) = false := by decide) (hcd : (x == ("__classdict__" : Str)) = false := by decide) : EE X B env os (.Name x pos) r (ret y) :=
  PE.imp (pe_var hN hv hd hcd) fun σ H Q ⟨F, P, S, hw, k⟩ => by
    obtain ⟨ov, h1, v, h2, h3⟩ := S.env.get he
    subst h2
    exact ⟨v, h1, k y hw v F H S (Ex.refl F) h3⟩
theorem tc_of {v : V} {y : α} (h : ∀ F, r.ok F v y) {σ : L2.St} {H : Hp} {Q : VK} (q : tOf B env os r (ret y) σ H Q) : tC v σ H Q := by
  obtain ⟨F, P, S, hw, k⟩ := q
  exact k y hw v F H S (Ex.refl F) (h F)
theorem e_int {i : Int} {j} : EE X B env os (.Constant (.int i) j pos) rInt (ret i) := PE.imp pe_int fun _ _ _ q => tc_of (r := rInt) (fun _ => rfl) q
theorem e_bl {b : Bool} {j} : EE X B env os (.Constant (.bool b) j pos) rBool (ret b) := PE.imp pe_bl fun _ _ _ q => tc_of (r := rBool) (fun _ => rfl) q
theorem e_non {j} : EE X B env os (.Constant .none j pos) rNon (ret ()) := PE.imp pe_non fun _ _ _ q => tc_of (r := rNon) (fun _ => rfl) q
theorem e_str {x : Str} {j} (h : x.length ≤ sizeLine := by decide +kernel) (h2 : PyData.strOk x = true := by decide +kernel) : EE X B env os (.Constant (.str x) j pos) rStr (ret x) := PE.imp pe_str fun _ _ _ q => tc_of (r := rStr) (fun _ => ⟨rfl, h, h2⟩) q
/-- a name of the module -/
theorem e_glob {x : Str} {v : V} {u : Value} {y : α} (hg : Gl X x) (hm : X.mg x = some u) (rv : RelV v u) (h : ∀ F, r.ok F v y) (hd : (x == ("__debug__" : Str)) = false := by decide) : EE X B env os (.Name x pos) r (ret y) :=
  PE.imp (pe_glob hg hm rv hd) fun _ _ _ q => tc_of (r := r) h q

/-- what a two-place operation on values is worth -/
def R2T (q : R2) (r : Rp α) (s : Rp β) (t : Rp γ) (f : α → β → W γ) : Prop := ∀ (F H : Hp) (v u : V) (x : α) (y : β) (P : γ → Prop) (E : Er → Prop) (Q : VK), Ex F H → r.ok F v x → s.ok F u y → f x y P E →
  (∀ z, P z → ∀ v' F' H', Grow F H F' H' → t.ok F' v' z → Q v' H') → q v u H Q
theorem two {q : R2} {f : α → β → W γ} {w1 : W α} {w2 : α → W β} (sem : R2T q r s t f) {σ : L2.St} {H : Hp} {Q : VK}
    (h : tOf B env os t (bnd w1 fun x => bnd (w2 x) fun y => f x y) σ H Q) : tOp q (tOf B env os r w1) (fun σ H Q => ∃ x, tOf B env os s (w2 x) σ H Q) σ H Q := by
  obtain ⟨F, P, S, hw, k⟩ := h
  refine ⟨F, _, S, hw, fun x hx v F1 H1 S1 e1 ok1 => ⟨x, F1, _, S1, hx, fun y hy u F2 H2 S2 e2 ok2 => ?_⟩⟩
  exact sem F2 H2 v u x y P B.E0 Q S2.fh (r.mono e2 ok1) ok2 hy fun z hz v' F3 H3 g ok3 => k z hz v' F3 H3 (S2.grow g) ((e1.trans e2).trans g.f) ok3
theorem e_op {op : Operator} {q : R2} {f : α → β → W γ} {w1 : W α} {w2 : α → W β} (ho : OpR X (binaryOp op) q) (sem : R2T q r s t f) (ha : EE X B env os a r w1) (hb : ∀ x, EE X B env os b s (w2 x)) :
    EE X B env os (.BinOp a op b pos) t (bnd w1 fun x => bnd (w2 x) fun y => f x y) := PE.imp (pe_op ho ha (PE.ex hb)) fun _ _ _ h => two sem h
theorem e_cmp {op : CmpOp} {q : R2} {f : α → β → W γ} {w1 : W α} {w2 : α → W β} (ho : OpR X (compareOp op) q) (sem : R2T q r s t f) (hm : behindInMarks op b = false) (ha : EE X B env os a r w1) (hb : ∀ x, EE X B env os b s (w2 x)) :
    EE X B env os (.Compare a [op] [b] pos) t (bnd w1 fun x => bnd (w2 x) fun y => f x y) := PE.imp (pe_cmpR ho ha (PE.ex hb) hm) fun _ _ _ h => two sem h
theorem e_ix {q : R2} {f : α → β → W γ} {w1 : W α} {w2 : α → W β} (hr : IxR X q) (sem : R2T q r s t f) (hs : PlainIx b) (ha : EE X B env os a r w1) (hb : ∀ x, EE X B env os b s (w2 x)) :
    EE X B env os (.Subscript a b pos) t (bnd w1 fun x => bnd (w2 x) fun y => f x y) := PE.imp (pe_ix hr ha (PE.ex hb) hs) fun _ _ _ h => two sem h
def R1T (q : V → Hp → VK → Prop) (r : Rp α) (t : Rp γ) (f : α → W γ) : Prop := ∀ (F H : Hp) (v : V) (x : α) (P : γ → Prop) (E : Er → Prop) (Q : VK), Ex F H → r.ok F v x → f x P E → (∀ z, P z → ∀ v' F' H', Grow F H F' H' → t.ok F' v' z → Q v' H') → q v H Q
theorem e_un {op : UnaryOp} {q : V → Hp → VK → Prop} {f : α → W γ} {w1 : W α} (ho : UnR X (unaryOp op) q) (sem : R1T q r t f) (ha : EE X B env os a r w1) : EE X B env os (.UnaryOp op a pos) t (bnd w1 f) :=
  PE.imp (pe_un ho ha) fun σ H Q ⟨F, P, S, hw, k⟩ => ⟨F, _, S, hw, fun x hx v F1 H1 S1 e1 ok1 => sem F1 H1 v x P B.E0 Q S1.fh ok1 hx fun z hz v' F3 H3 g ok3 => k z hz v' F3 H3 (S1.grow g) (e1.trans g.f) ok3⟩
end

/-! ### ints -/
section
variable {X : Cx} {B : Bs} {env : Env} {os : Os} {pos : Pos} {a b : Expr} {w1 : W Int} {w2 : Int → W Int}
theorem r2i {γ : Type} {t : Rp γ} {g : Int → Int → V} {f : Int → Int → γ} (h : ∀ F i j, t.ok F (g i j) (f i j)) : R2T (rI0 g) rInt rInt t fun i j => ret (f i j) := fun F H v u x y P E Q fh e1 e2 hw k =>
  ⟨x, y, e1, e2, k _ hw _ F H (Grow.refl fh) (h F x y)⟩
theorem r2c {γ : Type} {t : Rp γ} {C : Int → Int → Prop} {g : Int → Int → V} {f : Int → Int → γ} (h : ∀ F i j, t.ok F (g i j) (f i j)) : R2T (rI C g) rInt rInt t fun i j => chk (C i j) (ret (f i j)) := fun F H v u x y P E Q fh e1 e2 ⟨hc, hw⟩ k =>
  ⟨x, y, e1, e2, hc, k _ hw _ F H (Grow.refl fh) (h F x y)⟩
theorem e_add (ha : EE X B env os a rInt w1) (hb : ∀ x, EE X B env os b rInt (w2 x)) : EE X B env os (.BinOp a .Add b pos) rInt (bnd w1 fun x => bnd (w2 x) fun y => ret (x + y)) := e_op op_add (r2i fun _ _ _ => rfl) ha hb
theorem e_sub (ha : EE X B env os a rInt w1) (hb : ∀ x, EE X B env os b rInt (w2 x)) : EE X B env os (.BinOp a .Sub b pos) rInt (bnd w1 fun x => bnd (w2 x) fun y => ret (x - y)) := e_op op_sub (r2i fun _ _ _ => rfl) ha hb
/-- of any size, together below a million bits -/
theorem op_mulG : OpR X (binaryOp .Mult) (rI IntMulOk fun i j => .int (i * j)) := opI fun _ _ _ _ _ _ _ hc q => PyProof.Rows.mul_int q hc
def mulI (x y : Int) : W Int := chk (IntMulOk x y) (ret (x * y))
theorem e_mul (ha : EE X B env os a rInt w1) (hb : ∀ x, EE X B env os b rInt (w2 x)) : EE X B env os (.BinOp a .Mult b pos) rInt (bnd w1 fun x => bnd (w2 x) fun y => mulI x y) := e_op op_mulG (r2c fun _ _ _ => rfl) ha hb
def CDivG (_ j : Int) : Prop := j ≠ 0 ∧ j.natAbs.log2 < 9000
theorem op_fdivG : OpR X (binaryOp .FloorDiv) (rI CDivG fun i j => .int (i.fdiv j)) := opI fun i j _ _ _ _ _ hc q => PyProof.Rows.floordiv_int hc.1 q (.inl (PyProof.noPylong_of_log2 hc.2))
def divI (x y : Int) : W Int := chk (CDivG x y) (ret (x.fdiv y))
theorem e_div (ha : EE X B env os a rInt w1) (hb : ∀ x, EE X B env os b rInt (w2 x)) : EE X B env os (.BinOp a .FloorDiv b pos) rInt (bnd w1 fun x => bnd (w2 x) fun y => divI x y) := e_op op_fdivG (r2c fun _ _ _ => rfl) ha hb
def modI (x y : Int) : W Int := chk (y ≠ 0) (ret (x.fmod y))
theorem e_mod (ha : EE X B env os a rInt w1) (hb : ∀ x, EE X B env os b rInt (w2 x)) : EE X B env os (.BinOp a .Mod b pos) rInt (bnd w1 fun x => bnd (w2 x) fun y => modI x y) := e_op op_modN (r2c fun _ _ _ => rfl) ha hb
def powI (x y : Int) : W Int := chk (CPow x y) (ret (x ^ y.toNat))
theorem e_pow (ha : EE X B env os a rInt w1) (hb : ∀ x, EE X B env os b rInt (w2 x)) : EE X B env os (.BinOp a .Pow b pos) rInt (bnd w1 fun x => bnd (w2 x) fun y => powI x y) := e_op op_pow (r2c fun _ _ _ => rfl) ha hb
theorem e_neg (ha : EE X B env os a rInt w1) : EE X B env os (.UnaryOp .USub a pos) rInt (bnd w1 fun x => ret (-x)) := e_un un_neg (fun F H v x P E Q fh e1 hw k => ⟨x, e1, k _ hw _ F H (Grow.refl fh) rfl⟩) ha
theorem e_lt (ha : EE X B env os a rInt w1) (hb : ∀ x, EE X B env os b rInt (w2 x)) : EE X B env os (.Compare a [.Lt] [b] pos) rBool (bnd w1 fun x => bnd (w2 x) fun y => ret (decide (x < y))) := e_cmp op_lt (r2i fun _ _ _ => rfl) (nomark _) ha hb
theorem e_le (ha : EE X B env os a rInt w1) (hb : ∀ x, EE X B env os b rInt (w2 x)) : EE X B env os (.Compare a [.LtE] [b] pos) rBool (bnd w1 fun x => bnd (w2 x) fun y => ret (decide (x ≤ y))) := e_cmp op_le (r2i fun _ _ _ => rfl) (nomark _) ha hb
theorem e_gt (ha : EE X B env os a rInt w1) (hb : ∀ x, EE X B env os b rInt (w2 x)) : EE X B env os (.Compare a [.Gt] [b] pos) rBool (bnd w1 fun x => bnd (w2 x) fun y => ret (decide (y < x))) := e_cmp op_gt (r2i fun _ _ _ => rfl) (nomark _) ha hb
theorem e_ge (ha : EE X B env os a rInt w1) (hb : ∀ x, EE X B env os b rInt (w2 x)) : EE X B env os (.Compare a [.GtE] [b] pos) rBool (bnd w1 fun x => bnd (w2 x) fun y => ret (decide (y ≤ x))) := e_cmp op_ge (r2i fun _ _ _ => rfl) (nomark _) ha hb
end
end Mi

namespace Mi
open PySem L2 Evl

/-! ### tests -/
def tOfT (B : Bs) (env : Env) (os : Os) (w : W Bool) : TT := fun σ H Q => ∃ F P, Sit B F H σ env os ∧ w P B.E0 ∧ ∀ b, P b → ∀ F' H', Sit B F' H' σ env os → Ex F F' → Q b H'
def ET (X : Cx) (B : Bs) (env : Env) (os : Os) (e : Expr) (w : W Bool) : Prop := PT X e (tOfT B env os w)
def EW (X : Cx) (B : Bs) (env : Env) (os : Os) (e : Expr) (w : W Bool) : Prop := PW X e (tOfT B env os w)
theorem PT.imp {X : Cx} {e : Expr} {t t' : TT} (h : PT X e t) (i : ∀ σ H Q, t' σ H Q → t σ H Q) : PT X e t' := ⟨fun pins s σ H Q I q => h.run pins s σ H Q I (i _ _ _ q)⟩
theorem PW.imp {X : Cx} {e : Expr} {t t' : TT} (h : PW X e t) (i : ∀ σ H Q, t' σ H Q → t σ H Q) : PW X e t' := ⟨fun wh pins s σ H Q I q => h.run wh pins s σ H Q I (i _ _ _ q)⟩
section
variable {X : Cx} {B : Bs} {env : Env} {os : Os} {pos : Pos} {α β γ : Type} {r : Rp α} {s : Rp β} {t : Rp γ} {e a b c : Expr} {rest : List Expr} {w1 w2 w3 : W Bool}
theorem t_cmp {op : CmpOp} {q : R2} {f : α → β → W Bool} {w1 : W α} {w2 : α → W β} (ho : OpR X (compareOp op) q) (sem : R2T q r s rBool f) (hm : behindInMarks op b = false) (ha : EE X B env os a r w1) (hb : ∀ x, EE X B env os b s (w2 x)) :
    ET X B env os (.Compare a [op] [b] pos) (bnd w1 fun x => bnd (w2 x) fun y => f x y) := PT.imp (pt_cmpR ho ha (PE.ex hb) hm) fun σ H Q ⟨F, P, S, hw, k⟩ =>
  two (t := rBool) sem ⟨F, P, S, hw, fun z hz v F' H' S' e' ok => ⟨z, ok, k z hz F' H' S' e'⟩⟩
/-- the value is True or False -/
theorem t_val {w : W Bool} (h : EE X B env os e rBool w) (he : ∀ whole, isTrue e X.env whole = (do let v ← whole; standAt e.pos; holding [v] (truthy v)) := by intro _; rfl) : ET X B env os e w :=
  PT.imp (pt_val h he) fun σ H Q ⟨F, P, S, hw, k⟩ => ⟨F, P, S, hw, fun z hz v F' H' S' e' ok => ⟨z, ok, k z hz F' H' S' e'⟩⟩
theorem t_not {w : W Bool} (h : ET X B env os e w) : ET X B env os (.UnaryOp .Not e pos) (bnd w fun b => ret (!b)) := PT.imp (pt_not h) fun σ H Q ⟨F, P, S, hw, k⟩ => ⟨F, _, S, hw, fun b hb => k (!b) hb⟩
theorem t_pw {w : W Bool} (h : EW X B env os e w) : ET X B env os e w := PW.pt h
theorem w_and1 {w : W Bool} (h : ET X B env os a w) : EW X B env os (.BoolOp .And [a] pos) w := pw_and1 h
theorem w_or1 {w : W Bool} (h : ET X B env os a w) : EW X B env os (.BoolOp .Or [a] pos) w := pw_or1 h
theorem w_and (ha : ET X B env os a w1) (hb : EW X B env os (.BoolOp .And (b :: rest) pos) w2) : EW X B env os (.BoolOp .And (a :: b :: rest) pos) (bnd w1 fun x => if x = true then w2 else ret false) :=
  PW.imp (pw_and ha hb) fun σ H Q ⟨F, P, S, hw, k⟩ => ⟨F, _, S, hw, fun x hx F' H' S' e' => by
    cases x with
    | true => exact ⟨F', P, S', hx, fun y hy F2 H2 S2 e2 => k y hy F2 H2 S2 (e'.trans e2)⟩
    | false => exact k false hx F' H' S' e'⟩
theorem w_or (ha : ET X B env os a w1) (hb : EW X B env os (.BoolOp .Or (b :: rest) pos) w2) : EW X B env os (.BoolOp .Or (a :: b :: rest) pos) (bnd w1 fun x => if x = true then ret true else w2) :=
  PW.imp (pw_or ha hb) fun σ H Q ⟨F, P, S, hw, k⟩ => ⟨F, _, S, hw, fun x hx F' H' S' e' => by
    cases x with
    | true => exact k true hx F' H' S' e'
    | false => exact ⟨F', P, S', hx, fun y hy F2 H2 S2 e2 => k y hy F2 H2 S2 (e'.trans e2)⟩⟩
/-! as values -/
theorem e_not {w : W Bool} (h : EE X B env os e rBool w) : EE X B env os (.UnaryOp .Not e pos) rBool (bnd w fun b => ret (!b)) := PE.imp (pe_not h) fun σ H Q ⟨F, P, S, hw, k⟩ => ⟨F, _, S, hw, fun b hb v F' H' S' e' ok => ⟨b, ok, k (!b) hb _ F' H' S' e' rfl⟩⟩
theorem e_one {op : BoolOp} {w : W α} (h : EE X B env os a r w) : EE X B env os (.BoolOp op [a] pos) r w := pe_one h
theorem e_and (ha : EE X B env os a rBool w1) (hb : EE X B env os (.BoolOp .And (b :: rest) pos) rBool w2) : EE X B env os (.BoolOp .And (a :: b :: rest) pos) rBool (bnd w1 fun x => if x = true then w2 else ret false) :=
  PE.imp (pe_and ha hb) fun σ H Q ⟨F, P, S, hw, k⟩ => ⟨F, _, S, hw, fun x hx v F' H' S' e' ok => ⟨x, ok, by
    cases x with
    | true => exact ⟨F', P, S', hx, fun y hy v F2 H2 S2 e2 => k y hy v F2 H2 S2 (e'.trans e2)⟩
    | false => exact k false hx _ F' H' S' e' rfl⟩⟩
theorem e_or (ha : EE X B env os a rBool w1) (hb : EE X B env os (.BoolOp .Or (b :: rest) pos) rBool w2) : EE X B env os (.BoolOp .Or (a :: b :: rest) pos) rBool (bnd w1 fun x => if x = true then ret true else w2) :=
  PE.imp (pe_or ha hb) fun σ H Q ⟨F, P, S, hw, k⟩ => ⟨F, _, S, hw, fun x hx v F' H' S' e' ok => ⟨x, ok, by
    cases x with
    | true => exact k true hx _ F' H' S' e' rfl
    | false => exact ⟨F', P, S', hx, fun y hy v F2 H2 S2 e2 => k y hy v F2 H2 S2 (e'.trans e2)⟩⟩⟩
theorem e_if {wc : W Bool} {wa wb : W α} (hc : ET X B env os c wc) (ha : EE X B env os a r wa) (hb : EE X B env os b r wb) : EE X B env os (.IfExp c a b pos) r (bnd wc fun x => if x = true then wa else wb) :=
  PE.imp (pe_ifExp hc ha hb) fun σ H Q ⟨F, P, S, hw, k⟩ => ⟨F, _, S, hw, fun x hx F' H' S' e' => by
    cases x with
    | true => exact ⟨F', P, S', hx, fun y hy v F2 H2 S2 e2 => k y hy v F2 H2 S2 (e'.trans e2)⟩
    | false => exact ⟨F', P, S', hx, fun y hy v F2 H2 S2 e2 => k y hy v F2 H2 S2 (e'.trans e2)⟩⟩
end

/-! ### blocks -/
abbrev Post (β : Type) := Ends → β → Prop
def tBG (B : Bs) (env : Env) (os : Os) {β : Type} (post : Post β) (w : W β) : TS := fun D σ H => ∃ F P, Sit B F H σ env os ∧ w P B.E0 ∧ ∀ x, P x → post D x
def BG (X : Cx) (B : Bs) (env : Env) (os : Os) (blk : List Stmt) {β : Type} (post : Post β) (w : W β) : Prop := PSs X blk (tBG B env os post w)
theorem PSs.imp {X : Cx} {b : List Stmt} {t t' : TS} (h : PSs X b t) (i : ∀ D σ H, t' D σ H → t D σ H) : PSs X b t' := ⟨fun pins s σ H D I q => h.run pins s σ H D I (i _ _ _ q)⟩
theorem PSs.ex {X : Cx} {b : List Stmt} {ι : Type} {t : ι → TS} (h : ∀ i, PSs X b (t i)) : PSs X b (fun D σ H => ∃ i, t i D σ H) := ⟨fun pins s σ H D I ⟨i, q⟩ => (h i).run pins s σ H D I q⟩
/-- the objects handed in, behind the body -/
def OsOk (B : Bs) (F H : Hp) (os : Os) : Prop := ∀ p ∈ os, F p.1 = none ∧ (∃ o, H p.1 = some o ∧ p.2.ok F o) ∧ (B.H p.1 = none ∨ p.1 ∈ B.io)
def pRet (B : Bs) (osR : Os) {ρ : Type} (ro : Rp ρ) : Post ρ := fun D x => ∀ v F H, Fn B F H → OsOk B F H osR → ro.ok F v x → D.rt v H
def pNx (B : Bs) {S : Type} (envS : S → Env) (osS : S → Os) : Post S := fun D s => ∀ σ F H, Sit B F H σ (envS s) (osS s) → D.nx σ H
def pFl (B : Bs) (osR : Os) {ρ : Type} (ro : Rp ρ) {S : Type} (envS : S → Env) (osS : S → Os) : Post (Fl S ρ) := fun D r => match r with
  | .nx s => ∀ σ F H, Sit B F H σ (envS s) (osS s) → D.nx σ H
  | .rt x => ∀ v F H, Fn B F H → OsOk B F H osR → ro.ok F v x → D.rt v H
  | .bk s => ∀ σ F H, Sit B F H σ (envS s) (osS s) → D.bk σ H
  | .ct s => ∀ σ F H, Sit B F H σ (envS s) (osS s) → D.ct σ H
/-- a post that says nothing of what comes next -/
def pX {β : Type} (post : Post β) : Post β := fun D x => ∃ nx, post { D with nx := nx } x
structure RtOk (B : Bs) {β ρ : Type} (post : Post β) (osR : Os) (ro : Rp ρ) (inj : ρ → β) : Prop where
  ok : ∀ D x, post D (inj x) → ∀ v F H, Fn B F H → OsOk B F H osR → ro.ok F v x → D.rt v H
structure NxOk (B : Bs) {β : Type} (post : Post β) (env : Env) (os : Os) (x : β) : Prop where
  ok : ∀ D, post D x → ∀ σ F H, Sit B F H σ env os → D.nx σ H
section
variable {B : Bs} {osR : Os} {ρ S β : Type} {ro : Rp ρ} {envS : S → Env} {osS : S → Os} {post : Post β} {inj : ρ → β}
theorem RtOk.ret : RtOk B (pRet B osR ro) osR ro (fun x => x) := ⟨fun _ _ h => h⟩
theorem RtOk.fl : RtOk B (pFl B osR ro envS osS) osR ro .rt := ⟨fun _ _ h => h⟩
theorem RtOk.x (h : RtOk B post osR ro inj) : RtOk B (pX post) osR ro inj := ⟨fun D x ⟨nx, q⟩ => h.ok { D with nx := nx } x q⟩
/-- slots may be forgotten -/
def EnvLe : Env → Env → Prop
  | [], [] => True
  | a :: as, b :: bs => (b = a ∨ b = sa) ∧ EnvLe as bs
  | _, _ => False
theorem EnvLe.of {F : Hp} : ∀ {e e' : Env} {σ : L2.St}, EnvLe e e' → EnvOk F e σ → EnvOk F e' σ
  | [], [], _, _, h => h
  | _ :: _, _ :: _, _, ⟨h1, h2⟩, .cons r t => .cons (h1.elim (fun z => z ▸ r) fun z => z ▸ trivial) (EnvLe.of h2 t)
  | [], _ :: _, _, h, _ => h.elim
  | _ :: _, [], _, h, _ => h.elim
theorem EnvLe.refl : ∀ e : Env, EnvLe e e
  | [] => trivial
  | _ :: as => ⟨.inl rfl, EnvLe.refl as⟩
def OsLe (os os' : Os) : Prop := ∀ p ∈ os', p ∈ os
theorem OsLe.refl (os : Os) : OsLe os os := fun _ h => h
/-- what is handed back may say less -/
def OsW (os os' : Os) : Prop := ∀ p ∈ os', ∃ q ∈ os, q.1 = p.1 ∧ ∀ F o, q.2.ok F o → p.2.ok F o
theorem OsW.of {os os' : Os} (h : OsLe os os') : OsW os os' := fun p hp => ⟨p, h p hp, rfl, fun _ _ q => q⟩
theorem OsW.nil {os : Os} : OsW os [] := fun p hp => by cases hp
theorem OsW.refl {os : Os} : OsW os os := OsW.of (OsLe.refl os)
theorem OsW.one {a : Addr} {q p : Own} {os : Os} (h : ∀ F o, q.ok F o → p.ok F o) : OsW ((a, q) :: os) [(a, p)] := fun z hz => by
  rcases List.mem_cons.mp hz with e | e
  · subst e
    exact ⟨(a, q), List.mem_cons_self .., rfl, h⟩
  · cases e
theorem OsW.ok {F H : Hp} {σ : L2.St} {env : Env} {os os' : Os} (h : OsW os os') (s : Sit B F H σ env os) : OsOk B F H os' := fun p hp => by
  obtain ⟨q, hq, e, k⟩ := h p hp
  obtain ⟨h1, ⟨o, h2, h3⟩, h4⟩ := s.ow q hq
  rw [e] at h1 h2 h4
  exact ⟨h1, ⟨o, h2, k F o h3⟩, h4⟩
theorem Sit.le {F H : Hp} {σ : L2.St} {env env' : Env} {os : Os} (s : Sit B F H σ env os) (h : EnvLe env env') : Sit B F H σ env' os := ⟨s.fin, h.of s.env, s.ow, s.nd⟩
theorem Sit.one {F H : Hp} {σ : L2.St} {env : Env} {os : Os} {a : Addr} {q p : Own} (s : Sit B F H σ env ((a, q) :: os)) (h : ∀ F o, q.ok F o → p.ok F o) : Sit B F H σ env ((a, p) :: os) := ⟨s.fin, s.env, fun z hz => by
  rcases List.mem_cons.mp hz with e | e
  · subst e
    obtain ⟨h1, ⟨o, h2, h3⟩, h4⟩ := s.ow (a, q) (List.mem_cons_self ..)
    exact ⟨h1, ⟨o, h2, h F o h3⟩, h4⟩
  · exact s.ow z (List.mem_cons_of_mem _ e), s.nd⟩
theorem NxOk.one {env : Env} {s : S} {a : Addr} {q p : Own} {os : Os} (ho : osS s = (a, p) :: os) (h : EnvLe env (envS s)) (hq : ∀ F o, q.ok F o → p.ok F o) : NxOk B (pNx B envS osS) env ((a, q) :: os) s := ⟨fun D k σ F H z => k σ F H (by
  rw [ho]
  exact (z.le h).one hq)⟩
theorem NxOk.nx {env : Env} {s : S} (h : EnvLe env (envS s)) : NxOk B (pNx B envS osS) env (osS s) s := ⟨fun D q σ F H z => q σ F H (z.le h)⟩
theorem NxOk.fl {env : Env} {s : S} (h : EnvLe env (envS s)) : NxOk B (pFl B osR ro envS osS) env (osS s) (.nx s) := ⟨fun D q σ F H z => q σ F H (z.le h)⟩
end
section
variable {X : Cx} {B : Bs} {env : Env} {os : Os} {pos pos' : Pos} {α β ρ S : Type} {r : Rp α} {e c : Expr} {rest blkA blkB : List Stmt} {post : Post β}
theorem b_conv {blk : List Stmt} {w w' : W β} (h : BG X B env os blk post w) (q : w' = w) : BG X B env os blk post w' := q ▸ h
theorem b_ret {osR : Os} {ro : Rp ρ} {inj : ρ → β} {w : W ρ} (hp : RtOk B post osR ro inj) (ho : OsW os osR) (h : EE X B env os e ro w) : BG X B env os [.Return (some e) pos] post (bnd w fun x => ret (inj x)) :=
  PSs.imp (pss_one (ps_ret h)) fun D σ H ⟨F, P, Si, hw, k⟩ => ⟨F, _, Si, hw, fun x hx v F' H' S' _ ok => hp.ok D x (k _ hx) v F' H' S'.fin (ho.ok S') ok⟩
theorem b_end {x : β} (hp : NxOk B post env os x) : BG X B env os [] post (ret x) := PSs.imp pss_nil fun D σ H ⟨F, P, S, hw, k⟩ => hp.ok D (k x hw) σ F H S
/-- a code that is never reached -/
theorem b_never {blk : List Stmt} : BG X B env os blk post fail := PSs.imp pss_never fun _ _ _ ⟨_, _, _, hw, _⟩ => hw
theorem b_pass {w : W β} (h : BG X B env os rest post w) : BG X B env os (.Pass pos :: rest) post w := PSs.imp (pss_cons ps_pass h) fun _ _ _ q => q
/-- name = e -/
theorem b_set (i : Nat) {x : Str} {w1 : W α} {w2 : α → W β} (he : EE X B env os e r w1) (hr : ∀ y, BG X B (env.set i (sv r y)) os rest post (w2 y)) (hN : X.N.Nodup) (hi : X.N[i]? = some x := by rfl)
    (hx : Loc X.env.scope x := by first | exact Or.inl rfl | exact Or.inr rfl) (hs : swapsWith e (some (.Name x pos')) pos.line X.env = pure false := by rfl) (hf : X.fn x = true ∨ X.env.scope.names.lookup x = some .local := by first | exact .inl rfl | exact .inr rfl | assumption) :
    BG X B env os (.Assign [.Name x pos'] e pos :: rest) post (bnd w1 w2) :=
  PSs.imp (pss_cons (ps_set hN hi hx he hs hf) (PSs.ex hr)) fun D σ H ⟨F, P, S, hw, k⟩ => ⟨F, _, S, hw, fun y hy v F' H' S' _ ok => ⟨y, F', P, S'.store ⟨v, rfl, ok⟩, hy, k⟩⟩
/-- an expression alone -/
theorem b_expr {w1 : W α} {w2 : W β} (he : EE X B env os e r w1) (hr : BG X B env os rest post w2) (hs : swapsWith e none pos.line X.env = pure false := by rfl) : BG X B env os (.Expr e pos :: rest) post (bnd w1 fun _ => w2) :=
  PSs.imp (pss_cons (ps_expr he hs) hr) fun D σ H ⟨F, P, S, hw, k⟩ => ⟨F, _, S, hw, fun y hy v F' H' S' _ ok => ⟨F', P, S', hy, k⟩⟩
/-- if, one branch of which never comes to the rest -/
theorem b_ifA {wc : W Bool} {w1 w2 : W β} (hc : ET X B env os c wc) (hA : BG X B env os blkA (pX post) w1) (hr : BG X B env os rest post w2) : BG X B env os (.If c blkA [] pos :: rest) post (bnd wc fun b => if b = true then w1 else w2) :=
  PSs.imp (pss_cons (ps_if hc hA pss_nil) hr) fun D σ H ⟨F, P, S, hw, k⟩ => ⟨F, _, S, hw, fun b hb F' H' S' _ => by
    cases b with
    | true => exact ⟨F', P, S', hb, fun x hx => ⟨D.nx, k x hx⟩⟩
    | false => exact ⟨F', P, S', hb, k⟩⟩
/-- both branches end -/
theorem b_if2 {wc : W Bool} {w1 w2 : W β} (hc : ET X B env os c wc) (hA : BG X B env os blkA post w1) (hB : BG X B env os blkB post w2) : BG X B env os [.If c blkA blkB pos] post (bnd wc fun b => if b = true then w1 else w2) :=
  PSs.imp (pss_one (ps_if hc hA hB)) fun D σ H ⟨F, P, S, hw, k⟩ => ⟨F, _, S, hw, fun b hb F' H' S' _ => by
    cases b with
    | true => exact ⟨F', P, S', hb, k⟩
    | false => exact ⟨F', P, S', hb, k⟩⟩
/-- both branches go on -/
theorem b_ifJ {wc : W Bool} {w1 w2 : W S} {w3 : S → W β} (envS : S → Env) (osS : S → Os) (hc : ET X B env os c wc) (hA : BG X B env os blkA (pNx B envS osS) w1) (hB : BG X B env os blkB (pNx B envS osS) w2)
    (hr : ∀ s, BG X B (envS s) (osS s) rest post (w3 s)) : BG X B env os (.If c blkA blkB pos :: rest) post (bnd wc fun b => bnd (if b = true then w1 else w2) w3) :=
  PSs.imp (pss_cons (ps_if hc hA hB) (PSs.ex hr)) fun D σ H ⟨F, P, S, hw, k⟩ => ⟨F, _, S, hw, fun b hb F' H' S' _ => by
    cases b with
    | true => exact ⟨F', _, S', hb, fun s hs σ2 F2 H2 S2 => ⟨s, F2, P, S2, hs, k⟩⟩
    | false => exact ⟨F', _, S', hb, fun s hs σ2 F2 H2 S2 => ⟨s, F2, P, S2, hs, k⟩⟩⟩
/-- one branch ends, the other goes on -/
theorem b_ifAJ {wc : W Bool} {w1 : W β} {w2 : W S} {w3 : S → W β} (envS : S → Env) (osS : S → Os) (hc : ET X B env os c wc) (hA : BG X B env os blkA (pX post) w1) (hB : BG X B env os blkB (pNx B envS osS) w2)
    (hr : ∀ s, BG X B (envS s) (osS s) rest post (w3 s)) : BG X B env os (.If c blkA blkB pos :: rest) post (bnd wc fun b => if b = true then w1 else bnd w2 w3) :=
  PSs.imp (pss_cons (ps_if hc hA hB) (PSs.ex hr)) fun D σ H ⟨F, P, S, hw, k⟩ => ⟨F, _, S, hw, fun b hb F' H' S' _ => by
    cases b with
    | true => exact ⟨F', P, S', hb, fun x hx => ⟨D.nx, k x hx⟩⟩
    | false => exact ⟨F', _, S', hb, fun s hs σ2 F2 H2 S2 => ⟨s, F2, P, S2, hs, k⟩⟩⟩
theorem b_ifBJ {wc : W Bool} {w1 : W S} {w2 : W β} {w3 : S → W β} (envS : S → Env) (osS : S → Os) (hc : ET X B env os c wc) (hA : BG X B env os blkA (pNx B envS osS) w1) (hB : BG X B env os blkB (pX post) w2)
    (hr : ∀ s, BG X B (envS s) (osS s) rest post (w3 s)) : BG X B env os (.If c blkA blkB pos :: rest) post (bnd wc fun b => if b = true then bnd w1 w3 else w2) :=
  PSs.imp (pss_cons (ps_if hc hA hB) (PSs.ex hr)) fun D σ H ⟨F, P, S, hw, k⟩ => ⟨F, _, S, hw, fun b hb F' H' S' _ => by
    cases b with
    | true => exact ⟨F', _, S', hb, fun s hs σ2 F2 H2 S2 => ⟨s, F2, P, S2, hs, k⟩⟩
    | false => exact ⟨F', P, S', hb, fun x hx => ⟨D.nx, k x hx⟩⟩⟩
end
end Mi

namespace Mi
open PySem L2 Evl

theorem Paired.get {α β : Type} {R : α → β → Prop} : ∀ {l : List α} {m : List β} {i : Nat} {y : β}, Paired R l m → m[i]? = some y → ∃ x, l[i]? = some x ∧ R x y
  | _, _, i, y, .nil, h => by simp at h
  | _, _, 0, y, .cons r t, h => by
    simp at h
    subst h
    exact ⟨_, rfl, r⟩
  | _, _, i + 1, y, .cons r t, h => by
    obtain ⟨x, h1, h2⟩ := Paired.get (i := i) t (by simpa using h)
    exact ⟨x, by simpa using h1, h2⟩
theorem Paired.get' {α β : Type} {R : α → β → Prop} : ∀ {l : List α} {m : List β} {i : Nat} {x : α}, Paired R l m → l[i]? = some x → ∃ y, m[i]? = some y ∧ R x y
  | _, _, i, y, .nil, h => by simp at h
  | _, _, 0, y, .cons r t, h => by
    simp at h
    subst h
    exact ⟨_, rfl, r⟩
  | _, _, i + 1, y, .cons r t, h => by
    obtain ⟨x, h1, h2⟩ := Paired.get' (i := i) t (by simpa using h)
    exact ⟨x, by simpa using h1, h2⟩
theorem Paired.app {α β : Type} {R : α → β → Prop} : ∀ {l l' : List α} {m m' : List β}, Paired R l m → Paired R l' m' → Paired R (l ++ l') (m ++ m')
  | _, _, _, _, .nil, h => h
  | _, _, _, _, .cons r t, h => .cons r (Paired.app t h)
theorem Paired.setR {α β : Type} {R : α → β → Prop} {x : α} {y : β} (r : R x y) : ∀ {l : List α} {m : List β} {i : Nat}, Paired R l m → Paired R (l.set i x) (m.set i y)
  | _, _, _, .nil => .nil
  | _, _, 0, .cons _ t => .cons r t
  | _, _, i + 1, .cons q t => .cons q (Paired.setR r (i := i) t)
theorem Paired.takeR {α β : Type} {R : α → β → Prop} : ∀ {l : List α} {m : List β} (n : Nat), Paired R l m → Paired R (l.take n) (m.take n)
  | _, _, 0, _ => .nil
  | _, _, _ + 1, .nil => .nil
  | _, _, n + 1, .cons r t => .cons r (Paired.takeR n t)
theorem Paired.dropR {α β : Type} {R : α → β → Prop} : ∀ {l : List α} {m : List β} (n : Nat), Paired R l m → Paired R (l.drop n) (m.drop n)
  | _, _, 0, r => r
  | _, _, _ + 1, .nil => .nil
  | _, _, n + 1, .cons _ t => Paired.dropR n t
theorem Paired.mapL {α β γ : Type} {R : γ → β → Prop} {f : α → γ} : ∀ {l : List α} {m : List β}, Paired (fun a b => R (f a) b) l m → Paired R (l.map f) m
  | _, _, .nil => .nil
  | _, _, .cons r t => .cons r (Paired.mapL t)
/-- a list of values that stand for x's by a function -/
theorem Paired.eqMap {α : Type} {f : α → V} : ∀ {l : List V} {m : List α}, Paired (fun v x => v = f x) l m → l = m.map f
  | _, _, .nil => rfl
  | _, _, .cons r t => by
    subst r
    rw [List.map_cons, ← Paired.eqMap t]
theorem ints_map {F : Hp} {vs : List V} {xs : List Int} (h : Paired (rInt.ok F) vs xs) : vs = xs.map V.int := Paired.eqMap h
theorem bools_map {F : Hp} {vs : List V} {xs : List Bool} (h : Paired (rBool.ok F) vs xs) : vs = xs.map V.bl := Paired.eqMap h

/-! ### a new object, one's own -/
/-- what the heap does not know the base does not know either -/
theorem Fn.fresh {B : Bs} {F H : Hp} {p : Addr} (s : Fn B F H) (hp : H p = none) : B.H p = none := by
  cases e : B.H p with
  | none => rfl
  | some o =>
    cases ef : B.F p with
    | none =>
      by_cases hio : p ∈ B.io
      · obtain ⟨u, hu⟩ := s.ios p hio
        rw [hp] at hu
        cases hu
      · have := (s.keep p o ef e hio).1
        rw [hp] at this
        cases this
    | some u =>
      have := s.fh p u (s.bf p u ef)
      rw [hp] at this
      cases this
theorem Sit.newOwn {B : Bs} {F H : Hp} {σ : L2.St} {env : Env} {os : Os} {p : Addr} {o : HO} {ow : Own} (s : Sit B F H σ env os) (hp : H p = none) (hb : ow.ok F o) : Sit B F (upd H p o) σ env ((p, ow) :: os) := by
  have fp : F p = none := fresh_back s.fh hp
  refine ⟨⟨s.fh.trans (Ex.new hp), s.fin.bf, s.fin.mrk, s.fin.bb, fun a ha => let ⟨o, h⟩ := s.fin.ios a ha; ⟨o, Ex.new hp a o h⟩, fun a u h1 h2 h3 => ?_⟩, s.env, fun q hq => ?_, ?_⟩
  · obtain ⟨k1, k2⟩ := s.fin.keep a u h1 h2 h3
    exact ⟨Ex.new hp a u k1, k2⟩
  · rcases List.mem_cons.mp hq with e | hq
    · subst e
      exact ⟨fp, ⟨o, upd_same, hb⟩, .inl (s.fin.fresh hp)⟩
    · obtain ⟨h1, ⟨u, h2, h3⟩, h4⟩ := s.ow q hq
      exact ⟨h1, ⟨u, Ex.new hp _ _ h2, h3⟩, h4⟩
  · rw [List.map_cons]
    refine List.nodup_cons.mpr ⟨fun hm => ?_, s.nd⟩
    obtain ⟨q, hq, e⟩ := List.mem_map.mp hm
    obtain ⟨_, ⟨u, h2, _⟩, _⟩ := s.ow q hq
    have e' : q.1 = p := e
    rw [e', hp] at h2
    cases h2
/-- the first own object will never change again -/
theorem Sit.freeze {B : Bs} {F H : Hp} {σ : L2.St} {env : Env} {os : Os} {p : Addr} {ow : Own} (s : Sit B F H σ env ((p, ow) :: os)) :
    ∃ F' o, Ex F F' ∧ F' p = some o ∧ ow.ok F' o ∧ Sit B F' H σ env os := by
  obtain ⟨h1, ⟨o, h2, h3⟩, h4⟩ := s.ow (p, ow) (List.mem_cons_self ..)
  have h1 : F p = none := h1
  have h2 : H p = some o := h2
  have e : Ex F (upd F p o) := Ex.new h1
  have nd := s.nd
  rw [List.map_cons] at nd
  obtain ⟨nd1, nd2⟩ := List.nodup_cons.mp nd
  refine ⟨upd F p o, o, e, upd_same, ow.mono e h3, ⟨fun a u ha => ?_, s.fin.bf.trans e, s.fin.mrk.trans e, s.fin.bb, s.fin.ios, fun a u k1 k2 k3 => ?_⟩, s.env.mono e, fun q hq => ?_, nd2⟩
  · by_cases hap : a = p
    · rw [hap, upd_same] at ha
      rw [hap, h2]
      exact ha
    · rw [upd_ne hap] at ha
      exact s.fh a u ha
  · obtain ⟨z1, z2⟩ := s.fin.keep a u k1 k2 k3
    refine ⟨z1, ?_⟩
    have hap : a ≠ p := by
      rintro rfl
      rcases h4 with q | q
      · have q' : B.H a = none := q
        rw [k2] at q'
        cases q'
      · exact k3 q
    rw [upd_ne hap]
    exact z2
  · obtain ⟨z1, ⟨u, z2, z3⟩, z4⟩ := s.ow q (List.mem_cons_of_mem _ hq)
    have hap : q.1 ≠ p := fun z => by
      have hm := List.mem_map_of_mem (f := Prod.fst) hq
      rw [z] at hm
      exact nd1 hm
    exact ⟨by rw [upd_ne hap]; exact z1, ⟨u, z2, q.2.mono e z3⟩, z4⟩
theorem set_same {α : Type} : ∀ {l : List α} {j : Nat} {x : α}, l[j]? = some x → l.set j x = l
  | [], _, _, _ => rfl
  | a :: l, 0, x, h => by
    simp at h
    subst h
    rfl
  | a :: l, j + 1, x, h => by
    show a :: l.set j x = a :: l
    rw [set_same (by simpa using h)]
/-- an own object is changed -/
theorem Sit.change {B : Bs} {F H : Hp} {σ : L2.St} {env : Env} {os : Os} {j : Nat} {p : Addr} {ow ow' : Own} {o' : HO} (s : Sit B F H σ env os) (hj : os[j]? = some (p, ow)) (hb : ow'.ok F o') : Sit B F (upd H p o') σ env (os.set j (p, ow')) := by
  have hm : (p, ow) ∈ os := List.mem_of_getElem? hj
  obtain ⟨h1, ⟨o, h2, h3⟩, h4⟩ := s.ow _ hm
  have h1 : F p = none := h1
  have h2 : H p = some o := h2
  have hjl : j < os.length := (List.getElem?_eq_some_iff.mp hj).1
  have hmap : (os.set j (p, ow')).map (·.1) = os.map (·.1) := by
    rw [List.map_set]
    exact set_same (by rw [List.getElem?_map, hj]; rfl)
  refine ⟨⟨fun a u ha => ?_, s.fin.bf, s.fin.mrk, s.fin.bb, fun a ha => ?_, fun a u k1 k2 k3 => ?_⟩, s.env, fun q hq => ?_, by rw [hmap]; exact s.nd⟩
  · have hap : a ≠ p := fun z => by rw [z, h1] at ha; cases ha
    rw [upd_ne hap]
    exact s.fh a u ha
  · by_cases hap : a = p
    · exact ⟨o', by rw [hap, upd_same]⟩
    · obtain ⟨u, hu⟩ := s.fin.ios a ha
      exact ⟨u, by rw [upd_ne hap]; exact hu⟩
  · obtain ⟨z1, z2⟩ := s.fin.keep a u k1 k2 k3
    have hap : a ≠ p := by
      rintro rfl
      rcases h4 with q | q
      · have q' : B.H a = none := q
        rw [k2] at q'
        cases q'
      · exact k3 q
    rw [upd_ne hap]
    exact ⟨z1, z2⟩
  · obtain ⟨i, hi⟩ := List.mem_iff_getElem?.mp hq
    by_cases hij : j = i
    · subst hij
      rw [List.getElem?_set_self hjl] at hi
      cases hi
      exact ⟨h1, ⟨o', upd_same, hb⟩, h4⟩
    · rw [List.getElem?_set_ne hij] at hi
      obtain ⟨z1, ⟨u, z2, z3⟩, z4⟩ := s.ow q (List.mem_of_getElem? hi)
      have hap : q.1 ≠ p := fun z => by
        have nd := s.nd
        have a1 : (os.map (·.1))[i]? = some p := by rw [List.getElem?_map, hi, ← z]; rfl
        have a2 : (os.map (·.1))[j]? = some p := by rw [List.getElem?_map, hj]; rfl
        exact hij (nd_ix nd a2 a1)
      exact ⟨z1, ⟨u, by rw [upd_ne hap]; exact z2, z3⟩, z4⟩
end Mi

namespace Mi
open PySem L2 Evl

/-! ### expressions that make a new list -/
def tNew (B : Bs) (env : Env) (os : Os) {α : Type} (r : Rp α) (w : W (List α)) : TE := fun σ H Q => ∃ F P, Sit B F H σ env os ∧ w P B.E0 ∧ ∀ xs, P xs → ∀ a F' H', Sit B F' H' σ env ((a, oLst r xs) :: os) → Ex F F' → Q (.ref a) H'
def EN (X : Cx) (B : Bs) (env : Env) (os : Os) (e : Expr) {α : Type} (r : Rp α) (w : W (List α)) : Prop := PE X e (tNew B env os r w)
section
variable {X : Cx} {B : Bs} {env : Env} {os : Os} {pos : Pos} {α β γ : Type} {r : Rp α} {s : Rp β} {t : Rp γ} {e a b c : Expr} {es : List Expr}
/-- it is let go: it will not change again -/
theorem e_new {w : W (List α)} (h : EN X B env os e r w) : EE X B env os e (rLst r) w := PE.imp h fun σ H Q ⟨F, P, S, hw, k⟩ => ⟨F, P, S, hw, fun xs hx a F' H' S' e' => by
  obtain ⟨F2, o, e2, h1, ⟨vs, h2, h3, h4⟩, S2⟩ := S'.freeze
  subst h2
  exact k xs hx (.ref a) F2 H' S2 (e'.trans e2) ⟨a, vs, rfl, h1, h3, h4⟩⟩
/-! a written list, a tuple -/
def tAL (B : Bs) (env : Env) (os : Os) (n : Nat) {α : Type} (r : Rp α) (w : W (List α)) : TA := fun σ H Q => ∃ F P, Sit B F H σ env os ∧ w P B.E0 ∧ ∀ xs, P xs → ∀ vs F' H', Sit B F' H' σ env os → Ex F F' → Paired (r.ok F') vs xs → vs.length = n → Q vs H'
def AL (X : Cx) (B : Bs) (env : Env) (os : Os) (es : List Expr) {α : Type} (r : Rp α) (w : W (List α)) : Prop := PA X es (tAL B env os es.length r w)
theorem PA.imp {t t' : TA} (h : PA X es t) (i : ∀ σ H Q, t' σ H Q → t σ H Q) : PA X es t' := ⟨fun pos pins s σ H Q I q => h.run pos pins s σ H Q I (i _ _ _ q)⟩
theorem PA.ex {ι : Type} {t : ι → TA} (h : ∀ i, PA X es (t i)) : PA X es (fun σ H Q => ∃ i, t i σ H Q) := ⟨fun pos pins s σ H Q I ⟨i, q⟩ => (h i).run pos pins s σ H Q I q⟩
theorem al_nil : AL X B env os [] r (ret []) := PA.imp pa_nil fun σ H Q ⟨F, P, S, hw, k⟩ => k [] hw [] F H S (Ex.refl F) .nil rfl
theorem al_cons {w1 : W α} {w2 : W (List α)} (h : EE X B env os e r w1) (ht : AL X B env os es r w2) (hs : starEach (e :: es) X.env = (false, eval e X.env) :: starEach es X.env := by rfl) : AL X B env os (e :: es) r (bnd w1 fun x => bnd w2 fun xs => ret (x :: xs)) :=
  PA.imp (pa_cons h ht hs) fun σ H Q ⟨F, P, S, hw, k⟩ => ⟨F, _, S, hw, fun x hx v F1 H1 S1 e1 ok1 => ⟨F1, _, S1, hx, fun xs hxs vs F2 H2 S2 e2 ok2 hl => k _ hxs (v :: vs) F2 H2 S2 (e1.trans e2) (.cons (r.mono e2 ok1) ok2) (by rw [List.length_cons, hl, List.length_cons])⟩⟩
theorem n_list {w : W (List α)} (h : AL X B env os es r w) (hz : es.length ≤ sizeLine := by decide) : EN X B env os (.List es pos) r w := PE.imp (pe_lst h) fun σ H Q ⟨F, P, S, hw, k⟩ => ⟨F, P, S, hw, fun xs hx vs F' H' S' e' ok hl =>
  ⟨by rw [hl]; exact hz, fun p hp => k xs hx p F' _ (S'.newOwn hp ⟨vs, rfl, by rw [hl]; exact hz, ok⟩) e'⟩⟩
theorem e_tup2 {w1 : W α} {w2 : α → W β} {x1} (ha : EE X B env os a r w1) (hb : ∀ x, EE X B env os b s (w2 x)) (hs : starEach [a, b] X.env = (false, eval a X.env) :: starEach [b] X.env := by rfl) (hs2 : starEach [b] X.env = (false, eval b X.env) :: starEach [] X.env := by rfl) :
    EE X B env os (.Tuple [a, b] x1 pos) (rT2 X.K r s) (bnd w1 fun x => bnd (w2 x) fun y => ret (x, y)) :=
  PE.imp (pe_tup (pa_cons ha (pa_cons (PE.ex hb) pa_nil hs2) hs)) fun σ H Q ⟨F, P, S, hw, k⟩ => ⟨F, _, S, hw, fun x hx v F1 H1 S1 e1 ok1 => ⟨x, F1, _, S1, hx, fun y hy u F2 H2 S2 e2 ok2 =>
    ⟨(by show 2 ≤ sizeLine; decide), fun p hp => by
      have g : Grow F2 H2 (upd F2 p (.tup [v, u])) (upd H2 p (.tup [v, u])) := Grow.alloc S2.fh hp
      exact k _ hy (.ref p) _ _ (S2.grow g) ((e1.trans e2).trans g.f) ⟨p, v, u, rfl, SqT.of upd_same, r.mono (e2.trans g.f) ok1, s.mono g.f ok2⟩⟩⟩⟩
theorem e_tup3 {w1 : W α} {w2 : α → W β} {w3 : α → β → W γ} {x1} (ha : EE X B env os a r w1) (hb : ∀ x, EE X B env os b s (w2 x)) (hc : ∀ x y, EE X B env os c t (w3 x y)) (hs : starEach [a, b, c] X.env = (false, eval a X.env) :: starEach [b, c] X.env := by rfl)
    (hs2 : starEach [b, c] X.env = (false, eval b X.env) :: starEach [c] X.env := by rfl) (hs3 : starEach [c] X.env = (false, eval c X.env) :: starEach [] X.env := by rfl) :
    EE X B env os (.Tuple [a, b, c] x1 pos) (rT3 X.K r s t) (bnd w1 fun x => bnd (w2 x) fun y => bnd (w3 x y) fun z => ret (x, y, z)) :=
  PE.imp (pe_tup (pa_cons ha (pa_cons (PE.ex hb) (pa_cons (PE.ex fun p : α × β => hc p.1 p.2) pa_nil hs3) hs2) hs)) fun σ H Q ⟨F, P, S, hw, k⟩ => ⟨F, _, S, hw, fun x hx v F1 H1 S1 e1 ok1 => ⟨x, F1, _, S1, hx, fun y hy u F2 H2 S2 e2 ok2 => ⟨(x, y), F2, _, S2, hy, fun z hz q F3 H3 S3 e3 ok3 =>
    ⟨(by show 3 ≤ sizeLine; decide), fun p hp => by
      have g : Grow F3 H3 (upd F3 p (.tup [v, u, q])) (upd H3 p (.tup [v, u, q])) := Grow.alloc S3.fh hp
      exact k _ hz (.ref p) _ _ (S3.grow g) (((e1.trans e2).trans e3).trans g.f) ⟨p, v, u, q, rfl, SqT.of upd_same, r.mono ((e2.trans e3).trans g.f) ok1, s.mono (e3.trans g.f) ok2, t.mono g.f ok3⟩⟩⟩⟩⟩

/-! ### reading lists -/
theorem ixN_map {n m : Nat} (h : n = m) (i : Int) : ixN n i = ixN m i := by rw [h]
theorem atI_paired {R : V → α → Prop} {vs : List V} {xs : List α} {i : Int} {x : α} (h : Paired R vs xs) (hx : atI xs i = some x) : ∃ v, atI vs i = some v ∧ R v x := by
  unfold atI at hx ⊢
  rw [ixN_map h.length i]
  cases e : ixN xs.length i with
  | none => rw [e] at hx; cases hx
  | some j =>
    rw [e] at hx
    exact Paired.get h hx
def idx (xs : List α) (i : Int) : W α := match atI xs i with
  | some x => ret x
  | none => fail
theorem idx_of {xs : List α} {i : Int} {P : α → Prop} {E : Er → Prop} (h : idx xs i P E) : ∃ x, atI xs i = some x ∧ P x := by
  unfold idx at h
  cases e : atI xs i with
  | none => rw [e] at h; exact False.elim h
  | some x => rw [e] at h; exact ⟨x, rfl, h⟩
theorem sem_idx {K : PySem.W.Frag} : R2T (rIxL K) (rLst r) rInt r (fun x i => idx x i) := fun F H v u x y P E Q fh ⟨p, vs, e1, h1, h2, h3⟩ e2 hw k => by
  obtain ⟨z, hz, pz⟩ := idx_of hw
  obtain ⟨v', hv', rz⟩ := atI_paired h3 hz
  exact ⟨p, vs, y, v', e1, e2, SqL.of (fh _ _ h1), hv', k z pz v' F H (Grow.refl fh) rz⟩
theorem sem_idxT {K : PySem.W.Frag} : R2T (rIxT K) (rTup K r) rInt r (fun x i => idx x i) := fun F H v u x y P E Q fh ⟨p, vs, e1, h1, h2, h3⟩ e2 hw k => by
  obtain ⟨z, hz, pz⟩ := idx_of hw
  obtain ⟨v', hv', rz⟩ := atI_paired h3 hz
  exact ⟨p, vs, y, v', e1, e2, ex_t fh h1, hv', k z pz v' F H (Grow.refl fh) rz⟩
theorem sem_fst {K : PySem.W.Frag} : R2T (rIxT K) (rT2 K r s) rInt r (fun x i => chk (i = 0) (ret x.1)) := fun F H v u x y P E Q fh ⟨p, v1, v2, e1, h1, h2, h3⟩ e2 ⟨c, hw⟩ k =>
  ⟨p, _, y, v1, e1, e2, ex_t fh h1, (by subst c; rfl), k _ hw v1 F H (Grow.refl fh) h2⟩
theorem sem_snd {K : PySem.W.Frag} : R2T (rIxT K) (rT2 K r s) rInt s (fun x i => chk (i = 1) (ret x.2)) := fun F H v u x y P E Q fh ⟨p, v1, v2, e1, h1, h2, h3⟩ e2 ⟨c, hw⟩ k =>
  ⟨p, _, y, v2, e1, e2, ex_t fh h1, (by subst c; rfl), k _ hw v2 F H (Grow.refl fh) h3⟩
theorem e_idx {w1 : W (List α)} {w2 : List α → W Int} (ha : EE X B env os a (rLst r) w1) (hb : ∀ x, EE X B env os b rInt (w2 x)) (hs : PlainIx b := by exact fun _ _ => rfl) : EE X B env os (.Subscript a b pos) r (bnd w1 fun x => bnd (w2 x) fun i => idx x i) :=
  e_ix ix_list sem_idx hs ha hb
theorem e_idxT {w1 : W (List α)} {w2 : List α → W Int} (ha : EE X B env os a (rTup X.K r) w1) (hb : ∀ x, EE X B env os b rInt (w2 x)) (hs : PlainIx b := by exact fun _ _ => rfl) : EE X B env os (.Subscript a b pos) r (bnd w1 fun x => bnd (w2 x) fun i => idx x i) :=
  e_ix ix_tup sem_idxT hs ha hb
/-- the places of a pair -/
theorem e_fst {w1 : W (α × β)} {j} {pos2 : Pos} (ha : EE X B env os a (rT2 X.K r s) w1) (hs : PlainIx (.Constant (.int 0) j pos2) := by exact fun _ _ => rfl) : EE X B env os (.Subscript a (.Constant (.int 0) j pos2) pos) r (bnd w1 fun x => ret x.1) :=
  e_conv (e_ix ix_tup sem_fst hs ha (fun _ => e_int)) (by
      funext P E
      show w1 _ E = w1 _ E
      congr 1
      funext x
      exact propext ⟨fun h => ⟨rfl, h⟩, fun h => h.2⟩)
theorem e_snd {w1 : W (α × β)} {j} {pos2 : Pos} (ha : EE X B env os a (rT2 X.K r s) w1) (hs : PlainIx (.Constant (.int 1) j pos2) := by exact fun _ _ => rfl) : EE X B env os (.Subscript a (.Constant (.int 1) j pos2) pos) s (bnd w1 fun x => ret x.2) :=
  e_conv (e_ix ix_tup sem_snd hs ha (fun _ => e_int)) (by
      funext P E
      show w1 _ E = w1 _ E
      congr 1
      funext x
      exact propext ⟨fun h => ⟨rfl, h⟩, fun h => h.2⟩)
/-! ### calls of built-in things with one argument -/
def C1T (q : List V → Hp → VK → Prop) (r : Rp α) (t : Rp γ) (f : α → W γ) : Prop := ∀ (F H : Hp) (v : V) (x : α) (P : γ → Prop) (E : Er → Prop) (Q : VK), Ex F H → r.ok F v x → f x P E → (∀ z, P z → ∀ v' F' H', Grow F H F' H' → t.ok F' v' z → Q v' H') → q [v] H Q
theorem one_call {q : List V → Hp → VK → Prop} {f : α → W γ} {w1 : W α} (sem : C1T q r t f) {σ : L2.St} {H : Hp} {Q : VK} (h : tOf B env os t (bnd w1 f) σ H Q) : tCB q (tCons (tOf B env os r w1) tNil) σ H Q := by
  obtain ⟨F, P, S, hw, k⟩ := h
  exact ⟨F, _, S, hw, fun x hx v F1 H1 S1 e1 ok1 => sem F1 H1 v x P B.E0 Q S1.fh ok1 hx fun z hz v' F3 H3 g ok3 => k z hz v' F3 H3 (S1.grow g) (e1.trans g.f) ok3⟩
theorem e_callB {id : String} {x : Str} {p : Pos} {q : List V → Hp → VK → Prop} {f : α → W γ} {w1 : W α} (hc : CallR X (.builtin id) q) (sem : C1T q r t f) (ha : EE X B env os a r w1) (hm : X.mg x = none) (hg : Gl X x := by rfl) (hv : bootBuiltins x = some (.builtin id) := by decide +kernel)
    (hn : x ≠ "__name__" := by decide) (hdb : (x == ("__debug__" : Str)) = false := by decide) (he : starEach [a] X.env = (false, eval a X.env) :: starEach [] X.env := by rfl) (hpl : (backTo pos (starEach [] X.env)).any (·.1) = false := by rfl) :
    EE X B env os (.Call (.Name x p) [a] [] pos) t (bnd w1 f) := PE.imp (pe_callB hc hg hm hv (pa_cons ha pa_nil he) hn hdb he hpl) fun _ _ _ h => one_call sem h
theorem e_callTy {id : String} {x : Str} {p : Pos} {q : List V → Hp → VK → Prop} {f : α → W γ} {w1 : W α} (hc : CallR X (.type id) q) (sem : C1T q r t f) (ha : EE X B env os a r w1) (hm : X.mg x = none) (hg : Gl X x := by rfl) (hv : bootBuiltins x = some (.type id) := by decide +kernel)
    (hn : x ≠ "__name__" := by decide) (hdb : (x == ("__debug__" : Str)) = false := by decide) (he : starEach [a] X.env = (false, eval a X.env) :: starEach [] X.env := by rfl) (hpl : (backTo pos (starEach [] X.env)).any (·.1) = false := by rfl) :
    EE X B env os (.Call (.Name x p) [a] [] pos) t (bnd w1 f) := PE.imp (pe_callTy hc hg hm hv (pa_cons ha pa_nil he) hn hdb he hpl) fun _ _ _ h => one_call sem h
theorem sem_len {K : PySem.W.Frag} : C1T (fun xs H Q => ∃ p ys, xs = [.ref p] ∧ (SqL K H p ys ∨ SqT K H p ys) ∧ Q (.int ys.length) H) (rLst r) rInt (fun x => ret (x.length : Int)) := fun F H v x P E Q fh ⟨p, vs, e1, h1, h2, h3⟩ hw k =>
  ⟨p, vs, by rw [e1], .inl (SqL.of (fh _ _ h1)), k _ hw _ F H (Grow.refl fh) (by rw [h3.length]; rfl)⟩
theorem sem_lenT {K : PySem.W.Frag} : C1T (fun xs H Q => ∃ p ys, xs = [.ref p] ∧ (SqL K H p ys ∨ SqT K H p ys) ∧ Q (.int ys.length) H) (rTup K r) rInt (fun x => ret (x.length : Int)) := fun F H v x P E Q fh ⟨p, vs, e1, h1, h2, h3⟩ hw k =>
  ⟨p, vs, by rw [e1], .inr (ex_t fh h1), k _ hw _ F H (Grow.refl fh) (by rw [h3.length]; rfl)⟩
theorem sem_lenS : C1T (fun xs H Q => ∃ z, xs = [.str z] ∧ z.length ≤ sizeLine ∧ Q (.int z.length) H) rStr rInt (fun x => ret (x.length : Int)) := fun F H v x P E Q fh ⟨e1, h1, _⟩ hw k =>
  ⟨x, by rw [e1], h1, k _ hw _ F H (Grow.refl fh) rfl⟩
theorem sem_sum {K : PySem.W.Frag} : C1T (rSum K) (rLst rInt) rInt (fun x => ret x.sum) := fun F H v x P E Q fh ⟨p, vs, e1, h1, h2, h3⟩ hw k =>
  ⟨p, x, by rw [e1], SqL.of (by rw [← ints_map h3]; exact fh _ _ h1), k _ hw _ F H (Grow.refl fh) rfl⟩
theorem sem_any {K : PySem.W.Frag} : C1T (rAny K) (rLst rBool) rBool (fun x => ret (x.any id)) := fun F H v x P E Q fh ⟨p, vs, e1, h1, h2, h3⟩ hw k =>
  ⟨p, x, by rw [e1], SqL.of (by rw [← bools_map h3]; exact fh _ _ h1), k _ hw _ F H (Grow.refl fh) rfl⟩
theorem sem_all {K : PySem.W.Frag} : C1T (rAll K) (rLst rBool) rBool (fun x => ret (x.all id)) := fun F H v x P E Q fh ⟨p, vs, e1, h1, h2, h3⟩ hw k =>
  ⟨p, x, by rw [e1], SqL.of (by rw [← bools_map h3]; exact fh _ _ h1), k _ hw _ F H (Grow.refl fh) rfl⟩
def maxL : List Int → Int
  | [] => 0
  | [x] => x
  | x :: y :: r => max x (maxL (y :: r))
def minL : List Int → Int
  | [] => 0
  | [x] => x
  | x :: y :: r => min x (minL (y :: r))
theorem maxL_is : ∀ {xs : List Int} {m : Int}, m ∈ xs → (∀ y, y ∈ xs → y ≤ m) → maxL xs = m
  | [], m, h, _ => by simp at h
  | [x], m, h, _ => by simp at h; exact h.symm
  | x :: y :: r, m, h, k => by
    show max x (maxL (y :: r)) = m
    have hx : x ≤ m := k x (List.mem_cons_self ..)
    have ub : ∀ (l : List Int), (∀ z, z ∈ l → z ≤ m) → l ≠ [] → maxL l ≤ m := by
      intro l
      induction l with
      | nil => intro _ q; exact absurd rfl q
      | cons a l ih =>
        intro q _
        cases l with
        | nil => exact q a (List.mem_cons_self ..)
        | cons b l =>
          have h1 := ih (fun z hz => q z (List.mem_cons_of_mem _ hz)) (by simp)
          have h2 := q a (List.mem_cons_self ..)
          show max a (maxL (b :: l)) ≤ m
          omega
    have h1 := ub (y :: r) (fun z hz => k z (List.mem_cons_of_mem _ hz)) (by simp)
    rcases List.mem_cons.mp h with e | e
    · omega
    · rw [maxL_is e fun z hz => k z (List.mem_cons_of_mem _ hz)]
      omega
theorem minL_is : ∀ {xs : List Int} {m : Int}, m ∈ xs → (∀ y, y ∈ xs → m ≤ y) → minL xs = m
  | [], m, h, _ => by simp at h
  | [x], m, h, _ => by simp at h; exact h.symm
  | x :: y :: r, m, h, k => by
    show min x (minL (y :: r)) = m
    have hx : m ≤ x := k x (List.mem_cons_self ..)
    have ub : ∀ (l : List Int), (∀ z, z ∈ l → m ≤ z) → l ≠ [] → m ≤ minL l := by
      intro l
      induction l with
      | nil => intro _ q; exact absurd rfl q
      | cons a l ih =>
        intro q _
        cases l with
        | nil => exact q a (List.mem_cons_self ..)
        | cons b l =>
          have h1 := ih (fun z hz => q z (List.mem_cons_of_mem _ hz)) (by simp)
          have h2 := q a (List.mem_cons_self ..)
          show m ≤ min a (minL (b :: l))
          omega
    have h1 := ub (y :: r) (fun z hz => k z (List.mem_cons_of_mem _ hz)) (by simp)
    rcases List.mem_cons.mp h with e | e
    · omega
    · rw [minL_is e fun z hz => k z (List.mem_cons_of_mem _ hz)]
      omega
theorem sem_max {K : PySem.W.Frag} : C1T (rMax K) (rLst rInt) rInt (fun x => chk (x ≠ []) (ret (maxL x))) := fun F H v x P E Q fh ⟨p, vs, e1, h1, h2, h3⟩ ⟨c, hw⟩ k =>
  ⟨p, x, by rw [e1], SqL.of (by rw [← ints_map h3]; exact fh _ _ h1), List.length_pos_iff.mpr c, fun m hm hk => by
    have q := maxL_is hm hk
    rw [← q]
    exact k _ hw _ F H (Grow.refl fh) rfl⟩
theorem sem_min {K : PySem.W.Frag} : C1T (rMin K) (rLst rInt) rInt (fun x => chk (x ≠ []) (ret (minL x))) := fun F H v x P E Q fh ⟨p, vs, e1, h1, h2, h3⟩ ⟨c, hw⟩ k =>
  ⟨p, x, by rw [e1], SqL.of (by rw [← ints_map h3]; exact fh _ _ h1), List.length_pos_iff.mpr c, fun m hm hk => by
    have q := minL_is hm hk
    rw [← q]
    exact k _ hw _ F H (Grow.refl fh) rfl⟩
theorem sem_abs : C1T (fun xs H Q => ∃ i, xs = [.int i] ∧ Q (.int (if i < 0 then -i else i)) H) rInt rInt (fun x => ret (x.natAbs : Int)) := fun F H v x P E Q fh e1 hw k =>
  ⟨x, by rw [e1], by
    have e : (if x < 0 then -x else x) = (x.natAbs : Int) := by split <;> omega
    rw [e]
    exact k _ hw _ F H (Grow.refl fh) rfl⟩
theorem sem_intI : C1T (fun xs H Q => (∃ i, xs = [.int i] ∧ Q (.int i) H) ∨ ∃ k, xs = [.bl k] ∧ Q (.int (if k then 1 else 0)) H) rInt rInt (fun x => ret x) := fun F H v x P E Q fh e1 hw k =>
  .inl ⟨x, by rw [e1], k _ hw _ F H (Grow.refl fh) rfl⟩
theorem sem_intB : C1T (fun xs H Q => (∃ i, xs = [.int i] ∧ Q (.int i) H) ∨ ∃ k, xs = [.bl k] ∧ Q (.int (if k then 1 else 0)) H) rBool rInt (fun x => ret (if x = true then 1 else 0)) := fun F H v x P E Q fh e1 hw k =>
  .inr ⟨x, by rw [e1], k _ hw _ F H (Grow.refl fh) rfl⟩
variable {w : W (List α)} {x : Str} {p : Pos}
theorem e_len (ha : EE X B env os a (rLst r) w) (hm : X.mg "len" = none) (hg : Gl X "len" := by rfl) (he : starEach [a] X.env = (false, eval a X.env) :: starEach [] X.env := by rfl) (hpl : (backTo pos (starEach [] X.env)).any (·.1) = false := by rfl) :
    EE X B env os (.Call (.Name "len" p) [a] [] pos) rInt (bnd w fun x => ret (x.length : Int)) := e_callB call_len_seq sem_len ha hm hg PySem.boot_len (by decide) (by decide) he hpl
theorem e_lenT (ha : EE X B env os a (rTup X.K r) w) (hm : X.mg "len" = none) (hg : Gl X "len" := by rfl) (he : starEach [a] X.env = (false, eval a X.env) :: starEach [] X.env := by rfl) (hpl : (backTo pos (starEach [] X.env)).any (·.1) = false := by rfl) :
    EE X B env os (.Call (.Name "len" p) [a] [] pos) rInt (bnd w fun x => ret (x.length : Int)) := e_callB call_len_seq sem_lenT ha hm hg PySem.boot_len (by decide) (by decide) he hpl
theorem e_lenS {w : W Str} (ha : EE X B env os a rStr w) (hm : X.mg "len" = none) (hg : Gl X "len" := by rfl) (he : starEach [a] X.env = (false, eval a X.env) :: starEach [] X.env := by rfl) (hpl : (backTo pos (starEach [] X.env)).any (·.1) = false := by rfl) :
    EE X B env os (.Call (.Name "len" p) [a] [] pos) rInt (bnd w fun x => ret (x.length : Int)) := e_callB call_len_str sem_lenS ha hm hg PySem.boot_len (by decide) (by decide) he hpl
theorem e_intI {w : W Int} (ha : EE X B env os a rInt w) (hm : X.mg "int" = none) (hg : Gl X "int" := by rfl) (he : starEach [a] X.env = (false, eval a X.env) :: starEach [] X.env := by rfl) (hpl : (backTo pos (starEach [] X.env)).any (·.1) = false := by rfl) :
    EE X B env os (.Call (.Name "int" p) [a] [] pos) rInt w := e_conv (e_callTy call_int1 sem_intI ha hm hg (by decide +kernel) (by decide) (by decide) he hpl) rfl
theorem e_intB {w : W Bool} (ha : EE X B env os a rBool w) (hm : X.mg "int" = none) (hg : Gl X "int" := by rfl) (he : starEach [a] X.env = (false, eval a X.env) :: starEach [] X.env := by rfl) (hpl : (backTo pos (starEach [] X.env)).any (·.1) = false := by rfl) :
    EE X B env os (.Call (.Name "int" p) [a] [] pos) rInt (bnd w fun x => ret (if x = true then 1 else 0)) := e_callTy call_int1 sem_intB ha hm hg (by decide +kernel) (by decide) (by decide) he hpl
theorem e_abs {w : W Int} (ha : EE X B env os a rInt w) (hm : X.mg "abs" = none) (hg : Gl X "abs" := by rfl) (he : starEach [a] X.env = (false, eval a X.env) :: starEach [] X.env := by rfl) (hpl : (backTo pos (starEach [] X.env)).any (·.1) = false := by rfl) :
    EE X B env os (.Call (.Name "abs" p) [a] [] pos) rInt (bnd w fun x => ret (x.natAbs : Int)) := e_callB call_abs sem_abs ha hm hg (by decide +kernel) (by decide) (by decide) he hpl
theorem e_sum {w : W (List Int)} (hc : X.calm = true) (ha : EE X B env os a (rLst rInt) w) (hm : X.mg "sum" = none) (hg : Gl X "sum" := by rfl) (he : starEach [a] X.env = (false, eval a X.env) :: starEach [] X.env := by rfl) (hpl : (backTo pos (starEach [] X.env)).any (·.1) = false := by rfl) :
    EE X B env os (.Call (.Name "sum" p) [a] [] pos) rInt (bnd w fun x => ret x.sum) := e_callB (cr_sum hc) sem_sum ha hm hg (by decide +kernel) (by decide) (by decide) he hpl
theorem e_max {w : W (List Int)} (hc : X.calm = true) (ha : EE X B env os a (rLst rInt) w) (hm : X.mg "max" = none) (hg : Gl X "max" := by rfl) (he : starEach [a] X.env = (false, eval a X.env) :: starEach [] X.env := by rfl) (hpl : (backTo pos (starEach [] X.env)).any (·.1) = false := by rfl) :
    EE X B env os (.Call (.Name "max" p) [a] [] pos) rInt (bnd w fun x => chk (x ≠ []) (ret (maxL x))) := e_callB (cr_max hc) sem_max ha hm hg (by decide +kernel) (by decide) (by decide) he hpl
theorem e_min {w : W (List Int)} (hc : X.calm = true) (ha : EE X B env os a (rLst rInt) w) (hm : X.mg "min" = none) (hg : Gl X "min" := by rfl) (he : starEach [a] X.env = (false, eval a X.env) :: starEach [] X.env := by rfl) (hpl : (backTo pos (starEach [] X.env)).any (·.1) = false := by rfl) :
    EE X B env os (.Call (.Name "min" p) [a] [] pos) rInt (bnd w fun x => chk (x ≠ []) (ret (minL x))) := e_callB (cr_min hc) sem_min ha hm hg (by decide +kernel) (by decide) (by decide) he hpl
theorem e_any {w : W (List Bool)} (hc : X.calm = true) (ha : EE X B env os a (rLst rBool) w) (hm : X.mg "any" = none) (hg : Gl X "any" := by rfl) (he : starEach [a] X.env = (false, eval a X.env) :: starEach [] X.env := by rfl) (hpl : (backTo pos (starEach [] X.env)).any (·.1) = false := by rfl) :
    EE X B env os (.Call (.Name "any" p) [a] [] pos) rBool (bnd w fun x => ret (x.any id)) := e_callB (cr_any hc) sem_any ha hm hg (by decide +kernel) (by decide) (by decide) he hpl
theorem e_all {w : W (List Bool)} (hc : X.calm = true) (ha : EE X B env os a (rLst rBool) w) (hm : X.mg "all" = none) (hg : Gl X "all" := by rfl) (he : starEach [a] X.env = (false, eval a X.env) :: starEach [] X.env := by rfl) (hpl : (backTo pos (starEach [] X.env)).any (·.1) = false := by rfl) :
    EE X B env os (.Call (.Name "all" p) [a] [] pos) rBool (bnd w fun x => ret (x.all id)) := e_callB (cr_all hc) sem_all ha hm hg (by decide +kernel) (by decide) (by decide) he hpl
end
end Mi

namespace Mi
open PySem L2 Evl

/-! ### what a loop walks -/
structure Walks {α : Type} (J : It) (F : Hp) (r : Rp α) (xs : List α) : Prop where
  go : ∀ i F1 H1, Ex F F1 → Ex F1 H1 → i < xs.length → J.go i H1
  yld : ∀ i F1 H1 v H2 x, Ex F F1 → Ex F1 H1 → J.yld i H1 v H2 → xs[i]? = some x → ∃ F2, Grow F1 H1 F2 H2 ∧ r.ok F2 v x
  stop : ∀ i F1 H1, Ex F F1 → Ex F1 H1 → xs.length ≤ i → J.stop i H1
def tSrc (B : Bs) (env : Env) (os : Os) {α : Type} (r : Rp α) (w : W (List α)) : TI := fun σ H R => ∃ F P, Sit B F H σ env os ∧ w P B.E0 ∧ ∀ xs, P xs → ∀ J F' H', Sit B F' H' σ env os → Ex F F' → Walks J F' r xs → xs.length ≤ sizeLine → R J H'
def ES (X : Cx) (B : Bs) (env : Env) (os : Os) (tg e : Expr) {α : Type} (r : Rp α) (w : W (List α)) : Prop := PI X tg e (tSrc B env os r w)
theorem PI.imp {X : Cx} {tg e : Expr} {t t' : TI} (h : PI X tg e t) (i : ∀ σ H R, t' σ H R → t σ H R) : PI X tg e t' := ⟨fun pins s σ H R I q => h.run pins s σ H R I (i _ _ _ q)⟩
def rangeI (lo hi : Int) : List Int := (List.range (hi - lo).toNat).map fun (k : Nat) => lo + (k : Int)
def RgOk (lo hi : Int) : Prop := -(2 ^ 62) ≤ lo ∧ lo < 2 ^ 62 ∧ -(2 ^ 62) ≤ hi ∧ hi < 2 ^ 62 ∧ hi - lo ≤ 16777216
theorem rangeI_len (lo hi : Int) : (rangeI lo hi).length = (hi - lo).toNat := by
  unfold rangeI
  rw [List.length_map, List.length_range]
theorem walks_rng {lo hi : Int} {F : Hp} : Walks (Itr lo (hi - lo).toNat) F rInt (rangeI lo hi) := by
  refine ⟨fun i F1 H1 _ _ h => ?_, fun i F1 H1 v H2 x _ fh y hx => ?_, fun i F1 H1 _ _ h => ?_⟩
  · rw [rangeI_len] at h
    exact h
  · obtain ⟨e1, e2⟩ := y
    subst e1
    refine ⟨F1, Grow.refl fh, ?_⟩
    unfold rangeI at hx
    rw [List.getElem?_map] at hx
    obtain ⟨k, hk, ek⟩ := Option.map_eq_some_iff.mp hx
    have : k = i := by
      rw [List.getElem?_range (by
        have := (List.getElem?_eq_some_iff.mp hk).1
        simpa using this)] at hk
      exact (Option.some.inj hk).symm
    subst this
    show v = .int x
    rw [e2, ← ek]
  · rw [rangeI_len] at h
    exact h
section
variable {X : Cx} {B : Bs} {env : Env} {os : Os} {pos : Pos} {α β γ : Type} {r : Rp α} {s : Rp β} {t : Rp γ} {e a b c tg : Expr}
theorem s_list {w : W (List α)} (h : EE X B env os e (rLst r) w) : ES X B env os tg e r w := PI.imp (pi_list h) fun σ H R ⟨F, P, S, hw, k⟩ => ⟨F, P, S, hw, fun xs hx v F' H' S' e' ⟨p, vs, e1, h1, h2, h3⟩ =>
  ⟨p, e1, ⟨vs, SqL.of (S'.fh _ _ h1)⟩, k xs hx _ F' H' S' e' ⟨fun i F1 H1 x1 x2 hi => by
    obtain ⟨v, hv⟩ : ∃ v, vs[i]? = some v := ⟨_, List.getElem?_eq_getElem (by rw [h3.length]; exact hi)⟩
    exact ⟨vs, v, SqL.of (x2 _ _ (x1 _ _ h1)), hv⟩, fun i F1 H1 u H2 x x1 x2 y hx => by
    obtain ⟨e2, y⟩ := y
    subst e2
    obtain ⟨v, hv, rv⟩ := Paired.get h3 hx
    have e3 : vs[i]? = some u := y vs (SqL.of (x2 _ _ (x1 _ _ h1)))
    rw [e3] at hv
    cases hv
    exact ⟨F1, Grow.refl x2, r.mono x1 rv⟩, fun i F1 H1 x1 x2 hi => ⟨vs, SqL.of (x2 _ _ (x1 _ _ h1)), by rw [h3.length]; exact hi⟩⟩ (by rw [← h3.length]; exact h2)⟩⟩
theorem s_tup {w : W (List α)} (h : EE X B env os e (rTup X.K r) w) : ES X B env os tg e r w := PI.imp (pi_tup h) fun σ H R ⟨F, P, S, hw, k⟩ => ⟨F, P, S, hw, fun xs hx v F' H' S' e' ⟨p, vs, e1, h1, h2, h3⟩ =>
  ⟨p, e1, ⟨vs, ex_t S'.fh h1⟩, k xs hx _ F' H' S' e' ⟨fun i F1 H1 x1 x2 hi => by
    obtain ⟨v, hv⟩ : ∃ v, vs[i]? = some v := ⟨_, List.getElem?_eq_getElem (by rw [h3.length]; exact hi)⟩
    exact ⟨vs, v, ex_t (x1.trans x2) h1, hv⟩, fun i F1 H1 u H2 x x1 x2 y hx => by
    obtain ⟨e2, y⟩ := y
    subst e2
    obtain ⟨v, hv, rv⟩ := Paired.get h3 hx
    have e3 : vs[i]? = some u := y vs (ex_t (x1.trans x2) h1)
    rw [e3] at hv
    cases hv
    exact ⟨F1, Grow.refl x2, r.mono x1 rv⟩, fun i F1 H1 x1 x2 hi => ⟨vs, ex_t (x1.trans x2) h1, by rw [h3.length]; exact hi⟩⟩ (by rw [← h3.length]; exact h2)⟩⟩
theorem len_rng {lo hi : Int} (h : RgOk lo hi) : (rangeI lo hi).length ≤ sizeLine := by
  rw [rangeI_len, sizeLine_eq]
  obtain ⟨_, _, _, _, h⟩ := h
  omega
def rng1 (n : Int) : W (List Int) := chk (RgOk 0 n) (ret (rangeI 0 n))
def rng2 (lo hi : Int) : W (List Int) := chk (RgOk lo hi) (ret (rangeI lo hi))
theorem s_rng1 {p : Pos} {w : W Int} (ha : EE X B env os a rInt w) (hm : X.mg "range" = none) (hg : Gl X "range" := by rfl) (hs : starEach [a] X.env = [(false, eval a X.env)] := by rfl) (he : starEach [a] X.env = (false, eval a X.env) :: starEach [] X.env := by rfl) :
    ES X B env os tg (.Call (.Name "range" p) [a] [] pos) rInt (bnd w rng1) := PI.imp (pi_range1 hg hm (pa_cons ha pa_nil he) hs) fun σ H R ⟨F, P, S, hw, k⟩ => ⟨F, _, S, hw, fun x ⟨c, hx⟩ v F' H' S' e' ok => by
  obtain ⟨_, _, c1, c2, _⟩ := id c
  refine ⟨x, by rw [ok], c1, c2, ?_⟩
  have q := k _ hx (Itr 0 (x - 0).toNat) F' H' S' e' walks_rng (len_rng c)
  rw [Int.sub_zero] at q
  exact q⟩
theorem s_rng2 {p : Pos} {w : W Int} {w2 : Int → W Int} (ha : EE X B env os a rInt w) (hb : ∀ x, EE X B env os b rInt (w2 x)) (hm : X.mg "range" = none) (hg : Gl X "range" := by rfl) (hs : starEach [a, b] X.env = [(false, eval a X.env), (false, eval b X.env)] := by rfl) (hs2 : starEach [b] X.env = [(false, eval b X.env)] := by rfl)
    (he : starEach [a, b] X.env = (false, eval a X.env) :: starEach [b] X.env := by rfl) (he2 : starEach [b] X.env = (false, eval b X.env) :: starEach [] X.env := by rfl) :
    ES X B env os tg (.Call (.Name "range" p) [a, b] [] pos) rInt (bnd w fun x => bnd (w2 x) fun y => rng2 x y) := PI.imp (pi_range2 hg hm (pa_cons ha (pa_cons (PE.ex hb) pa_nil he2) he) hs hs2) fun σ H R ⟨F, P, S, hw, k⟩ => ⟨F, _, S, hw, fun x hx v F1 H1 S1 e1 ok1 => ⟨x, F1, _, S1, hx, fun y ⟨c, hy⟩ u F2 H2 S2 e2 ok2 => by
  obtain ⟨c1, c2, c3, c4, _⟩ := id c
  exact ⟨x, y, by rw [ok1, ok2], ⟨c1, c2, c3, c4⟩, k _ hy _ F2 H2 S2 (e1.trans e2) walks_rng (len_rng c)⟩⟩⟩
def zip2 (xs : List α) (ys : List β) : List (α × β) := xs.zip ys
theorem s_zip {p tpos : Pos} {elts : List Expr} {kk : Nat} {w : W (List α)} {w2 : List α → W (List β)} (ha : EE X B env os a (rLst r) w) (hb : ∀ x, EE X B env os b (rLst s) (w2 x)) (hm : X.mg "zip" = none) (hg : Gl X "zip" := by rfl)
    (hs : starEach [a, b] X.env = (false, eval a X.env) :: starEach [b] X.env := by rfl) (he2 : starEach [b] X.env = (false, eval b X.env) :: starEach [] X.env := by rfl) (hpl : (backTo pos (starEach [b] X.env)).any (·.1) = false := by rfl) :
    ES X B env os (.Tuple elts kk tpos) (.Call (.Name "zip" p) [a, b] [] pos) (rT2 X.K r s) (bnd w fun x => bnd (w2 x) fun y => ret (x.zip y)) :=
  PI.imp (pi_zip hg hm (pa_cons ha (pa_cons (PE.ex hb) pa_nil he2) hs) hs hpl) fun σ H R ⟨F, P, S, hw, k⟩ => ⟨F, _, S, hw, fun x hx v F1 H1 S1 e1 ⟨p1, vs, q1, h1, z1, ok1⟩ => ⟨x, F1, _, S1, hx, fun y hy u F2 H2 S2 e2 ⟨p2, us, q2, h2, z2, ok2⟩ => by
  subst q1 q2
  refine ⟨p1, p2, vs, us, rfl, SqL.of (S2.fh _ _ (e2 _ _ h1)), SqL.of (S2.fh _ _ h2), ?_⟩
  have l1 := ok1.length
  have l2 := ok2.length
  have lz : (x.zip y).length = min vs.length us.length := by rw [List.length_zip, l1, l2]
  refine k _ hy _ F2 H2 S2 (e1.trans e2) ⟨fun i F3 H3 x1 x2 hi => ?_, fun i F3 H3 u H4 z x1 x2 yy hz => ?_, fun i F3 H3 x1 x2 hi => ?_⟩ (by rw [lz]; exact Nat.le_trans (Nat.min_le_left _ _) z1)
  · rw [lz] at hi
    obtain ⟨v, hv⟩ : ∃ v, vs[i]? = some v := ⟨_, List.getElem?_eq_getElem (by omega)⟩
    obtain ⟨u, hu⟩ : ∃ u, us[i]? = some u := ⟨_, List.getElem?_eq_getElem (by omega)⟩
    exact ⟨vs, us, v, u, SqL.of (x2 _ _ (x1 _ _ (e2 _ _ h1))), SqL.of (x2 _ _ (x1 _ _ h2)), hv, hu⟩
  · obtain ⟨T, v1, v2, ev, hT, eH, y1, y2⟩ := yy
    subst ev eH
    obtain ⟨z1', z2'⟩ := z
    have hz' := List.getElem?_zip_eq_some.mp hz
    obtain ⟨v, hv, rv⟩ := Paired.get ok1 hz'.1
    obtain ⟨u, hu, ru⟩ := Paired.get ok2 hz'.2
    have q1 := y1 vs (SqL.of (x2 _ _ (x1 _ _ (e2 _ _ h1))))
    have q2 := y2 us (SqL.of (x2 _ _ (x1 _ _ h2)))
    rw [q1] at hv
    rw [q2] at hu
    cases hv
    cases hu
    have g : Grow F3 H3 (upd F3 T (.tup [v1, v2])) (upd H3 T (.tup [v1, v2])) := Grow.alloc x2 hT
    exact ⟨_, g, T, v1, v2, rfl, SqT.of upd_same, r.mono ((e2.trans x1).trans g.f) rv, s.mono (x1.trans g.f) ru⟩
  · rw [lz] at hi
    exact ⟨vs, us, SqL.of (x2 _ _ (x1 _ _ (e2 _ _ h1))), SqL.of (x2 _ _ (x1 _ _ h2)), by omega⟩⟩⟩
theorem s_enum {p tpos : Pos} {elts : List Expr} {kk : Nat} {w : W (List α)} (ha : EE X B env os a (rLst r) w) (hm : X.mg "enumerate" = none) (hg : Gl X "enumerate" := by rfl) (hs : starEach [a] X.env = [(false, eval a X.env)] := by rfl)
    (he : starEach [a] X.env = (false, eval a X.env) :: starEach [] X.env := by rfl) :
    ES X B env os (.Tuple elts kk tpos) (.Call (.Name "enumerate" p) [a] [] pos) (rT2 X.K rInt r) (bnd w fun x => ret ((rangeI 0 x.length).zip x)) :=
  PI.imp (pi_enum hg hm (pa_cons ha pa_nil he) hs) fun σ H R ⟨F, P, S, hw, k⟩ => ⟨F, _, S, hw, fun x hx v F1 H1 S1 e1 ⟨p1, vs, q1, h1, z1, ok1⟩ => by
  subst q1
  refine ⟨p1, vs, rfl, SqL.of (S1.fh _ _ h1), ?_⟩
  have l1 := ok1.length
  have lr : (rangeI 0 (x.length : Int)).length = x.length := by rw [rangeI_len]; omega
  have lz : ((rangeI 0 (x.length : Int)).zip x).length = vs.length := by rw [List.length_zip, lr, l1]; exact Nat.min_self _
  refine k _ hx _ F1 H1 S1 e1 ⟨fun i F3 H3 x1 x2 hi => ?_, fun i F3 H3 u H4 z x1 x2 yy hz => ?_, fun i F3 H3 x1 x2 hi => ?_⟩ (by rw [lz]; exact z1)
  · rw [lz] at hi
    obtain ⟨v, hv⟩ : ∃ v, vs[i]? = some v := ⟨_, List.getElem?_eq_getElem hi⟩
    exact ⟨vs, v, SqL.of (x2 _ _ (x1 _ _ h1)), hv⟩
  · obtain ⟨T, v2, ev, hT, eH, y1⟩ := yy
    subst ev eH
    obtain ⟨z1', z2'⟩ := z
    have hz' := List.getElem?_zip_eq_some.mp hz
    obtain ⟨v, hv, rv⟩ := Paired.get ok1 hz'.2
    have q1 := y1 vs (SqL.of (x2 _ _ (x1 _ _ h1)))
    rw [q1] at hv
    cases hv
    have hi : z1' = (i : Int) := by
      have h := hz'.1
      unfold rangeI at h
      rw [List.getElem?_map] at h
      obtain ⟨m, hm, em⟩ := Option.map_eq_some_iff.mp h
      rw [List.getElem?_range (by have := (List.getElem?_eq_some_iff.mp hm).1; simpa using this)] at hm
      have := Option.some.inj hm
      omega
    have g : Grow F3 H3 (upd F3 T (.tup [.int (i : Nat), v2])) (upd H3 T (.tup [.int (i : Nat), v2])) := Grow.alloc x2 hT
    exact ⟨_, g, T, _, v2, rfl, SqT.of upd_same, (by show V.int _ = V.int _; rw [hi]), r.mono (x1.trans g.f) rv⟩
  · rw [lz] at hi
    exact ⟨vs, SqL.of (x2 _ _ (x1 _ _ h1)), hi⟩⟩
end
end Mi

namespace Mi
open PySem L2 Evl

/-! ### targets -/
/-- the target takes x: the slots is are written -/
def TgT (g : TG) {α : Type} (r : Rp α) (is : List Nat) (envT : Env → α → Env) : Prop := ∀ (F H : Hp) (v : V) (x : α) (σ : L2.St) (env : Env) (Q : L2.St → Hp → Prop), r.ok F v x → Ex F H → EnvOk F env σ →
  (∀ σ', EnvOk F (envT env x) σ' → (∀ vs : List Nat, (∀ i ∈ is, i ∈ vs) → wipe σ' vs = wipe σ vs) → Q σ' H) → g v σ H Q
theorem wipe_set {σ : L2.St} {i : Nat} {o : Option V} : ∀ {vs : List Nat}, i ∈ vs → wipe (σ.set i o) vs = wipe σ vs
  | [], h => by simp at h
  | v :: vs, h => by
    show (wipe (σ.set i o) vs).set v none = (wipe σ vs).set v none
    by_cases hm : i ∈ vs
    · rw [wipe_set hm]
    · have e : i = v := by
        rcases List.mem_cons.mp h with e | e
        · exact e
        · exact absurd e hm
      subst e
      have key : ∀ (us : List Nat), i ∉ us → wipe (σ.set i o) us = (wipe σ us).set i o := by
        intro us
        induction us with
        | nil => intro _; rfl
        | cons u us ih =>
          intro hn
          have h1 : i ≠ u := fun z => hn (z ▸ List.mem_cons_self ..)
          have h2 : i ∉ us := fun z => hn (List.mem_cons_of_mem _ z)
          show (wipe (σ.set i o) us).set u none = ((wipe σ us).set u none).set i o
          rw [ih h2, List.set_comm _ _ h1]
      rw [key vs hm, List.set_set]
section
variable {α β γ : Type} {r : Rp α} {s : Rp β} {t : Rp γ} {K : PySem.W.Frag}
theorem tg_name {i : Nat} : TgT (gName i) r [i] (fun env x => env.set i (sv r x)) := fun F H v x σ env Q ok fh he k =>
  k _ (EnvOk.set (s := sv r x) ⟨v, rfl, ok⟩ he) fun vs h => wipe_set (h i (List.mem_cons_self ..))
theorem tg_pair {i j : Nat} : TgT (gTup K 2 (gCons (gName i) (gCons (gName j) gNil))) (rT2 K r s) [i, j] (fun env x => (env.set i (sv r x.1)).set j (sv s x.2)) := fun F H v x σ env Q ⟨a, v1, v2, e1, h1, ok1, ok2⟩ fh he k =>
  ⟨a, [v1, v2], e1, ex_t fh h1, rfl, v1, [v2], rfl, v2, [], rfl, rfl, k _ (EnvOk.set (s := sv s x.2) ⟨v2, rfl, ok2⟩ (EnvOk.set (s := sv r x.1) ⟨v1, rfl, ok1⟩ he)) fun vs h => by
    rw [wipe_set (h j (by simp)), wipe_set (h i (by simp))]⟩
theorem tg_trip {i j l : Nat} : TgT (gTup K 3 (gCons (gName i) (gCons (gName j) (gCons (gName l) gNil)))) (rT3 K r s t) [i, j, l] (fun env x => ((env.set i (sv r x.1)).set j (sv s x.2.1)).set l (sv t x.2.2)) :=
  fun F H v x σ env Q ⟨a, v1, v2, v3, e1, h1, ok1, ok2, ok3⟩ fh he k =>
  ⟨a, [v1, v2, v3], e1, ex_t fh h1, rfl, v1, [v2, v3], rfl, v2, [v3], rfl, v3, [], rfl, rfl, k _ (EnvOk.set (s := sv t x.2.2) ⟨v3, rfl, ok3⟩ (EnvOk.set (s := sv s x.2.1) ⟨v2, rfl, ok2⟩ (EnvOk.set (s := sv r x.1) ⟨v1, rfl, ok1⟩ he))) fun vs h => by
    rw [wipe_set (h l (by simp)), wipe_set (h j (by simp)), wipe_set (h i (by simp))]⟩
end

/-! ### comprehensions -/
def wipeE (env : Env) : List Nat → Env
  | [] => env
  | v :: vs => (wipeE env vs).set v sa
theorem EnvOk.wipe {F : Hp} {env : Env} {σ : L2.St} (h : EnvOk F env σ) : ∀ vs : List Nat, EnvOk F (wipeE env vs) (L2.wipe σ vs)
  | [] => h
  | v :: vs => (EnvOk.wipe h vs).set trivial
theorem drop_cons {α : Type} {xs : List α} {i : Nat} {x : α} (h : xs[i]? = some x) : xs.drop i = x :: xs.drop (i + 1) := by
  obtain ⟨hl, e⟩ := List.getElem?_eq_some_iff.mp h
  rw [List.drop_eq_getElem_cons hl, e]
section
variable {X : Cx} {B : Bs} {env : Env} {os : Os} {α β : Type} {r : Rp α} {s : Rp β} {elt tg iter : Expr} {ifs : List Expr} {scope : Scope} {pos : Pos}
/-- the reading of a comprehension, by the mirror: M a mark, D the list so far ys, x the item -/
theorem lc_read {w : W (List α)} {c : α → W Bool} {f : α → W β} {own : List (Str × Nat)} {g : TG} {tt : TT} {te : TE} {is : List Nat} {envT : Env → α → Env}
    (st : ∀ M D ys x σ H Q, tOfT (B.at M) (envT (wipeE env (own.map (fun p : Str × Nat => p.2))) x) ((D, oLst s ys) :: os) (c x) σ H Q → tt σ H Q)
    (se : ∀ M D ys x σ H Q, tOf (B.at M) (envT (wipeE env (own.map (fun p : Str × Nat => p.2))) x) ((D, oLst s ys) :: os) s (f x) σ H Q → te σ H Q)
    (tgt : TgT g r is envT) (his : ∀ i ∈ is, i ∈ own.map (fun p : Str × Nat => p.2)) {σ : L2.St} {H : Hp} {Q : VK} (h : tNew B env os s (bnd w fun xs => filtW c f xs) σ H Q) :
    tLc (tSrc B env os r w) g tt te (own.map (fun p : Str × Nat => p.2)) σ H Q := by
  obtain ⟨F, P, S, hw, k⟩ := h
  refine ⟨F, _, S, hw, fun xs hxs J F1 H1 S1 e1 wk hz D hD => ?_⟩
  refine ⟨(fun i m H => m = xs.length - i ∧ i ≤ xs.length ∧ ∃ F' ys, ys.length ≤ i ∧ Sit (B.at F1) F' H σ env ((D, oLst s ys) :: os) ∧ filtW c f (xs.drop i) (fun zs => P (ys ++ zs)) B.E0 : Nat → Nat → Hp → Prop), ?_, ?_⟩
  · refine ⟨xs.length, by simp, Nat.zero_le _, F1, [], Nat.zero_le _, ?_, ?_⟩
    · have S1' : Sit (B.at F1) F1 H1 σ env os := ⟨⟨S1.fin.fh, S1.fin.bf, Ex.refl F1, S1.fin.bb, S1.fin.ios, S1.fin.keep⟩, S1.env, S1.ow, S1.nd⟩
      exact S1'.newOwn hD ⟨[], rfl, Nat.zero_le _, .nil⟩
    · rw [List.drop_zero]
      exact hxs
  rintro i m H2 ⟨rfl, hi, F2, ys, hyl, S2, hw2⟩
  have e12 : Ex F1 F2 := S2.fin.mrk
  by_cases hlt : i < xs.length
  · obtain ⟨x, hx⟩ : ∃ x, xs[i]? = some x := ⟨_, List.getElem?_eq_getElem hlt⟩
    refine .inr ⟨wk.go i F2 H2 e12 S2.fh hlt, (fun H' => ∃ F' ys, ys.length ≤ i + 1 ∧ Sit (B.at F1) F' H' σ env ((D, oLst s ys) :: os) ∧ filtW c f (xs.drop (i + 1)) (fun zs => P (ys ++ zs)) B.E0 : Hp → Prop), ?_, fun v H3 y => ?_⟩
    · intro H' h
      exact ⟨xs.length - (i + 1), by omega, rfl, hlt, h⟩
    obtain ⟨F3, gr, rv⟩ := wk.yld i F2 H2 v H3 x e12 S2.fh y hx
    have S3 : Sit (B.at F1) F3 H3 σ env ((D, oLst s ys) :: os) := S2.grow gr
    refine tgt F3 H3 v x (wipe σ (own.map (fun p : Str × Nat => p.2))) (wipeE env (own.map (fun p : Str × Nat => p.2))) _ rv S3.fh (S3.env.wipe _) fun σ' hσ hwipe => ⟨?_, ?_⟩
    · rw [hwipe _ his]
      have ww : ∀ (τ : L2.St) (vs : List Nat), wipe (wipe τ vs) vs = wipe τ vs := by
        intro τ vs
        have key : ∀ (us vs : List Nat), (∀ u ∈ us, u ∈ vs) → wipe (wipe τ us) vs = wipe τ vs := by
          intro us
          induction us with
          | nil => intro vs _; rfl
          | cons u us ih =>
            intro vs h
            show wipe ((wipe τ us).set u none) vs = wipe τ vs
            rw [wipe_set (h u (List.mem_cons_self ..)), ih vs fun z hz => h z (List.mem_cons_of_mem _ hz)]
        exact key vs vs fun _ h => h
      exact ww σ _
    · rw [drop_cons hx] at hw2
      have hw3 : c x (fun b => (if b = true then bnd (f x) fun y => bnd (filtW c f (xs.drop (i + 1))) fun ys => ret (y :: ys) else filtW c f (xs.drop (i + 1))) (fun zs => P (ys ++ zs)) B.E0) B.E0 := hw2
      have St : Sit (B.at F1) F3 H3 σ' (envT (wipeE env (own.map (fun p : Str × Nat => p.2))) x) ((D, oLst s ys) :: os) := ⟨S3.fin, hσ, S3.ow, S3.nd⟩
      refine st F1 D ys x σ' H3 _ ⟨F3, _, St, hw3, fun b hb F4 H4 S4 e34 => ?_⟩
      cases b with
      | false => exact ⟨F4, ys, by omega, ⟨S4.fin, S3.env.mono e34, S4.ow, S4.nd⟩, hb⟩
      | true =>
        have hb' : f x (fun y => filtW c f (xs.drop (i + 1)) (fun zs => P (ys ++ (y :: zs))) B.E0) B.E0 := hb
        refine se F1 D ys x σ' H4 _ ⟨F4, _, S4, hb', fun z hz v' F5 H5 S5 e45 okz => ?_⟩
        obtain ⟨hF5, ⟨o, ho, vs, eo, hl, pr⟩, hB5⟩ := S5.ow (D, oLst s ys) (List.mem_cons_self ..)
        subst eo
        have hlen : vs.length < sizeLine := by
          have := pr.length
          omega
        refine ⟨vs, ho, hlen, F5, ys ++ [z], by rw [List.length_append, List.length_singleton]; omega, ?_, ?_⟩
        · have S6 := S5.change (j := 0) (ow' := oLst s (ys ++ [z])) (o' := .lst (vs ++ [v'])) rfl ⟨vs ++ [v'], rfl, by rw [List.length_append, List.length_singleton]; omega, Paired.app pr (.cons okz .nil)⟩
          exact ⟨S6.fin, (S3.env.mono e34).mono e45, S6.ow, S6.nd⟩
        · have q : (fun zs => P (ys ++ [z] ++ zs)) = fun zs => P (ys ++ (z :: zs)) := by
            funext zs
            rw [List.append_assoc]
            rfl
          show filtW c f (xs.drop (i + 1)) (fun zs => P (ys ++ [z] ++ zs)) B.E0
          rw [q]
          exact hz
  · have e : i = xs.length := by omega
    subst e
    refine .inl ⟨wk.stop _ F2 H2 e12 S2.fh (Nat.le_refl _), ?_⟩
    rw [List.drop_length] at hw2
    have hp : P (ys ++ []) := hw2
    rw [List.append_nil] at hp
    exact k ys hp D F2 H2 ⟨⟨S2.fin.fh, S2.fin.bf, S1.fin.mrk.trans e12, S2.fin.bb, S2.fin.ios, S2.fin.keep⟩, S2.env, S2.ow, S2.nd⟩ (e1.trans e12)
theorem filtW_true {α β : Type} {f : α → W β} : ∀ xs : List α, filtW (fun _ => ret true) f xs = mapW f xs
  | [] => rfl
  | x :: xs => by
    show bnd (f x) _ = bnd (f x) _
    congr 1
    funext y
    rw [filtW_true xs]
/-- an item's place in a block -/
abbrev envI (env : Env) (own : List (Str × Nat)) {α : Type} (envT : Env → α → Env) (x : α) : Env := envT (wipeE env (own.map (fun p : Str × Nat => p.2))) x
abbrev teC (B : Bs) (env : Env) (os : Os) (own : List (Str × Nat)) {α β : Type} (envT : Env → α → Env) (s : Rp β) (f : α → W β) : TE := fun σ H Q => ∃ p : Hp × Addr × List β × α, tOf (B.at p.1) (envI env own envT p.2.2.2) ((p.2.1, oLst s p.2.2.1) :: os) s (f p.2.2.2) σ H Q
abbrev ttC (B : Bs) (env : Env) (os : Os) (own : List (Str × Nat)) {α β : Type} (envT : Env → α → Env) (s : Rp β) (c : α → W Bool) : TT := fun σ H Q => ∃ p : Hp × Addr × List β × α, tOfT (B.at p.1) (envI env own envT p.2.2.2) ((p.2.1, oLst s p.2.2.1) :: os) (c p.2.2.2) σ H Q
section
variable {w : W (List α)} {c : α → W Bool} {f : α → W β} {own : List (Str × Nat)} {g : TG} {is : List Nat} {envT : Env → α → Env} {test : Expr}
theorem lc_readM (tgt : TgT g r is envT) (his : ∀ i ∈ is, i ∈ own.map (fun p : Str × Nat => p.2)) {σ : L2.St} {H : Hp} {Q : VK} (h : tNew B env os s (bnd w fun xs => mapW f xs) σ H Q) :
    tLc (tSrc B env os r w) g tYes (teC B env os own envT s f) (own.map (fun p : Str × Nat => p.2)) σ H Q := by
  have e : (fun xs => mapW f xs) = fun xs => filtW (fun _ => ret true) f xs := by
    funext xs
    exact (filtW_true xs).symm
  rw [e] at h
  exact lc_read (own := own) (fun M D ys x σ H Q ⟨F, P, S, hw, k⟩ => k true hw F H S (Ex.refl F)) (fun M D ys x σ H Q h => ⟨(M, D, ys, x), h⟩) tgt his h
theorem lc_readF (tgt : TgT g r is envT) (his : ∀ i ∈ is, i ∈ own.map (fun p : Str × Nat => p.2)) {σ : L2.St} {H : Hp} {Q : VK} (h : tNew B env os s (bnd w fun xs => filtW c f xs) σ H Q) :
    tLc (tSrc B env os r w) g (ttC B env os own envT s c) (teC B env os own envT s f) (own.map (fun p : Str × Nat => p.2)) σ H Q :=
  lc_read (own := own) (fun M D ys x σ H Q h => ⟨(M, D, ys, x), h⟩) (fun M D ys x σ H Q h => ⟨(M, D, ys, x), h⟩) tgt his h
theorem ex_teC {Y : Cx} (h : ∀ (M : Hp) (D : Addr) (ys : List β) (x : α), EE Y (B.at M) (envI env own envT x) ((D, oLst s ys) :: os) elt s (f x)) : PE Y elt (teC B env os own envT s f) :=
  ⟨fun pins s σ H Q I ⟨p, q⟩ => (h p.1 p.2.1 p.2.2.1 p.2.2.2).run pins s σ H Q I q⟩
theorem ex_ttC {Y : Cx} (h : ∀ (M : Hp) (D : Addr) (ys : List β) (x : α), ET Y (B.at M) (envI env own envT x) ((D, oLst s ys) :: os) test (c x)) : PT Y test (ttC B env os own envT s c) :=
  ⟨fun pins s σ H Q I ⟨p, q⟩ => (h p.1 p.2.1 p.2.2.1 p.2.2.2).run pins s σ H Q I q⟩
variable (hc : X.calm = true) (hN : X.N.Nodup) (src : ES X B env os tg iter r w) (ok : BlkOk X.N X.env.scope scope own) (tgt : TgT g r is envT)
  (hg : ∀ (s : Shared) (H : Hp) (C : Addr) (cl : List (Str × Addr)) (fp : List Addr), PG (X.blk s H scope (compEnvC scope cl C X.env) fp) tg g) (his : ∀ i ∈ is, i ∈ own.map (fun p : Str × Nat => p.2))
  (ht : ∀ (s' : Shared) (H : Hp) (C : Addr) (cl : List (Str × Addr)) (fp : List Addr) (M : Hp) (D : Addr) (ys : List β) (x : α), ET (X.blk s' H scope (compEnvC scope cl C X.env) fp) (B.at M) (envI env own envT x) ((D, oLst s ys) :: os) test (c x))
  (he : ∀ (s' : Shared) (H : Hp) (C : Addr) (cl : List (Str × Addr)) (fp : List Addr) (M : Hp) (D : Addr) (ys : List β) (x : α), EE (X.blk s' H scope (compEnvC scope cl C X.env) fp) (B.at M) (envI env own envT x) ((D, oLst s ys) :: os) elt s (f x))
include hc hN src ok tgt hg his he
theorem n_comp (hs : ∀ x, foldedSetIterable iter X.env x = pure x := by intro _; rfl) : EN X B env os (.ListComp elt [⟨tg, iter, [], 0⟩] scope pos) s (bnd w fun xs => mapW f xs) :=
  PE.imp (pe_lc hc hN src ok hg (fun _ _ _ _ _ => pts_nil) (fun s' H C cl fp => ex_teC (he s' H C cl fp)) hs) fun σ H Q h => lc_readM tgt his h
/-- name = [..] where the name is a plain local of the same line -/
theorem c_comp {i : Nat} {y : Str} {py spos : Pos} (hy : X.N[i]? = some y) (hyl : X.env.scope.names.lookup y = some .local) (hsw : swapsWith (.ListComp elt [⟨tg, iter, [], 0⟩] scope pos) (some (.Name y py)) spos.line X.env = pure true)
    (hs : ∀ x, foldedSetIterable iter X.env x = pure x := by intro _; rfl) : PS X (.Assign [.Name y py] (.ListComp elt [⟨tg, iter, [], 0⟩] scope pos) spos) (tAsg (tNew B env os s (bnd w fun xs => mapW f xs)) (gName i)) := by
  have h := ps_setLc (pos := pos) (spos := spos) (py := py) hc hN hy hyl hsw src ok hg (fun _ _ _ _ _ => pts_nil) (fun s' H C cl fp => ex_teC (he s' H C cl fp)) hs
  exact ⟨fun pins s σ H D I q => h.run pins s σ H D I (lc_readM tgt his q)⟩
include ht
theorem n_compF (hs : ∀ x, foldedSetIterable iter X.env x = pure x := by intro _; rfl) : EN X B env os (.ListComp elt [⟨tg, iter, [test], 0⟩] scope pos) s (bnd w fun xs => filtW c f xs) :=
  PE.imp (pe_lc hc hN src ok hg (fun s' H C cl fp => pts_one (ex_ttC (ht s' H C cl fp))) (fun s' H C cl fp => ex_teC (he s' H C cl fp)) hs)
    fun σ H Q h => lc_readF tgt his h
theorem c_compF {i : Nat} {y : Str} {py spos : Pos} (hy : X.N[i]? = some y) (hyl : X.env.scope.names.lookup y = some .local) (hsw : swapsWith (.ListComp elt [⟨tg, iter, [test], 0⟩] scope pos) (some (.Name y py)) spos.line X.env = pure true)
    (hs : ∀ x, foldedSetIterable iter X.env x = pure x := by intro _; rfl) : PS X (.Assign [.Name y py] (.ListComp elt [⟨tg, iter, [test], 0⟩] scope pos) spos) (tAsg (tNew B env os s (bnd w fun xs => filtW c f xs)) (gName i)) := by
  have h := ps_setLc (pos := pos) (spos := spos) (py := py) hc hN hy hyl hsw src ok hg (fun s' H C cl fp => pts_one (ex_ttC (ht s' H C cl fp))) (fun s' H C cl fp => ex_teC (he s' H C cl fp)) hs
  exact ⟨fun pins s σ H D I q => h.run pins s σ H D I (lc_readF tgt his q)⟩
end
end
end Mi

namespace Mi
open PySem L2 Evl

/-! ### for -/
section
variable {X : Cx} {B : Bs} {env : Env} {os : Os} {α β ρ S : Type} {r : Rp α} {tg iter : Expr} {body rest : List Stmt} {pos : Pos} {post : Post β}
theorem Sit.at {F H : Hp} {σ : L2.St} (s : Sit B F H σ env os) (M : Hp) (h : Ex M F) : Sit (B.at M) F H σ env os := ⟨⟨s.fin.fh, s.fin.bf, h, s.fin.bb, s.fin.ios, s.fin.keep⟩, s.env, s.ow, s.nd⟩
theorem Sit.un {F H M : Hp} {σ : L2.St} (s : Sit (B.at M) F H σ env os) (h : Ex B.M M) : Sit B F H σ env os := ⟨⟨s.fin.fh, s.fin.bf, h.trans s.fin.mrk, s.fin.bb, s.fin.ios, s.fin.keep⟩, s.env, s.ow, s.nd⟩
theorem Fn.un {F H M : Hp} (s : Fn (B.at M) F H) (h : Ex B.M M) : Fn B F H := ⟨s.fh, s.bf, h.trans s.mrk, s.bb, s.ios, s.keep⟩
/-- what comes behind a loop -/
theorem b_forG {w : W (List α)} {f : S → α → W (Fl S ρ)} {w3 : Fl S ρ → W β} {g : TG} {is : List Nat} {envT : Env → α → Env} {osR : Os} {ro : Rp ρ} (inj : ρ → β) (envS : S → Env) (osS : S → Os) (s0 : S) (hc : X.calm = true) (hp : PassesOwn (model X.prog X.w) X.A X.env X.xe)
    (src : ES X B env os tg iter r w) (tgt : TgT g r is envT) (hg : PG X tg g)
    (hb : ∀ M s x, BG X (B.at M) (envT (envS s) x) (osS s) body (pFl (B.at M) osR ro envS osS) (f s x))
    (hr : ∀ s, BG X B (envS s) (osS s) rest post (w3 (.nx s))) (hrt : ∀ x, w3 (.rt x) = ret (inj x)) (hpo : RtOk B post osR ro inj)
    (le0 : EnvLe env (envS s0)) (os0 : os = osS s0) (hs : ∀ x, foldedSetIterable iter X.env x = pure x := by intro _; rfl) :
    BG X B env os (.For tg iter body [] pos :: rest) post (bnd w fun xs => bnd (forF f s0 xs) w3) := by
  have hb' : PSs X body (fun D σ H => ∃ p : Hp × S × α, tBG (B.at p.1) (envT (envS p.2.1) p.2.2) (osS p.2.1) (pFl (B.at p.1) osR ro envS osS) (f p.2.1 p.2.2) D σ H) := PSs.ex fun p => hb p.1 p.2.1 p.2.2
  have hr' : PSs X rest (fun D σ H => ∃ s, tBG B (envS s) (osS s) post (w3 (.nx s)) D σ H) := PSs.ex hr
  refine PSs.imp (pss_cons (ps_for hp hc src hg hb' hs) hr') fun D σ H ⟨F, P, S0, hw, k⟩ => ⟨F, _, S0, hw, fun xs hxs J F1 H1 S1 e1 wk hz => ?_⟩
  refine ⟨(fun i m σ H => m = xs.length - i ∧ i ≤ xs.length ∧ ∃ F' s, Sit (B.at F1) F' H σ (envS s) (osS s) ∧ forF f s (xs.drop i) (fun q => w3 q P B.E0) B.E0 : Nat → Nat → L2.St → Hp → Prop), ?_, ?_⟩
  · refine ⟨xs.length, by simp, Nat.zero_le _, F1, s0, ?_, ?_⟩
    · subst os0
      exact (S1.at F1 (Ex.refl F1)).le le0
    · rw [List.drop_zero]
      exact hxs
  rintro i m σ2 H2 ⟨rfl, hi, F2, s, S2, hw2⟩
  have e12 : Ex F1 F2 := S2.fin.mrk
  by_cases hlt : i < xs.length
  · obtain ⟨x, hx⟩ : ∃ x, xs[i]? = some x := ⟨_, List.getElem?_eq_getElem hlt⟩
    refine .inr ⟨wk.go i F2 H2 e12 S2.fh hlt, (fun σ' H' => ∃ F' s, Sit (B.at F1) F' H' σ' (envS s) (osS s) ∧ forF f s (xs.drop (i + 1)) (fun q => w3 q P B.E0) B.E0 : L2.St → Hp → Prop), ?_, fun v H3 y => ?_⟩
    · intro σ' H' h
      exact ⟨xs.length - (i + 1), by omega, rfl, hlt, h⟩
    obtain ⟨F3, gr, rv⟩ := wk.yld i F2 H2 v H3 x e12 S2.fh y hx
    have S3 := S2.grow gr
    refine tgt F3 H3 v x σ2 (envS s) _ rv S3.fh S3.env fun σ' hσ _ => ?_
    rw [drop_cons hx] at hw2
    have hw3 : f s x (fun q => flGo (fun s' => forF f s' (xs.drop (i + 1))) q (fun q => w3 q P B.E0) B.E0) B.E0 := hw2
    refine ⟨(F1, s, x), F3, _, ⟨S3.fin, hσ, S3.ow, S3.nd⟩, hw3, fun q hq => ?_⟩
    cases q with
    | nx s' => exact fun σ4 F4 H4 S4 => ⟨F4, s', S4, hq⟩
    | ct s' => exact fun σ4 F4 H4 S4 => ⟨F4, s', S4, hq⟩
    | bk s' => exact fun σ4 F4 H4 S4 => ⟨s', F4, P, S4.un S1.fin.mrk, hq, k⟩
    | rt z =>
      have hq' : w3 (.rt z) P B.E0 := hq
      rw [hrt z] at hq'
      exact fun v5 F5 H5 fn ow okv => hpo.ok D z (k _ hq') v5 F5 H5 (fn.un S1.fin.mrk) ow okv
  · have e : i = xs.length := by omega
    subst e
    rw [List.drop_length] at hw2
    have hq : w3 (.nx s) P B.E0 := hw2
    exact .inl ⟨wk.stop _ F2 H2 e12 S2.fh (Nat.le_refl _), s, F2, P, S2.un S1.fin.mrk, hq, k⟩
/-- a loop that is never left early -/
theorem b_for {w : W (List α)} {f : S → α → W S} {w3 : S → W β} {g : TG} {is : List Nat} {envT : Env → α → Env} (envS : S → Env) (osS : S → Os) (s0 : S) (hc : X.calm = true) (hp : PassesOwn (model X.prog X.w) X.A X.env X.xe)
    (src : ES X B env os tg iter r w) (tgt : TgT g r is envT) (hg : PG X tg g)
    (hb : ∀ M s x, BG X (B.at M) (envT (envS s) x) (osS s) body (pNx (B.at M) envS osS) (f s x))
    (hr : ∀ s, BG X B (envS s) (osS s) rest post (w3 s))
    (le0 : EnvLe env (envS s0)) (os0 : os = osS s0) (hs : ∀ x, foldedSetIterable iter X.env x = pure x := by intro _; rfl) :
    BG X B env os (.For tg iter body [] pos :: rest) post (bnd w fun xs => bnd (forW f s0 xs) w3) := by
  have hb' : PSs X body (fun D σ H => ∃ p : Hp × S × α, tBG (B.at p.1) (envT (envS p.2.1) p.2.2) (osS p.2.1) (pNx (B.at p.1) envS osS) (f p.2.1 p.2.2) D σ H) := PSs.ex fun p => hb p.1 p.2.1 p.2.2
  have hr' : PSs X rest (fun D σ H => ∃ s, tBG B (envS s) (osS s) post (w3 s) D σ H) := PSs.ex hr
  refine PSs.imp (pss_cons (ps_for hp hc src hg hb' hs) hr') fun D σ H ⟨F, P, S0, hw, k⟩ => ⟨F, _, S0, hw, fun xs hxs J F1 H1 S1 e1 wk hz => ?_⟩
  refine ⟨(fun i m σ H => m = xs.length - i ∧ i ≤ xs.length ∧ ∃ F' s, Sit (B.at F1) F' H σ (envS s) (osS s) ∧ forW f s (xs.drop i) (fun q => w3 q P B.E0) B.E0 : Nat → Nat → L2.St → Hp → Prop), ?_, ?_⟩
  · refine ⟨xs.length, by simp, Nat.zero_le _, F1, s0, ?_, ?_⟩
    · subst os0
      exact (S1.at F1 (Ex.refl F1)).le le0
    · rw [List.drop_zero]
      exact hxs
  rintro i m σ2 H2 ⟨rfl, hi, F2, s, S2, hw2⟩
  have e12 : Ex F1 F2 := S2.fin.mrk
  by_cases hlt : i < xs.length
  · obtain ⟨x, hx⟩ : ∃ x, xs[i]? = some x := ⟨_, List.getElem?_eq_getElem hlt⟩
    refine .inr ⟨wk.go i F2 H2 e12 S2.fh hlt, (fun σ' H' => ∃ F' s, Sit (B.at F1) F' H' σ' (envS s) (osS s) ∧ forW f s (xs.drop (i + 1)) (fun q => w3 q P B.E0) B.E0 : L2.St → Hp → Prop), ?_, fun v H3 y => ?_⟩
    · intro σ' H' h
      exact ⟨xs.length - (i + 1), by omega, rfl, hlt, h⟩
    obtain ⟨F3, gr, rv⟩ := wk.yld i F2 H2 v H3 x e12 S2.fh y hx
    have S3 := S2.grow gr
    refine tgt F3 H3 v x σ2 (envS s) _ rv S3.fh S3.env fun σ' hσ _ => ?_
    rw [drop_cons hx] at hw2
    exact ⟨(F1, s, x), F3, _, ⟨S3.fin, hσ, S3.ow, S3.nd⟩, hw2, fun s' hq σ4 F4 H4 S4 => ⟨F4, s', S4, hq⟩⟩
  · have e : i = xs.length := by omega
    subst e
    rw [List.drop_length] at hw2
    exact .inl ⟨wk.stop _ F2 H2 e12 S2.fh (Nat.le_refl _), s, F2, P, S2.un S1.fin.mrk, hw2, k⟩
end

/-! ### while -/
/-- c and b until c is False: there is a number of turns -/
def whileN {S : Type} (c : S → W Bool) (b : S → W S) : Nat → S → W S
  | 0, _ => fail
  | n + 1, s => bnd (c s) fun t => if t = true then bnd (b s) (whileN c b n) else ret s
def whileW {S : Type} (c : S → W Bool) (b : S → W S) (s : S) : W S := fun P E => ∃ n, whileN c b n s P E
section
variable {X : Cx} {B : Bs} {env : Env} {os : Os} {β S : Type} {test : Expr} {body rest : List Stmt} {pos : Pos} {post : Post β}
theorem b_while {c : S → W Bool} {f : S → W S} {w3 : S → W β} (envS : S → Env) (osS : S → Os) (s0 : S) (hp : PassesOwn (model X.prog X.w) X.A X.env X.xe)
    (ht : ∀ s, ET X B (envS s) (osS s) test (c s)) (hb : ∀ s, BG X B (envS s) (osS s) body (pNx B envS osS) (f s)) (hr : ∀ s, BG X B (envS s) (osS s) rest post (w3 s))
    (le0 : EnvLe env (envS s0)) (os0 : os = osS s0) : BG X B env os (.While test body [] pos :: rest) post (bnd (whileW c f s0) w3) := by
  have ht' : PT X test (fun σ H Q => ∃ s, tOfT B (envS s) (osS s) (c s) σ H Q) := ⟨fun pins s σ H Q I ⟨i, q⟩ => (ht i).run pins s σ H Q I q⟩
  have hb' : PSs X body (fun D σ H => ∃ s, tBG B (envS s) (osS s) (pNx B envS osS) (f s) D σ H) := PSs.ex hb
  have hr' : PSs X rest (fun D σ H => ∃ s, tBG B (envS s) (osS s) post (w3 s) D σ H) := PSs.ex hr
  refine PSs.imp (pss_cons (ps_while hp ht' hb') hr') fun D σ H ⟨F, P, S0, ⟨n, hw⟩, k⟩ => ?_
  refine ⟨(fun m σ H => ∃ F' s, Sit B F' H σ (envS s) (osS s) ∧ whileN c f m s (fun q => w3 q P B.E0) B.E0 : Nat → L2.St → Hp → Prop), ⟨n, F, s0, ?_, hw⟩, ?_⟩
  · subst os0
    exact S0.le le0
  rintro m σ2 H2 ⟨F2, s, S2, hw2⟩
  cases m with
  | zero => exact False.elim hw2
  | succ m =>
    have hw3 : c s (fun t => (if t = true then bnd (f s) (whileN c f m) else ret s : W S) (fun q => w3 q P B.E0) B.E0) B.E0 := hw2
    refine ⟨s, F2, _, S2, hw3, fun t hq F3 H3 S3 e3 => ?_⟩
    cases t with
    | false => exact ⟨s, F3, P, S3, hq, k⟩
    | true =>
      refine ⟨(fun σ' H' => ∃ F' s, Sit B F' H' σ' (envS s) (osS s) ∧ whileN c f m s (fun q => w3 q P B.E0) B.E0 : L2.St → Hp → Prop), fun σ' H' h => ⟨m, Nat.lt_succ_self m, h⟩, ?_⟩
      exact ⟨s, F3, _, S3, hq, fun s' hs' σ4 F4 H4 S4 => ⟨F4, s', S4, hs'⟩⟩
end
end Mi

namespace Mi
open PySem L2 Evl

/-! ### more new lists -/
section
variable {X : Cx} {B : Bs} {env : Env} {os : Os} {pos : Pos} {α β γ : Type} {r : Rp α} {s : Rp β} {t : Rp γ} {e a b c : Expr}
def catL (xs ys : List α) : W (List α) := chk (xs.length + ys.length ≤ sizeLine) (ret (xs ++ ys))
theorem n_cat {w1 : W (List α)} {w2 : List α → W (List α)} (ha : EE X B env os a (rLst r) w1) (hb : ∀ x, EE X B env os b (rLst r) (w2 x)) : EN X B env os (.BinOp a .Add b pos) r (bnd w1 fun x => bnd (w2 x) fun y => catL x y) :=
  PE.imp (pe_op op_cat ha (PE.ex hb)) fun σ H Q ⟨F, P, S, hw, k⟩ => ⟨F, _, S, hw, fun x hx v F1 H1 S1 e1 ⟨p1, vs, q1, h1, z1, ok1⟩ => ⟨x, F1, _, S1, hx, fun y ⟨c, hy⟩ u F2 H2 S2 e2 ⟨p2, us, q2, h2, z2, ok2⟩ => by
  have hl : vs.length + us.length ≤ sizeLine := by rw [ok1.length, ok2.length]; exact c
  exact ⟨p1, p2, vs, us, q1, q2, S2.fh _ _ (e2 _ _ h1), S2.fh _ _ h2, hl, fun p hp => k _ hy p F2 _ (S2.newOwn hp ⟨_, rfl, by rw [List.length_append]; exact hl, Paired.app (Paired.imp (fun _ _ => r.mono e2) ok1) ok2⟩) (e1.trans e2)⟩⟩⟩
def repL (xs : List α) (k : Int) : W (List α) := chk (-(2 ^ 63) ≤ k ∧ k < 2 ^ 63 ∧ xs.length * k.toNat ≤ sizeLine) (ret (List.replicate k.toNat xs).flatten)
theorem flat_paired {R : V → α → Prop} {vs : List V} {xs : List α} (h : Paired R vs xs) : ∀ n : Nat, Paired R (List.replicate n vs).flatten (List.replicate n xs).flatten
  | 0 => .nil
  | n + 1 => by
    rw [List.replicate_succ, List.replicate_succ, List.flatten_cons, List.flatten_cons]
    exact Paired.app h (flat_paired h n)
theorem n_rep {w1 : W (List α)} {w2 : List α → W Int} (ha : EE X B env os a (rLst r) w1) (hb : ∀ x, EE X B env os b rInt (w2 x)) : EN X B env os (.BinOp a .Mult b pos) r (bnd w1 fun x => bnd (w2 x) fun k => repL x k) :=
  PE.imp (pe_op op_rep ha (PE.ex hb)) fun σ H Q ⟨F, P, S, hw, k⟩ => ⟨F, _, S, hw, fun x hx v F1 H1 S1 e1 ⟨p1, vs, q1, h1, z1, ok1⟩ => ⟨x, F1, _, S1, hx, fun y ⟨⟨c1, c2, c3⟩, hy⟩ u F2 H2 S2 e2 ok2 => by
  have hl : vs.length * y.toNat ≤ sizeLine := by rw [ok1.length]; exact c3
  exact ⟨p1, y, vs, q1, ok2, S2.fh _ _ (e2 _ _ h1), c1, c2, hl, fun p hp => k _ hy p F2 _ (S2.newOwn hp ⟨_, rfl, by
    rw [List.length_flatten, List.map_replicate, List.sum_replicate_nat, Nat.mul_comm]; exact hl, flat_paired (Paired.imp (fun _ _ => r.mono e2) ok1) y.toNat⟩) (e1.trans e2)⟩⟩⟩
def cutL (xs : List α) (lo hi : Option Int) : List α := (xs.drop (HT.sIx xs.length 0 lo)).take (HT.sIx xs.length xs.length hi - HT.sIx xs.length 0 lo)
theorem cut_paired {R : V → α → Prop} {vs : List V} {xs : List α} (h : Paired R vs xs) (lo hi : Option Int) : Paired R (cutV vs lo hi) (cutL xs lo hi) := by
  unfold cutV cutL
  rw [h.length]
  exact Paired.takeR _ (Paired.dropR _ h)
/-- a part of a slice -/
def tOpt (B : Bs) (env : Env) (os : Os) (w : W (Option Int)) : TO := fun σ H Q => ∃ F P, Sit B F H σ env os ∧ w P B.E0 ∧ ∀ x, P x → ∀ F' H', Sit B F' H' σ env os → Ex F F' → Q x H'
def EO (X : Cx) (B : Bs) (env : Env) (os : Os) (e : Option Expr) (w : W (Option Int)) : Prop := PO X e (tOpt B env os w)
theorem PO.imp {e : Option Expr} {t t' : TO} (h : PO X e t) (i : ∀ σ H Q, t' σ H Q → t σ H Q) : PO X e t' := ⟨fun pins s σ H Q I q => h.run pins s σ H Q I (i _ _ _ q)⟩
theorem PO.ex {e : Option Expr} {ι : Type} {t : ι → TO} (h : ∀ i, PO X e (t i)) : PO X e (fun σ H Q => ∃ i, t i σ H Q) := ⟨fun pins s σ H Q I ⟨i, q⟩ => (h i).run pins s σ H Q I q⟩
theorem o_none : EO X B env os none (ret none) := PO.imp po_none fun σ H Q ⟨F, P, S, hw, k⟩ => k none hw F H S (Ex.refl F)
theorem o_some {w : W Int} (h : EE X B env os e rInt w) : EO X B env os (some e) (bnd w fun i => ret (some i)) := PO.imp (po_some h) fun σ H Q ⟨F, P, S, hw, k⟩ => ⟨F, _, S, hw, fun x hx v F1 H1 S1 e1 ok => ⟨x, ok, k _ hx F1 H1 S1 e1⟩⟩
theorem n_slice {w1 : W (List α)} {w2 w3 : W (Option Int)} {lo hi : Option Expr} {p2 : Pos} (ha : EE X B env os a (rLst r) w1) (hl : EO X B env os lo w2) (hh : EO X B env os hi w3) :
    EN X B env os (.Subscript a (.Slice lo hi none p2) pos) r (bnd w1 fun x => bnd w2 fun l => bnd w3 fun h => ret (cutL x l h)) :=
  PE.imp (pe_slice sl_list ha hl hh) fun σ H Q ⟨F, P, S, hw, k⟩ => ⟨F, _, S, hw, fun x hx v F1 H1 S1 e1 ⟨p1, vs, q1, h1, z1, ok1⟩ => ⟨F1, _, S1, hx, fun l hl' F2 H2 S2 e2 => ⟨F2, _, S2, hl', fun h hh' F3 H3 S3 e3 => by
  exact ⟨p1, vs, q1, SqL.of (S3.fh _ _ (e3 _ _ (e2 _ _ h1))), fun p hp => k _ hh' p F3 _ (S3.newOwn hp ⟨_, rfl, Nat.le_trans (cutV_length vs l h) z1, cut_paired (Paired.imp (fun _ _ => r.mono (e2.trans e3)) ok1) l h⟩) ((e1.trans e2).trans e3)⟩⟩⟩⟩
theorem e_sliceS {w1 : W Str} {w2 w3 : W (Option Int)} {lo hi : Option Expr} {p2 : Pos} (ha : EE X B env os a rStr w1) (hl : EO X B env os lo w2) (hh : EO X B env os hi w3) :
    EE X B env os (.Subscript a (.Slice lo hi none p2) pos) rStr (bnd w1 fun x => bnd w2 fun l => bnd w3 fun h => ret (cutS x l h)) :=
  PE.imp (pe_slice sl_str ha hl hh) fun σ H Q ⟨F, P, S, hw, k⟩ => ⟨F, _, S, hw, fun x hx v F1 H1 S1 e1 ⟨q1, z1, z2⟩ => ⟨F1, _, S1, hx, fun l hl' F2 H2 S2 e2 => ⟨F2, _, S2, hl', fun h hh' F3 H3 S3 e3 => by
  refine ⟨x, q1, z1, k _ hh' _ F3 H3 S3 ((e1.trans e2).trans e3) ⟨rfl, ?_, ?_⟩⟩
  rotate_left
  · unfold PyData.strOk at z2 ⊢
    unfold cutS
    rw [Array.all_eq_true'] at z2
    rw [← Array.all_toList, List.all_eq_true]
    intro y hy
    exact z2 y (Array.mem_toList_iff.mp (List.mem_of_mem_drop (List.mem_of_mem_take hy)))
  unfold cutS Str.length
  rw [List.size_toArray, List.length_take, List.length_drop]
  have z1' : x.cps.toList.length ≤ sizeLine := z1
  omega⟩⟩⟩
/-- list(xs), of a list or a tuple -/
theorem n_listL {w : W (List α)} {p : Pos} (ha : EE X B env os a (rLst r) w) (hm : X.mg "list" = none) (hg : Gl X "list" := by rfl) (he : starEach [a] X.env = (false, eval a X.env) :: starEach [] X.env := by rfl) (hpl : (backTo pos (starEach [] X.env)).any (·.1) = false := by rfl) :
    EN X B env os (.Call (.Name "list" p) [a] [] pos) r w := PE.imp (pe_callTy call_list_of hg hm (by decide +kernel) (pa_cons ha pa_nil he) (by decide) (by decide) he hpl) fun σ H Q ⟨F, P, S, hw, k⟩ => ⟨F, _, S, hw, fun x hx v F1 H1 S1 e1 ⟨p1, vs, q1, h1, z1, ok1⟩ =>
  ⟨p1, vs, by rw [q1], .inl (SqL.of (S1.fh _ _ h1)), fun l hl => k x hx l F1 _ (S1.newOwn hl ⟨vs, rfl, z1, ok1⟩) e1⟩⟩
theorem n_listT {w : W (List α)} {p : Pos} (ha : EE X B env os a (rTup X.K r) w) (hm : X.mg "list" = none) (hg : Gl X "list" := by rfl) (he : starEach [a] X.env = (false, eval a X.env) :: starEach [] X.env := by rfl) (hpl : (backTo pos (starEach [] X.env)).any (·.1) = false := by rfl) :
    EN X B env os (.Call (.Name "list" p) [a] [] pos) r w := PE.imp (pe_callTy call_list_of hg hm (by decide +kernel) (pa_cons ha pa_nil he) (by decide) (by decide) he hpl) fun σ H Q ⟨F, P, S, hw, k⟩ => ⟨F, _, S, hw, fun x hx v F1 H1 S1 e1 ⟨p1, vs, q1, h1, z1, ok1⟩ =>
  ⟨p1, vs, by rw [q1], .inr (ex_t S1.fh h1), fun l hl => k x hx l F1 _ (S1.newOwn hl ⟨vs, rfl, z1, ok1⟩) e1⟩⟩
/-- tuple(xs) -/
theorem e_tupleL {w : W (List α)} {p : Pos} (ha : EE X B env os a (rLst r) w) (hm : X.mg "tuple" = none) (hg : Gl X "tuple" := by rfl) (he : starEach [a] X.env = (false, eval a X.env) :: starEach [] X.env := by rfl) (hpl : (backTo pos (starEach [] X.env)).any (·.1) = false := by rfl) :
    EE X B env os (.Call (.Name "tuple" p) [a] [] pos) (rTup X.K r) w := PE.imp (pe_callTy call_tuple_of hg hm (by decide +kernel) (pa_cons ha pa_nil he) (by decide) (by decide) he hpl) fun σ H Q ⟨F, P, S, hw, k⟩ => ⟨F, _, S, hw, fun x hx v F1 H1 S1 e1 ⟨p1, vs, q1, h1, z1, ok1⟩ =>
  ⟨p1, vs, by rw [q1], .inl ⟨SqL.of (S1.fh _ _ h1), fun l hl => by
    have g : Grow F1 H1 (upd F1 l (.tup vs)) (upd H1 l (.tup vs)) := Grow.alloc S1.fh hl
    exact k x hx (.ref l) _ _ (S1.grow g) (e1.trans g.f) ⟨l, vs, rfl, SqT.of upd_same, z1, Paired.imp (fun _ _ => r.mono g.f) ok1⟩⟩⟩⟩
end

/-! ### one's own list: made, read, changed, let go -/
theorem erase_perm {α : Type} : ∀ {l : List α} {j : Nat} {x : α}, l[j]? = some x → (x :: l.eraseIdx j).Perm l
  | [], _, _, h => by simp at h
  | a :: l, 0, x, h => by
    simp at h
    subst h
    exact List.Perm.refl _
  | a :: l, j + 1, x, h => by
    show (x :: a :: l.eraseIdx j).Perm (a :: l)
    exact (List.Perm.swap a x _).trans ((erase_perm (by simpa using h)).cons a)
theorem Sit.pick {B : Bs} {F H : Hp} {σ : L2.St} {env : Env} {os : Os} {j : Nat} {p : Addr × Own} (s : Sit B F H σ env os) (hj : os[j]? = some p) : Sit B F H σ env (p :: os.eraseIdx j) := by
  have hm : p ∈ os := List.mem_of_getElem? hj
  have hjl : j < os.length := (List.getElem?_eq_some_iff.mp hj).1
  have he : os[j] = p := (List.getElem?_eq_some_iff.mp hj).2
  have hp : (p :: os.eraseIdx j).Perm os := erase_perm hj
  refine ⟨s.fin, s.env, fun q hq => s.ow q ((hp.mem_iff).mp hq), ?_⟩
  exact (hp.map _).nodup_iff.mpr s.nd
section
variable {X : Cx} {B : Bs} {env : Env} {os : Os} {pos pos' : Pos} {α β γ : Type} {r : Rp α} {s : Rp β} {t : Rp γ} {e a b c : Expr} {rest : List Stmt} {post : Post β}
/-- name = a new list that the def will change -/
theorem b_own (i : Nat) {x : Str} {w1 : W (List α)} {w2 : List α → W β} (he : EN X B env os e r w1) (hr : ∀ a xs, BG X B (env.set i (sv (rAdr a) ())) ((a, oLst r xs) :: os) rest post (w2 xs)) (hN : X.N.Nodup) (hi : X.N[i]? = some x := by rfl)
    (hx : Loc X.env.scope x := by first | exact Or.inl rfl | exact Or.inr rfl) (hs : swapsWith e (some (.Name x pos')) pos.line X.env = pure false := by rfl) (hf : X.fn x = true ∨ X.env.scope.names.lookup x = some .local := by first | exact .inl rfl | exact .inr rfl | assumption) :
    BG X B env os (.Assign [.Name x pos'] e pos :: rest) post (bnd w1 w2) :=
  PSs.imp (pss_cons (ps_set hN hi hx he hs hf) (PSs.ex fun p : Addr × List α => hr p.1 p.2)) fun D σ H ⟨F, P, S, hw, k⟩ => ⟨F, _, S, hw, fun xs hx a F' H' S' _ => ⟨(a, xs), F', P, S'.store ⟨_, rfl, rfl⟩, hx, k⟩⟩
/-- the same where the comprehension itself stores the name (c: the statement's rule) -/
theorem b_ownC (i : Nat) {x : Str} {w1 : W (List α)} {w2 : List α → W β} (c : PS X (.Assign [.Name x pos'] e pos) (tAsg (tNew B env os r w1) (gName i))) (hr : ∀ a xs, BG X B (env.set i (sv (rAdr a) ())) ((a, oLst r xs) :: os) rest post (w2 xs)) :
    BG X B env os (.Assign [.Name x pos'] e pos :: rest) post (bnd w1 w2) :=
  PSs.imp (pss_cons c (PSs.ex fun p : Addr × List α => hr p.1 p.2)) fun D σ H ⟨F, P, S, hw, k⟩ => ⟨F, _, S, hw, fun xs hx a F' H' S' _ => ⟨(a, xs), F', P, S'.store ⟨_, rfl, rfl⟩, hx, k⟩⟩
theorem b_setC (i : Nat) {x : Str} {w1 : W (List α)} {w2 : List α → W β} (c : PS X (.Assign [.Name x pos'] e pos) (tAsg (tNew B env os r w1) (gName i))) (hr : ∀ xs, BG X B (env.set i (sv (rLst r) xs)) os rest post (w2 xs)) :
    BG X B env os (.Assign [.Name x pos'] e pos :: rest) post (bnd w1 w2) :=
  PSs.imp (pss_cons c (PSs.ex hr)) fun D σ H ⟨F, P, S, hw, k⟩ => ⟨F, _, S, hw, fun xs hx a F' H' S' _ => by
  obtain ⟨F2, o, e2, h1, ⟨vs, h2, h3, h4⟩, S2⟩ := S'.freeze
  subst h2
  exact ⟨xs, F2, P, S2.store ⟨_, rfl, a, vs, rfl, h1, h3, h4⟩, hx, k⟩⟩
/-- it is let go -/
theorem b_freeze (i j : Nat) {a : Addr} {xs : List α} {w : W β} (hi : env[i]? = some (sv (rAdr a) ())) (hj : os[j]? = some (a, oLst r xs)) (h : BG X B (env.set i (sv (rLst r) xs)) (os.eraseIdx j) rest post w) : BG X B env os rest post w :=
  PSs.imp h fun D σ H ⟨F, P, S, hw, k⟩ => by
  obtain ⟨F2, o, e2, h1, ⟨vs, h2, h3, h4⟩, S2⟩ := (S.pick hj).freeze
  subst h2
  obtain ⟨ov, g1, v, g2, g3⟩ := S2.env.get hi
  have g3' : v = .ref a := g3
  subst g2 g3'
  have q : σ.set i (some (.ref a)) = σ := set_same g1
  have S3 := S2.store (i := i) (sl := sv (rLst r) xs) (v := .ref a) ⟨_, rfl, a, vs, rfl, h1, h3, h4⟩
  rw [q] at S3
  exact ⟨F2, P, S3, hw, k⟩
theorem Sit.own {F H : Hp} {σ : L2.St} {i j : Nat} {a : Addr} {xs : List α} (S : Sit B F H σ env os) (hi : env[i]? = some (sv (rAdr a) ())) (hj : os[j]? = some (a, oLst r xs)) : σ[i]? = some (some (.ref a)) ∧ F a = none ∧ ∃ vs, H a = some (.lst vs) ∧ vs.length ≤ sizeLine ∧ Paired (r.ok F) vs xs := by
  obtain ⟨ov, g1, v, g2, g3⟩ := S.env.get hi
  have g3' : v = .ref a := g3
  subst g2 g3'
  obtain ⟨z1, ⟨o, z2, vs, z3, z4, z5⟩, _⟩ := S.ow _ (List.mem_of_getElem? hj)
  subst z3
  exact ⟨g1, z1, vs, z2, z4, z5⟩
theorem e_lenO (i j : Nat) {x : Str} {p p2 : Pos} {a : Addr} {xs : List α} (hi : env[i]? = some (sv (rAdr a) ())) (hj : os[j]? = some (a, oLst r xs)) (hm : X.mg "len" = none) (hN : X.N[i]? = some x := by rfl) (hv : Vis X.env.scope x := by first | exact Or.inl rfl | exact Or.inr (Or.inl rfl) | exact Or.inr (Or.inr rfl))
    (hg : Gl X "len" := by rfl) (hd : (x == ("__debug__" : Str)) = false := by decide) (hcd : (x == ("__classdict__" : Str)) = false := by decide) (he : starEach [.Name x p2] X.env = (false, eval (.Name x p2) X.env) :: starEach [] X.env := by rfl) (hpl : (backTo pos (starEach [] X.env)).any (·.1) = false := by rfl) :
    EE X B env os (.Call (.Name "len" p) [.Name x p2] [] pos) rInt (ret (xs.length : Int)) :=
  PE.imp (pe_callB call_len_seq hg hm PySem.boot_len (pa_cons (pe_var hN hv hd hcd) pa_nil he) (by decide) (by decide) he hpl) fun σ H Q ⟨F, P, S, hw, k⟩ => by
  obtain ⟨g1, g2, vs, g3, g4, g5⟩ := S.own hi hj
  exact ⟨.ref a, g1, a, vs, rfl, .inl (SqL.of g3), k _ hw _ F H S (Ex.refl F) (by rw [g5.length]; rfl)⟩
theorem e_idxO (i j : Nat) {x : Str} {p2 : Pos} {a : Addr} {xs : List α} {w : W Int} (hi : env[i]? = some (sv (rAdr a) ())) (hj : os[j]? = some (a, oLst r xs)) (hb : EE X B env os b rInt w) (hN : X.N[i]? = some x := by rfl)
    (hv : Vis X.env.scope x := by first | exact Or.inl rfl | exact Or.inr (Or.inl rfl) | exact Or.inr (Or.inr rfl)) (hd : (x == ("__debug__" : Str)) = false := by decide) (hcd : (x == ("__classdict__" : Str)) = false := by decide) (hs : PlainIx b := by exact fun _ _ => rfl) :
    EE X B env os (.Subscript (.Name x p2) b pos) r (bnd w fun k => idx xs k) :=
  PE.imp (pe_ix ix_list (pe_var hN hv hd hcd) hb hs) fun σ H Q ⟨F, P, S, hw, k⟩ => by
  obtain ⟨g1, _, _, _, _, _⟩ := S.own hi hj
  refine ⟨.ref a, g1, F, _, S, hw, fun z hz v F1 H1 S1 e1 ok => ?_⟩
  obtain ⟨_, g2, vs, g3, g4, g5⟩ := S1.own hi hj
  obtain ⟨y, hy, py⟩ := idx_of hz
  obtain ⟨u, hu, ru⟩ := atI_paired g5 hy
  exact ⟨a, vs, z, u, rfl, ok, SqL.of g3, hu, k y py u F1 H1 S1 e1 ru⟩
/-- found.append(e) -/
theorem b_append (i j : Nat) {x : Str} {p1 p2 p3 : Pos} {a : Addr} {xs : List α} {w : W α} {w2 : α → W β} (hi : env[i]? = some (sv (rAdr a) ())) (hj : os[j]? = some (a, oLst r xs)) (he : EE X B env os e r w)
    (hr : ∀ y, BG X B env (os.set j (a, oLst r (xs ++ [y]))) rest post (w2 y)) (hN : X.N[i]? = some x := by rfl)
    (hv : Vis X.env.scope x := by first | exact Or.inl rfl | exact Or.inr (Or.inl rfl) | exact Or.inr (Or.inr rfl)) (hd : (x == ("__debug__" : Str)) = false := by decide) (hcd : (x == ("__classdict__" : Str)) = false := by decide)
    (hbase : attributeBase (.Name x p1) "append" X.env (eval (.Name x p1) X.env) = eval (.Name x p1) X.env := by rfl)
    (hfew : ((backTo p3 (starEach [e] X.env)).all (fun x => !x.1) && (backToKw p3 (keywordEach [] X.env)).all (fun x => x.1.isSome) && decide (([e] : List Expr).length + ([] : List Keyword).length + (if ([] : List Keyword).isEmpty then 0 else 1) < 30)) = true := by rfl)
    (hline : (p2.endLine == p3.line) = true := by rfl) (hs : starEach [e] X.env = (false, eval e X.env) :: starEach [] X.env := by rfl) (hplain : (backTo p3 (starEach [] X.env)).any (·.1) = false := by rfl)
    (hsw : swapsWith (.Call (.Attribute (.Name x p1) "append" p2) [e] [] p3) none pos.line X.env = pure false := by rfl) :
    BG X B env os (.Expr (.Call (.Attribute (.Name x p1) "append" p2) [e] [] p3) pos :: rest) post (bnd w fun y => chk (xs.length < sizeLine) (w2 y)) :=
  PSs.imp (pss_cons (ps_expr (pe_bm PySem.F.plainAttrs_list PySem.F.slot_list_append PySem.F.type_list_append mt_append (pe_var hN hv hd hcd) (pa_cons he pa_nil hs) hbase hfew hline hs hplain) hsw) (PSs.ex hr)) fun D σ H ⟨F, P, S, hw, k⟩ => by
  obtain ⟨g1, g2, vs, g3, g4, g5⟩ := S.own hi hj
  refine ⟨.ref a, g1, .inl ⟨rfl, vs, SqL.of g3⟩, F, _, S, hw, fun y ⟨hc, hy⟩ v F1 H1 S1 e1 ok => ?_⟩
  obtain ⟨_, g2, vs', g3', g4', g5'⟩ := S1.own hi hj
  have hl : vs'.length < sizeLine := by rw [g5'.length]; exact hc
  exact ⟨a, vs', v, rfl, rfl, g3', hl, y, F1, P, S1.change hj ⟨_, rfl, by rw [List.length_append, List.length_singleton]; omega, Paired.app g5' (.cons ok .nil)⟩, hy, k⟩
/-- found[k] = e -/
def putL (xs : List α) (k : Int) (y : α) : W (List α) := match ixN xs.length k with
  | some j => ret (xs.set j y)
  | none => fail
theorem putL_of {xs : List α} {k : Int} {y : α} {P : List α → Prop} {E : Er → Prop} (h : putL xs k y P E) : ∃ j, ixN xs.length k = some j ∧ P (xs.set j y) := by
  unfold putL at h
  cases e : ixN xs.length k with
  | none => rw [e] at h; exact False.elim h
  | some j => rw [e] at h; exact ⟨j, rfl, h⟩
theorem b_put (i j : Nat) {x : Str} {p1 p2 : Pos} {a : Addr} {xs : List α} {w : W α} {w1 : α → W Int} {w2 : List α → W β} (hi : env[i]? = some (sv (rAdr a) ())) (hj : os[j]? = some (a, oLst r xs)) (he : EE X B env os e r w) (hk : ∀ y, EE X B env os b rInt (w1 y))
    (hr : ∀ ys, BG X B env (os.set j (a, oLst r ys)) rest post (w2 ys)) (hN : X.N[i]? = some x := by rfl)
    (hv : Vis X.env.scope x := by first | exact Or.inl rfl | exact Or.inr (Or.inl rfl) | exact Or.inr (Or.inr rfl)) (hd : (x == ("__debug__" : Str)) = false := by decide) (hcd : (x == ("__classdict__" : Str)) = false := by decide)
    (ha : ∀ v, assign (.Subscript (.Name x p1) b p2) X.env v = (do
      let ov ← holding [v] (eval (.Name x p1) X.env)
      let iv ← holding [v, ov] (eval b X.env)
      standAt p2
      holding [v, ov, iv] (setItem ov iv v)
      release [v, ov, iv] []) := by intro _; rfl)
    (hs : swapsWithSole [.Subscript (.Name x p1) b p2] e pos.line X.env = pure false := by rfl) (hw : swappedStores [.Subscript (.Name x p1) b p2] e X.env = pure none := by rfl)
    (h1 : (assignEach [.Subscript (.Name x p1) b p2] X.env).map (·.2) = [assign (.Subscript (.Name x p1) b p2) X.env] := by rfl) :
    BG X B env os (.Assign [.Subscript (.Name x p1) b p2] e pos :: rest) post (bnd w fun y => bnd (w1 y) fun k => bnd (putL xs k y) w2) :=
  PSs.imp (pss_cons (ps_asg he (pg_sub (pe_var hN hv hd hcd) (PE.ex hk) set_list ha) hs hw h1) (PSs.ex hr)) fun D σ H ⟨F, P, S, hw, k⟩ => ⟨F, _, S, hw, fun y hy v F1 H1 S1 e1 ok => by
  obtain ⟨g1, _, _, _, _, _⟩ := S1.own hi hj
  refine ⟨.ref a, g1, y, F1, _, S1, hy, fun z hz u F2 H2 S2 e2 ok2 => ?_⟩
  obtain ⟨_, g2, vs, g3, g4, g5⟩ := S2.own hi hj
  obtain ⟨l, hl, pl⟩ := putL_of hz
  exact ⟨a, vs, z, l, rfl, ok2, g3, (by rw [g5.length]; exact hl), xs.set l y, F2, P, S2.change hj ⟨_, rfl, by rw [List.length_set]; exact g4, Paired.setR (r.mono e2 ok) g5⟩, pl, k⟩⟩
end
end Mi

namespace Mi
open PySem L2 Evl

/-! ### data: ==, repr -/
theorem Dp.up {K : PySem.W.Frag} {F H : Hp} {v : V} {d : PyData} (e : Ex F H) (h : Dp K F v d) : Dp K H v d := by
  refine (show ∀ {v d}, Dp K F v d → Dp K H v d from ?_) h
  intro v d h
  exact Dp.rec (K := K) (H := F) (motive_1 := fun v d _ => Dp K H v d) (motive_2 := fun vs ds _ => DpAll K H vs ds) .non .bl .int .str (fun h1 _ ih => .lst (ex_l e h1) ih) (fun h1 _ ih => .tup (ex_t e h1) ih) .nil (fun _ _ i1 i2 => .cons i1 i2) h
/-- what stands for x is the datum f x, at most n deep -/
structure DD (K : PySem.W.Frag) {α : Type} (r : Rp α) (f : α → PyData) (n : Nat) : Prop where
  ok : ∀ {F v x}, r.ok F v x → Dp K F v (f x) ∧ (f x).canLay0 = true ∧ (f x).depth ≤ n
section
variable {K : PySem.W.Frag} {α β γ : Type} {r : Rp α} {s : Rp β} {t : Rp γ} {f : α → PyData} {g : β → PyData} {h : γ → PyData} {n m k : Nat}
theorem dd_int : DD K rInt .int 0 := ⟨fun {F v x} e => by
  have e : v = .int x := e
  subst e
  exact ⟨.int x, by simp [PyData.canLay0], by simp [PyData.depth]⟩⟩
theorem dd_bool : DD K rBool .bool 0 := ⟨fun {F v x} e => by
  have e : v = .bl x := e
  subst e
  exact ⟨.bl x, by simp [PyData.canLay0], by simp [PyData.depth]⟩⟩
theorem dd_str : DD K rStr .str 0 := ⟨fun {F v x} ⟨e, _, h⟩ => by
  subst e
  exact ⟨.str x, by simpa [PyData.canLay0] using h, by simp [PyData.depth]⟩⟩
theorem dd_non : DD K rNon (fun _ => .none) 0 := ⟨fun {F v x} e => by
  have e : v = .non := e
  subst e
  exact ⟨.non, by simp [PyData.canLay0], by simp [PyData.depth]⟩⟩
theorem dd_D : DD K (rD K) id 30 := ⟨fun h => h⟩
theorem dd_all (d : DD K r f n) {F : Hp} : ∀ {vs : List V} {xs : List α}, Paired (r.ok F) vs xs → DpAll K F vs (xs.map f) ∧ PyData.canLayAll0 (xs.map f) = true ∧ PyData.depthAll (xs.map f) ≤ n
  | _, _, .nil => ⟨.nil, by simp [PyData.canLayAll0], by simp [PyData.depthAll]⟩
  | _, _, .cons r t => by
    obtain ⟨h1, h2, h3⟩ := d.ok r
    obtain ⟨k1, k2, k3⟩ := dd_all d t
    refine ⟨.cons h1 k1, ?_, ?_⟩
    · rw [List.map_cons, PyData.canLayAll0, h2, k2]
      rfl
    · rw [List.map_cons, PyData.depthAll]
      omega
theorem dd_lst (d : DD K r f n) : DD K (rLst r) (fun xs => .list (xs.map f)) (n + 1) := ⟨fun {F v x} ⟨a, vs, e, h1, h2, h3⟩ => by
  subst e
  obtain ⟨k1, k2, k3⟩ := dd_all d h3
  exact ⟨.lst (SqL.of h1) k1, by rw [PyData.canLay0]; exact k2, by rw [PyData.depth]; omega⟩⟩
theorem dd_tup (d : DD K r f n) : DD K (rTup K r) (fun xs => .tuple (xs.map f)) (n + 1) := ⟨fun {F v x} ⟨a, vs, e, h1, h2, h3⟩ => by
  subst e
  obtain ⟨k1, k2, k3⟩ := dd_all d h3
  exact ⟨.tup h1 k1, by rw [PyData.canLay0]; exact k2, by rw [PyData.depth]; omega⟩⟩
theorem dd_t2 (d : DD K r f n) (e : DD K s g m) : DD K (rT2 K r s) (fun x => .tuple [f x.1, g x.2]) (max n m + 1) := ⟨fun {F v x} ⟨a, v1, v2, e0, h1, h2, h3⟩ => by
  subst e0
  obtain ⟨k1, k2, k3⟩ := d.ok h2
  obtain ⟨l1, l2, l3⟩ := e.ok h3
  refine ⟨.tup h1 (.cons k1 (.cons l1 .nil)), ?_, ?_⟩
  · simp [PyData.canLay0, PyData.canLayAll0, k2, l2]
  · simp only [PyData.depth, PyData.depthAll]
    omega⟩
theorem dd_t3 (d : DD K r f n) (e : DD K s g m) (c : DD K t h k) : DD K (rT3 K r s t) (fun x => .tuple [f x.1, g x.2.1, h x.2.2]) (max n (max m k) + 1) := ⟨fun {F v x} ⟨a, v1, v2, v3, e0, h1, h2, h3, h4⟩ => by
  subst e0
  obtain ⟨k1, k2, k3⟩ := d.ok h2
  obtain ⟨l1, l2, l3⟩ := e.ok h3
  obtain ⟨p1, p2, p3⟩ := c.ok h4
  refine ⟨.tup h1 (.cons k1 (.cons l1 (.cons p1 .nil))), ?_, ?_⟩
  · simp [PyData.canLay0, PyData.canLayAll0, k2, l2, p2]
  · simp only [PyData.depth, PyData.depthAll]
    omega⟩
theorem dd_le (d : DD K r f n) (h : n ≤ m) : DD K r f m := ⟨fun e => let ⟨a, b, c⟩ := d.ok e; ⟨a, b, Nat.le_trans c h⟩⟩
end
theorem shaped_of {d : PyData} {n : Nat} (h1 : d.canLay0 = true) (h2 : d.depth ≤ n) (h3 : n ≤ 64) : SeqAt.shaped d = true := by
  unfold SeqAt.shaped
  rw [h1, Bool.true_and]
  exact decide_eq_true (Nat.le_trans h2 h3)
section
variable {X : Cx} {B : Bs} {env : Env} {os : Os} {pos : Pos} {α β γ : Type} {r : Rp α} {s : Rp β} {f : α → PyData} {g : β → PyData} {n m : Nat} {a b : Expr} {w1 : W α} {w2 : α → W β}
theorem sem_eqD {K : PySem.W.Frag} (d : DD K r f n) (e : DD K s g m) (hn : n ≤ 64) (hm : m ≤ 64) : R2T (rEqD K) r s rBool (fun x y => ret (PyData.eqv (f x) (g y))) := fun F H v u x y P E Q fh o1 o2 hw k => by
  obtain ⟨k1, k2, k3⟩ := d.ok o1
  obtain ⟨l1, l2, l3⟩ := e.ok o2
  exact ⟨f x, g y, Dp.up fh k1, Dp.up fh l1, shaped_of k2 k3 hn, shaped_of l2 l3 hm, k _ hw _ F H (Grow.refl fh) rfl⟩
theorem sem_neD {K : PySem.W.Frag} (d : DD K r f n) (e : DD K s g m) (hn : n ≤ 64) (hm : m ≤ 64) : R2T (rNeD K) r s rBool (fun x y => ret (!PyData.eqv (f x) (g y))) := fun F H v u x y P E Q fh o1 o2 hw k => by
  obtain ⟨k1, k2, k3⟩ := d.ok o1
  obtain ⟨l1, l2, l3⟩ := e.ok o2
  exact ⟨f x, g y, Dp.up fh k1, Dp.up fh l1, shaped_of k2 k3 hn, shaped_of l2 l3 hm, k _ hw _ F H (Grow.refl fh) rfl⟩
theorem e_eqD (hu : X.A.units + 64 < cLine) (d : DD X.K r f n) (e : DD X.K s g m) (ha : EE X B env os a r w1) (hb : ∀ x, EE X B env os b s (w2 x)) (hn : n ≤ 64 := by decide) (hm : m ≤ 64 := by decide) : EE X B env os (.Compare a [.Eq] [b] pos) rBool (bnd w1 fun x => bnd (w2 x) fun y => ret (PyData.eqv (f x) (g y))) := e_cmp (op_eqD hu) (sem_eqD d e hn hm) (nomark _) ha hb
theorem e_neD (hu : X.A.units + 64 < cLine) (d : DD X.K r f n) (e : DD X.K s g m) (ha : EE X B env os a r w1) (hb : ∀ x, EE X B env os b s (w2 x)) (hn : n ≤ 64 := by decide) (hm : m ≤ 64 := by decide) : EE X B env os (.Compare a [.NotEq] [b] pos) rBool (bnd w1 fun x => bnd (w2 x) fun y => ret (!PyData.eqv (f x) (g y))) := e_cmp (op_neD hu) (sem_neD d e hn hm) (nomark _) ha hb
/-! flat values: cheaper -/
theorem sem_eqI : R2T rEq rInt rInt rBool (fun x y => ret (decide (x = y))) := fun F H v u x y P E Q fh o1 o2 hw k => by
  have o1 : v = .int x := o1
  have o2 : u = .int y := o2
  subst o1 o2
  have e : decide (V.int x = V.int y) = decide (x = y) := by
    rw [Bool.eq_iff_iff]
    simp
  exact ⟨rfl, by rw [e]; exact k _ hw _ F H (Grow.refl fh) rfl⟩
theorem sem_neI : R2T rNe rInt rInt rBool (fun x y => ret (!decide (x = y))) := fun F H v u x y P E Q fh o1 o2 hw k => by
  have o1 : v = .int x := o1
  have o2 : u = .int y := o2
  subst o1 o2
  have e : decide (V.int x = V.int y) = decide (x = y) := by
    rw [Bool.eq_iff_iff]
    simp
  exact ⟨rfl, by rw [e]; exact k _ hw _ F H (Grow.refl fh) rfl⟩
theorem sem_eqS : R2T rEq rStr rStr rBool (fun x y => ret (decide (x = y))) := fun F H v u x y P E Q fh ⟨o1, _⟩ ⟨o2, _⟩ hw k => by
  subst o1 o2
  have e : decide (V.str x = V.str y) = decide (x = y) := by
    rw [Bool.eq_iff_iff]
    simp
  exact ⟨rfl, by rw [e]; exact k _ hw _ F H (Grow.refl fh) rfl⟩
theorem sem_neS : R2T rNe rStr rStr rBool (fun x y => ret (!decide (x = y))) := fun F H v u x y P E Q fh ⟨o1, _⟩ ⟨o2, _⟩ hw k => by
  subst o1 o2
  have e : decide (V.str x = V.str y) = decide (x = y) := by
    rw [Bool.eq_iff_iff]
    simp
  exact ⟨rfl, by rw [e]; exact k _ hw _ F H (Grow.refl fh) rfl⟩
theorem e_eqI {w1 : W Int} {w2 : Int → W Int} (ha : EE X B env os a rInt w1) (hb : ∀ x, EE X B env os b rInt (w2 x)) : EE X B env os (.Compare a [.Eq] [b] pos) rBool (bnd w1 fun x => bnd (w2 x) fun y => ret (decide (x = y))) := e_cmp op_eq sem_eqI (nomark _) ha hb
theorem e_neI {w1 : W Int} {w2 : Int → W Int} (ha : EE X B env os a rInt w1) (hb : ∀ x, EE X B env os b rInt (w2 x)) : EE X B env os (.Compare a [.NotEq] [b] pos) rBool (bnd w1 fun x => bnd (w2 x) fun y => ret (!decide (x = y))) := e_cmp op_ne sem_neI (nomark _) ha hb
theorem e_eqS {w1 : W Str} {w2 : Str → W Str} (ha : EE X B env os a rStr w1) (hb : ∀ x, EE X B env os b rStr (w2 x)) : EE X B env os (.Compare a [.Eq] [b] pos) rBool (bnd w1 fun x => bnd (w2 x) fun y => ret (decide (x = y))) := e_cmp op_eq sem_eqS (nomark _) ha hb
theorem e_neS {w1 : W Str} {w2 : Str → W Str} (ha : EE X B env os a rStr w1) (hb : ∀ x, EE X B env os b rStr (w2 x)) : EE X B env os (.Compare a [.NotEq] [b] pos) rBool (bnd w1 fun x => bnd (w2 x) fun y => ret (!decide (x = y))) := e_cmp op_ne sem_neS (nomark _) ha hb

/-! repr -/
def rRepr (K : PySem.W.Frag) : List V → Hp → VK → Prop := fun xs H Q => ∃ x d, xs = [x] ∧ Dp K H x d ∧ d.canLay0 = true ∧ d.depth ≤ 64 ∧ d.showable = true ∧ d.shown.length ≤ sizeLine ∧ Q (.str d.shown) H
theorem call_reprD (hu : X.A.units + 100 < cLine) (hg : X.A.guards = some []) : CallR X (.builtin "repr") (rRepr X.K) := by
  intro pins s σ H xs us Q I r h
  obtain ⟨x, d, rfl, hd, hc, hdp, hs, hz, q⟩ := h
  cases r with
  | cons rx rn =>
    cases rn
    rename_i u
    obtain ⟨as, rd⟩ := Dp.reads I d x u hd rx
    have fin : ∀ (h' : Heap) (t tk : Nat), (∀ b o, s.heap.get? b = some o → h'.get? b = some o) → EP X pins σ Q (.str d.shown t) { s with heap := h', toks := tk } := fun h' t tk k => ⟨.str d.shown, H, I.kept k, ⟨t, rfl⟩, q⟩
    cases u with
    | ref a =>
      exact repr_of_reads' rd hs (PyData.noDict_hsm (PyData.hasDict_of_canLay d hc)) hg (by omega) (fun _ _ e => e) (fun h' t tk k => fin h' t tk k) hz
    | int i t =>
      cases rd
      have hs' : i.natAbs.log2 < 1920 := by simpa [PyData.showable] using hs
      exact PySem.P.repr_of_int hs' (fin s.heap _ _ fun _ _ e => e)
    | str y t =>
      cases rd
      exact PySem.P.repr_of_str (fin s.heap _ _ fun _ _ e => e) hz
    | bool b =>
      cases rd
      exact PySem.P.repr_of_bool (fin s.heap _ _ fun _ _ e => e)
    | none =>
      cases rd
      exact PySem.P.repr_of_none (fin s.heap _ _ fun _ _ e => e)
    | _ => cases rd
def reprW (d : PyData) : W Str := chk (d.showable = true ∧ d.shown.length ≤ sizeLine ∧ PyData.strOk d.shown = true) (ret d.shown)
theorem sem_repr {K : PySem.W.Frag} (d : DD K r f n) (hn : n ≤ 64) : C1T (rRepr K) r rStr (fun x => reprW (f x)) := fun F H v x P E Q fh ok ⟨⟨c1, c2, c3⟩, hw⟩ k => by
  obtain ⟨k1, k2, k3⟩ := d.ok ok
  exact ⟨v, f x, rfl, Dp.up fh k1, k2, by omega, c1, c2, k _ hw _ F H (Grow.refl fh) ⟨rfl, c2, c3⟩⟩
theorem e_repr {p : Pos} (hu : X.A.units + 100 < cLine) (hgu : X.A.guards = some []) (d : DD X.K r f n) (ha : EE X B env os a r w1) (hm : X.mg "repr" = none) (hn : n ≤ 64 := by decide) (hg : Gl X "repr" := by rfl) (he : starEach [a] X.env = (false, eval a X.env) :: starEach [] X.env := by rfl) (hpl : (backTo pos (starEach [] X.env)).any (·.1) = false := by rfl) :
    EE X B env os (.Call (.Name "repr" p) [a] [] pos) rStr (bnd w1 fun x => reprW (f x)) := e_callB (call_reprD hu hgu) (sem_repr d hn) ha hm hg (by decide +kernel) (by decide) (by decide) he hpl
end
end Mi

namespace Mi
open PySem L2 Evl
open PyProof.Rows (envOfC)

/-! ### defs: the promise by a mirror -/
/-- a def's promise where no repr runs around it -/
structure FnG (P : Program) (w : World) (K : PySem.W.Frag) (mg : Str → Option Value) (base : Heap) (CX : CXT) (k : Nat) (f : Addr) (fd : FuncData) (ps : List Str) (sp : Sp) : Prop where
  lens : ∀ vs H Q E, sp vs H Q E → vs.length = ps.length
  go : ∀ (A : Around) (outer : List PySem.Env) (s : Shared) (H : Hp) (args : Args) (us : List Value) (vs : List V) (Q : VK) (E : XK), A.guards = some [] → Room k A → Env0 P w K mg base A outer s H →
    BindsTo s fd args (ps.zip us) → Vals vs us → sp vs H Q E → codeAny (model P w) A (.call (.ref f) args) (CR CX outer P w H s Q E) s
section
variable {P : Program} {w : World} {K : PySem.W.Frag} {mg : Str → Option Value} {base : Heap} {CX : CXT} {k j : Nat} {f : Addr} {fd : FuncData} {ps N : List Str} {sp sp' : Sp}
theorem FnG.of (F : FnOk P w K mg base CX k f fd ps sp) : FnG P w K mg base CX k f fd ps sp := ⟨F.len, fun A o s H a us vs Q E _ h1 h2 h3 h4 h5 => F.run A o s H a us vs Q E h1 h2 h3 h4 h5⟩
theorem FnG.mono (F : FnG P w K mg base CX j f fd ps sp) (h : j ≤ k) : FnG P w K mg base CX k f fd ps sp := ⟨F.lens, fun A o s H a us vs Q E hg hr => F.go A o s H a us vs Q E hg (hr.mono h)⟩
/-- a def's body keeps the promise; what is raised does not leave it -/
theorem fnG_of {x qual : Str} {st : Stmt} (F : Fun K x qual st f fd) (S : FnScope N ps (defScope st)) (ln : ∀ vs H Q E, sp vs H Q E → vs.length = ps.length)
    (hbody : ∀ (cdv : Value) (A : Around) (outer : List PySem.Env) (s : Shared) (H : Hp) (vs : List V) (Q : VK) (E : XK), Room k (A.deeper (envOfC qual (defScope st) s.heap.objs.size f cdv)) → A.guards = some [] → sp vs H Q E →
      ∃ t, PSs (cxOf CX P w K mg base N qual (defScope st) f cdv A outer s H E).nox (defBody st) t ∧ t { nx := fun _ H' => Q .non H', rt := Q } (L2.start N vs) H) : FnG P w K mg base CX (k + 1) f fd ps sp := by
  obtain ⟨oc, od, kV, doc, pm, an, cdv, ct, osl, rfl, lk, hcd⟩ := F.ex
  refine ⟨ln, fun A outer s H args us vs Q E hgu hr e0 hb r hsp => ?_⟩
  have hl := ln _ _ _ _ hsp
  have hk0 : ∀ b o, base.get? b = some o → s.heap.get? b = some o := fun b o e => (e0.bs b o e).1
  have KX := e0.mod.kin.keeps hk0
  refine codeAny_call_function hr.depth (KX _ _ lk) rfl S.co S.gen rfl (PySem.W.codeRec_of KX hcd) (hb _ _ _ _ ?_)
  refine wpAny_newFunctionEnv_cells S.kind (fun ⟨n, v⟩ hy => ?_) fun env he s1 x => ?_
  · rcases S.par n (List.of_mem_zip hy).1 with q | q
    · exact .inl q
    · exact .inr ⟨q, PySem.W.cellsFrom_some _ _ _ (.inl q)⟩
  subst he
  refine ⟨(e0.mod.nolimit.keeps hk0).keeps x.toInCall.keep, codeAny_func ?_⟩
  obtain ⟨t, ht, hq⟩ := hbody cdv A outer s H vs Q E (hr.deeper _) hgu hsp
  have I := inv_start (CX := CX) (E := E) S hr.hd e0 hl r x
  refine wpAny_mono (ht.nox.run [] s1 (L2.start N vs) H _ I hq) (fun fl s' hs => ?_) fun e s' hs => hs
  cases fl with
  | ret u =>
    obtain ⟨v, σ', H', J, rv, q⟩ := hs
    exact ⟨v, H', J.os, J.bare, J.base, J.hok, rv, q⟩
  | next =>
    obtain ⟨σ', H', J, q⟩ := hs
    exact ⟨.non, H', J.os, J.bare, J.base, J.hok, rfl, q⟩
  | brk =>
    obtain ⟨_, _, _, q⟩ := hs
    exact False.elim q
  | cont =>
    obtain ⟨_, _, _, q⟩ := hs
    exact False.elim q
end

/-- the base at a def's entry -/
abbrev bs0 (F H : Hp) (os : Os) : Bs := { F := F, H := H, M := F, io := os.map (·.1), E0 := fun _ => False }
/-- by the mirror w: the arguments by slots, the objects handed in to be changed -/
def spW {ι ρ : Type} (args : ι → Env) (os : ι → Os) (w : ι → W ρ) (ro : Rp ρ) : Sp := fun vs H Q _ => ∃ (i : ι) (F : Hp) (P : ρ → Prop), Ex F H ∧ EnvOk F (args i) (vs.map some) ∧ (∀ p ∈ os i, F p.1 = none ∧ ∃ o, H p.1 = some o ∧ p.2.ok F o) ∧ ((os i).map (·.1)).Nodup ∧
  w i P (fun _ => False) ∧ ∀ x, P x → ∀ v F' H', Fn (bs0 F H (os i)) F' H' → OsOk (bs0 F H (os i)) F' H' (os i) → ro.ok F' v x → Q v H'
/-- a body's end -/
def pFn (B : Bs) (osR : Os) {ρ : Type} (ro : Rp ρ) : Post ρ := fun D x => (∀ v F H, Fn B F H → OsOk B F H osR → ro.ok F v x → D.rt v H) ∧ ∀ σ F H, Fn B F H → OsOk B F H osR → ro.ok F .non x → D.nx σ H
theorem RtOk.fn {B : Bs} {osR : Os} {ρ : Type} {ro : Rp ρ} : RtOk B (pFn B osR ro) osR ro (fun x => x) := ⟨fun _ _ h => h.1⟩
theorem NxOk.fn {B : Bs} {osR : Os} {env : Env} {os : Os} (ho : OsW os osR) : NxOk B (pFn B osR rNon) env os () := ⟨fun D q σ F H z => q.2 σ F H z.fin (ho.ok z) rfl⟩
theorem bs0_start {F H : Hp} {os : Os} (fh : Ex F H) (h : ∀ p ∈ os, F p.1 = none ∧ ∃ o, H p.1 = some o ∧ p.2.ok F o) : Fn (bs0 F H os) F H :=
  ⟨fh, Ex.refl F, Ex.refl F, fh, fun a ha => by
    obtain ⟨p, hp, e⟩ := List.mem_map.mp ha
    obtain ⟨_, o, ho, _⟩ := h p hp
    exact ⟨o, by rw [← e]; exact ho⟩, fun a o h1 h2 _ => ⟨h2, h1⟩⟩
/-- the slots at the entry -/
def entry (a : Env) (n : Nat) : Env := a ++ List.replicate n sa
theorem entry_ok {F : Hp} {a : Env} {vs : List V} {N : List Str} (h : EnvOk F a (vs.map some)) : EnvOk F (entry a (N.length - vs.length)) (L2.start N vs) := by
  unfold entry L2.start
  refine Paired.app h ?_
  induction N.length - vs.length with
  | zero => exact .nil
  | succ n ih =>
    rw [List.replicate_succ, List.replicate_succ]
    exact .cons trivial ih
section
variable {P : Program} {w : World} {K : PySem.W.Frag} {mg : Str → Option Value} {base : Heap} {k : Nat} {f : Addr} {fd : FuncData} {ps N : List Str} {ι ρ : Type} {args : ι → Env} {os : ι → Os} {wf : ι → W ρ} {ro : Rp ρ}
theorem spW_len (hl : ∀ i, (args i).length = ps.length) : ∀ vs H Q E, spW args os wf ro vs H Q E → vs.length = ps.length := fun vs H Q E ⟨i, F, P, _, he, _⟩ => by
  have := he.len
  rw [List.length_map, hl i] at this
  exact this.symm
theorem fnW {x qual : Str} {st : Stmt} (F : Fun K x qual st f fd) (S : FnScope N ps (defScope st)) (hl : ∀ i, (args i).length = ps.length)
    (body : ∀ (cdv : Value) (A : Around) (outer : List PySem.Env) (s : Shared) (H : Hp) (E : XK) (B : Bs) (i : ι), Room k (A.deeper (envOfC qual (defScope st) s.heap.objs.size f cdv)) → A.guards = some [] →
      BG (cxOf CX0 P w K mg base N qual (defScope st) f cdv A outer s H E).nox B (entry (args i) (N.length - ps.length)) (os i) (defBody st) (pFn B (os i) ro) (wf i)) : FnG P w K mg base CX0 (k + 1) f fd ps (spW args os wf ro) := by
  refine fnG_of F S (spW_len hl) fun cdv A outer s H vs Q E hr hgu hsp => ?_
  have hvl := spW_len hl vs H Q E hsp
  obtain ⟨i, F0, P0, fh, he, ho, nd, hw, hk⟩ := hsp
  refine ⟨_, body cdv A outer s H E (bs0 F0 H (os i)) i hr hgu, F0, P0, ⟨bs0_start fh ho, ?_, fun p hp => ?_, nd⟩, hw, fun y hy => ⟨fun v F' H' fn ow ok => hk y hy v F' H' fn ow ok, fun σ F' H' fn ow ok => hk y hy .non F' H' fn ow ok⟩⟩
  · rw [← hvl]
    exact entry_ok he
  · obtain ⟨h1, o, h2, h3⟩ := ho p hp
    exact ⟨h1, ⟨o, h2, h3⟩, .inr (List.mem_map_of_mem hp)⟩
/-- where the def needs no «no repr around»: the library's own promise -/
theorem okW {x qual : Str} {st : Stmt} (F : Fun K x qual st f fd) (S : FnScope N ps (defScope st)) (hl : ∀ i, (args i).length = ps.length)
    (body : ∀ (cdv : Value) (A : Around) (outer : List PySem.Env) (s : Shared) (H : Hp) (E : XK) (B : Bs) (i : ι), Room k (A.deeper (envOfC qual (defScope st) s.heap.objs.size f cdv)) →
      BG (cxOf CX0 P w K mg base N qual (defScope st) f cdv A outer s H E).nox B (entry (args i) (N.length - ps.length)) (os i) (defBody st) (pFn B (os i) ro) (wf i)) : FnOk P w K mg base CX0 (k + 1) f fd ps (spW args os wf ro) := by
  refine F.ok S (spW_len hl) fun cdv A outer s H vs Q E hr hsp => ?_
  have hvl := spW_len hl vs H Q E hsp
  obtain ⟨i, F0, P0, fh, he, ho, nd, hw, hk⟩ := hsp
  refine ⟨_, body cdv A outer s H E (bs0 F0 H (os i)) i hr, F0, P0, ⟨bs0_start fh ho, ?_, fun p hp => ?_, nd⟩, hw, fun y hy => ⟨fun v F' H' fn ow ok => hk y hy v F' H' fn ow ok, fun σ F' H' fn ow ok => hk y hy .non F' H' fn ow ok⟩⟩
  · rw [← hvl]
    exact entry_ok he
  · obtain ⟨h1, o, h2, h3⟩ := ho p hp
    exact ⟨h1, ⟨o, h2, h3⟩, .inr (List.mem_map_of_mem hp)⟩
end

/-! ### calls -/
def tAA (B : Bs) (env : Env) (os : Os) {ι : Type} (sl : ι → Env) (w : W ι) : TA := fun σ H Q => ∃ F P, Sit B F H σ env os ∧ w P B.E0 ∧ ∀ i, P i → ∀ vs F' H', Sit B F' H' σ env os → Ex F F' → EnvOk F' (sl i) (vs.map some) → Q vs H'
def AA (X : Cx) (B : Bs) (env : Env) (os : Os) (es : List Expr) {ι : Type} (sl : ι → Env) (w : W ι) : Prop := PA X es (tAA B env os sl w)
section
variable {X : Cx} {B : Bs} {env : Env} {os : Os} {pos p : Pos} {α β ι κ ρ : Type} {r : Rp α} {sl : ι → Env} {args : ι → Env} {osf : ι → Os} {wf : ι → W ρ} {ro : Rp ρ} {e : Expr} {es : List Expr} {x : Str} {k : Nat} {f : Addr} {fd : FuncData} {ps : List Str}
theorem aa_nil : AA X B env os [] (fun _ : Unit => []) (ret ()) := PA.imp pa_nil fun σ H Q ⟨F, P, S, hw, k⟩ => k () hw [] F H S (Ex.refl F) .nil
theorem aa_cons {w1 : W α} {w2 : α → W ι} (h : EE X B env os e r w1) (ht : ∀ y, AA X B env os es sl (w2 y)) (hs : starEach (e :: es) X.env = (false, eval e X.env) :: starEach es X.env := by rfl) :
    AA X B env os (e :: es) (fun q : α × ι => sv r q.1 :: sl q.2) (bnd w1 fun y => bnd (w2 y) fun i => ret (y, i)) :=
  PA.imp (pa_cons h (PA.ex ht) hs) fun σ H Q ⟨F, P, S, hw, k⟩ => ⟨F, _, S, hw, fun y hy v F1 H1 S1 e1 ok1 => ⟨y, F1, _, S1, hy, fun i hi vs F2 H2 S2 e2 ok2 => k _ hi (v :: vs) F2 H2 S2 (e1.trans e2) (.cons ⟨v, rfl, r.mono e2 ok1⟩ ok2)⟩⟩
/-- behind a call: the state of the caller -/
theorem Sit.back {F F' H H' : Hp} {σ : L2.St} {osf : Os} (S : Sit B F H σ env os) (ho : OsLe os osf) (fn : Fn (bs0 F H osf) F' H') (ow : OsOk (bs0 F H osf) F' H' osf) : Sit B F' H' σ env os := by
  have e : Ex F F' := fn.bf
  have apart : ∀ a, (∀ p ∈ osf, p.1 ≠ a) → a ∉ osf.map (·.1) := fun a h hm => by
    obtain ⟨p, hp, ep⟩ := List.mem_map.mp hm
    exact h p hp ep
  refine ⟨⟨fn.fh, S.fin.bf.trans e, S.fin.mrk.trans e, S.fin.bb, fun a ha => ?_, fun a o h1 h2 h3 => ?_⟩, S.env.mono e, fun p hp => ?_, S.nd⟩
  · obtain ⟨o, hoa⟩ := S.fin.ios a ha
    by_cases hm : a ∈ osf.map (·.1)
    · exact fn.ios a hm
    · cases ef : F a with
      | none => exact ⟨o, (fn.keep a o ef hoa hm).1⟩
      | some u => exact ⟨u, fn.fh a u (e a u ef)⟩
  · obtain ⟨k1, k2⟩ := S.fin.keep a o h1 h2 h3
    refine fn.keep a o k2 k1 (apart a fun p hp ep => ?_)
    rcases (S.ow p (ho p hp)).2.2 with q | q
    · rw [ep, h2] at q
      cases q
    · exact h3 (ep ▸ q)
  · obtain ⟨h1, ⟨o, h2, h3⟩, h4⟩ := S.ow p hp
    by_cases hm : p.1 ∈ osf.map (·.1)
    · obtain ⟨q, hq, eq⟩ := List.mem_map.mp hm
      have same : q = p := by
        obtain ⟨i, hi⟩ := List.mem_iff_getElem?.mp (ho q hq)
        obtain ⟨j, hj⟩ := List.mem_iff_getElem?.mp hp
        have a1 : (os.map (·.1))[i]? = some p.1 := by rw [List.getElem?_map, hi, ← eq]; rfl
        have a2 : (os.map (·.1))[j]? = some p.1 := by rw [List.getElem?_map, hj]; rfl
        have ij := nd_ix S.nd a1 a2
        subst ij
        rw [hi] at hj
        exact Option.some.inj hj
      subst same
      obtain ⟨z1, z2, _⟩ := ow q hq
      exact ⟨z1, z2, h4⟩
    · obtain ⟨z1, z2⟩ := fn.keep p.1 o h1 h2 hm
      exact ⟨z2, ⟨o, z1, p.2.mono e h3⟩, h4⟩
theorem call_back {w : W ι} {σ : L2.St} {H : Hp} {Q : VK} (ho : ∀ i, OsLe os (osf i)) (hnd : ∀ i, ((osf i).map (·.1)).Nodup) (h : tOf B env os ro (bnd w fun i => noX (wf i)) σ H Q) : tAA B env os args w σ H fun vs H1 => spW args osf wf ro vs H1 Q E0 := by
  obtain ⟨F, P, S, hw, k⟩ := h
  refine ⟨F, _, S, hw, fun i hi vs F1 H1 S1 e1 ok => ⟨i, F1, P, S1.fh, ok, fun p hp => ?_, hnd i, hi, fun y hy v F2 H2 fn ow okv => ?_⟩⟩
  · obtain ⟨h1, h2, _⟩ := S1.ow p (ho i p hp)
    exact ⟨h1, h2⟩
  · exact k y hy v F2 H2 (S1.back (ho i) fn ow) (e1.trans fn.bf) okv
theorem run_fnG {pins : List (Addr × Obj)} {σ : St} {H : Hp} {s : Shared} {Q : VK} {us : List Value} {vs : List V} {sp : Sp} (F : FnG X.prog X.w X.K X.mg X.base CX0 k f fd ps sp) (hgu : X.A.guards = some []) (hr : Room k X.A) (hb : Binds X.K fd ps [])
    (I : Inv X pins σ H s) (r : Vals vs us) (h : sp vs H Q E0) : wpAny (model X.prog X.w) X.A (call (.ref f) us) (EP X pins σ Q) X.xe s := by
  have hl : us.length = ps.length := by rw [← r.length]; exact F.lens _ _ _ _ h
  have b := hb s us I.kIn (by rw [List.append_nil]; exact hl)
  rw [List.append_nil] at b
  refine wpAny_call (codeAny_mono (F.go X.A X.stack s H ⟨us, []⟩ us vs Q E0 hgu hr I.env0 b r h) fun res s' hq => ?_)
  cases res with
  | error e => exact False.elim hq
  | ok fl =>
    cases fl with
    | ret u => exact I.after hq
    | next => exact False.elim hq
    | brk => exact False.elim hq
    | cont => exact False.elim hq
/-- f(e, ..), f a def by its mirror -/
theorem e_callG {w : W ι} (G : FnG X.prog X.w X.K X.mg X.base CX0 k f fd ps (spW args osf wf ro)) (hgu : X.A.guards = some []) (hr : Room k X.A) (hm : X.mg x = some (.ref f)) (hk : PySem.W.keepIn X.K (.ref f) = true) (hb : Binds X.K fd ps [])
    (ha : AA X B env os (e :: es) args w) (ho : ∀ i, OsLe os (osf i)) (hnd : ∀ i, ((osf i).map (·.1)).Nodup) (hg : Gl X x := by rfl) (hdb : (x == ("__debug__" : Str)) = false := by decide)
    (he : starEach (e :: es) X.env = (false, eval e X.env) :: starEach es X.env := by rfl) (hpl : (backTo pos (starEach es X.env)).any (·.1) = false := by rfl) :
    EE X B env os (.Call (.Name x p) (e :: es) [] pos) ro (bnd w fun i => noX (wf i)) := by
  refine ⟨fun pins s σ H Q I h => ?_⟩
  refine wpAny_Call_Name_kw (ld_glob I hg hm ?_ hdb)
  refine PySem.W.callWith_K (h₀ := X.base) I.ok.mod.kin hk (thn (ha.run pos pins s σ H _ I (call_back ho hnd h)) fun us s1 ⟨vs, H1, I1, r, q⟩ => ⟨I1.kIn, ?_⟩) he hpl
  exact run_fnG G hgu hr hb I1 r q
theorem e_call {w : W ι} (G : FnOk X.prog X.w X.K X.mg X.base CX0 k f fd ps (spW args osf wf ro)) (hr : Room k X.A) (hm : X.mg x = some (.ref f)) (hk : PySem.W.keepIn X.K (.ref f) = true) (hb : Binds X.K fd ps [])
    (ha : AA X B env os (e :: es) args w) (ho : ∀ i, OsLe os (osf i)) (hnd : ∀ i, ((osf i).map (·.1)).Nodup) (hg : Gl X x := by rfl) (hdb : (x == ("__debug__" : Str)) = false := by decide)
    (he : starEach (e :: es) X.env = (false, eval e X.env) :: starEach es X.env := by rfl) (hpl : (backTo pos (starEach es X.env)).any (·.1) = false := by rfl) :
    EE X B env os (.Call (.Name x p) (e :: es) [] pos) ro (bnd w fun i => noX (wf i)) :=
  PE.imp (pe_call G hr hg hm hk hb .nil pass0 ha hdb he hpl) fun σ H Q h => by
    have q := call_back (args := args) ho hnd h
    obtain ⟨F, P, S, hw, k⟩ := q
    refine ⟨F, P, S, hw, fun i hi vs F' H' S' e' ok => ?_⟩
    show spW args osf wf ro (vs ++ []) H' Q E0
    rw [List.append_nil]
    exact k i hi vs F' H' S' e' ok
/-- f(), no argument -/
theorem e_call0 {wf0 : Unit → W ρ} (G : FnOk X.prog X.w X.K X.mg X.base CX0 k f fd ps (spW (fun _ : Unit => []) (fun _ => []) wf0 ro)) (hr : Room k X.A) (hm : X.mg x = some (.ref f)) (hk : PySem.W.keepIn X.K (.ref f) = true) (hb : Binds X.K fd ps []) (hg : Gl X x := by rfl) (hdb : (x == ("__debug__" : Str)) = false := by decide) :
    EE X B env os (.Call (.Name x p) [] [] pos) ro (noX (wf0 ())) :=
  PE.imp (pe_call0 G hr hg hm hk hb .nil pass0 hdb) fun σ H Q ⟨F, P, S, hw, k⟩ => by
    refine ⟨(), F, P, S.fh, .nil, fun p hp => absurd hp (by simp), by simp, hw, fun y hy v F2 H2 fn ow okv => ?_⟩
    exact k y hy v F2 H2 (S.back (fun p hp => absurd hp (by simp)) fn ow) fn.bf okv
end
end Mi

namespace Mi
open PySem L2 Evl
open PyProof.Rows (envOfC IntsAre AllBare)

/-! ### the end: the law's own call -/
/-- nothing is tracked but perhaps the script, which is locked -/
theorem law_run {P : Program} {w : World} {K : PySem.W.Frag} {mg mb : Str → Option Value} {k : Nat} {fa a : Addr} {fd : FuncData} {x : Str} {sp : Sp} {s : Shared} {vs : List Value} {H : Hp}
    (KX : K.In s.heap) (hns : s.heap.Ns mainGlobals mg) (hb : s.heap.Ns builtinsNs mb) (hbb : ∀ x : Str, x ≠ "__name__" → mb x = bootBuiltins x) (hlim : s.heap.NoLimit) (hg : s.gens = #[])
    (ha : s.heap.get? a = some { cls := .type "list", data := .seq vs.toArray }) (hr : Room k callerA)
    (F : ∀ base : Heap, K.In base → base.Ns mainGlobals mg → FnG P w K mg base CX0 k fa fd [x] sp) (hbind : ∀ (s : Shared) (u : Value), BindsTo s fd ⟨[u], []⟩ [(x, u)])
    (hO : Only H) (hok : HOk P w H s.heap) (hA : ∀ b, H b ≠ none → b = a ∧ K.lookup a = none) (hsp : sp [.ref a] H (fun v _ => v = .bl true) fun _ _ _ => False) :
    codeAny (model P w) callerA (.call (.ref fa) ⟨[.ref a], []⟩) (fun r s' => r = .ok (.ret (.bool true)) ∧ OldK s.heap s'.heap ∧ s'.os = s.os ∧ AllBare s'.gens) s := by
  have off : ∀ {b : Addr}, b ≠ a → H b = none := fun {b} hb => by
    cases q : H b with
    | none => rfl
    | some u => exact absurd (hA b (by rw [q]; simp)).1 hb
  have here : ∀ {b : Addr} {o : Obj}, s.heap.get? b = some o → H b = none → (hidT s.heap H).get? b = some o := fun e n => hidT_get e n
  have ns_ : ∀ {b : Addr} {m : Str → Option Value}, s.heap.Ns b m → (hidT s.heap H).Ns b m := fun {b m} ⟨o, es, ep, e, d, r⟩ => by
    refine ⟨o, es, ep, here e (off fun z => ?_), d, r⟩
    subst z
    rw [ha] at e
    cases e
    cases d
  have kin : K.In (hidT s.heap H) := fun b o e => here (KX b o e) (by
    cases q : H b with
    | none => rfl
    | some u =>
      obtain ⟨z, n⟩ := hA b (by rw [q]; simp)
      rw [z, n] at e
      cases e)
  have md : Mod K mg (hidT s.heap H) := ⟨kin, ns_ hns, ⟨mb, ns_ hb, hbb⟩, hlim.elim fun mc hm => ⟨mc, ns_ hm.1, hm.2⟩⟩
  have e0 : Env0 P w K mg (hidT s.heap H) callerA [] s H :=
    { frames := rfl, mod := md, bs := fun b o e => of_hidT e, bsz := Nat.le_of_eq (hidT_size _ _), funs := trivial, frf := fun b hb => (by cases hb), hok := hok, bare := .of_eq hg }
  refine codeAny_mono ((F _ kin (ns_ hns)).go callerA [] s H ⟨[.ref a], []⟩ [.ref a] [.ref a] _ _ rfl hr e0 (hbind s (.ref a)) (.cons rfl .nil) hsp) fun r s' h => ?_
  cases r with
  | error e => exact False.elim h
  | ok fl =>
    cases fl with
    | next => exact False.elim h
    | brk => exact False.elim h
    | cont => exact False.elim h
    | ret u =>
      obtain ⟨v, H', os, bare, un, hok', rv, q⟩ := h
      have q : v = .bl true := q
      subst q
      have rv : u = Value.bool true := rv
      subst rv
      refine ⟨rfl, OldK.of_keep fun b o e => ?_, os, bare⟩
      cases q : H b with
      | none => exact un.keep b o e q (fun z => by cases z) (fun z => by cases z)
      | some u =>
        rcases hO b with z | ⟨ob, xs, z⟩
        · rw [q] at z
          cases z
        · have e1 := (hok b _ z).1
          have e2 := (hok' b _ (un.frzs b ob _ z)).1
          rw [e] at e1
          cases e1
          exact e2
theorem law_callG {P : Program} {w : World} {K : PySem.W.Frag} {mg mb : Str → Option Value} {k : Nat} {fa a : Addr} {fd : FuncData} {x : Str} {sp : Sp} {s : Shared} {vs : List Value} {ns : List Int}
    (KX : K.In s.heap) (hns : s.heap.Ns mainGlobals mg) (hb : s.heap.Ns builtinsNs mb) (hbb : ∀ x : Str, x ≠ "__name__" → mb x = bootBuiltins x) (hlim : s.heap.NoLimit) (hg : s.gens = #[])
    (ha : s.heap.get? a = some { cls := .type "list", data := .seq vs.toArray }) (hi : IntsAre vs ns) (hl : ns.length ≤ sizeLine) (hr : Room k callerA)
    (F : ∀ base : Heap, K.In base → base.Ns mainGlobals mg → FnG P w K mg base CX0 k fa fd [x] sp) (hbind : ∀ (s : Shared) (u : Value), BindsTo s fd ⟨[u], []⟩ [(x, u)])
    (hsp : ∀ H : Hp, Only H → SqL K H a (ns.map V.int) → sp [.ref a] H (fun v _ => v = .bl true) fun _ _ _ => False) :
    codeAny (model P w) callerA (.call (.ref fa) ⟨[.ref a], []⟩) (fun r s' => r = .ok (.ret (.bool true)) ∧ OldK s.heap s'.heap ∧ s'.os = s.os ∧ AllBare s'.gens) s := by
  have rv := vals_ints hi
  have lenV := hi.length
  cases hk : K.lookup a with
  | some o =>
    have e := (KX a o hk).symm.trans ha
    have e' := Option.some.inj e
    subst e'
    have O0 : Only fun _ => none := fun _ => .inl rfl
    refine law_run KX hns hb hbb hlim hg ha hr F hbind O0 (fun b u z => by cases z) (fun b z => absurd rfl z) (hsp _ O0 (.inr ⟨_, vs.toArray, _, hk, rfl, rfl, rfl, ?_, ?_⟩))
    · rw [List.size_toArray, lenV]
      exact hl
    · exact rv
  | none =>
    have at_a : (fun b => if b = a then some (HO.frz { cls := .type "list", data := .seq vs.toArray } (.lst (ns.map V.int))) else none : Hp) a = some (HO.frz { cls := .type "list", data := .seq vs.toArray } (.lst (ns.map V.int))) := if_pos rfl
    have O1 : Only fun b => if b = a then some (HO.frz { cls := .type "list", data := .seq vs.toArray } (.lst (ns.map V.int))) else none := fun b => by
      by_cases h : b = a
      · exact .inr ⟨_, _, if_pos h⟩
      · exact .inl (if_neg h)
    refine law_run KX hns hb hbb hlim hg ha hr F hbind O1 (fun b u z => ?_) (fun b z => ?_) (hsp _ O1 (.inl (.inr ⟨_, at_a⟩)))
    · by_cases h : b = a
      · have z' := (if_pos h).symm.trans z
        cases z'
        subst h
        exact ⟨ha, by rw [List.length_map]; exact hl, vs, _, rv, ha⟩
      · have z' := (if_neg h).symm.trans z
        cases z'
    · by_cases h : b = a
      · exact ⟨h, hk⟩
      · exact absurd (if_neg h) z
/-- the goal that the head leaves -/
theorem walk_G {l : PySem.W.OpenLaw} {n k : Nat} {q : Program} {loose : List Str} {XP : (Str → Option Value) → Heap → Prop} {YP : World → Heap → Prop} {d : DefRec} {K : Params → PySem.W.Frag} {sp : PySem.W.Frag → Sp} {x : Str}
    (hn : l.most = some n) (hn2 : n ≤ sizeLine) (hdf : d.params.defaults = []) (hr : Room k callerA) (hY : ∀ (w : World) (h : Heap), YP w h → (K w.params).In h)
    (F : ∀ (w : World) (mg : Str → Option Value) (fa : Addr) (h : Heap), (K w.params).In h → h.Ns mainGlobals mg → mg d.name = some (.ref fa) →
      ∃ fd : FuncData, (∀ (s : Shared) (u : Value), BindsTo s fd ⟨[u], []⟩ [(x, u)]) ∧ ∀ base : Heap, (K w.params).In base → base.Ns mainGlobals mg → FnG l.prog w (K w.params) mg base CX0 k fa fd [x] (sp (K w.params)))
    (hsp : ∀ (K : PySem.W.Frag) (H : Hp) (a : Addr) (ns : List Int), ns.length ≤ n → Only H → SqL K H a (ns.map V.int) → sp K [.ref a] H (fun v _ => v = .bl true) fun _ _ _ => False) :
    PySem.W.WalkO q loose XP YP l.row.toRowW d [] (fun f vs => PySem.call f vs) :=
  Att.attach_call hn hdf fun w s₀ s₁ mg mb fa o pm cd doc a vs ns G Y ho hd hcd hmg hobj hints hlen hg => by
    obtain ⟨fd, hb, hF⟩ := F w mg fa _ (hY w _ Y) G.T.g hmg
    exact law_callG (hY w _ Y) G.T.g G.T.b G.T.builtins G.T.nolimit hg hobj hints (Nat.le_trans hlen hn2) hr hF hb fun H hO hS => hsp _ H a ns hlen hO hS
end Mi

namespace Mi
open PySem L2 Evl

/-! ### a list of unlike things, one's own -/
def oHet (ss : List Slot) : Own := ⟨fun F o => ∃ vs : List V, o = .lst vs ∧ Paired (fun (s : Slot) (v : V) => s.ok F (some v)) ss vs, fun e ⟨vs, h1, h2⟩ => ⟨vs, h1, Paired.imp (fun s _ => s.mono e) h2⟩⟩
section
variable {X : Cx} {B : Bs} {env : Env} {os : Os} {pos : Pos} {α β : Type} {r : Rp α} {e : Expr} {rest : List Stmt} {post : Post β}
theorem Sit.het {F H : Hp} {σ : L2.St} {i j : Nat} {a : Addr} {ss : List Slot} (S : Sit B F H σ env os) (hi : env[i]? = some (sv (rAdr a) ())) (hj : os[j]? = some (a, oHet ss)) : σ[i]? = some (some (.ref a)) ∧ F a = none ∧ ∃ vs, H a = some (.lst vs) ∧ Paired (fun (s : Slot) (v : V) => s.ok F (some v)) ss vs := by
  obtain ⟨ov, g1, v, g2, g3⟩ := S.env.get hi
  have g3' : v = .ref a := g3
  subst g2 g3'
  obtain ⟨z1, ⟨o, z2, vs, z3, z5⟩, _⟩ := S.ow _ (List.mem_of_getElem? hj)
  subst z3
  exact ⟨g1, z1, vs, z2, z5⟩
theorem atI_nat' {α : Type} {xs : List α} {n : Nat} {x : α} {c : Int} (hc : c = (n : Int)) (h : xs[n]? = some x) : atI xs c = some x := by
  rw [hc]
  exact atI_nat h
theorem e_hidx (i j n : Nat) {x : Str} {p2 p3 : Pos} {c : Int} {q} {a : Addr} {ss : List Slot} {y : α} (hi : env[i]? = some (sv (rAdr a) ())) (hj : os[j]? = some (a, oHet ss)) (hn : ss[n]? = some (sv r y)) (hc : c = (n : Int) := by rfl) (hN : X.N[i]? = some x := by rfl)
    (hv : Vis X.env.scope x := by first | exact Or.inl rfl | exact Or.inr (Or.inl rfl) | exact Or.inr (Or.inr rfl)) (hd : (x == ("__debug__" : Str)) = false := by decide) (hcd : (x == ("__classdict__" : Str)) = false := by decide) (hs : PlainIx (.Constant (.int c) q p3) := by exact fun _ _ => rfl) :
    EE X B env os (.Subscript (.Name x p2) (.Constant (.int c) q p3) pos) r (ret y) :=
  PE.imp (pe_ix ix_list (pe_var hN hv hd hcd) pe_int hs) fun σ H Q ⟨F, P, S, hw, k⟩ => by
  obtain ⟨g1, g2, vs, g3, g5⟩ := S.het hi hj
  obtain ⟨v, hv, w, ew, okw⟩ := Paired.get' g5 hn
  cases ew
  exact ⟨.ref a, g1, a, vs, c, v, rfl, rfl, SqL.of g3, atI_nat' hc hv, k y hw v F H S (Ex.refl F) okw⟩
theorem b_hput (i j n : Nat) {x : Str} {p1 p2 p3 : Pos} {c : Int} {q} {a : Addr} {ss : List Slot} {w : W α} {w2 : α → W β} (hi : env[i]? = some (sv (rAdr a) ())) (hj : os[j]? = some (a, oHet ss)) (hn : n < ss.length) (he : EE X B env os e r w)
    (hr : ∀ y, BG X B env (os.set j (a, oHet (ss.set n (sv r y)))) rest post (w2 y)) (hc : c = (n : Int) := by rfl) (hN : X.N[i]? = some x := by rfl)
    (hv : Vis X.env.scope x := by first | exact Or.inl rfl | exact Or.inr (Or.inl rfl) | exact Or.inr (Or.inr rfl)) (hd : (x == ("__debug__" : Str)) = false := by decide) (hcd : (x == ("__classdict__" : Str)) = false := by decide)
    (ha : ∀ v, assign (.Subscript (.Name x p1) (.Constant (.int c) q p3) p2) X.env v = (do
      let ov ← holding [v] (eval (.Name x p1) X.env)
      let iv ← holding [v, ov] (eval (.Constant (.int c) q p3) X.env)
      standAt p2
      holding [v, ov, iv] (setItem ov iv v)
      release [v, ov, iv] []) := by intro _; rfl)
    (hs : swapsWithSole [.Subscript (.Name x p1) (.Constant (.int c) q p3) p2] e pos.line X.env = pure false := by rfl) (hw : swappedStores [.Subscript (.Name x p1) (.Constant (.int c) q p3) p2] e X.env = pure none := by rfl)
    (h1 : (assignEach [.Subscript (.Name x p1) (.Constant (.int c) q p3) p2] X.env).map (·.2) = [assign (.Subscript (.Name x p1) (.Constant (.int c) q p3) p2) X.env] := by rfl) :
    BG X B env os (.Assign [.Subscript (.Name x p1) (.Constant (.int c) q p3) p2] e pos :: rest) post (bnd w w2) :=
  PSs.imp (pss_cons (ps_asg he (pg_sub (pe_var hN hv hd hcd) pe_int set_list ha) hs hw h1) (PSs.ex hr)) fun D σ H ⟨F, P, S, hw, k⟩ => ⟨F, _, S, hw, fun y hy v F1 H1 S1 e1 ok => by
  obtain ⟨g1, g2, vs, g3, g5⟩ := S1.het hi hj
  have hlt : n < vs.length := by rw [← Paired.length g5]; exact hn
  have hix : ixN vs.length c = some n := by
    unfold ixN
    rw [hc, if_pos (by omega), if_pos (by omega)]
    simp
  exact ⟨.ref a, g1, a, vs, c, n, rfl, rfl, g3, hix, y, F1, P, S1.change hj ⟨_, rfl, Paired.setR (R := fun (s : Slot) (v : V) => s.ok F1 (some v)) (x := sv r y) (y := v) ⟨v, rfl, ok⟩ g5⟩, hy, k⟩⟩
/-- an own object is seen in more detail -/
theorem b_open {ι : Type} (j : Nat) {a : Addr} {o : Own} {oi : ι → Own} {w : W β} (hj : os[j]? = some (a, o)) (hop : ∀ F h, o.ok F h → ∃ i, (oi i).ok F h) (hr : ∀ i, BG X B env (os.set j (a, oi i)) rest post w) : BG X B env os rest post w :=
  PSs.imp (PSs.ex hr) fun D σ H ⟨F, P, S, hw, k⟩ => by
  obtain ⟨z1, ⟨h, z2, z3⟩, z4⟩ := S.ow _ (List.mem_of_getElem? hj)
  obtain ⟨i, hi⟩ := hop F h z3
  have S2 := S.change (ow' := oi i) (o' := h) hj hi
  have e : upd H a h = H := by
    funext b
    by_cases hb : b = a
    · subst hb
      rw [upd_same]
      exact z2.symm
    · rw [upd_ne hb]
  rw [e] at S2
  exact ⟨i, F, P, S2, hw, k⟩
end

/-! ### the bag of draws -/
abbrev bagS (cells : List Int) (n : Nat) (d m k : Int) : List Slot := [sv (rLst rInt) cells, sv rInt (n : Int), sv rInt d, sv rInt m, sv rInt k]
def oBag (cells : List Int) : Own := ⟨fun F o => ∃ p : Nat × Int × Int × Int, (oHet (bagS cells p.1 p.2.1 p.2.2.1 p.2.2.2)).ok F o, fun e ⟨p, h⟩ => ⟨p, (oHet _).mono e h⟩⟩
/-- any number below most -/
def drawW (most : Int) : W Int := fun P _ => 0 < most ∧ most.natAbs.log2 < 9000 ∧ ∀ r, 0 ≤ r → r < most → P r
def anyW {α : Type} (xs : List α) : W α := bnd (noX (drawW (xs.length : Int))) fun i => idx xs i
/-- the script, as it was handed in -/
def rScr (K : PySem.W.Frag) : Rp (List Int) := ⟨fun F v xs => ∃ a, v = .ref a ∧ SqL K F a (xs.map V.int) ∧ xs.length ≤ sizeLine, fun e ⟨a, h1, h2, h3⟩ => ⟨a, h1, ex_l e h2, h3⟩⟩
end Mi

namespace Mi
open PySem L2 Evl

/-! ### several targets at once -/
section
variable {X : Cx} {B : Bs} {env : Env} {os : Os} {pos : Pos} {α β γ δ : Type} {r : Rp α} {s : Rp γ} {t : Rp δ} {e a b c : Expr} {rest : List Stmt} {post : Post β} {i j l : Nat} {x y z : Str} {px py pz pt pt2 : Pos} {kt k2 : Nat}
variable {w1 : W α} {w2 : α → W γ} {w3 : α → γ → W δ} {w4 : α → γ → W β} {w5 : α → γ → δ → W β}
abbrev tA2 (B : Bs) (env : Env) (os : Os) (r : Rp α) (s : Rp γ) (w1 : W α) (w2 : α → W γ) : TA := tCons (tOf B env os r w1) (tCons (fun σ H Q => ∃ x, tOf B env os s (w2 x) σ H Q) tNil)
abbrev tA3 (B : Bs) (env : Env) (os : Os) (r : Rp α) (s : Rp γ) (t : Rp δ) (w1 : W α) (w2 : α → W γ) (w3 : α → γ → W δ) : TA := tCons (tOf B env os r w1) (tCons (fun σ H Q => ∃ x, tOf B env os s (w2 x) σ H Q) (tCons (fun σ H Q => ∃ p : α × γ, tOf B env os t (w3 p.1 p.2) σ H Q) tNil))
abbrev tO3 (B : Bs) (env : Env) (os : Os) (r : Rp α) (s : Rp γ) (t : Rp δ) (w1 : W (List α)) (v2 : γ) (v3 : δ) : TA := tCons (tNew B env os r w1) (tCons (fun σ H Q => ∃ p : Addr × List α, tOf B env ((p.1, oLst r p.2) :: os) s (ret v2) σ H Q) (tCons (fun σ H Q => ∃ p : Addr × List α, tOf B env ((p.1, oLst r p.2) :: os) t (ret v3) σ H Q) tNil))
theorem pa2 (ha : EE X B env os a r w1) (hb : ∀ x, EE X B env os b s (w2 x)) (hs : starEach [a, b] X.env = (false, eval a X.env) :: starEach [b] X.env := by rfl) (hs2 : starEach [b] X.env = (false, eval b X.env) :: starEach [] X.env := by rfl) : PA X [a, b] (tA2 B env os r s w1 w2) :=
  pa_cons ha (pa_cons (PE.ex hb) pa_nil hs2) hs
theorem pa3 (ha : EE X B env os a r w1) (hb : ∀ x, EE X B env os b s (w2 x)) (hc : ∀ x y, EE X B env os c t (w3 x y)) (hs : starEach [a, b, c] X.env = (false, eval a X.env) :: starEach [b, c] X.env := by rfl)
    (hs2 : starEach [b, c] X.env = (false, eval b X.env) :: starEach [c] X.env := by rfl) (hs3 : starEach [c] X.env = (false, eval c X.env) :: starEach [] X.env := by rfl) : PA X [a, b, c] (tA3 B env os r s t w1 w2 w3) :=
  pa_cons ha (pa_cons (PE.ex hb) (pa_cons (PE.ex fun p : α × γ => hc p.1 p.2) pa_nil hs3) hs2) hs
/-- a, b = e1, e2, by the statement's rule -/
theorem b_par2 (cc : PS X (.Assign [.Tuple [.Name x px, .Name y py] kt pt] (.Tuple [a, b] k2 pt2) pos) (tPar i j (tA2 B env os r s w1 w2))) (hr : ∀ u v, BG X B ((env.set i (sv r u)).set j (sv s v)) os rest post (w4 u v)) :
    BG X B env os (.Assign [.Tuple [.Name x px, .Name y py] kt pt] (.Tuple [a, b] k2 pt2) pos :: rest) post (bnd w1 fun u => bnd (w2 u) fun v => w4 u v) :=
  PSs.imp (pss_cons cc (PSs.ex fun p : α × γ => hr p.1 p.2)) fun D σ H ⟨F, P, S, hw, k⟩ => ⟨F, _, S, hw, fun u hu v1 F1 H1 S1 e1 ok1 => ⟨u, F1, _, S1, hu, fun v hv v2 F2 H2 S2 e2 ok2 =>
    ⟨v1, v2, rfl, (u, v), F2, P, (S2.store (sl := sv r u) ⟨v1, rfl, r.mono e2 ok1⟩).store (sl := sv s v) ⟨v2, rfl, ok2⟩, hv, k⟩⟩⟩
theorem b_par2T (cc : PS X (.Assign [.Tuple [.Name x px, .Name y py] kt pt] (.Tuple [a, b] k2 pt2) pos) (tAsg (tTup (tA2 B env os r s w1 w2)) (gTup X.K 2 (gCons (gName i) (gCons (gName j) gNil))))) (hr : ∀ u v, BG X B ((env.set i (sv r u)).set j (sv s v)) os rest post (w4 u v)) :
    BG X B env os (.Assign [.Tuple [.Name x px, .Name y py] kt pt] (.Tuple [a, b] k2 pt2) pos :: rest) post (bnd w1 fun u => bnd (w2 u) fun v => w4 u v) :=
  PSs.imp (pss_cons cc (PSs.ex fun p : α × γ => hr p.1 p.2)) fun D σ H ⟨F, P, S, hw, k⟩ => ⟨F, _, S, hw, fun u hu v1 F1 H1 S1 e1 ok1 => ⟨u, F1, _, S1, hu, fun v hv v2 F2 H2 S2 e2 ok2 =>
    ⟨(by show 2 ≤ sizeLine; decide), fun p hp => by
      have g : Grow F2 H2 (upd F2 p (.tup [v1, v2])) (upd H2 p (.tup [v1, v2])) := Grow.alloc S2.fh hp
      have S3 := S2.grow g
      exact ⟨p, [v1, v2], rfl, SqT.of upd_same, rfl, v1, [v2], rfl, v2, [], rfl, rfl, (u, v), _, P, (S3.store (sl := sv r u) ⟨v1, rfl, r.mono (e2.trans g.f) ok1⟩).store (sl := sv s v) ⟨v2, rfl, s.mono g.f ok2⟩, hv, k⟩⟩⟩⟩
theorem b_par3 (cc : PS X (.Assign [.Tuple [.Name x px, .Name y py, .Name z pz] kt pt] (.Tuple [a, b, c] k2 pt2) pos) (tPar3 i j l (tA3 B env os r s t w1 w2 w3))) (hr : ∀ u v q, BG X B (((env.set i (sv r u)).set j (sv s v)).set l (sv t q)) os rest post (w5 u v q)) :
    BG X B env os (.Assign [.Tuple [.Name x px, .Name y py, .Name z pz] kt pt] (.Tuple [a, b, c] k2 pt2) pos :: rest) post (bnd w1 fun u => bnd (w2 u) fun v => bnd (w3 u v) fun q => w5 u v q) :=
  PSs.imp (pss_cons cc (PSs.ex fun p : α × γ × δ => hr p.1 p.2.1 p.2.2)) fun D σ H ⟨F, P, S, hw, k⟩ => ⟨F, _, S, hw, fun u hu v1 F1 H1 S1 e1 ok1 => ⟨u, F1, _, S1, hu, fun v hv v2 F2 H2 S2 e2 ok2 => ⟨(u, v), F2, _, S2, hv, fun q hq v3 F3 H3 S3 e3 ok3 =>
    ⟨v1, v2, v3, rfl, (u, v, q), F3, P, ((S3.store (sl := sv r u) ⟨v1, rfl, r.mono (e2.trans e3) ok1⟩).store (sl := sv s v) ⟨v2, rfl, s.mono e3 ok2⟩).store (sl := sv t q) ⟨v3, rfl, ok3⟩, hq, k⟩⟩⟩⟩
theorem b_par3T (cc : PS X (.Assign [.Tuple [.Name x px, .Name y py, .Name z pz] kt pt] (.Tuple [a, b, c] k2 pt2) pos) (tAsg (tTup (tA3 B env os r s t w1 w2 w3)) (gTup X.K 3 (gCons (gName i) (gCons (gName j) (gCons (gName l) gNil)))))) (hr : ∀ u v q, BG X B (((env.set i (sv r u)).set j (sv s v)).set l (sv t q)) os rest post (w5 u v q)) :
    BG X B env os (.Assign [.Tuple [.Name x px, .Name y py, .Name z pz] kt pt] (.Tuple [a, b, c] k2 pt2) pos :: rest) post (bnd w1 fun u => bnd (w2 u) fun v => bnd (w3 u v) fun q => w5 u v q) :=
  PSs.imp (pss_cons cc (PSs.ex fun p : α × γ × δ => hr p.1 p.2.1 p.2.2)) fun D σ H ⟨F, P, S, hw, k⟩ => ⟨F, _, S, hw, fun u hu v1 F1 H1 S1 e1 ok1 => ⟨u, F1, _, S1, hu, fun v hv v2 F2 H2 S2 e2 ok2 => ⟨(u, v), F2, _, S2, hv, fun q hq v3 F3 H3 S3 e3 ok3 =>
    ⟨(by show 3 ≤ sizeLine; decide), fun p hp => by
      have g : Grow F3 H3 (upd F3 p (.tup [v1, v2, v3])) (upd H3 p (.tup [v1, v2, v3])) := Grow.alloc S3.fh hp
      have S4 := S3.grow g
      exact ⟨p, [v1, v2, v3], rfl, SqT.of upd_same, rfl, v1, [v2, v3], rfl, v2, [v3], rfl, v3, [], rfl, rfl, (u, v, q), _, P, ((S4.store (sl := sv r u) ⟨v1, rfl, r.mono ((e2.trans e3).trans g.f) ok1⟩).store (sl := sv s v) ⟨v2, rfl, s.mono (e3.trans g.f) ok2⟩).store (sl := sv t q) ⟨v3, rfl, t.mono g.f ok3⟩, hq, k⟩⟩⟩⟩⟩
/-- the first a new list of one's own, the others plain -/
theorem b_own3T {w1 : W (List α)} {v2 : γ} {v3 : δ} {w5 : List α → W β} (cc : PS X (.Assign [.Tuple [.Name x px, .Name y py, .Name z pz] kt pt] (.Tuple [a, b, c] k2 pt2) pos) (tAsg (tTup (tO3 B env os r s t w1 v2 v3)) (gTup X.K 3 (gCons (gName i) (gCons (gName j) (gCons (gName l) gNil))))))
    (hr : ∀ u xs, BG X B (((env.set i (sv (rAdr u) ())).set j (sv s v2)).set l (sv t v3)) ((u, oLst r xs) :: os) rest post (w5 xs)) :
    BG X B env os (.Assign [.Tuple [.Name x px, .Name y py, .Name z pz] kt pt] (.Tuple [a, b, c] k2 pt2) pos :: rest) post (bnd w1 w5) :=
  PSs.imp (pss_cons cc (PSs.ex fun p : Addr × List α => hr p.1 p.2)) fun D σ H ⟨F, P, S, hw, k⟩ => ⟨F, _, S, hw, fun xs hx u F1 H1 S1 e1 => ⟨(u, xs), F1, fun q => q = v2, S1, rfl, fun q hq v2' F2 H2 S2 e2 ok2 => ⟨(u, xs), F2, fun q => q = v3, S2, rfl, fun q3 hq3 v3' F3 H3 S3 e3 ok3 => by
    subst hq hq3
    refine ⟨(by show 3 ≤ sizeLine; decide), fun p hp => ?_⟩
    have g : Grow F3 H3 (upd F3 p (.tup [V.ref u, v2', v3'])) (upd H3 p (.tup [V.ref u, v2', v3'])) := Grow.alloc S3.fh hp
    have S4 := S3.grow g
    exact ⟨p, [V.ref u, v2', v3'], rfl, SqT.of upd_same, rfl, V.ref u, [v2', v3'], rfl, v2', [v3'], rfl, v3', [], rfl, rfl, (u, xs), _, P, ((S4.store (sl := sv (rAdr u) ()) ⟨V.ref u, rfl, rfl⟩).store (sl := sv s q) ⟨v2', rfl, s.mono (e3.trans g.f) ok2⟩).store (sl := sv t q3) ⟨v3', rfl, t.mono g.f ok3⟩, hx, k⟩⟩⟩⟩
theorem b_own3 {w1 : W (List α)} {v2 : γ} {v3 : δ} {w5 : List α → W β} (cc : PS X (.Assign [.Tuple [.Name x px, .Name y py, .Name z pz] kt pt] (.Tuple [a, b, c] k2 pt2) pos) (tPar3 i j l (tO3 B env os r s t w1 v2 v3)))
    (hr : ∀ u xs, BG X B (((env.set i (sv (rAdr u) ())).set j (sv s v2)).set l (sv t v3)) ((u, oLst r xs) :: os) rest post (w5 xs)) :
    BG X B env os (.Assign [.Tuple [.Name x px, .Name y py, .Name z pz] kt pt] (.Tuple [a, b, c] k2 pt2) pos :: rest) post (bnd w1 w5) :=
  PSs.imp (pss_cons cc (PSs.ex fun p : Addr × List α => hr p.1 p.2)) fun D σ H ⟨F, P, S, hw, k⟩ => ⟨F, _, S, hw, fun xs hx u F1 H1 S1 e1 => ⟨(u, xs), F1, fun q => q = v2, S1, rfl, fun q hq v2' F2 H2 S2 e2 ok2 => ⟨(u, xs), F2, fun q => q = v3, S2, rfl, fun q3 hq3 v3' F3 H3 S3 e3 ok3 => by
    subst hq hq3
    exact ⟨V.ref u, v2', v3', rfl, (u, xs), F3, P, ((S3.store (sl := sv (rAdr u) ()) ⟨V.ref u, rfl, rfl⟩).store (sl := sv s q) ⟨v2', rfl, s.mono e3 ok2⟩).store (sl := sv t q3) ⟨v3', rfl, ok3⟩, hx, k⟩⟩⟩⟩
theorem paO3 {w1 : W (List α)} {v2 : γ} {v3 : δ} (ha : EN X B env os a r w1) (hb : ∀ u xs, EE X B env ((u, oLst r xs) :: os) b s (ret v2)) (hc : ∀ u xs, EE X B env ((u, oLst r xs) :: os) c t (ret v3)) (hs : starEach [a, b, c] X.env = (false, eval a X.env) :: starEach [b, c] X.env := by rfl)
    (hs2 : starEach [b, c] X.env = (false, eval b X.env) :: starEach [c] X.env := by rfl) (hs3 : starEach [c] X.env = (false, eval c X.env) :: starEach [] X.env := by rfl) : PA X [a, b, c] (tO3 B env os r s t w1 v2 v3) :=
  pa_cons ha (pa_cons (PE.ex fun p : Addr × List α => hb p.1 p.2) (pa_cons (PE.ex fun p : Addr × List α => hc p.1 p.2) pa_nil hs3) hs2) hs
/-- xs[i], xs[j] = e1, e2 for one's own list xs -/
theorem b_swap {a0 : Addr} {xs : List α} {ei ej : Expr} {w1 w2 : W α} {w3 : W Int} {w4 : List α → W Int} {w5 : List α → W β} {i j : Nat} (hi : env[i]? = some (sv (rAdr a0) ())) (hj : os[j]? = some (a0, oLst r xs))
    (hr : ∀ ys, BG X B env (os.set j (a0, oLst r ys)) rest post (w5 ys))
    (cc : PS X (.Assign [.Tuple [.Subscript (.Name x px) ei py, .Subscript (.Name x pz) ej pt] kt pt2] e pos)
      (tAsg (tTup (tCons (tOf B env os r w1) (tCons (tOf B env os r w2) tNil))) (gTup X.K 2 (gCons (gSub (tVar i) (tOf B env os rInt w3) rSetL) (gCons (gSub (tVar i) (fun σ H Q => ∃ ys, tOf B env (os.set j (a0, oLst r ys)) rInt (w4 ys) σ H Q) rSetL) gNil))))) :
    BG X B env os (.Assign [.Tuple [.Subscript (.Name x px) ei py, .Subscript (.Name x pz) ej pt] kt pt2] e pos :: rest) post
      (bnd w1 fun u => bnd w2 fun v => bnd w3 fun k1 => bnd (putL xs k1 u) fun ys => bnd (w4 ys) fun k2 => bnd (putL ys k2 v) w5) :=
  PSs.imp (pss_cons cc (PSs.ex hr)) fun D σ H ⟨F, P, S, hw, k⟩ => ⟨F, _, S, hw, fun u hu v1 F1 H1 S1 e1 ok1 => ⟨F1, _, S1, hu, fun v hv v2 F2 H2 S2 e2 ok2 => ⟨(by show 2 ≤ sizeLine; decide), fun p hp => by
  have g : Grow F2 H2 (upd F2 p (.tup [v1, v2])) (upd H2 p (.tup [v1, v2])) := Grow.alloc S2.fh hp
  have S3 := S2.grow g
  obtain ⟨g1, _, _, _, _, _⟩ := S3.own hi hj
  refine ⟨p, [v1, v2], rfl, SqT.of upd_same, rfl, v1, [v2], rfl, ⟨.ref a0, g1, _, _, S3, hv, fun k1 hk1 vk F4 H4 S4 e4 ok4 => ?_⟩⟩
  obtain ⟨_, _, vs, h3, h4, h5⟩ := S4.own hi hj
  obtain ⟨l1, hl1, pl1⟩ := putL_of hk1
  refine ⟨a0, vs, k1, l1, rfl, ok4, h3, by rw [h5.length]; exact hl1, v2, [], rfl, ?_⟩
  have S5 := S4.change (ow' := oLst r (xs.set l1 u)) (o' := .lst (vs.set l1 v1)) hj ⟨_, rfl, by rw [List.length_set]; exact h4, Paired.setR (r.mono ((e2.trans g.f).trans e4) ok1) h5⟩
  have hjl : j < os.length := (List.getElem?_eq_some_iff.mp hj).1
  have hj5 : (os.set j (a0, oLst r (xs.set l1 u)))[j]? = some (a0, oLst r (xs.set l1 u)) := List.getElem?_set_self hjl
  obtain ⟨g5, _, _, _, _, _⟩ := S5.own hi hj5
  refine ⟨.ref a0, g5, xs.set l1 u, F4, _, S5, pl1, fun k2 hk2 vk2 F6 H6 S6 e6 ok6 => ?_⟩
  obtain ⟨_, _, vs6, h63, h64, h65⟩ := S6.own hi hj5
  obtain ⟨l2, hl2, pl2⟩ := putL_of hk2
  refine ⟨a0, vs6, k2, l2, rfl, ok6, h63, by rw [h65.length]; exact hl2, rfl, ?_⟩
  have S7 := S6.change (ow' := oLst r ((xs.set l1 u).set l2 v)) (o' := .lst (vs6.set l2 v2)) hj5 ⟨_, rfl, by rw [List.length_set]; exact h64, Paired.setR (r.mono ((g.f.trans e4).trans e6) ok2) h65⟩
  rw [List.set_set] at S7
  exact ⟨_, F6, P, S7, pl2, k⟩⟩⟩⟩
end
end Mi

namespace Mi
open PySem L2 Evl

/-! ### calls by keywords alone -/
/-- how keywords ks bind: g puts their values in the parameters' order -/
def KwB (K : PySem.W.Frag) (fd : FuncData) (ps ks : List Str) (g : {α : Type} → List α → List α) : Prop := ∀ (s : Shared) (ws : List Value), K.In s.heap → ws.length = ks.length → BindsTo s fd ⟨[], ks.zip ws⟩ (ps.zip (g ws))
/-- a def without defaults -/
theorem kwB_of {K : PySem.W.Frag} {x qual : Str} {st : Stmt} {f : Addr} {fd : FuncData} {ps ks : List Str} {g : {α : Type} → List α → List α} (F : Fun K x qual st f fd)
    (h : ∀ (kV doc pm : Value) (an : Option Addr) (cdv ct : Value) (ws : List Value), ws.length = ks.length → bindArgs (PySem.W.fnOf x qual (defArgs st) (defBody st) (defScope st) .none kV doc pm an cdv ct) ⟨[], ks.zip ws⟩ = pure (ps.zip (g ws))) : KwB K fd ps ks g := by
  obtain ⟨oc, od, kV, doc, pm, an, cdv, ct, osl, rfl, lk, hcd⟩ := F.ex
  exact fun s ws _ hl => .of_eq (h kV doc pm an cdv ct ws hl)
def tKK (B : Bs) (env : Env) (os : Os) {ι : Type} (sl : ι → Env) (w : W ι) : TA := tAA B env os sl w
def KK (X : Cx) (B : Bs) (env : Env) (os : Os) (kws : List Keyword) {ι : Type} (sl : ι → Env) (w : W ι) : Prop := PK X kws (tKK B env os sl w)
section
variable {X : Cx} {B : Bs} {env : Env} {os : Os} {pos p : Pos} {α β ι κ ρ : Type} {r : Rp α} {sl : κ → Env} {args : ι → Env} {osf : ι → Os} {wf : ι → W ρ} {ro : Rp ρ} {e : Expr} {kws : List Keyword} {x : Str} {k : Nat} {f : Addr} {fd : FuncData} {ps ks : List Str} {g : {α : Type} → List α → List α}
theorem PK.imp {t t' : TA} (h : PK X kws t) (i : ∀ σ H Q, t' σ H Q → t σ H Q) : PK X kws t' := ⟨fun pos pins s σ H Q I q => h.run pos pins s σ H Q I (i _ _ _ q)⟩
theorem PK.ex {ι : Type} {t : ι → TA} (h : ∀ i, PK X kws (t i)) : PK X kws (fun σ H Q => ∃ i, t i σ H Q) := ⟨fun pos pins s σ H Q I ⟨i, q⟩ => (h i).run pos pins s σ H Q I q⟩
theorem kk_nil : KK X B env os [] (fun _ : Unit => []) (ret ()) := PK.imp pk_nil fun σ H Q ⟨F, P, S, hw, k⟩ => k () hw [] F H S (Ex.refl F) .nil
theorem kk_cons {nm : Option Str} {kpos : Pos} {w1 : W α} {w2 : α → W κ} (h : EE X B env os e r w1) (ht : ∀ y, KK X B env os kws sl (w2 y)) : KK X B env os (⟨nm, e, kpos⟩ :: kws) (fun q : α × κ => sv r q.1 :: sl q.2) (bnd w1 fun y => bnd (w2 y) fun i => ret (y, i)) :=
  PK.imp (pk_cons h (PK.ex ht)) fun σ H Q ⟨F, P, S, hw, k⟩ => ⟨F, _, S, hw, fun y hy v F1 H1 S1 e1 ok1 => ⟨y, F1, _, S1, hy, fun i hi vs F2 H2 S2 e2 ok2 => k _ hi (v :: vs) F2 H2 S2 (e1.trans e2) (.cons ⟨v, rfl, r.mono e2 ok1⟩ ok2)⟩⟩
/-- f(k = v, ..) -/
theorem e_callK {w : W κ} {conv : κ → ι} (G : FnOk X.prog X.w X.K X.mg X.base CX0 k f fd ps (spW args osf wf ro)) (hr : Room k X.A) (hm : X.mg x = some (.ref f)) (hk : PySem.W.keepIn X.K (.ref f) = true) (hb : KwB X.K fd ps ks g)
    (hrel : ∀ {vs : List V} {us : List Value}, Vals vs us → Vals (g vs) (g us)) (hconv : ∀ q vs F, EnvOk F (sl q) (vs.map some) → EnvOk F (args (conv q)) ((g vs).map some))
    (hkw : KK X B env os kws sl w) (ho : ∀ i, OsLe os (osf i)) (hnd : ∀ i, ((osf i).map (·.1)).Nodup) (hln : ∀ q, (sl q).length = ks.length) (hall : (backToKw pos (keywordEach kws X.env)).all (·.1.isSome) = true := by rfl) (hks : (backToKw pos (keywordEach kws X.env)).filterMap (·.1) = ks := by rfl)
    (hg : Gl X x := by rfl) (hdb : (x == ("__debug__" : Str)) = false := by decide) (hpl : ((backTo pos (starEach [] X.env)).any (·.1) || (backToKw pos (keywordEach kws X.env)).any (·.1.isNone)) = false := by rfl) :
    EE X B env os (.Call (.Name x p) [] kws pos) ro (bnd w fun q => noX (wf (conv q))) := by
  refine ⟨fun pins s σ H Q I h => ?_⟩
  refine wpAny_Call_Name_kw (ld_glob I hg hm ?_ hdb)
  refine PySem.W.callWith_KW0 (h₀ := X.base) I.ok.mod.kin hk hall ?_ hpl
  obtain ⟨F, P, S, hw, kk⟩ := h
  refine thn (hkw.run pos pins s σ H (fun zs H2 => ∃ us' : Unit, zs.length = ks.length ∧ spW args osf wf ro (g zs) H2 Q E0) I ⟨F, _, S, hw, fun q hq vs F1 H1 S1 e1 ok => ⟨(), ?_, conv q, F1, P, S1.fh, hconv q vs F1 ok, fun p hp => ?_, hnd _, hq, fun y hy v F2 H2 fn ow okv => ?_⟩⟩) fun ws s2 ⟨zs, H2, I2, rz, _, l2, q2⟩ => ⟨I2.kIn, ?_⟩
  · have := ok.len
    rw [List.length_map, hln q] at this
    exact this.symm
  · obtain ⟨h1, h2, _⟩ := S1.ow p (ho _ p hp)
    exact ⟨h1, h2⟩
  · exact kk y hy v F2 H2 (S1.back (ho _) fn ow) (e1.trans fn.bf) okv
  · rw [hks]
    have r2 : Vals (g zs) (g ws) := hrel rz
    have b := hb s2 ws I2.kIn (rz.length.symm.trans l2)
    refine wpAny_call (codeAny_mono (G.run X.A X.stack s2 H2 ⟨[], ks.zip ws⟩ (g ws) (g zs) Q E0 hr I2.env0 b r2 q2) fun res s' hq => ?_)
    cases res with
    | error e => exact False.elim hq
    | ok fl =>
      cases fl with
      | ret u => exact I2.after hq
      | next => exact False.elim hq
      | brk => exact False.elim hq
      | cont => exact False.elim hq
end
theorem swap_vals {vs : List V} {us : List Value} (h : Vals vs us) : Vals vs.reverse us.reverse := by
  induction h with
  | nil => exact .nil
  | cons r t ih =>
    rw [List.reverse_cons, List.reverse_cons]
    exact Vals.append ih (.cons r .nil)

/-! ### small things for printed proofs -/
theorem OsLe.mem {os : Os} {p : Addr × Own} (h : p ∈ os) : OsLe os [p] := fun q hq => by
  rcases List.mem_cons.mp hq with e | e
  · exact e ▸ h
  · cases e
theorem OsLe.none {os : Os} : OsLe os [] := fun q hq => by cases hq
/-- behind a loop that may be left by return -/
def flEnd {S ρ β : Type} (inj : ρ → β) (k : S → W β) : Fl S ρ → W β
  | .rt x => ret (inj x)
  | .nx s => k s
  | .bk _ => fail
  | .ct _ => fail
@[simp] theorem flEnd_rt {S ρ β : Type} (inj : ρ → β) (k : S → W β) (x : ρ) : flEnd inj k (.rt x) = ret (inj x) := rfl
@[simp] theorem flEnd_nx {S ρ β : Type} (inj : ρ → β) (k : S → W β) (s : S) : flEnd inj k (.nx s) = k s := rfl
section
variable {X : Cx} {B : Bs} {env : Env} {os : Os} {pos : Pos} {α β : Type} {r : Rp α} {f : α → PyData} {n : Nat}
theorem eqv_nil {xs : List α} : PyData.eqv (.list (xs.map f)) (.list []) = xs.isEmpty := by
  cases xs <;> simp [PyData.eqv, PyData.eqvAll]
/-- found == [], found != [], found one's own list -/
theorem e_eqNilO (i j : Nat) {x : Str} {p1 p2 : Pos} {a : Addr} {xs : List α} (hu : X.A.units + 64 < cLine) (d : DD X.K r f n) (hi : env[i]? = some (sv (rAdr a) ())) (hj : os[j]? = some (a, oLst r xs)) (hn : n + 1 ≤ 64 := by decide) (hN : X.N[i]? = some x := by rfl)
    (hv : Vis X.env.scope x := by first | exact Or.inl rfl | exact Or.inr (Or.inl rfl) | exact Or.inr (Or.inr rfl)) (hd : (x == ("__debug__" : Str)) = false := by decide) (hcd : (x == ("__classdict__" : Str)) = false := by decide) :
    EE X B env os (.Compare (.Name x p1) [.Eq] [.List [] p2] pos) rBool (ret xs.isEmpty) :=
  PE.imp (pe_cmpR (op_eqD hu) (pe_var hN hv hd hcd) (pe_lst pa_nil) (nomark _)) fun σ H Q ⟨F, P, S, hw, k⟩ => by
  obtain ⟨g1, g2, vs, g3, g4, g5⟩ := S.own hi hj
  refine ⟨.ref a, g1, Nat.zero_le _, fun p hp => ?_⟩
  have g : Grow F H (upd F p (.lst [])) (upd H p (.lst [])) := Grow.alloc S.fh hp
  have S2 := S.grow g
  obtain ⟨k1, k2, k3⟩ := dd_all d (F := upd H p (.lst [])) (Paired.imp (fun _ _ => r.mono (g.f.trans S2.fh)) g5)
  refine ⟨.list (xs.map f), .list [], .lst (SqL.of (Ex.new hp _ _ g3)) k1, .lst (SqL.of upd_same) .nil, shaped_of (n := n + 1) (by rw [PyData.canLay0]; exact k2) (by rw [PyData.depth]; omega) hn, by decide, ?_⟩
  rw [eqv_nil]
  exact k _ hw _ _ _ S2 g.f rfl
theorem e_neNilO (i j : Nat) {x : Str} {p1 p2 : Pos} {a : Addr} {xs : List α} (hu : X.A.units + 64 < cLine) (d : DD X.K r f n) (hi : env[i]? = some (sv (rAdr a) ())) (hj : os[j]? = some (a, oLst r xs)) (hn : n + 1 ≤ 64 := by decide) (hN : X.N[i]? = some x := by rfl)
    (hv : Vis X.env.scope x := by first | exact Or.inl rfl | exact Or.inr (Or.inl rfl) | exact Or.inr (Or.inr rfl)) (hd : (x == ("__debug__" : Str)) = false := by decide) (hcd : (x == ("__classdict__" : Str)) = false := by decide) :
    EE X B env os (.Compare (.Name x p1) [.NotEq] [.List [] p2] pos) rBool (ret (!xs.isEmpty)) :=
  PE.imp (pe_cmpR (op_neD hu) (pe_var hN hv hd hcd) (pe_lst pa_nil) (nomark _)) fun σ H Q ⟨F, P, S, hw, k⟩ => by
  obtain ⟨g1, g2, vs, g3, g4, g5⟩ := S.own hi hj
  refine ⟨.ref a, g1, Nat.zero_le _, fun p hp => ?_⟩
  have g : Grow F H (upd F p (.lst [])) (upd H p (.lst [])) := Grow.alloc S.fh hp
  have S2 := S.grow g
  obtain ⟨k1, k2, k3⟩ := dd_all d (F := upd H p (.lst [])) (Paired.imp (fun _ _ => r.mono (g.f.trans S2.fh)) g5)
  refine ⟨.list (xs.map f), .list [], .lst (SqL.of (Ex.new hp _ _ g3)) k1, .lst (SqL.of upd_same) .nil, shaped_of (n := n + 1) (by rw [PyData.canLay0]; exact k2) (by rw [PyData.depth]; omega) hn, by decide, ?_⟩
  rw [eqv_nil]
  exact k _ hw _ _ _ S2 g.f rfl
end
end Mi

namespace Mi
open PySem L2 Evl

section
variable {X : Cx} {B : Bs} {env : Env} {os : Os} {pos : Pos} {α β γ ρ S : Type} {r : Rp α} {s : Rp β} {f : α → PyData} {g : β → PyData} {n m : Nat} {e a b tg : Expr}
/-! ### other words for the same -/
theorem t_conv {w w' : W Bool} (h : ET X B env os e w) (q : w' = w) : ET X B env os e w' := q ▸ h
theorem n_conv {w w' : W (List α)} (h : EN X B env os e r w) (q : w' = w) : EN X B env os e r w' := q ▸ h
theorem s_conv {w w' : W (List α)} (h : ES X B env os tg e r w) (q : w' = w) : ES X B env os tg e r w' := q ▸ h
/-! the mirror's words put in one line (told so that no unfolding is asked of the kernel) -/
theorem wn_br {α β : Type} (x : α) (f : α → W β) : bnd (ret x) f = f x := funext fun _ => rfl
theorem wn_rb {α : Type} (m : W α) : bnd m ret = m := funext fun _ => rfl
theorem wn_bb {α β γ : Type} (m : W α) (f : α → W β) (g : β → W γ) : bnd (bnd m f) g = bnd m fun x => bnd (f x) g := funext fun _ => rfl
theorem wn_cb {c : Prop} {α β : Type} (w : W α) (f : α → W β) : bnd (chk c w) f = chk c (bnd w f) := funext fun _ => rfl
/-! ### comparisons as tests -/
section
variable {w1 : W Int} {w2 : Int → W Int}
theorem t_lt (ha : EE X B env os a rInt w1) (hb : ∀ x, EE X B env os b rInt (w2 x)) : ET X B env os (.Compare a [.Lt] [b] pos) (bnd w1 fun x => bnd (w2 x) fun y => ret (decide (x < y))) := t_cmp op_lt (r2i fun _ _ _ => rfl) (nomark _) ha hb
theorem t_le (ha : EE X B env os a rInt w1) (hb : ∀ x, EE X B env os b rInt (w2 x)) : ET X B env os (.Compare a [.LtE] [b] pos) (bnd w1 fun x => bnd (w2 x) fun y => ret (decide (x ≤ y))) := t_cmp op_le (r2i fun _ _ _ => rfl) (nomark _) ha hb
theorem t_gt (ha : EE X B env os a rInt w1) (hb : ∀ x, EE X B env os b rInt (w2 x)) : ET X B env os (.Compare a [.Gt] [b] pos) (bnd w1 fun x => bnd (w2 x) fun y => ret (decide (y < x))) := t_cmp op_gt (r2i fun _ _ _ => rfl) (nomark _) ha hb
theorem t_ge (ha : EE X B env os a rInt w1) (hb : ∀ x, EE X B env os b rInt (w2 x)) : ET X B env os (.Compare a [.GtE] [b] pos) (bnd w1 fun x => bnd (w2 x) fun y => ret (decide (y ≤ x))) := t_cmp op_ge (r2i fun _ _ _ => rfl) (nomark _) ha hb
theorem t_eqI (ha : EE X B env os a rInt w1) (hb : ∀ x, EE X B env os b rInt (w2 x)) : ET X B env os (.Compare a [.Eq] [b] pos) (bnd w1 fun x => bnd (w2 x) fun y => ret (decide (x = y))) := t_cmp op_eq sem_eqI (nomark _) ha hb
theorem t_neI (ha : EE X B env os a rInt w1) (hb : ∀ x, EE X B env os b rInt (w2 x)) : ET X B env os (.Compare a [.NotEq] [b] pos) (bnd w1 fun x => bnd (w2 x) fun y => ret (!decide (x = y))) := t_cmp op_ne sem_neI (nomark _) ha hb
end
theorem t_eqS {w1 : W Str} {w2 : Str → W Str} (ha : EE X B env os a rStr w1) (hb : ∀ x, EE X B env os b rStr (w2 x)) : ET X B env os (.Compare a [.Eq] [b] pos) (bnd w1 fun x => bnd (w2 x) fun y => ret (decide (x = y))) := t_cmp op_eq sem_eqS (nomark _) ha hb
theorem t_neS {w1 : W Str} {w2 : Str → W Str} (ha : EE X B env os a rStr w1) (hb : ∀ x, EE X B env os b rStr (w2 x)) : ET X B env os (.Compare a [.NotEq] [b] pos) (bnd w1 fun x => bnd (w2 x) fun y => ret (!decide (x = y))) := t_cmp op_ne sem_neS (nomark _) ha hb
theorem t_eqD {w1 : W α} {w2 : α → W β} (hu : X.A.units + 64 < cLine) (d : DD X.K r f n) (e : DD X.K s g m) (ha : EE X B env os a r w1) (hb : ∀ x, EE X B env os b s (w2 x)) (hn : n ≤ 64 := by decide) (hm : m ≤ 64 := by decide) : ET X B env os (.Compare a [.Eq] [b] pos) (bnd w1 fun x => bnd (w2 x) fun y => ret (PyData.eqv (f x) (g y))) := t_cmp (op_eqD hu) (sem_eqD d e hn hm) (nomark _) ha hb
theorem t_neD {w1 : W α} {w2 : α → W β} (hu : X.A.units + 64 < cLine) (d : DD X.K r f n) (e : DD X.K s g m) (ha : EE X B env os a r w1) (hb : ∀ x, EE X B env os b s (w2 x)) (hn : n ≤ 64 := by decide) (hm : m ≤ 64 := by decide) : ET X B env os (.Compare a [.NotEq] [b] pos) (bnd w1 fun x => bnd (w2 x) fun y => ret (!PyData.eqv (f x) (g y))) := t_cmp (op_neD hu) (sem_neD d e hn hm) (nomark _) ha hb
theorem t_eqNilO (i j : Nat) {x : Str} {p1 p2 : Pos} {a : Addr} {xs : List α} (hu : X.A.units + 64 < cLine) (d : DD X.K r f n) (hi : env[i]? = some (sv (rAdr a) ())) (hj : os[j]? = some (a, oLst r xs)) (hn : n + 1 ≤ 64 := by decide) (hN : X.N[i]? = some x := by rfl)
    (hv : Vis X.env.scope x := by first | exact Or.inl rfl | exact Or.inr (Or.inl rfl) | exact Or.inr (Or.inr rfl)) (hd : (x == ("__debug__" : Str)) = false := by decide) (hcd : (x == ("__classdict__" : Str)) = false := by decide) :
    ET X B env os (.Compare (.Name x p1) [.Eq] [.List [] p2] pos) (ret xs.isEmpty) :=
  PT.imp (pt_cmpR (op_eqD hu) (pe_var hN hv hd hcd) (pe_lst pa_nil) (nomark _)) fun σ H Q ⟨F, P, S, hw, k⟩ => by
  obtain ⟨g1, g2, vs, g3, g4, g5⟩ := S.own hi hj
  refine ⟨.ref a, g1, Nat.zero_le _, fun p hp => ?_⟩
  have g : Grow F H (upd F p (.lst [])) (upd H p (.lst [])) := Grow.alloc S.fh hp
  have S2 := S.grow g
  obtain ⟨k1, k2, k3⟩ := dd_all d (F := upd H p (.lst [])) (Paired.imp (fun _ _ => r.mono (g.f.trans S2.fh)) g5)
  refine ⟨.list (xs.map f), .list [], .lst (SqL.of (Ex.new hp _ _ g3)) k1, .lst (SqL.of upd_same) .nil, shaped_of (n := n + 1) (by rw [PyData.canLay0]; exact k2) (by rw [PyData.depth]; omega) hn, by decide, ?_⟩
  rw [eqv_nil]
  exact ⟨_, rfl, k _ hw _ _ S2 g.f⟩
theorem t_neNilO (i j : Nat) {x : Str} {p1 p2 : Pos} {a : Addr} {xs : List α} (hu : X.A.units + 64 < cLine) (d : DD X.K r f n) (hi : env[i]? = some (sv (rAdr a) ())) (hj : os[j]? = some (a, oLst r xs)) (hn : n + 1 ≤ 64 := by decide) (hN : X.N[i]? = some x := by rfl)
    (hv : Vis X.env.scope x := by first | exact Or.inl rfl | exact Or.inr (Or.inl rfl) | exact Or.inr (Or.inr rfl)) (hd : (x == ("__debug__" : Str)) = false := by decide) (hcd : (x == ("__classdict__" : Str)) = false := by decide) :
    ET X B env os (.Compare (.Name x p1) [.NotEq] [.List [] p2] pos) (ret (!xs.isEmpty)) :=
  PT.imp (pt_cmpR (op_neD hu) (pe_var hN hv hd hcd) (pe_lst pa_nil) (nomark _)) fun σ H Q ⟨F, P, S, hw, k⟩ => by
  obtain ⟨g1, g2, vs, g3, g4, g5⟩ := S.own hi hj
  refine ⟨.ref a, g1, Nat.zero_le _, fun p hp => ?_⟩
  have g : Grow F H (upd F p (.lst [])) (upd H p (.lst [])) := Grow.alloc S.fh hp
  have S2 := S.grow g
  obtain ⟨k1, k2, k3⟩ := dd_all d (F := upd H p (.lst [])) (Paired.imp (fun _ _ => r.mono (g.f.trans S2.fh)) g5)
  refine ⟨.list (xs.map f), .list [], .lst (SqL.of (Ex.new hp _ _ g3)) k1, .lst (SqL.of upd_same) .nil, shaped_of (n := n + 1) (by rw [PyData.canLay0]; exact k2) (by rw [PyData.depth]; omega) hn, by decide, ?_⟩
  rw [eqv_nil]
  exact ⟨_, rfl, k _ hw _ _ S2 g.f⟩
/-! ### texts put together -/
theorem strOk_app {x y : Str} (h1 : PyData.strOk x = true) (h2 : PyData.strOk y = true) : PyData.strOk (x ++ y) = true := by
  unfold PyData.strOk at *
  show (x.cps ++ y.cps).all _ = true
  rw [Array.all_append, h1, h2]
  rfl
def catS (x y : Str) : W Str := chk (x.length + y.length ≤ sizeLine) (ret (x ++ y))
theorem sem_catS : R2T (fun x y H Q => ∃ i j, x = .str i ∧ y = .str j ∧ i.length + j.length ≤ sizeLine ∧ Q (.str (i ++ j)) H) rStr rStr rStr catS := fun F H v u x y P E Q fh ⟨o1, _, o2⟩ ⟨p1, _, p2⟩ ⟨c, hw⟩ k =>
  ⟨x, y, o1, p1, c, k _ hw _ F H (Grow.refl fh) ⟨rfl, by
    show (x.cps ++ y.cps).size ≤ sizeLine
    rw [Array.size_append]
    exact c, strOk_app o2 p2⟩⟩
theorem e_catS {w1 : W Str} {w2 : Str → W Str} (ha : EE X B env os a rStr w1) (hb : ∀ x, EE X B env os b rStr (w2 x)) : EE X B env os (.BinOp a .Add b pos) rStr (bnd w1 fun x => bnd (w2 x) fun y => catS x y) := e_op op_add_str sem_catS ha hb

/-! ### what a loop's turn leaves behind -/
theorem Sit.sub {F H : Hp} {σ : L2.St} {os' : Os} (s : Sit B F H σ env os) (h : os'.Sublist os) : Sit B F H σ env os' := ⟨s.fin, s.env, fun p hp => s.ow p (h.subset hp), s.nd.sublist (h.map _)⟩
theorem NxOk.nxS {envS : S → Env} {osS : S → Os} {s : S} (h : EnvLe env (envS s)) (ho : (osS s).Sublist os) : NxOk B (pNx B envS osS) env os s := ⟨fun D q σ F H z => q σ F H ((z.le h).sub ho)⟩
theorem NxOk.flS {osR : Os} {ro : Rp ρ} {envS : S → Env} {osS : S → Os} {s : S} (h : EnvLe env (envS s)) (ho : (osS s).Sublist os) : NxOk B (pFl B osR ro envS osS) env os (.nx s) := ⟨fun D q σ F H z => q σ F H ((z.le h).sub ho)⟩
end

/-! ### the bag, made -/
/-- bag(script): a new list of the script's first cells and four ints -/
def spBag (K : PySem.W.Frag) : Sp := fun vs H Q _ => ∃ (a : Addr) (ns : List Int), vs = [.ref a] ∧ SqL K H a (ns.map V.int) ∧ ns.length ≤ sizeLine ∧ ∀ (b c : Addr) (cells : List Int) (m : Int) (H' : Hp), Ex H H' → H b = none → H c = none → b ≠ c → cells.length ≤ sizeLine →
  H' c = some (.lst (cells.map V.int)) → H' b = some (.lst [.ref c, .int 0, .int 0, .int m, .int 0]) → Q (.ref b) H'
section
variable {X : Cx} {B : Bs} {env : Env} {os : Os} {pos pos' p : Pos} {β : Type} {e : Expr} {rest : List Stmt} {post : Post β}
theorem ints_paired {F : Hp} : ∀ xs : List Int, Paired (rInt.ok F) (xs.map V.int) xs
  | [] => .nil
  | _ :: xs => .cons rfl (ints_paired xs)
theorem b_bag (i : Nat) {x bagf : Str} {k : Nat} {f : Addr} {fd : FuncData} {ps : List Str} {xs : List Int} {w : W β} (G : FnOk X.prog X.w X.K X.mg X.base CX0 k f fd ps (spBag X.K)) (hr : Room k X.A) (hm : X.mg bagf = some (.ref f)) (hk : PySem.W.keepIn X.K (.ref f) = true) (hb : Binds X.K fd ps [])
    (he : EE X B env os e (rScr X.K) (ret xs)) (hrest : ∀ b cells, BG X B (env.set i (sv (rAdr b) ())) ((b, oBag cells) :: os) rest post w) (hN : X.N.Nodup) (hi : X.N[i]? = some x := by rfl)
    (hx : Loc X.env.scope x := by first | exact Or.inl rfl | exact Or.inr rfl) (hg : Gl X bagf := by rfl) (hdb : (bagf == ("__debug__" : Str)) = false := by decide)
    (hst : starEach [e] X.env = (false, eval e X.env) :: starEach [] X.env := by rfl) (hpl : (backTo p (starEach [] X.env)).any (·.1) = false := by rfl)
    {p0 : Pos} (hs : swapsWith (.Call (.Name bagf p0) [e] [] p) (some (.Name x pos')) pos.line X.env = pure false := by rfl) (hf : X.fn x = true ∨ X.env.scope.names.lookup x = some .local := by first | exact .inl rfl | exact .inr rfl | assumption) :
    BG X B env os (.Assign [.Name x pos'] (.Call (.Name bagf p0) [e] [] p) pos :: rest) post w :=
  PSs.imp (pss_cons (ps_set hN hi hx (pe_call G hr hg hm hk hb .nil pass0 (pa_cons he pa_nil hst) hdb hst hpl) hs hf) (PSs.ex fun q : Addr × List Int => hrest q.1 q.2)) fun D σ H ⟨F, P, S, hw, k⟩ => ⟨F, fun z => z = xs, S, rfl, fun z hz v F1 H1 S1 e1 ⟨a, ev, hsq, hl⟩ => by
  subst hz ev
  refine ⟨a, z, rfl, ex_l S1.fh hsq, hl, fun b c cells m H' hex hb0 hc0 hbc hcl hc' hb' => ?_⟩
  have fc : F1 c = none := fresh_back S1.fh hc0
  have fb : F1 b = none := fresh_back S1.fh hb0
  have eF : Ex F1 (upd F1 c (.lst (cells.map V.int))) := Ex.new fc
  have S2 : Sit B (upd F1 c (.lst (cells.map V.int))) H' σ env ((b, oBag cells) :: os) := by
    refine ⟨⟨fun q u hq => ?_, S1.fin.bf.trans eF, S1.fin.mrk.trans eF, S1.fin.bb, fun q hq => ?_, fun q u k1 k2 k3 => ?_⟩, S1.env.mono eF, fun q hq => ?_, ?_⟩
    · by_cases hqc : q = c
      · rw [hqc, upd_same] at hq
        rw [hqc, hc']
        exact hq
      · rw [upd_ne hqc] at hq
        exact hex q u (S1.fh q u hq)
    · obtain ⟨u, hu⟩ := S1.fin.ios q hq
      exact ⟨u, hex q u hu⟩
    · obtain ⟨z1, z2⟩ := S1.fin.keep q u k1 k2 k3
      have hqc : q ≠ c := ne_of_none z1 hc0
      exact ⟨hex q u z1, by rw [upd_ne hqc]; exact z2⟩
    · rcases List.mem_cons.mp hq with e | hq
      · subst e
        refine ⟨by rw [upd_ne hbc]; exact fb, ⟨_, hb', (0, 0, m, 0), _, rfl, .cons ⟨.ref c, rfl, c, _, rfl, upd_same, by rw [List.length_map]; exact hcl, ints_paired cells⟩ (.cons ⟨_, rfl, rfl⟩ (.cons ⟨_, rfl, rfl⟩ (.cons ⟨_, rfl, rfl⟩ (.cons ⟨_, rfl, rfl⟩ .nil))))⟩, .inl (S1.fin.fresh hb0)⟩
      · obtain ⟨z1, ⟨u, z2, z3⟩, z4⟩ := S1.ow q hq
        have hqc : q.1 ≠ c := ne_of_none z2 hc0
        exact ⟨by rw [upd_ne hqc]; exact z1, ⟨u, hex _ _ z2, q.2.mono eF z3⟩, z4⟩
    · rw [List.map_cons]
      refine List.nodup_cons.mpr ⟨fun hm => ?_, S1.nd⟩
      obtain ⟨q, hq, e⟩ := List.mem_map.mp hm
      obtain ⟨_, ⟨u, h2, _⟩, _⟩ := S1.ow q hq
      have e' : q.1 = b := e
      rw [e', hb0] at h2
      cases h2
  exact ⟨(b, cells), _, P, S2.store ⟨_, rfl, rfl⟩, hw, k⟩⟩
end
/-! ### the bag's own functions -/
theorem bag_in {cells : List Int} : ∀ F h, (oBag cells).ok F h → ∃ p : Nat × Int × Int × Int, (oHet (bagS cells p.1 p.2.1 p.2.2.1 p.2.2.2)).ok F h := fun _ _ h => h
theorem bag_out {cells : List Int} {i : Int} {n : Nat} {d m k : Int} (e : i = (n : Int)) : ∀ F h, (oHet [sv (rLst rInt) cells, sv rInt i, sv rInt d, sv rInt m, sv rInt k]).ok F h → (oBag cells).ok F h := fun _ _ h => ⟨(n, d, m, k), by rw [e] at h; exact h⟩
/-- what a turn of the bag's mixing makes; each draw lies below most -/
theorem BG.imp {X : Cx} {B : Bs} {env : Env} {os : Os} {blk : List Stmt} {β : Type} {post : Post β} {w w' : W β} (h : BG X B env os blk post w) (i : ∀ P E, w' P E → w P E) : BG X B env os blk post w' :=
  PSs.imp h fun D σ H ⟨F, P, S, hw, k⟩ => ⟨F, P, S, i _ _ hw, k⟩
theorem mul_small {a b : Int} (h : b.natAbs < 2 ^ 64) : IntMulOk a b := IntMulOk.of_right (intBits_le_64 (by omega) (by omega))
theorem mul_smallL {a b : Int} (h : a.natAbs < 2 ^ 64) : IntMulOk a b := IntMulOk.of_left (intBits_le_64 (by omega) (by omega))
end Mi

namespace Mi
open PySem L2 Evl

/-! ### a draw, piece by piece: the words that the walk of draw is proved over -/
def drC (cells : List Int) (n : Nat) (d most : Int) : W Bool := bnd (ret (decide (d < most))) fun x => if x = true then bnd (ret (decide ((n : Int) < (cells.length : Int)))) fun z => ret z else ret false
def drA (cells : List Int) (n : Nat) (m : Int) : W Unit :=
  bnd (bnd (idx cells (n : Int)) fun t => ret t) fun cell => bnd (ret ((n : Int) + 1)) fun i1 => chk (i1 = (n : Int) + 1) <|
  bnd (bnd (mulI m 40639) fun t1 => bnd (modI cell 2147483549) fun t2 => bnd (modI (t1 + t2 + 41) 2147483579) fun t3 => ret t3) fun _ =>
  bnd (bnd (powI 10 18) fun t => bnd (if decide (t ≤ cell) = true then ret cell else ret 0) fun z => ret z) fun _ => ret ()
def drB (d most : Int) : W Int := bnd (bnd (modI d most) fun t => ret t) fun digit => bnd (bnd (divI d most) fun t => ret t) fun _ => bnd (ret digit) fun z => ret z
def drR (m k most : Int) : W Int :=
  bnd (ret (k + 1)) fun k1 => bnd (bnd (mulI k1 8353) fun t => bnd (modI (m + t) 2147483543) fun t => ret t) fun base =>
  bnd (bnd (mulI base base) fun t1 => bnd (modI t1 2147483563) fun t2 => bnd (modI base 41039) fun t3 => bnd (mulI t2 (t3 + 13)) fun t4 => ret t4) fun late =>
  bnd (bnd (mulI 30011 base) fun t1 => bnd (modI (late + t1 + 709) 2147483579) fun t2 => ret t2) fun m1 =>
  bnd (bnd (divI m1 79) fun t1 => bnd (modI m1 9011) fun t2 => bnd (mulI t2 59) fun t3 => bnd (modI (t1 + t3) most) fun t4 => ret t4) fun z => ret z
/-- what the mirror checks may be used -/
theorem b_chk {X : Cx} {B : Bs} {env : Env} {os : Os} {blk : List Stmt} {β : Type} {post : Post β} {w : W β} {c : Prop} (h : c → BG X B env os blk post w) : BG X B env os blk post (chk c w) :=
  ⟨fun pins s σ H D I ⟨F, P, S, ⟨hc, hw⟩, k⟩ => (h hc).run pins s σ H D I ⟨F, P, S, hw, k⟩⟩
theorem modI_of {x y : Int} {P : Int → Prop} {E : Er → Prop} (h : 0 < y) (k : ∀ r, 0 ≤ r → r < y → P r) : modI x y P E := ⟨by omega, k _ (Int.fmod_nonneg_of_pos x h) (Int.fmod_lt_of_pos x h)⟩
theorem divI_of {x y : Int} {P : Int → Prop} {E : Er → Prop} (h : y ≠ 0) (h2 : y.natAbs.log2 < 9000) (k : ∀ r, P r) : divI x y P E := ⟨⟨h, h2⟩, k _⟩
theorem mulI_of {x y : Int} {P : Int → Prop} {E : Er → Prop} (h : IntMulOk x y) (k : P (x * y)) : mulI x y P E := ⟨h, k⟩
theorem drC_of {cells : List Int} {n : Nat} {d most : Int} {P : Bool → Prop} {E : Er → Prop} (h1 : n < cells.length → P true) (h2 : P false) : drC cells n d most P E := by
  unfold drC
  show (if decide (d < most) = true then bnd (ret (decide ((n : Int) < (cells.length : Int)))) fun z => ret z else ret false) P E
  by_cases a : d < most
  · rw [if_pos (decide_eq_true a)]
    show P (decide ((n : Int) < (cells.length : Int)))
    by_cases b : n < cells.length
    · rw [decide_eq_true (show (n : Int) < (cells.length : Int) by omega)]
      exact h1 b
    · rw [decide_eq_false (show ¬ (n : Int) < (cells.length : Int) by omega)]
      exact h2
  · rw [if_neg (by simpa using a)]
    exact h2
theorem idx_nat {α : Type} {xs : List α} {n : Nat} {x : α} (h : xs[n]? = some x) : idx xs (n : Int) = ret x := by
  unfold idx
  rw [atI_nat h]
theorem drA_of {cells : List Int} {n : Nat} {m : Int} {P : Unit → Prop} {E : Er → Prop} (h : n < cells.length) (k : P ()) : drA cells n m P E := by
  unfold drA
  rw [idx_nat (List.getElem?_eq_getElem h)]
  refine ⟨rfl, ?_⟩
  refine mulI_of (mul_small (by decide)) ?_
  refine modI_of (by decide) fun r _ _ => ?_
  refine modI_of (by decide) fun r2 _ _ => ?_
  refine ⟨⟨by decide, by decide, by decide⟩, ?_⟩
  show (if _ then ret _ else ret _ : W Int) (fun _ => P ()) E
  split <;> exact k
theorem drB_of {d most : Int} {P : Int → Prop} {E : Er → Prop} (h : 0 < most) (h2 : most.natAbs.log2 < 9000) (k : ∀ r, 0 ≤ r → r < most → P r) : drB d most P E := by
  unfold drB
  refine modI_of h fun r h1 h3 => ?_
  exact divI_of (by omega) h2 fun _ => k r h1 h3
theorem drR_of {m k most : Int} {P : Int → Prop} {E : Er → Prop} (h : 0 < most) (h2 : most.natAbs.log2 < 9000) (kk : ∀ r, 0 ≤ r → r < most → P r) : drR m k most P E := by
  unfold drR
  refine mulI_of (mul_small (by decide)) ?_
  refine modI_of (by decide) fun base b1 b2 => ?_
  refine mulI_of (mul_small (by omega)) ?_
  refine modI_of (by decide) fun t2 c1 c2 => ?_
  refine modI_of (by decide) fun t3 d1 d2 => ?_
  refine mulI_of (mul_small (by omega)) ?_
  refine mulI_of (mul_smallL (by decide)) ?_
  refine modI_of (by decide) fun m1 e1 e2 => ?_
  refine divI_of (by decide) (by decide) fun q => ?_
  refine modI_of (by decide) fun t5 f1 f2 => ?_
  refine mulI_of (mul_small (by decide)) ?_
  exact modI_of h fun r g1 g2 => kk r g1 g2
end Mi
namespace Mi
open PySem L2 Evl
theorem room100 {k : Nat} {A : Around} (hr : Room k A) : A.units + 100 < cLine := by
  have := hr.un
  omega
theorem guards_deeper {A : Around} {q : Str} {sc : Scope} {n : Nat} {f : Addr} {c : Value} (h : A.guards = some []) : (A.deeper (PyProof.Rows.envOfC q sc n f c)).guards = some [] := h
/-- whether two things show themselves alike -/
def sameW {α β : Type} (f : α → PyData) (g : β → PyData) (x : α) (y : β) : W Bool := bnd (reprW (f x)) fun a => bnd (reprW (g y)) fun b => ret (decide (a = b))
end Mi

namespace Mi
open PySem L2 Evl
section
variable {X : Cx} {B : Bs} {env : Env} {os : Os} {pos : Pos} {α β : Type} {r : Rp α} {s : Rp β} {f : α → PyData} {n : Nat} {e a : Expr} {rest : List Stmt} {post : Post β}
theorem bg_nx {S ρ : Type} {env : Env} {blk : List Stmt} {rt : ρ → β} {w : S → W β} {s : S} (h : BG X B env os blk post (w s)) : BG X B env os blk post (flEnd rt w (.nx s)) := h
/-- seen by another reading -/
theorem e_map {w : W α} {g : α → β} (hg : ∀ {F v x}, r.ok F v x → s.ok F v (g x)) (h : EE X B env os e r w) : EE X B env os e s (bnd w fun x => ret (g x)) :=
  PE.imp h fun σ H Q ⟨F, P, S, hw, k⟩ => ⟨F, _, S, hw, fun x hx v F1 H1 S1 e1 ok => k _ hx v F1 H1 S1 e1 (hg ok)⟩
theorem e_toD {w : W α} (d : DD X.K r f n) (h : EE X B env os e r w) (hn : n ≤ 30 := by decide) : EE X B env os e (rD X.K) (bnd w fun x => ret (f x)) :=
  e_map (s := rD X.K) (fun {F v x} ok => ⟨(d.ok ok).1, (d.ok ok).2.1, Nat.le_trans (d.ok ok).2.2 hn⟩) h
/-- a part of the script -/
theorem n_sliceScr {w1 : W (List Int)} {w2 w3 : W (Option Int)} {lo hi : Option Expr} {p2 : Pos} (ha : EE X B env os a (rScr X.K) w1) (hl : EO X B env os lo w2) (hh : EO X B env os hi w3) :
    EN X B env os (.Subscript a (.Slice lo hi none p2) pos) rInt (bnd w1 fun x => bnd w2 fun l => bnd w3 fun h => ret (cutL x l h)) :=
  PE.imp (pe_slice sl_list ha hl hh) fun σ H Q ⟨F, P, S, hw, k⟩ => ⟨F, _, S, hw, fun x hx v F1 H1 S1 e1 ⟨p1, q1, h1, z1⟩ => ⟨F1, _, S1, hx, fun l hl' F2 H2 S2 e2 => ⟨F2, _, S2, hl', fun h hh' F3 H3 S3 e3 => by
  exact ⟨p1, x.map V.int, q1, ex_l S3.fh (ex_l e3 (ex_l e2 h1)), fun p hp => k _ hh' p F3 _ (S3.newOwn hp ⟨_, rfl, Nat.le_trans (cutV_length _ l h) (by rw [List.length_map]; exact z1), cut_paired (ints_paired x) l h⟩) ((e1.trans e2).trans e3)⟩⟩⟩⟩
theorem ints_of {F : Hp} : ∀ {vs : List V} {xs : List Int}, Paired (rInt.ok F) vs xs → vs = xs.map V.int
  | _, _, .nil => rfl
  | _, _, .cons h t => by
    rw [List.map_cons, ← ints_of t]
    have h' : _ = V.int _ := h
    rw [h']
/-- what the bag's maker gives back -/
def pBag (B : Bs) : Post (List Int × Int) := fun D x => ∀ (b c : Addr) (H : Hp), Ex B.F H → B.H b = none → B.H c = none → b ≠ c → x.1.length ≤ sizeLine → H c = some (.lst (x.1.map V.int)) → H b = some (.lst [.ref c, .int 0, .int 0, .int x.2, .int 0]) → D.rt (.ref b) H
theorem b_bagR {w1 : W (List Int)} {w2 : List Int → W Int} {m : Expr} {q1 q2 q4 : Nat} {p1 p2 p4 p5 : Pos} (hio : ∀ a, a ∉ B.io) (ha : EN X B env [] a rInt w1) (hm : ∀ x c, EE X B env [(c, oLst rInt x)] m rInt (w2 x))
    (h1 : starEach [a, .Constant (.int 0) q1 p1, .Constant (.int 0) q2 p2, m, .Constant (.int 0) q4 p4] X.env = (false, eval a X.env) :: starEach [.Constant (.int 0) q1 p1, .Constant (.int 0) q2 p2, m, .Constant (.int 0) q4 p4] X.env := by rfl)
    (h2 : starEach [.Constant (.int 0) q1 p1, .Constant (.int 0) q2 p2, m, .Constant (.int 0) q4 p4] X.env = (false, eval (.Constant (.int 0) q1 p1) X.env) :: starEach [.Constant (.int 0) q2 p2, m, .Constant (.int 0) q4 p4] X.env := by rfl)
    (h3 : starEach [.Constant (.int 0) q2 p2, m, .Constant (.int 0) q4 p4] X.env = (false, eval (.Constant (.int 0) q2 p2) X.env) :: starEach [m, .Constant (.int 0) q4 p4] X.env := by rfl)
    (h4 : starEach [m, .Constant (.int 0) q4 p4] X.env = (false, eval m X.env) :: starEach [.Constant (.int 0) q4 p4] X.env := by rfl)
    (h5 : starEach [.Constant (.int 0) q4 p4] X.env = (false, eval (.Constant (.int 0) q4 p4) X.env) :: starEach [] X.env := by rfl) :
    BG X B env [] [.Return (some (.List [a, .Constant (.int 0) q1 p1, .Constant (.int 0) q2 p2, m, .Constant (.int 0) q4 p4] p5)) pos] (pBag B) (bnd w1 fun x => bnd (w2 x) fun y => ret (x, y)) :=
  PSs.imp (pss_one (ps_ret (pe_lst (pa_cons ha (pa_cons pe_int (pa_cons pe_int (pa_cons (PE.ex (ι := List Int × Addr) fun q => hm q.1 q.2) (pa_cons pe_int pa_nil h5) h4) h3) h2) h1)))) fun D σ H ⟨F, P, S, hw, k⟩ =>
  ⟨F, _, S, hw, fun x hx c F1 H1 S1 e1 => ⟨(x, c), F1, _, S1, hx, fun y hy v F2 H2 S2 e2 hv => ⟨by show 5 ≤ sizeLine; decide, fun b hb => by
    have hv' : v = V.int y := hv
    subst hv'
    obtain ⟨z1, ⟨o, z2, vs, z3, z4, z5⟩, z6⟩ := S2.ow (c, oLst rInt x) (List.mem_cons_self)
    subst z3
    have evs := ints_of z5
    subst evs
    have hbc : b ≠ c := fun e => by
      rw [e] at hb
      rw [hb] at z2
      cases z2
    have eb : Ex B.F H2 := S2.fin.bf.trans S2.fh
    refine k (x, y) hy b c _ (eb.trans (Ex.new hb)) (S2.fin.fresh hb) ?_ hbc (by rw [List.length_map] at z4; exact z4) ?_ upd_same
    · rcases z6 with z | z
      · exact z
      · exact absurd z (hio _)
    · rw [upd_ne (Ne.symm hbc)]
      exact z2⟩⟩⟩
theorem env_swap {F : Hp} {a b : Slot} : ∀ {vs : List V}, EnvOk F [a, b] (vs.map some) → EnvOk F [b, a] (vs.reverse.map some)
  | [_, _], .cons x (.cons y .nil) => .cons y (.cons x .nil)
theorem forW_of {α S : Type} {f : S → α → W S} {E : Er → Prop} {I : S → Prop} : ∀ {xs : List α} {s : S} {P : S → Prop}, (∀ s x Q, I s → (∀ s', I s' → Q s') → f s x Q E) → I s → (∀ s, I s → P s) → forW f s xs P E
  | [], s, P, hf, hs, hp => hp s hs
  | x :: xs, s, P, hf, hs, hp => hf s x _ hs fun s' h' => forW_of hf h' hp
end
end Mi

namespace Mi
open PySem L2 Evl

/-! ### plain reasoning over mirrors -/
/-- every answer of w is one that I allows, and w gives one -/
def Ok {α : Type} (w : W α) (I : α → Prop) : Prop := ∀ (P : α → Prop) (E : Er → Prop), (∀ x, I x → P x) → w P E
section
variable {α β γ S ρ : Type} {I J : α → Prop} {w m : W α}
theorem Ok.ret {x : α} (h : I x) : Ok (ret x) I := fun P E hp => hp x h
theorem Ok.eq {x : α} : Ok (Mi.ret x) (· = x) := fun P E hp => hp x rfl
theorem Ok.bnd {f : α → W β} {I : β → Prop} (h : Ok m J) (k : ∀ x, J x → Ok (f x) I) : Ok (bnd m f) I := fun P E hp => h _ E fun x hx => k x hx P E hp
theorem Ok.chk {c : Prop} (hc : c) (h : Ok w I) : Ok (chk c w) I := fun P E hp => ⟨hc, h P E hp⟩
theorem Ok.noX (h : Ok w I) : Ok (noX w) I := fun P E hp => h P _ hp
theorem Ok.mono (h : Ok w J) (i : ∀ x, J x → I x) : Ok w I := fun P E hp => h P E fun x hx => hp x (i x hx)
theorem Ok.run {P : α → Prop} {E : Er → Prop} (h : Ok w P) : w P E := h P E fun _ hx => hx
theorem Ok.ite {c : Prop} [Decidable c] {w1 w2 : W α} (h1 : c → Ok w1 I) (h2 : ¬ c → Ok w2 I) : Ok (if c then w1 else w2) I := by
  split
  · exact h1 ‹_›
  · exact h2 ‹_›
theorem Ok.bndE {f : α → W β} {I : β → Prop} {x : α} (h : Ok m (· = x)) (k : Ok (f x) I) : Ok (Mi.bnd m f) I := Ok.bnd h fun y hy => by
  subst hy
  exact k
theorem Ok.retB {f : α → W β} {I : β → Prop} {x : α} (k : Ok (f x) I) : Ok (Mi.bnd (Mi.ret x) f) I := k
theorem Ok.draw {k : Int} (h0 : 0 < k) (h : k.natAbs.log2 < 9000) : Ok (drawW k) fun r => 0 ≤ r ∧ r < k := fun P E hp => ⟨h0, h, fun r h1 h2 => hp r ⟨h1, h2⟩⟩
theorem Ok.idxN {xs : List α} {n : Nat} {x : α} (h : xs[n]? = some x) : Ok (idx xs (n : Int)) (· = x) := by
  rw [idx_nat h]
  exact Ok.eq
theorem Ok.any {xs : List α} (h0 : 0 < xs.length) (h1 : xs.length < 2 ^ 64) (h : ∀ x ∈ xs, I x) : Ok (anyW xs) I := by
  refine Ok.bnd (Ok.noX (Ok.draw (by omega) ?_)) fun r ⟨r0, r1⟩ => ?_
  · refine Nat.lt_of_lt_of_le (Nat.log2_lt (by omega) |>.mpr (show _ < 2 ^ 64 from ?_)) (by decide)
    omega
  · obtain ⟨n, rfl⟩ := Int.eq_ofNat_of_zero_le r0
    have hn : n < xs.length := by omega
    exact (Ok.idxN (List.getElem?_eq_getElem hn)).mono fun x e => e ▸ h _ (List.getElem_mem hn)
theorem Ok.map {f : α → W β} {g : α → β} : ∀ {xs : List α}, (∀ x ∈ xs, Ok (f x) (· = g x)) → Ok (mapW f xs) (· = xs.map g)
  | [], _ => Ok.eq
  | x :: xs, h => Ok.bndE (h x List.mem_cons_self) (Ok.bndE (Ok.map fun y hy => h y (List.mem_cons_of_mem _ hy)) Ok.eq)
theorem Ok.mapP {f : α → W β} {I : β → Prop} : ∀ {xs : List α}, (∀ x ∈ xs, Ok (f x) I) → Ok (mapW f xs) (fun ys => ys.length = xs.length ∧ ∀ y ∈ ys, I y)
  | [], _ => Ok.ret ⟨rfl, fun _ h => nomatch h⟩
  | x :: xs, h => Ok.bnd (h x List.mem_cons_self) fun y hy => Ok.bnd (Ok.mapP fun z hz => h z (List.mem_cons_of_mem _ hz)) fun ys ⟨h1, h2⟩ => Ok.ret ⟨by simp [h1], fun z hz => by
    rcases List.mem_cons.mp hz with e | hz
    · exact e ▸ hy
    · exact h2 z hz⟩
theorem Ok.filt {c : α → W Bool} {f : α → W β} {p : α → Bool} {g : α → β} : ∀ {xs : List α}, (∀ x ∈ xs, Ok (c x) (· = p x)) → (∀ x ∈ xs, p x = true → Ok (f x) (· = g x)) → Ok (filtW c f xs) (· = (xs.filter p).map g)
  | [], _, _ => Ok.eq
  | x :: xs, h, k => by
    have ih := Ok.filt (xs := xs) (c := c) (f := f) (p := p) (g := g) (fun y hy => h y (List.mem_cons_of_mem _ hy)) fun y hy => k y (List.mem_cons_of_mem _ hy)
    refine Ok.bndE (h x List.mem_cons_self) ?_
    by_cases q : p x = true
    · rw [if_pos q, List.filter_cons_of_pos q]
      exact Ok.bndE (k x List.mem_cons_self q) (Ok.bndE ih Ok.eq)
    · rw [if_neg q, List.filter_cons_of_neg q]
      exact ih
theorem Ok.forW {f : S → α → W S} {J : S → Prop} : ∀ {xs : List α} {s0 : S} (inv : Nat → S → Prop), inv 0 s0 → (∀ k (hk : k < xs.length) s, inv k s → Ok (f s xs[k]) (inv (k + 1))) → (∀ s, inv xs.length s → J s) → Ok (forW f s0 xs) J
  | [], s0, inv, h0, _, h2 => Ok.ret (h2 _ h0)
  | x :: xs, s0, inv, h0, h1, h2 => Ok.bnd (h1 0 (by simp) s0 h0) fun s hs => Ok.forW (fun k => inv (k + 1)) hs (fun k hk s hs => h1 (k + 1) (by simpa using hk) s hs) fun s hs => h2 s hs
theorem Ok.forF {f : S → α → W (Fl S ρ)} {J : Fl S ρ → Prop} : ∀ {xs : List α} {s0 : S} (inv : Nat → S → Prop) (R : ρ → Prop), inv 0 s0 → (∀ k (hk : k < xs.length) s, inv k s → Ok (f s xs[k]) fun r => match r with | .nx s => inv (k + 1) s | .rt z => R z | _ => False) →
    (∀ s, inv xs.length s → J (.nx s)) → (∀ z, R z → J (.rt z)) → Ok (forF f s0 xs) J
  | [], s0, inv, R, h0, _, h2, _ => Ok.ret (h2 _ h0)
  | x :: xs, s0, inv, R, h0, h1, h2, h3 => Ok.bnd (h1 0 (by simp) s0 h0) fun r hr => by
    cases r with
    | nx s => exact Ok.forF (fun k => inv (k + 1)) R hr (fun k hk s hs => h1 (k + 1) (by simpa using hk) s hs) (fun s hs => h2 s hs) h3
    | rt z => exact Ok.ret (h3 z hr)
    | bk s => exact False.elim hr
    | ct s => exact False.elim hr
/-! numbers -/
theorem Ok.mul {x y : Int} {m : Nat} (hx : x.natAbs < 2 ^ m) (hy : y.natAbs < 2 ^ m) (hm : m ≤ 1048576) : Ok (mulI x y) (· = x * y) :=
  Ok.chk (IntMulOk.of_bits (intBits_le_iff.mpr (Nat.lt_of_lt_of_le hx (Nat.pow_le_pow_right (by decide) hm))) (intBits_le_iff.mpr (Nat.lt_of_lt_of_le hy (Nat.pow_le_pow_right (by decide) hm)))) Ok.eq
theorem Ok.mulR {x y : Int} (hy : y.natAbs < 2 ^ 64) : Ok (mulI x y) (· = x * y) := Ok.chk (mul_small hy) Ok.eq
theorem Ok.mulL {x y : Int} (hx : x.natAbs < 2 ^ 64) : Ok (mulI x y) (· = x * y) := Ok.chk (mul_smallL hx) Ok.eq
theorem log2_lt {n m : Nat} (h : n < 2 ^ m) (hm : 0 < m) : n.log2 < m := by
  by_cases e : n = 0
  · subst e
    exact hm
  · exact (Nat.log2_lt e).mpr h
theorem Ok.div {x y : Int} (h : y ≠ 0) (hy : y.natAbs < 2 ^ 9000) : Ok (divI x y) (· = x.fdiv y) := Ok.chk ⟨h, log2_lt hy (by decide)⟩ Ok.eq
theorem Ok.mod {x y : Int} (h : y ≠ 0) : Ok (modI x y) (· = x.fmod y) := Ok.chk h Ok.eq
theorem Ok.rng1 {n : Nat} (h : n ≤ 16777216) : Ok (rng1 (n : Int)) (· = (List.range n).map fun k : Nat => (k : Int)) := by
  refine Ok.chk ⟨by omega, by omega, by omega, by omega, by omega⟩ (Ok.ret ?_)
  unfold rangeI
  rw [show ((n : Int) - 0).toNat = n by omega]
  exact List.map_congr_left fun k _ => by omega
theorem Ok.rng2 {a n : Nat} (h : a ≤ n) (h2 : n ≤ 16777216) : Ok (rng2 (a : Int) (n : Int)) (· = (List.range (n - a)).map fun k : Nat => ((a + k : Nat) : Int)) := by
  refine Ok.chk ⟨by omega, by omega, by omega, by omega, by omega⟩ (Ok.ret ?_)
  unfold rangeI
  rw [show ((n : Int) - (a : Int)).toNat = n - a by omega]
  exact List.map_congr_left fun k _ => by omega
/-- a map over a range -/
theorem Ok.mapR {f : Int → W β} {g : Nat → β} {n a : Nat} (h : ∀ k, k < n → Ok (f ((a + k : Nat) : Int)) (· = g (a + k))) : Ok (mapW f ((List.range n).map fun k : Nat => ((a + k : Nat) : Int))) (· = (List.range n).map fun k => g (a + k)) := by
  refine (Ok.map (g := fun i : Int => g i.toNat) fun x hx => ?_).mono fun ys e => ?_
  · obtain ⟨k, hk, rfl⟩ := List.mem_map.mp hx
    exact h k (List.mem_range.mp hk)
  · rw [e, List.map_map]
    exact List.map_congr_left fun k _ => rfl
theorem Ok.mapR0 {f : Int → W β} {g : Nat → β} {n : Nat} (h : ∀ k, k < n → Ok (f (k : Int)) (· = g k)) : Ok (mapW f ((List.range n).map fun k : Nat => (k : Int))) (· = (List.range n).map g) := by
  refine (Ok.map (g := fun i : Int => g i.toNat) fun x hx => ?_).mono fun ys e => ?_
  · obtain ⟨k, hk, rfl⟩ := List.mem_map.mp hx
    exact h k (List.mem_range.mp hk)
  · rw [e, List.map_map]
    exact List.map_congr_left fun k _ => rfl
theorem idx_range {g : Nat → β} {n k : Nat} (h : k < n) : idx ((List.range n).map g) (k : Int) = Mi.ret (g k) := idx_nat (by simp [h])
theorem putL_range {g : Nat → β} {n k : Nat} {y : β} (h : k < n) : putL ((List.range n).map g) (k : Int) y = Mi.ret ((List.range n).map fun i => if i = k then y else g i) := by
  unfold putL
  rw [List.length_map, List.length_range, ixN_nat h]
  refine congrArg Mi.ret ?_
  refine List.ext_getElem? fun i => ?_
  rw [List.getElem?_set]
  by_cases hi : i < n
  · by_cases e : k = i
    · subst e
      simp [h]
    · simp [e, hi, show ¬ i = k from fun q => e q.symm]
  · have hk : k ≠ i := fun e => by omega
    rw [if_neg hk]
    simp [hi]
end
/-! ### what a thing shows -/
theorem piled_le {ts : List Str} {m : Nat} (h : ∀ t ∈ ts, t.length ≤ m) : piled ts ≤ ts.length * (m + 2) := by
  induction ts with
  | nil => simp [piled]
  | cons t ts ih =>
    have := ih fun u hu => h u (List.mem_cons_of_mem _ hu)
    have := h t List.mem_cons_self
    rw [piled_cons, List.length_cons, Nat.add_mul]
    omega
theorem textFrom_len_le : ∀ (ts : List Str) (k : Nat) (acc : Str), (textFrom k acc ts).length ≤ acc.length + piled ts
  | [], k, acc => by
    show acc.length ≤ _
    omega
  | t :: r, k, acc => by
    have h := textFrom_len_le r (k + 1) (acc ++ (if k > 0 then ", " else "" : String) ++ t)
    have e : (acc ++ (if k > 0 then ", " else "" : String) ++ t).length = acc.length + (if k > 0 then 2 else 0) + t.length := by
      rw [strLen_append, strLen_append]
      split <;> rfl
    rw [e] at h
    rw [piled_cons]
    show (textFrom (k + 1) _ r).length ≤ _
    have : (if k > 0 then 2 else 0 : Nat) ≤ 2 := by split <;> decide
    omega
theorem listText_len_le (ts : List Str) : (listText ts).length ≤ 2 + piled ts := by
  unfold listText
  rw [strLen_append]
  have := textFrom_len_le ts 0 "["
  have e : ((("[" : String) : Str)).length = 1 := rfl
  have e2 : ((("]" : String) : Str)).length = 1 := rfl
  omega
theorem strOk_str (s : String) : PyData.strOk (Str.ofString s) = true := by
  unfold PyData.strOk
  rw [Str.ofString_eq_toList, ← Array.all_toList, List.all_eq_true]
  intro y hy
  obtain ⟨c, _, rfl⟩ := List.mem_map.mp (by simpa using hy)
  have := c.valid
  simp only [decide_eq_true_eq]
  unfold Char.toNat
  rcases this with h | ⟨_, h⟩
  · exact Nat.lt_trans h (by decide)
  · exact h
theorem textFrom_ok : ∀ (ts : List Str) (k : Nat) (acc : Str), PyData.strOk acc = true → (∀ t ∈ ts, PyData.strOk t = true) → PyData.strOk (textFrom k acc ts) = true
  | [], k, acc, h, _ => h
  | t :: r, k, acc, h, h2 => by
    show PyData.strOk (textFrom (k + 1) _ r) = true
    exact textFrom_ok r (k + 1) _ (strOk_app (strOk_app h (strOk_str _)) (h2 t List.mem_cons_self)) fun u hu => h2 u (List.mem_cons_of_mem _ hu)
theorem listText_ok {ts : List Str} (h : ∀ t ∈ ts, PyData.strOk t = true) : PyData.strOk (listText ts) = true := strOk_app (textFrom_ok ts 0 _ (strOk_str _) h) (strOk_str _)
/-- it can be shown, in at most m signs -/
structure Shw (d : PyData) (m : Nat) : Prop where
  s : d.showable = true
  l : d.shown.length ≤ m
  o : PyData.strOk d.shown = true
theorem Shw.mono {d : PyData} {m n : Nat} (h : Shw d m) (hm : m ≤ n) : Shw d n := ⟨h.s, Nat.le_trans h.l hm, h.o⟩
theorem Shw.int {i : Int} (h : i.natAbs < 2 ^ 1920) : Shw (.int i) 1921 := by
  have q : i.natAbs.log2 < 1920 := log2_lt h (by decide)
  refine ⟨by simp [PyData.showable, q], ?_, ?_⟩
  · rw [PyData.shown]
    exact PyProof.Rows.int_text_len_1921 q
  · rw [PyData.shown]
    exact strOk_str _
theorem Shw.list {ds : List PyData} {m n : Nat} (h : ∀ d ∈ ds, Shw d m) (hn : ds.length ≤ n) : Shw (.list ds) (n * (m + 2) + 2) := by
  have e : ∀ ds : List PyData, PyData.shownAll ds = ds.map PyData.shown := fun ds => by
    induction ds with
    | nil => rfl
    | cons d ds ih => rw [PyData.shownAll, ih, List.map_cons]
  have e2 : ∀ ds : List PyData, (∀ d ∈ ds, d.showable = true) → PyData.showableAll ds = true := fun ds => by
    induction ds with
    | nil => exact fun _ => rfl
    | cons d ds ih => exact fun h => by rw [PyData.showableAll, h d List.mem_cons_self, ih fun u hu => h u (List.mem_cons_of_mem _ hu)]; rfl
  refine ⟨by rw [PyData.showable]; exact e2 ds fun d hd => (h d hd).s, ?_, ?_⟩
  · rw [PyData.shown, e]
    refine Nat.le_trans (listText_len_le _) ?_
    have := piled_le (ts := ds.map PyData.shown) (m := m) fun t ht => by
      obtain ⟨d, hd, rfl⟩ := List.mem_map.mp ht
      exact (h d hd).l
    rw [List.length_map] at this
    have := Nat.mul_le_mul_right (m + 2) hn
    omega
  · rw [PyData.shown, e]
    refine listText_ok fun t ht => ?_
    obtain ⟨d, hd, rfl⟩ := List.mem_map.mp ht
    exact (h d hd).o
theorem Ok.repr {d : PyData} {m : Nat} (h : Shw d m) (hm : m ≤ sizeLine) : Ok (reprW d) (· = d.shown) := Ok.chk ⟨h.s, Nat.le_trans h.l hm, h.o⟩ Ok.eq
theorem Ok.same {α β : Type} {f : α → PyData} {g : β → PyData} {x : α} {y : β} {m : Nat} (h : Shw (f x) m) (hm : m ≤ sizeLine) (e : f x = g y) : Ok (sameW f g x y) (· = true) := by
  unfold sameW
  refine Ok.bndE (Ok.repr h hm) (Ok.bndE (Ok.repr (e ▸ h) hm) (Ok.ret ?_))
  rw [e]
  simp
end Mi

namespace Mi
open PySem L2 Evl
open PyProof.Rows (envOfC)

theorem c_conv {X : Cx} {B : Bs} {env : Env} {os : Os} {α : Type} {r : Rp α} {st : Stmt} {g : TG} {w w' : W (List α)} (h : PS X st (tAsg (tNew B env os r w) g)) (q : w = w') : PS X st (tAsg (tNew B env os r w') g) := q ▸ h
/-! ### objects of own classes -/
def Flds (F : Hp) (fs : List (Str × Slot)) (vs : List (Str × V)) : Prop := Paired (fun (p : Str × Slot) (q : Str × V) => p.1 = q.1 ∧ p.2.ok F (some q.2)) fs vs
theorem Flds.mono {F F' : Hp} {fs : List (Str × Slot)} {vs : List (Str × V)} (e : Ex F F') (h : Flds F fs vs) : Flds F' fs vs := Paired.imp (fun p _ ⟨h1, h2⟩ => ⟨h1, p.2.mono e h2⟩) h
theorem Flds.get {F : Hp} {f : Str} {s : Slot} : ∀ {fs : List (Str × Slot)} {vs : List (Str × V)}, Flds F fs vs → fs.lookup f = some s → ∃ v, vs.lookup f = some v ∧ s.ok F (some v)
  | _, _, .nil, h => by cases h
  | (g, s') :: fs, (g', v) :: vs, .cons ⟨e, h1⟩ t, h => by
    have e : g = g' := e
    subst e
    rw [List.lookup_cons] at h ⊢
    cases q : (f == g) with
    | true =>
      rw [q] at h
      cases h
      exact ⟨v, rfl, h1⟩
    | false =>
      rw [q] at h
      exact Flds.get t h
theorem Flds.none {F : Hp} {f : Str} : ∀ {fs : List (Str × Slot)} {vs : List (Str × V)}, Flds F fs vs → fs.lookup f = none → vs.lookup f = none
  | _, _, .nil, h => rfl
  | (g, s') :: fs, (g', v) :: vs, .cons ⟨e, h1⟩ t, h => by
    have e : g = g' := e
    subst e
    rw [List.lookup_cons] at h ⊢
    cases q : (f == g) with
    | true =>
      rw [q] at h
      cases h
    | false =>
      rw [q] at h
      exact Flds.none t h
theorem Flds.len {F : Hp} {fs : List (Str × Slot)} {vs : List (Str × V)} (h : Flds F fs vs) : fs.length = vs.length := Paired.length h
def putS (f : Str) (s : Slot) : List (Str × Slot) → List (Str × Slot)
  | [] => [(f, s)]
  | (g, x) :: r => if g = f then (g, s) :: r else (g, x) :: putS f s r
theorem Flds.put {F : Hp} {f : Str} {s : Slot} {v : V} (hs : s.ok F (some v)) : ∀ {fs : List (Str × Slot)} {vs : List (Str × V)}, Flds F fs vs → Flds F (putS f s fs) (putF f v vs)
  | _, _, .nil => .cons ⟨rfl, hs⟩ .nil
  | (g, x) :: fs, (g', y) :: vs, .cons ⟨e, h1⟩ t => by
    have e : g = g' := e
    subst e
    unfold putS putF
    by_cases q : g = f
    · rw [if_pos q, if_pos q]
      exact .cons ⟨rfl, hs⟩ t
    · rw [if_neg q, if_neg q]
      exact .cons ⟨rfl, h1⟩ (Flds.put hs t)
/-- an object that will not change: its class, its fields by name -/
def rObj {α : Type} (C : Addr) (fl : α → List (Str × Slot)) : Rp α := ⟨fun F v x => ∃ a dx vs, v = .ref a ∧ F a = some (.ins C dx vs) ∧ Flds F (fl x) vs, fun e ⟨a, dx, vs, h1, h2, h3⟩ => ⟨a, dx, vs, h1, e _ _ h2, h3.mono e⟩⟩
/-- one that is being made -/
def oObj (C : Addr) (fs : List (Str × Slot)) : Own := ⟨fun F o => ∃ dx vs, o = .ins C dx vs ∧ Flds F fs vs, fun e ⟨dx, vs, h1, h2⟩ => ⟨dx, vs, h1, h2.mono e⟩⟩
section
variable {X : Cx} {B : Bs} {env : Env} {os : Os} {pos : Pos} {α β γ : Type} {r : Rp α} {s : Rp β} {C : Addr} {fl : α → List (Str × Slot)} {f : Str} {e : Expr} {rest : List Stmt} {post : Post β}
/-- e.f -/
theorem e_fld {w : W α} {g : α → β} (c : Cls X.K C) (n : NoAttr X.K C f) (he : EE X B env os e (rObj C fl) w) (hg : ∀ x, (fl x).lookup f = some (sv s (g x)) := by exact fun _ => rfl) (hb : attributeBase e f X.env (eval e X.env) = eval e X.env := by rfl) :
    EE X B env os (.Attribute e f pos) s (bnd w fun x => ret (g x)) :=
  PE.imp (pe_fld he hb) fun σ H Q ⟨F, P, S, hw, k⟩ => ⟨F, _, S, hw, fun x hx v F1 H1 S1 e1 ⟨a, dx, vs, ev, ha, hf⟩ => by
    obtain ⟨u, h1, u', h2, h3⟩ := hf.get (hg x)
    cases h2
    exact ⟨a, C, dx, vs, _, ev, S1.fh _ _ ha, c, n, h1, k _ hx _ F1 H1 S1 e1 h3⟩⟩
theorem Sit.obj {F H : Hp} {σ : L2.St} {i j : Nat} {a : Addr} {fs : List (Str × Slot)} (S : Sit B F H σ env os) (hi : env[i]? = some (sv (rAdr a) ())) (hj : os[j]? = some (a, oObj C fs)) : σ[i]? = some (some (.ref a)) ∧ F a = none ∧ ∃ dx vs, H a = some (.ins C dx vs) ∧ Flds F fs vs := by
  obtain ⟨ov, g1, v, g2, g3⟩ := S.env.get hi
  have g3' : v = .ref a := g3
  subst g2 g3'
  obtain ⟨z1, ⟨o, z2, dx, vs, z3, z5⟩, _⟩ := S.ow _ (List.mem_of_getElem? hj)
  subst z3
  exact ⟨g1, z1, dx, vs, z2, z5⟩
/-- self.f, self being made -/
theorem e_fldO (i j : Nat) {x : Str} {p2 : Pos} {a : Addr} {fs : List (Str × Slot)} {y : β} (c : Cls X.K C) (n : NoAttr X.K C f) (hi : env[i]? = some (sv (rAdr a) ())) (hj : os[j]? = some (a, oObj C fs)) (hl : fs.lookup f = some (sv s y)) (hN : X.N[i]? = some x := by rfl)
    (hv : Vis X.env.scope x := by first | exact Or.inl rfl | exact Or.inr (Or.inl rfl) | exact Or.inr (Or.inr rfl)) (hd : (x == ("__debug__" : Str)) = false := by decide) (hcd : (x == ("__classdict__" : Str)) = false := by decide)
    (hb : attributeBase (.Name x p2) f X.env (eval (.Name x p2) X.env) = eval (.Name x p2) X.env := by rfl) :
    EE X B env os (.Attribute (.Name x p2) f pos) s (ret y) :=
  PE.imp (pe_fld (pe_var hN hv hd hcd) hb) fun σ H Q ⟨F, P, S, hw, k⟩ => by
  obtain ⟨g1, g2, dx, vs, g3, g5⟩ := S.obj hi hj
  obtain ⟨u, h1, u', h2, h3⟩ := g5.get hl
  cases h2
  exact ⟨.ref a, g1, a, C, dx, vs, u, rfl, g3, c, n, h1, k _ hw _ F H S (Ex.refl F) h3⟩
/-- self.f = e, self being made -/
theorem b_fldO (i j : Nat) {x : Str} {p1 p2 : Pos} {a : Addr} {fs : List (Str × Slot)} {w : W α} {w2 : α → W β} (c : Cls X.K C) (n : NoAttr X.K C f) (hi : env[i]? = some (sv (rAdr a) ())) (hj : os[j]? = some (a, oObj C fs)) (he : EE X B env os e r w)
    (hr : ∀ y, BG X B env (os.set j (a, oObj C (putS f (sv r y) fs))) rest post (w2 y)) (hz : decide (fs.length < 1000) = true := by rfl) (hN : X.N[i]? = some x := by rfl)
    (hv : Vis X.env.scope x := by first | exact Or.inl rfl | exact Or.inr (Or.inl rfl) | exact Or.inr (Or.inr rfl)) (hd : (x == ("__debug__" : Str)) = false := by decide) (hcd : (x == ("__classdict__" : Str)) = false := by decide)
    (hs : swapsWith e (some (.Attribute (.Name x p1) f p2)) pos.line X.env = pure false := by rfl) :
    BG X B env os (.Assign [.Attribute (.Name x p1) f p2] e pos :: rest) post (bnd w w2) :=
  PSs.imp (pss_cons (ps_fld (pe_var hN hv hd hcd) he hs) (PSs.ex hr)) fun D σ H ⟨F, P, S, hw, k⟩ => ⟨F, _, S, hw, fun y hy v F1 H1 S1 e1 ok => by
  obtain ⟨g1, g2, dx, vs, g3, g5⟩ := S1.obj hi hj
  refine ⟨.ref a, g1, a, C, dx, vs, rfl, g3, c, n, ?_, y, F1, P, S1.change hj ⟨dx, _, rfl, Flds.put (s := sv r y) ⟨v, rfl, ok⟩ g5⟩, hy, k⟩
  rw [← g5.len]
  exact of_decide_eq_true hz⟩
/-- an own object is let go: b_freeze for objects -/
theorem b_frzObj (i j : Nat) {a : Addr} {fs : α → List (Str × Slot)} {x : α} {w : W β} {blk : List Stmt} (hi : env[i]? = some (sv (rAdr a) ())) (hj : os = (a, oObj C (fs x)) :: os.tail) (hr : BG X B (env.set i (sv (rObj C fs) x)) os.tail blk post w) : BG X B env os blk post w :=
  PSs.imp hr fun D σ H ⟨F, P, S, hw, k⟩ => by
  rw [hj] at S
  obtain ⟨ov, g1, v, g2, g3⟩ := S.env.get hi
  obtain ⟨F2, o, e2, h1, ⟨dx, vs, h2, h3⟩, S2⟩ := S.freeze
  subst h2 g2
  have h1' : F2 a = some (.ins C dx vs) := h1
  refine ⟨F2, P, ?_, hw, k⟩
  have okv : (sv (rObj C fs) x).ok F2 (some v) := ⟨v, rfl, a, dx, vs, g3, h1', h3⟩
  have st := Sit.store (i := i) S2 okv
  rwa [set_same g1] at st
end

/-! ### making one -/
/-- a made object's promise: the arguments by slots; the mirror gives the fields -/
def spI {ι ρ : Type} (C : Addr) (args : ι → Env) (w : ι → W ρ) (fl : ρ → List (Str × Slot)) : Sp := fun vs H Q _ => ∃ (i : ι) (F : Hp) (P : ρ → Prop) (x dx : Addr) (us : List V), vs = .ref x :: us ∧ Ex F H ∧ F x = none ∧ H x = some (.ins C dx []) ∧ EnvOk F (args i) (us.map some) ∧
  w i P (fun _ => False) ∧ ∀ r, P r → ∀ F' H', Fn (bs0 F H [(x, oObj C [])]) F' H' → OsOk (bs0 F H [(x, oObj C [])]) F' H' [(x, oObj C (fl r))] → Q .non H'
def pIn {ρ : Type} (B : Bs) (C x : Addr) (fl : ρ → List (Str × Slot)) : Post ρ := fun D r => (∀ F H, Fn B F H → OsOk B F H [(x, oObj C (fl r))] → D.rt .non H) ∧ ∀ σ F H, Fn B F H → OsOk B F H [(x, oObj C (fl r))] → D.nx σ H
theorem NxOk.init {B : Bs} {C x : Addr} {ρ : Type} {fl : ρ → List (Str × Slot)} {r : ρ} {env : Env} {os : Os} (ho : OsW os [(x, oObj C (fl r))]) : NxOk B (pIn B C x fl) env os r := ⟨fun D q σ F H z => q.2 σ F H z.fin (ho.ok z)⟩
section
variable {P : Program} {w : World} {K : PySem.W.Frag} {mg : Str → Option Value} {base : Heap} {k : Nat} {f C : Addr} {fd : FuncData} {ps N : List Str} {ι ρ : Type} {args : ι → Env} {wf : ι → W ρ} {fl : ρ → List (Str × Slot)}
theorem spI_len (hl : ∀ i, (args i).length + 1 = ps.length) : ∀ vs H Q E, spI C args wf fl vs H Q E → vs.length = ps.length := fun vs H Q E ⟨i, F, P, x, dx, us, ev, _, _, _, he, _⟩ => by
  have := he.len
  rw [List.length_map] at this
  rw [ev, List.length_cons, ← this, hl i]
theorem initW {x qual : Str} {st : Stmt} (F : Fun K x qual st f fd) (S : FnScope N ps (defScope st)) (hl : ∀ i, (args i).length + 1 = ps.length)
    (body : ∀ (cdv : Value) (A : Around) (outer : List PySem.Env) (s : Shared) (H : Hp) (E : XK) (B : Bs) (a : Addr) (i : ι), Room k (A.deeper (envOfC qual (defScope st) s.heap.objs.size f cdv)) →
      BG (cxOf CX0 P w K mg base N qual (defScope st) f cdv A outer s H E).nox B (entry (sv (rAdr a) () :: args i) (N.length - ps.length)) [(a, oObj C [])] (defBody st) (pIn B C a fl) (wf i)) : FnOk P w K mg base CX0 (k + 1) f fd ps (spI C args wf fl) := by
  refine F.ok S (spI_len hl) fun cdv A outer s H vs Q E hr hsp => ?_
  have hvl := spI_len hl vs H Q E hsp
  obtain ⟨i, F0, P0, a, dx, us, ev, fh, fa, ha, he, hw, hk⟩ := hsp
  subst ev
  have ow : ∀ p ∈ ([(a, oObj C [])] : Os), F0 p.1 = none ∧ ∃ o, H p.1 = some o ∧ p.2.ok F0 o := fun p hp => by
    rw [List.mem_singleton.mp hp]
    exact ⟨fa, _, ha, dx, [], rfl, .nil⟩
  refine ⟨_, body cdv A outer s H E (bs0 F0 H [(a, oObj C [])]) a i hr, F0, P0, ⟨bs0_start fh ow, ?_, fun p hp => ?_, by simp⟩, hw, fun y hy => ⟨fun F' H' fn ow => hk y hy F' H' fn ow, fun σ F' H' fn ow => hk y hy F' H' fn ow⟩⟩
  · rw [← hvl]
    exact entry_ok (.cons ⟨_, rfl, rfl⟩ he)
  · obtain ⟨h1, o, h2, h3⟩ := ow p hp
    exact ⟨h1, ⟨o, h2, h3⟩, .inr (List.mem_map_of_mem hp)⟩
end
theorem Sit.backI {B : Bs} {F F' H H' : Hp} {σ : L2.St} {env : Env} {os : Os} {x : Addr} {o o2 : Own} (S : Sit B F H σ env ((x, o) :: os)) (fn : Fn (bs0 F H [(x, o)]) F' H') (ow : OsOk (bs0 F H [(x, o)]) F' H' [(x, o2)]) : Sit B F' H' σ env ((x, o2) :: os) := by
  have e : Ex F F' := fn.bf
  obtain ⟨z1, ⟨ob, z2, z3⟩, z4⟩ := S.ow (x, o) (List.mem_cons_self)
  have z1 : F x = none := z1
  obtain ⟨y1, ⟨ob2, y2, y3⟩, _⟩ := ow (x, o2) (List.mem_cons_self)
  have nd := S.nd
  rw [List.map_cons] at nd
  obtain ⟨nd1, nd2⟩ := List.nodup_cons.mp nd
  have nin : ∀ a, a ≠ x → a ∉ ([(x, o)] : Os).map (·.1) := fun a h hm => h (by simpa using hm)
  refine ⟨⟨fn.fh, S.fin.bf.trans e, S.fin.mrk.trans e, S.fin.bb, fun a ha => ?_, fun a u h1 h2 h3 => ?_⟩, S.env.mono e, fun p hp => ?_, ?_⟩
  · by_cases hx : a = x
    · subst hx
      exact ⟨ob2, y2⟩
    · obtain ⟨u, hu⟩ := S.fin.ios a ha
      cases ef : F a with
      | none => exact ⟨u, (fn.keep a u ef hu (nin a hx)).1⟩
      | some q => exact ⟨q, fn.fh a q (e a q ef)⟩
  · obtain ⟨k1, k2⟩ := S.fin.keep a u h1 h2 h3
    refine fn.keep a u k2 k1 (nin a ?_)
    rintro rfl
    rcases z4 with q | q
    · have q' : B.H a = none := q
      rw [h2] at q'
      cases q'
    · exact h3 q
  · rcases List.mem_cons.mp hp with ep | hp
    · subst ep
      exact ⟨y1, ⟨ob2, y2, y3⟩, z4⟩
    · obtain ⟨h1, ⟨u, h2, h3⟩, h4⟩ := S.ow p (List.mem_cons_of_mem _ hp)
      have hx : p.1 ≠ x := fun z => by
        have hm := List.mem_map_of_mem (f := Prod.fst) hp
        rw [z] at hm
        exact nd1 hm
      obtain ⟨k1, k2⟩ := fn.keep p.1 u h1 h2 (nin _ hx)
      exact ⟨k2, ⟨u, k1, p.2.mono e h3⟩, h4⟩
  · rw [List.map_cons]
    exact nd
/-- the reading of a making -/
theorem made {X : Cx} {B : Bs} {env : Env} {os : Os} {ι ρ : Type} {C : Addr} {args : ι → Env} {wf : ι → W ρ} {fl : ρ → List (Str × Slot)} {F H : Hp} {σ : L2.St} {vs : List V} {i : ι} {P : ρ → Prop} {Q : VK} {E : XK} (S : Sit B F H σ env os) (ok : EnvOk F (args i) (vs.map some)) (hw : wf i P (fun _ => False))
    (k : ∀ z, P z → ∀ v F' H', Sit B F' H' σ env os → Ex F F' → (rObj C fl).ok F' v z → Q v H') (x dx : Addr) (hx : H x = none) (hdx : H dx = none) (hne : dx ≠ x) :
    spI C args wf fl (.ref x :: vs) (upd (upd H dx (.own x)) x (.ins C dx [])) (fun v H2 => v = .non ∧ Q (.ref x) H2) E := by
  have g : Grow F H (upd F dx (.own x)) (upd H dx (.own x)) := Grow.alloc S.fh hdx
  have S1 := S.grow g
  have hx1 : upd H dx (.own x) x = none := by rw [upd_ne (Ne.symm hne)]; exact hx
  have S2 := S1.newOwn (o := .ins C dx []) (ow := oObj C []) hx1 ⟨dx, [], rfl, .nil⟩
  refine ⟨i, upd F dx (.own x), P, x, dx, vs, rfl, S2.fh, ?_, upd_same, ok.mono g.f, hw, fun r hr F' H' fn ow => ⟨rfl, ?_⟩⟩
  · exact (S2.ow (x, oObj C []) List.mem_cons_self).1
  · obtain ⟨F2, o, e2, h1, ⟨dx', vs', h2, h3⟩, S4⟩ := (S2.backI fn ow).freeze
    subst h2
    exact k r hr (.ref x) F2 H' S4 ((g.f.trans fn.bf).trans e2) ⟨x, dx', vs', rfl, h1, h3⟩
section
variable {X : Cx} {B : Bs} {env : Env} {os : Os} {pos p : Pos} {ι ρ α : Type} {args : ι → Env} {wf : ι → W ρ} {fl : ρ → List (Str × Slot)} {e : Expr} {es : List Expr} {x : Str} {k : Nat} {f C : Addr} {fd : FuncData} {ps : List Str}
theorem e_make {w : W ι} (M : Mk X.K C f) (G : FnOk X.prog X.w X.K X.mg X.base CX0 k f fd ps (spI C args wf fl)) (hr : Room (k + 1) X.A) (hm : X.mg x = some (.ref C)) (hb : Binds X.K fd ps []) (ha : AA X B env os (e :: es) args w)
    (hg : Gl X x := by rfl) (hdb : (x == ("__debug__" : Str)) = false := by decide) (he : starEach (e :: es) X.env = (false, eval e X.env) :: starEach es X.env := by rfl) (hpl : (backTo pos (starEach es X.env)).any (·.1) = false := by rfl) :
    EE X B env os (.Call (.Name x p) (e :: es) [] pos) (rObj C fl) (bnd w fun i => noX (wf i)) :=
  PE.imp (pe_make M G hr hg hm hb .nil pass0 ha hdb he hpl) fun σ H Q ⟨F, P, S, hw, k⟩ => ⟨F, _, S, hw, fun i hi vs F1 H1 S1 e1 ok y dy h1 h2 h3 => by
    rw [List.append_nil]
    exact made (X := X) S1 ok hi (fun z hz v F' H' S' e' ok' => k z hz v F' H' S' (e1.trans e') ok') y dy h1 h2 h3⟩
theorem e_make0 {wf : Unit → W ρ} (M : Mk X.K C f) (G : FnOk X.prog X.w X.K X.mg X.base CX0 k f fd ps (spI C (fun _ : Unit => []) wf fl)) (hr : Room (k + 1) X.A) (hm : X.mg x = some (.ref C)) (hb : Binds X.K fd ps [])
    (hg : Gl X x := by rfl) (hdb : (x == ("__debug__" : Str)) = false := by decide) :
    EE X B env os (.Call (.Name x p) [] [] pos) (rObj C fl) (noX (wf ())) :=
  PE.imp (pe_make0 M G hr hg hm hb .nil pass0 hdb) fun σ H Q ⟨F, P, S, hw, k⟩ => fun y dy h1 h2 h3 =>
    made (X := X) (args := fun _ : Unit => []) (i := ()) (vs := []) S .nil hw (fun z hz v F' H' S' e' ok' => k z hz v F' H' S' e' ok') y dy h1 h2 h3
end

/-! ### a class whose __init__ has only a star parameter -/
def spIS {α ρ : Type} (C : Addr) (r : Rp α) (wf : List α → W ρ) (fl : ρ → List (Str × Slot)) : Sp := fun vs H Q _ => ∃ (xs : List α) (F : Hp) (P : ρ → Prop) (x dx : Addr) (us : List V), vs = .ref x :: us ∧ Ex F H ∧ F x = none ∧ H x = some (.ins C dx []) ∧ Paired (r.ok F) us xs ∧ xs.length ≤ sizeLine ∧
  wf xs P (fun _ => False) ∧ ∀ r, P r → ∀ F' H', Fn (bs0 F H [(x, oObj C [])]) F' H' → OsOk (bs0 F H [(x, oObj C [])]) F' H' [(x, oObj C (fl r))] → Q .non H'
section
variable {P : Program} {w : World} {K : PySem.W.Frag} {mg : Str → Option Value} {base : Heap} {k : Nat} {f C : Addr} {fd : FuncData} {ps N : List Str} {α ρ : Type} {r : Rp α} {wf : List α → W ρ} {fl : ρ → List (Str × Slot)}
/-- how a def binds self and a star parameter -/
def BindStar (K : PySem.W.Frag) (fd : FuncData) (self pv : Str) : Prop := ∀ us rest : List Value, us.length = [self].length → bindArgs fd ⟨us ++ rest, []⟩ = (newTuple rest >>= fun t => pure ([self].zip us ++ [(pv, t)]))
theorem bindStar_of {K : PySem.W.Frag} {fd : FuncData} {self pv : Str} (h0 : ∀ a, bindArgs fd ⟨[a], []⟩ = (newTuple [] >>= fun t => pure [(self, a), (pv, t)])) (h1 : ∀ a r rs, bindArgs fd ⟨a :: r :: rs, []⟩ = (newTuple (r :: rs) >>= fun t => pure [(self, a), (pv, t)])) : BindStar K fd self pv :=
  StX.bind_star1 (B := fun us => bindArgs fd ⟨us, []⟩) h0 h1
theorem initS {x qual self pv : Str} {st : Stmt} (F : Fun K x qual st f fd) (S : FnScope N [self, pv] (defScope st)) (hb : BindStar K fd self pv)
    (body : ∀ (cdv : Value) (A : Around) (outer : List PySem.Env) (s : Shared) (H : Hp) (E : XK) (B : Bs) (a : Addr) (xs : List α), Room k (A.deeper (envOfC qual (defScope st) s.heap.objs.size f cdv)) →
      BG (cxOf CX0 P w K mg base N qual (defScope st) f cdv A outer s H E).nox B (entry [sv (rAdr a) (), sv (rTup K r) xs] (N.length - 2)) [(a, oObj C [])] (defBody st) (pIn B C a fl) (wf xs)) : FnR P w K mg base CX0 (k + 1) f (spIS C r wf fl) := by
  obtain ⟨oc, od, kV, doc, pm, an, cdv, ct, osl, rfl, lk, hcd⟩ := F.ex
  have z := StX.fn_star (P := P) (w := w) (mg := mg) (base := base) (ps := [self]) (pv := pv) (sp := spI C (fun xs : List α => [sv (rTup K r) xs]) wf fl) (k := k) lk hcd S StX.cxUp_none hb fun A outer s H vs Q E hr hsp => by
    obtain ⟨xs, F0, P0, a, dx, us, ev, fh, fa, ha, he, hw, hk⟩ := hsp
    subst ev
    have ow : ∀ p ∈ ([(a, oObj C [])] : Os), F0 p.1 = none ∧ ∃ o, H p.1 = some o ∧ p.2.ok F0 o := fun p hp => by
      rw [List.mem_singleton.mp hp]
      exact ⟨fa, _, ha, dx, [], rfl, .nil⟩
    have hus : us.length = 1 := by
      have := he.len
      rw [List.length_map] at this
      exact this.symm
    obtain ⟨t, ht, hq⟩ : ∃ t, PSs (cxOf CX0 P w K mg base N qual (defScope st) f cdv A outer s H E).nox (defBody st) t ∧ t { nx := fun _ H' => Q .non H', rt := Q } (L2.start N (.ref a :: us)) H := by
      refine ⟨_, body cdv A outer s H E (bs0 F0 H [(a, oObj C [])]) a xs hr, F0, P0, ⟨bs0_start fh ow, ?_, fun p hp => ?_, by simp⟩, hw, fun y hy => ⟨fun F' H' fn ow => hk y hy F' H' fn ow, fun σ F' H' fn ow => hk y hy F' H' fn ow⟩⟩
      · have h2 : (V.ref a :: us).length = 2 := by rw [List.length_cons, hus]
        rw [← h2]
        exact entry_ok (.cons ⟨_, rfl, rfl⟩ he)
      · obtain ⟨h1, o, h2, h3⟩ := ow p hp
        exact ⟨h1, ⟨o, h2, h3⟩, .inr (List.mem_map_of_mem hp)⟩
    exact ⟨t, ht.nox, hq⟩
  intro A outer s H us vs Q E hr e0 rv hsp
  obtain ⟨xs, F0, P0, a, dx, vs', ev, fh, fa, ha, he, hz, hw, hk⟩ := hsp
  refine z A outer s H us vs Q E hr e0 rv ⟨[.ref a], vs', ev, rfl, by rw [he.length]; exact hz, fun p hp => ?_⟩
  have g : Grow F0 H (upd F0 p (.tup vs')) (upd H p (.tup vs')) := Grow.alloc fh hp
  have fh' := g.fh fh
  have hap : a ≠ p := ne_of_none ha hp
  have fa' : upd F0 p (.tup vs') a = none := by rw [upd_ne hap]; exact fa
  have ha' : upd H p (.tup vs') a = some (.ins C dx []) := by rw [upd_ne hap]; exact ha
  refine ⟨xs, upd F0 p (.tup vs'), P0, a, dx, [.ref p], rfl, fh', fa', ha', .cons ⟨_, rfl, p, vs', rfl, SqT.of upd_same, by rw [he.length]; exact hz, Paired.imp (fun _ _ => r.mono g.f) he⟩ .nil, hw, fun q hq F' H' fn ow => ?_⟩
  refine hk q hq F' H' ⟨fn.fh, g.f.trans fn.bf, g.f.trans fn.mrk, fh, fn.ios, fun b o h1 h2 h3 => ?_⟩ fun y hy => ?_
  · have hbp : b ≠ p := ne_of_none h2 hp
    refine fn.keep b o ?_ ?_ h3
    · show upd F0 p (.tup vs') b = none
      rw [upd_ne hbp]
      exact h1
    · show upd H p (.tup vs') b = some o
      rw [upd_ne hbp]
      exact h2
  · obtain ⟨h1, h2, h3⟩ := ow y hy
    refine ⟨h1, h2, .inr ?_⟩
    rw [List.mem_singleton.mp hy]
    simp
end
section
variable {X : Cx} {B : Bs} {env : Env} {os : Os} {pos p : Pos} {ρ α : Type} {r : Rp α} {wf : List α → W ρ} {fl : ρ → List (Str × Slot)} {e : Expr} {es : List Expr} {x : Str} {k : Nat} {f C : Addr}
theorem madeS {F H : Hp} {σ : L2.St} {vs : List V} {xs : List α} {P : ρ → Prop} {Q : VK} {E : XK} (S : Sit B F H σ env os) (ok : Paired (r.ok F) vs xs) (hz : xs.length ≤ sizeLine) (hw : wf xs P (fun _ => False))
    (k : ∀ z, P z → ∀ v F' H', Sit B F' H' σ env os → Ex F F' → (rObj C fl).ok F' v z → Q v H') (x dx : Addr) (hx : H x = none) (hdx : H dx = none) (hne : dx ≠ x) :
    spIS C r wf fl (.ref x :: vs) (upd (upd H dx (.own x)) x (.ins C dx [])) (fun v H2 => v = .non ∧ Q (.ref x) H2) E := by
  have g : Grow F H (upd F dx (.own x)) (upd H dx (.own x)) := Grow.alloc S.fh hdx
  have S1 := S.grow g
  have hx1 : upd H dx (.own x) x = none := by rw [upd_ne (Ne.symm hne)]; exact hx
  have S2 := S1.newOwn (o := .ins C dx []) (ow := oObj C []) hx1 ⟨dx, [], rfl, .nil⟩
  refine ⟨xs, upd F dx (.own x), P, x, dx, vs, rfl, S2.fh, ?_, upd_same, Paired.imp (fun _ _ => r.mono g.f) ok, hz, hw, fun r hr F' H' fn ow => ⟨rfl, ?_⟩⟩
  · exact (S2.ow (x, oObj C []) List.mem_cons_self).1
  · obtain ⟨F2, o, e2, h1, ⟨dx', vs', h2, h3⟩, S4⟩ := (S2.backI fn ow).freeze
    subst h2
    exact k r hr (.ref x) F2 H' S4 ((g.f.trans fn.bf).trans e2) ⟨x, dx', vs', rfl, h1, h3⟩
/-- C(a, b, ..), C over a star parameter -/
theorem e_makeS {w : W (List α)} (M : Mk X.K C f) (G : FnR X.prog X.w X.K X.mg X.base CX0 k f (spIS C r wf fl)) (hr : Room (k + 1) X.A) (hm : X.mg x = some (.ref C)) (ha : AL X B env os (e :: es) r w) (hz : (e :: es).length ≤ sizeLine := by decide)
    (hg : Gl X x := by rfl) (hdb : (x == ("__debug__" : Str)) = false := by decide) (he : starEach (e :: es) X.env = (false, eval e X.env) :: starEach es X.env := by rfl) (hpl : (backTo pos (starEach es X.env)).any (·.1) = false := by rfl) :
    EE X B env os (.Call (.Name x p) (e :: es) [] pos) (rObj C fl) (bnd w fun i => noX (wf i)) :=
  PE.imp (StX.pe_makeR M G hr hg hm pass0 ha hdb he hpl) fun σ H Q ⟨F, P, S, hw, k⟩ => ⟨F, _, S, hw, fun xs hi vs F1 H1 S1 e1 ok hvl y dy h1 h2 h3 =>
    madeS S1 ok (by rw [← ok.length, hvl]; exact hz) hi (fun z hz v F' H' S' e' ok' => k z hz v F' H' S' (e1.trans e') ok') y dy h1 h2 h3⟩
/-- C() -/
theorem e_makeS0 (M : Mk X.K C f) (G : FnR X.prog X.w X.K X.mg X.base CX0 k f (spIS C r wf fl)) (hr : Room (k + 1) X.A) (hm : X.mg x = some (.ref C)) (hg : Gl X x := by rfl) (hdb : (x == ("__debug__" : Str)) = false := by decide) :
    EE X B env os (.Call (.Name x p) [] [] pos) (rObj C fl) (noX (wf [])) := by
  have z : PE X (.Call (.Name x p) [] [] pos) (StX.tMakeR C (spIS C r wf fl) (fun _ _ _ => False) tNil) := by
    refine ⟨fun pins s σ H Q I h => ?_⟩
    refine wpAny_Call_Name_kw (ld_glob I hg hm ?_ hdb)
    exact PySem.W.callWith_K0 I.kIn M.kp (StX.run_makeR (us := []) M G hr pass0 I .nil h)
  exact PE.imp z fun σ H Q ⟨F, P, S, hw, k⟩ => fun y dy h1 h2 h3 => madeS S .nil (Nat.zero_le _) hw (fun z hz v F' H' S' e' ok' => k z hz v F' H' S' e' ok') y dy h1 h2 h3
/-- C(*xs) -/
theorem e_makeS1 {w : W (List α)} {sp_ : Pos} (M : Mk X.K C f) (G : FnR X.prog X.w X.K X.mg X.base CX0 k f (spIS C r wf fl)) (hr : Room (k + 1) X.A) (hm : X.mg x = some (.ref C)) (he : EE X B env os e (rLst r) w) (hg : Gl X x := by rfl) (hdb : (x == ("__debug__" : Str)) = false := by decide)
    (hst : starEach [.Starred e sp_] X.env = [(true, eval e X.env)] := by rfl) : EE X B env os (.Call (.Name x p) [.Starred e sp_] [] pos) (rObj C fl) (bnd w fun i => noX (wf i)) := by
  refine ⟨fun pins s σ H Q I h => ?_⟩
  obtain ⟨F, P, S, hw, k⟩ := h
  refine wpAny_Call_Name_kw (ld_glob I hg hm ?_ hdb)
  refine PySem.W.callWith_S (h₀ := X.base) I.ok.mod.kin M.kp (thn (he.run pins s σ H (fun v H1 => ∃ a xs, v = V.ref a ∧ SqL X.K H1 a xs ∧ ∀ y dy, H1 y = none → H1 dy = none → dy ≠ y → spIS C r wf fl (.ref y :: xs) (upd (upd H1 dy (.own y)) y (.ins C dy [])) (fun v H2 => v = .non ∧ Q (.ref y) H2) (fun _ _ _ => False)) I ⟨F, _, S, hw, fun xs hxs v F1 H1 S1 e1 ⟨a, vs, ev, h1, z1, ok⟩ => ?_⟩) fun v s1 ⟨y, H1, I1, ry, a, xs, ey, hx, q⟩ => ?_) hst
  · refine ⟨a, vs, ev, SqL.of (S1.fh _ _ h1), fun y dy h1 h2 h3 => ?_⟩
    exact madeS S1 ok (by rw [← ok.length]; exact z1) hxs (fun z hz v F' H' S' e' ok' => k z hz v F' H' S' (e1.trans e') ok') y dy h1 h2 h3
  · subst ey
    obtain rfl : v = Value.ref a := ry
    exact StX.star_lst I1 hx fun us s2 I2 rv => ⟨I2.kIn, StX.run_makeR M G hr pass0 I2 rv q⟩
end
end Mi

namespace Mi
open PySem L2 Evl
open PyProof.Rows (Call_ boot_enumerate)

/-! ### enumerate over a tuple -/
def IteT (K : PySem.W.Frag) (a : Addr) : It :=
  ⟨fun i H => ∃ (vs : List V) (v : V), SqT K H a vs ∧ vs[i]? = some v,
   fun i H u H' => ∃ T v, u = .ref T ∧ H T = none ∧ H' = upd H T (.tup [.int (i : Nat), v]) ∧ ∀ vs, SqT K H a vs → vs[i]? = some v,
   fun i H => ∃ vs : List V, SqT K H a vs ∧ vs.length ≤ i⟩
def EnT (a e it : Addr) (i : Nat) (h : Heap) : Prop := (∃ old, IsEnum h e it ((i : Nat) : Int) old) ∧ h.IsTupleIter it a i ∧ e ≠ it
theorem turn_enumT {P : Program} {w : World} {K : PySem.W.Frag} {elts : List Expr} {kk : Nat} {tpos : Pos} (a e it : Addr) : Turn P w K (.Tuple elts kk tpos) (IteT K a) [e, it] e (EnT a e it) where
  mem := List.mem_cons_self
  obj := by
    rintro i h ⟨⟨old, h1⟩, ⟨o, h2, h3, h4⟩, _⟩ b hb
    rcases List.mem_cons.mp hb with q | q
    · exact ⟨_, q ▸ h1, fun v z => by cases z⟩
    · exact ⟨o, (List.mem_singleton.mp q) ▸ h2, fun v z => by rw [h4] at z; cases z⟩
  keep := by
    rintro i h h' ⟨⟨old, h1⟩, ⟨o, h2, h3, h4⟩, hne⟩ k
    exact ⟨⟨old, k e List.mem_cons_self _ h1⟩, ⟨o, k it (by simp) _ h2, h3, h4⟩, hne⟩
  item := by
    intro X hP hw hK hc i pins s σ H E I hf st ⟨vs, v, hq, hv⟩
    subst hP hw hK
    obtain ⟨⟨old, h1⟩, h2, hne⟩ := st
    obtain ⟨its, rv, p, hz⟩ := I.tuple hq
    obtain ⟨u, hu, ru⟩ := rv.get hv
    have hit : a ≠ it := fun z => by
      obtain ⟨o1, q1, q2, _⟩ := h2
      obtain ⟨o2, q3, q4, _⟩ := p
      rw [z, q1] at q3
      cases q3
      rw [q2] at q4
      exact absurd q4 (by decide)
    have hE : e ≠ a := fun z => by
      obtain ⟨o2, q3, q4, _⟩ := p
      have q1 := h1
      rw [z] at q1
      have q5 := Option.some.inj (q1.symm.trans q3)
      rw [← q5] at q4
      have q4 : Value.type "enumerate" = Value.type "tuple" := q4
      exact absurd q4 (by decide)
    have D := Draws.tuple (prog := X.prog) (w := X.w) (A := X.A.in1) (I.ok.hd hc) it a hit its.toArray
    have lt1 : e < s.heap.objs.size := Heap.lt_size h1
    have lt2 : it < s.heap.objs.size := let ⟨_, q, _⟩ := h2; Heap.lt_size q
    have hi : i < its.toArray.size := by
      rw [List.size_toArray]
      exact (List.getElem?_eq_some_iff.mp hu).1
    refine wpAny_pyNext_enum_itemC D h1 ⟨h2, p⟩ hi hne (by simp [hne, hE]) fun x h' tk hP ho hs hT hsz hk => ?_
    have ex : x = u := by
      have q : its[i]? = some x := by simpa using hP
      rw [q] at hu
      exact Option.some.inj hu
    subst ex
    refine ⟨_, rfl, wpAny_letOwnedTupleGo_enum (s := { s with heap := h', toks := tk + 1 }) ho fun h2' he' sb => ?_⟩
    have hT2 : h2'.get? s.heap.objs.size = some { cls := .type "tuple", data := .seq #[.int i tk, x] } := (sb.2 _ (Nat.ne_of_gt lt1)).trans hT
    have new : ObjOk X.prog X.w (upd H s.heap.objs.size (.tup [.int (i : Nat), v])) h2' s.heap.objs.size (.tup [.int (i : Nat), v]) := ⟨Nat.le_of_lt (by show 2 < sizeLine; decide), [.int i tk, x], .cons ⟨_, rfl⟩ (.cons ru .nil), _, hT2, rfl, _, rfl⟩
    have kept : ∀ b ob, b ∉ [e, it] → s.heap.get? b = some ob → h2'.get? b = some ob := fun b ob hb q => by
      have b1 : b ≠ e := fun z => hb (by simp [z])
      have b2 : b ≠ it := fun z => hb (by simp [z])
      exact (sb.2 b b1).trans (hk b ob b1 b2 q)
    have I1 : Inv X pins σ (upd H s.heap.objs.size (.tup [.int (i : Nat), v])) { s with heap := h2', toks := tk + 1 } := I.turnedNew (ch := [e, it]) kept hf (Nat.le_refl _) new
    refine ⟨.ref s.heap.objs.size, _, I1, rfl, ⟨_, v, rfl, I.hok.fresh (Nat.le_refl _), rfl, fun ys hy => by rw [I.tuple_inj hy hq]; exact hv⟩, ⟨⟨x, ?_⟩, ?_, hne⟩, fun b hb => ?_⟩
    · rw [show ((i + 1 : Nat) : Int) = (i : Int) + 1 from by omega]
      exact he'
    · obtain ⟨o, q1, q2⟩ := hs.1
      exact ⟨o, (sb.2 it (Ne.symm hne)).trans q1, q2⟩
    · have hb' : b < s.heap.objs.size := by
        rcases List.mem_cons.mp hb with z | z
        · exact z ▸ lt1
        · exact (List.mem_singleton.mp z) ▸ lt2
      rw [upd_ne (Nat.ne_of_lt hb')]
      exact (hf b hb).1
  done := by
    intro X hP hw hK hc i pins s σ H E I hf st ⟨vs, hq, hv⟩
    subst hP hw hK
    obtain ⟨⟨old, h1⟩, h2, hne⟩ := st
    obtain ⟨its, rv, p, hz⟩ := I.tuple hq
    obtain ⟨f0, f1, f2, f3, f4, f5⟩ := hf it (by simp)
    have hl := rv.length
    have ty : s.TypeIs (.ref e) "enumerate" := ⟨_, h1, rfl⟩
    unfold pyNext
    refine wpAny_bind (wpAny_attempt ?_)
    refine wpAny_callSpecial?_slot (name := Str.ofString "__next__") ty F.slot_enumerate_next ?_
    refine wpAny_call_entry F.slot_enumerate_next ty F.entry_enumerate_next ?_ (F.args_enumerate_next_1 _)
    show wpAny _ _ (field (.ref e) 2 >>= fun x => _) _ _ s
    refine wpAny_bind (wpAny_field (x := .ref it) h1 rfl rfl ?_)
    refine wpAny_bind (wpAny_nextOf_tuple_end (I.ok.hd hc) h2 p (by simp; omega) fun h' x eb ⟨o, ho, hcls⟩ => ?_)
    refine wpAny_bind (wpAny_isInstance (T := "StopIteration") (b := true) ⟨o, ho, hcls⟩ isSubtype_stop (wpAny_pure ⟨rfl, ?_⟩))
    exact I.turned (t' := s.toks) (fun b o hb q => eb b o hb q) f0 f1 f3 f4 f5
  self := fun A i s Q E st h => by
    obtain ⟨⟨old, h1⟩, _⟩ := st
    exact wpAny_pyIter_enum h1 h
/-- enumerate(v) begins: the iterator of v, the enumerate object -/
abbrev enumObj (it : Addr) : Obj := { cls := .type "enumerate", data := .fields #[.none, .bool false, .ref it, rawInt 0, .none, .none] }
theorem meets_enum1 {v : Value} {o : Obj} {G : Heap → Prop} (B : Begins v o G) :
    Meets (Builtin.«enumerate.__new__» ⟨[.type "enumerate", v], []⟩) (fun _ R s => G s.heap ∧ R (.ok (.ret (.ref (s.heap.push o).objs.size))) { s with heap := (s.heap.push o).push (enumObj s.heap.objs.size) }) :=
  .of_wp fun prog w A R s ⟨g0, k0⟩ => by
    obtain ⟨h0, g0', d0, t0, o0⟩ := s
    have sub0 := sub_enumerate
    have it0 : ∀ {A' : Around} {E : Value → Shared → Prop} {Q : Value → Shared → Prop}, Q (.ref h0.objs.size) ⟨h0.push o, g0', d0, t0, o0⟩ → wpAny (model prog w) A' (pyIter v) Q E ⟨h0, g0', d0, t0, o0⟩ := fun q => B.iter prog w _ _ ⟨h0, g0', d0, t0, o0⟩ _ g0 q
    wp_walk using it0
    refine wpAny_stack_any fun st => wpAny_pure ?_
    split
    · rename_i c _ _ _ _ _
      by_cases hc : (c == Value.type "enumerate") = true
      · wp_walk using it0
        exact ⟨_, rfl, k0⟩
      · wp_walk using it0
        exact ⟨_, rfl, k0⟩
    · wp_walk using it0
      exact ⟨_, rfl, k0⟩
theorem call_enum1 {prog : Program} {w : World} {A : Around} {E : Value → Shared → Prop} {s : Shared} {v : Value} {o : Obj} {G : Heap → Prop} {Q : Value → Shared → Prop} (B : Begins v o G) (hG : G s.heap)
    (k : ∀ h', IsEnum h' (s.heap.objs.size + 1) s.heap.objs.size 0 .none → h'.get? s.heap.objs.size = some o → (∀ b ob, s.heap.get? b = some ob → h'.get? b = some ob) → Q (.ref (s.heap.objs.size + 1)) { s with heap := h' }) :
    wpAny (model prog w) A (call (.type "enumerate") [v]) Q E s := by
  refine callType_new F.called_enumerate (by decide) (F.typeCall_enumerate_1 _) (F.newCall_enumerate_1 _) (fun obj => F.args_object_init_2 obj _) F.entry_enumerate_new (meets_enum1 B) ⟨hG, ?_⟩
  have sz : (s.heap.push o).objs.size = s.heap.objs.size + 1 := Heap.size_push _ _
  have isE : IsEnum ((s.heap.push o).push (enumObj s.heap.objs.size)) (s.heap.objs.size + 1) s.heap.objs.size 0 .none := by
    have z := Heap.get?_push_size (s.heap.push o) (o := enumObj s.heap.objs.size) rfl
    rwa [sz] at z
  show _ ∧ _
  rw [sz]
  exact ⟨⟨_, isE, rfl⟩, k _ isE (Heap.get?_push_of_some _ (Heap.get?_push_size _ B.free)) fun b ob x => Heap.get?_push_of_some _ (Heap.get?_push_of_some _ x)⟩
def iEnumT (K : PySem.W.Frag) (ta : TA) : TI := fun σ H R => ta σ H fun vs H1 => ∃ a xs, vs = [.ref a] ∧ SqT K H1 a xs ∧ R (IteT K a) H1
theorem pi_enumT {X : Cx} {e : Expr} {ta : TA} {p pos tpos : Pos} {elts : List Expr} {kk : Nat} (hg : Gl X "enumerate") (hm : X.mg "enumerate" = none) (ha : PA X [e] ta) (hs : starEach [e] X.env = [(false, eval e X.env)] := by rfl) :
    PI X (.Tuple elts kk tpos) (.Call (.Name "enumerate" p) [e] [] pos) (iEnumT X.K ta) := by
  refine ⟨fun pins s σ H R I h => ?_⟩
  refine Call_ (ld_blt I hg hm boot_enumerate (PyProof.Rows.callWith_type1 (thn (ha.run pos pins s σ H _ I h) fun us s1 ⟨vs, H1, I1, rv, qv⟩ => ?_) hs rfl))
  obtain ⟨a, xs, rfl, hq, q⟩ := qv
  obtain ⟨u, rfl, ru⟩ : ∃ u, us = [u] ∧ RelV (.ref a) u := by
    cases rv with
    | cons r t =>
      cases t
      exact ⟨_, rfl, r⟩
  obtain rfl : u = Value.ref a := ru
  obtain ⟨its, rv', p', hz⟩ := I1.tuple hq
  refine call_enum1 (begins_tuple a its.toArray) p' fun h' he hi hk => wpAny_pyIter_enum he ?_
  have I2 : Inv X pins σ H1 { s1 with heap := h' } := I1.kept (t' := s1.toks) hk
  refine ⟨_, [s1.heap.objs.size + 1, s1.heap.objs.size], _, _, H1, rfl, I2, turn_enumT a _ _, ⟨⟨.none, he⟩, ⟨_, hi, rfl, rfl⟩, Nat.succ_ne_self _⟩, fun b hb => ?_, q⟩
  have le : s1.heap.objs.size ≤ b := by
    rcases List.mem_cons.mp hb with z | z
    · rw [z]; exact Nat.le_succ _
    · rw [List.mem_singleton.mp z]; exact Nat.le_refl _
  exact I1.fpOk le (I1.hok.fresh le)
section
variable {X : Cx} {B : Bs} {env : Env} {os : Os} {pos : Pos} {α β γ : Type} {r : Rp α} {s : Rp β} {t : Rp γ} {e a b c : Expr}
theorem s_enumT {p tpos : Pos} {elts : List Expr} {kk : Nat} {w : W (List α)} (ha : EE X B env os a (rTup X.K r) w) (hm : X.mg "enumerate" = none) (hg : Gl X "enumerate" := by rfl) (hs : starEach [a] X.env = [(false, eval a X.env)] := by rfl)
    (he : starEach [a] X.env = (false, eval a X.env) :: starEach [] X.env := by rfl) :
    ES X B env os (.Tuple elts kk tpos) (.Call (.Name "enumerate" p) [a] [] pos) (rT2 X.K rInt r) (bnd w fun x => ret ((rangeI 0 x.length).zip x)) :=
  PI.imp (pi_enumT hg hm (pa_cons ha pa_nil he) hs) fun σ H R ⟨F, P, S, hw, k⟩ => ⟨F, _, S, hw, fun x hx v F1 H1 S1 e1 ⟨p1, vs, q1, h1, z1, ok1⟩ => by
  subst q1
  refine ⟨p1, vs, rfl, ex_t S1.fh h1, ?_⟩
  have l1 := ok1.length
  have lr : (rangeI 0 (x.length : Int)).length = x.length := by rw [rangeI_len]; omega
  have lz : ((rangeI 0 (x.length : Int)).zip x).length = vs.length := by rw [List.length_zip, lr, l1]; exact Nat.min_self _
  refine k _ hx _ F1 H1 S1 e1 ⟨fun i F3 H3 x1 x2 hi => ?_, fun i F3 H3 u H4 z x1 x2 yy hz => ?_, fun i F3 H3 x1 x2 hi => ?_⟩ (by rw [lz]; exact z1)
  · rw [lz] at hi
    exact ⟨vs, vs[i], ex_t x2 (ex_t x1 h1), List.getElem?_eq_getElem hi⟩
  · obtain ⟨T, v2, ev, hT, eH, y1⟩ := yy
    subst ev eH
    obtain ⟨z1', z2'⟩ := z
    have hz' := List.getElem?_zip_eq_some.mp hz
    obtain ⟨v, hv, rv⟩ := Paired.get ok1 hz'.2
    have q1 := y1 vs (ex_t x2 (ex_t x1 h1))
    rw [q1] at hv
    cases hv
    have hi : z1' = (i : Int) := by
      have h := hz'.1
      unfold rangeI at h
      rw [List.getElem?_map] at h
      obtain ⟨m, hm, em⟩ := Option.map_eq_some_iff.mp h
      rw [List.getElem?_range (by have := (List.getElem?_eq_some_iff.mp hm).1; simpa using this)] at hm
      have := Option.some.inj hm
      omega
    have g : Grow F3 H3 (upd F3 T (.tup [.int (i : Nat), v2])) (upd H3 T (.tup [.int (i : Nat), v2])) := Grow.alloc x2 hT
    exact ⟨_, g, T, _, v2, rfl, SqT.of upd_same, (by show V.int _ = V.int _; rw [hi]), r.mono (x1.trans g.f) rv⟩
  · rw [lz] at hi
    exact ⟨vs, ex_t x2 (ex_t x1 h1), hi⟩⟩
end
end Mi

namespace Mi
open PySem L2 Evl

section
variable {X : Cx} {B : Bs} {env : Env} {os : Os} {pos p : Pos} {α β γ ι ρ : Type} {r : Rp α} {s : Rp β} {t : Rp γ} {e a b c o : Expr} {es : List Expr} {rest : List Stmt} {post : Post β}
/-! ### methods, properties -/
section
variable {args : α × ι → Env} {wf : α × ι → W ρ} {ro : Rp ρ} {sl : ι → Env} {k : Nat} {f C g : Addr} {fd : FuncData} {ps : List Str} {m : Str} {fl : α → List (Str × Slot)} {apos : Pos}
theorem e_meth {w1 : W α} {w2 : α → W ι} {pl : Sem Bool} (G : FnOk X.prog X.w X.K X.mg X.base CX0 k f fd ps (spW (fun q : α × ι => sv (rObj C fl) q.1 :: sl q.2) (fun _ => []) wf ro)) (hr : Room k X.A) (cl : Cls X.K C) (hm : Meth X.K C m f) (hb : Binds X.K fd ps [])
    (ho : EE X B env os o (rObj C fl) w1) (ha : ∀ x, AA X B env os (e :: es) sl (w2 x)) (hn : ∀ x, (fl x).lookup m = none := by exact fun _ => rfl) (hst : starEach (e :: es) X.env = (false, eval e X.env) :: starEach es X.env := by rfl) (hpl : (backTo pos (starEach es X.env)).any (·.1) = false := by rfl)
    (ht : eval (.Call (.Attribute o m apos) (e :: es) [] pos) X.env = (do
      let ov ← eval o X.env
      standAt apos.atName
      let (f, first) ← holding [ov] (getMethod ov m pl)
      callWith pos f first (backTo pos (starEach (e :: es) X.env)) (backToKw pos (keywordEach [] X.env))) := by rfl) :
    EE X B env os (.Call (.Attribute o m apos) (e :: es) [] pos) ro (bnd w1 fun x => bnd (w2 x) fun i => noX (wf (x, i))) :=
  PE.imp (pe_meth (pl := pl) ho cl hm G hr hb .nil pass0 (PA.ex ha) hst hpl ht) fun σ H Q ⟨F, P, S, hw, kk⟩ => ⟨F, _, S, hw, fun x hx v F1 H1 S1 e1 ⟨y, dx, vs, ev, hy, hf⟩ => ⟨y, dx, vs, ev, S1.fh _ _ hy, hf.none (hn x), x, F1, _, S1, hx, fun i hi us F2 H2 S2 e2 ok => by
    subst ev
    rw [List.append_nil]
    refine ⟨(x, i), F2, P, S2.fh, .cons ⟨_, rfl, y, dx, vs, rfl, e2 _ _ hy, hf.mono e2⟩ ok, fun z hz => (by cases hz), List.nodup_nil, hi, fun z hz v F' H' fn ow okz => ?_⟩
    exact kk z hz v F' H' (S2.back OsLe.none fn ow) ((e1.trans e2).trans fn.bf) okz⟩⟩
theorem e_meth0 {wf : α × Unit → W ρ} {w1 : W α} {pl : Sem Bool} (G : FnOk X.prog X.w X.K X.mg X.base CX0 k f fd ps (spW (fun q : α × Unit => [sv (rObj C fl) q.1]) (fun _ => []) wf ro)) (hr : Room k X.A) (cl : Cls X.K C) (hm : Meth X.K C m f) (hb : Binds X.K fd ps [])
    (ho : EE X B env os o (rObj C fl) w1) (hn : ∀ x, (fl x).lookup m = none := by exact fun _ => rfl)
    (ht : eval (.Call (.Attribute o m apos) [] [] pos) X.env = (do
      let ov ← eval o X.env
      standAt apos.atName
      let (f, first) ← holding [ov] (getMethod ov m pl)
      callWith pos f first (backTo pos (starEach [] X.env)) (backToKw pos (keywordEach [] X.env))) := by rfl) :
    EE X B env os (.Call (.Attribute o m apos) [] [] pos) ro (bnd w1 fun x => noX (wf (x, ()))) :=
  PE.imp (pe_meth0 (pl := pl) ho cl hm G hr hb .nil pass0 ht) fun σ H Q ⟨F, P, S, hw, kk⟩ => ⟨F, _, S, hw, fun x hx v F1 H1 S1 e1 ⟨y, dx, vs, ev, hy, hf⟩ => by
    subst ev
    refine ⟨y, dx, vs, rfl, S1.fh _ _ hy, hf.none (hn x), (x, ()), F1, P, S1.fh, .cons ⟨_, rfl, y, dx, vs, rfl, hy, hf⟩ .nil, fun z hz => (by cases hz), List.nodup_nil, hx, fun z hz v F' H' fn ow okz => ?_⟩
    exact kk z hz v F' H' (S1.back OsLe.none fn ow) (e1.trans fn.bf) okz⟩
theorem e_prop {wf : α × Unit → W ρ} {w1 : W α} {pr : Addr} (G : FnOk X.prog X.w X.K X.mg X.base CX0 k g fd ps (spW (fun q : α × Unit => [sv (rObj C fl) q.1]) (fun _ => []) wf ro)) (hr : Room (k + 1) X.A) (cl : Cls X.K C) (hp : PropOf X.K C m pr g) (hb : Binds X.K fd ps [])
    (ho : EE X B env os o (rObj C fl) w1) (hab : attributeBase o m X.env (eval o X.env) = eval o X.env := by rfl) : EE X B env os (.Attribute o m pos) ro (bnd w1 fun x => noX (wf (x, ()))) :=
  PE.imp (pe_prop ho cl hp G hr hb .nil pass0 hab) fun σ H Q ⟨F, P, S, hw, kk⟩ => ⟨F, _, S, hw, fun x hx v F1 H1 S1 e1 ⟨y, dx, vs, ev, hy, hf⟩ => by
    subst ev
    refine ⟨y, dx, vs, rfl, S1.fh _ _ hy, (x, ()), F1, P, S1.fh, .cons ⟨_, rfl, y, dx, vs, rfl, hy, hf⟩ .nil, fun z hz => (by cases hz), List.nodup_nil, hx, fun z hz v F' H' fn ow okz => ?_⟩
    exact kk z hz v F' H' (S1.back OsLe.none fn ow) (e1.trans fn.bf) okz⟩
end
/-! ### operators of own classes -/
/-- what a class must have of an operator of its own -/
structure BinO (K : PySem.W.Frag) (C f : Addr) (op : Operator) : Prop where
  first : PySem.W.selfFirst K C = true
  at_ : PySem.W.findIn K (.ref C) (PySem.dunder op.info.2) = some (some (.ref f))
  fn : PySem.W.isFn K (.ref f) = true
section
variable {k : Nat} {f C : Addr} {fd : FuncData} {ps : List Str} {sp : Sp} {op : Operator}
/-- both of one class -/
theorem op_own (G : FnOk X.prog X.w X.K X.mg X.base CX0 k f fd ps sp) (hr : Room k X.A) (hb : Binds X.K fd ps []) (c : BinO X.K C f op) :
    OpR X (binaryOp op) (fun x y H Q => ∃ a b dx dy fs gs, x = .ref a ∧ y = .ref b ∧ H a = some (.ins C dx fs) ∧ H b = some (.ins C dy gs) ∧ sp [.ref a, .ref b] H Q fun _ _ _ => False) := by
  intro pins s σ H x y v u Q I rx ry ⟨a, b, dx, dy, fs, gs, ex, ey, ha, hb', hsp⟩
  subst ex ey
  cases rx
  cases ry
  obtain ⟨mA, J, _⟩ := ins_get I.hok ha
  obtain ⟨mB, J', _⟩ := ins_get I.hok hb'
  obtain ⟨od, J, _⟩ := J.look
  obtain ⟨od', J', _⟩ := J'.look
  obtain ⟨m, hF⟩ := I.fr
  refine PySem.W.binop_K hF I.ok.mod.kin J J'.type c.first c.at_ c.fn ?_
  refine wpAny_mono (run_fn (us := [.ref a, .ref b]) (vs := [.ref a, .ref b]) G hr hb .nil pass0 I (.cons rfl (.cons rfl .nil)) (by rw [List.append_nil]; exact hsp)) (fun v s' z => ?_) fun _ _ z => z
  obtain ⟨vv, H', I', rv, q⟩ := z
  exact SlX.cmpback rv ⟨vv, H', I', rv, q⟩
/-- what a built-in type says of an operator -/
structure BinT (K : PySem.W.Frag) (C f : Addr) (op : Operator) (T : String) : Prop extends BinO K C f op where
  rv : ∃ rc, PySem.W.findIn K (.ref C) (dunderR op.info.2) = some rc ∧ (rc = none ∨ ∃ g : Addr, rc = some (.ref g))
  t1 : ∃ fo, PySem.W.findIn K (.type T) (PySem.dunder op.info.2) = some fo
  t2 : ∃ ro, PySem.W.findIn K (.type T) (dunderR op.info.2) = some ro
  sub : PySem.W.subIn K (.type T) (.ref C) = some false
/-- an own object and a number -/
theorem op_ownI (G : FnOk X.prog X.w X.K X.mg X.base CX0 k f fd ps sp) (hr : Room k X.A) (hb : Binds X.K fd ps []) (c : BinT X.K C f op "int") :
    OpR X (binaryOp op) (fun x y H Q => ∃ a i dx fs, x = .ref a ∧ y = .int i ∧ H a = some (.ins C dx fs) ∧ sp [.ref a, .int i] H Q fun _ _ _ => False) := by
  intro pins s σ H x y v u Q I rx ry ⟨a, i, dx, fs, ex, ey, ha, hsp⟩
  subst ex ey
  cases rx
  obtain ⟨tk, rfl⟩ := ry
  obtain ⟨mA, J, _⟩ := ins_get I.hok ha
  obtain ⟨od, J, _⟩ := J.look
  obtain ⟨m, hF⟩ := I.fr
  obtain ⟨rc, r1, r2⟩ := c.rv
  obtain ⟨fo, t1⟩ := c.t1
  obtain ⟨ro, t2⟩ := c.t2
  refine PySem.W.ksp_binT hF I.ok.mod.kin J rfl c.first c.at_ c.fn r1 r2 t1 t2 c.sub ?_
  refine wpAny_mono (run_fn (us := [.ref a, .int i tk]) (vs := [.ref a, .int i]) G hr hb .nil pass0 I (.cons rfl (.cons ⟨tk, rfl⟩ .nil)) (by rw [List.append_nil]; exact hsp)) (fun v s' z => ?_) fun _ _ z => z
  obtain ⟨vv, H', I', rv, q⟩ := z
  exact SlX.cmpback rv ⟨vv, H', I', rv, q⟩
theorem un_ownN (G : FnOk X.prog X.w X.K X.mg X.base CX0 k f fd ps sp) (hr : Room k X.A) (hb : Binds X.K fd ps []) (hs : PySem.W.findIn X.K (.ref C) "__neg__" = some (some (.ref f))) (hf : PySem.W.isFn X.K (.ref f) = true) :
    UnR X (unaryOp .USub) (fun x H Q => ∃ a dx fs, x = .ref a ∧ H a = some (.ins C dx fs) ∧ sp [.ref a] H Q fun _ _ _ => False) := by
  intro pins s σ H x v Q I rx ⟨a, dx, fs, ex, ha, hsp⟩
  subst ex
  cases rx
  obtain ⟨mA, J, _⟩ := ins_get I.hok ha
  obtain ⟨od, J, _⟩ := J.look
  obtain ⟨m, hF⟩ := I.fr
  refine PySem.W.ksp_neg hF I.ok.mod.kin J hs hf ?_
  exact run_fn (us := [.ref a]) (vs := [.ref a]) G hr hb .nil pass0 I (.cons rfl .nil) (by rw [List.append_nil]; exact hsp)
end
section
variable {fl : α → List (Str × Slot)} {gl : β → List (Str × Slot)} {ro : Rp ρ} {k : Nat} {f C : Addr} {fd : FuncData} {ps : List Str} {op : Operator}
theorem e_binO {fl2 : α → List (Str × Slot)} {wf : α × α × Unit → W ρ} {w1 : W α} {w2 : α → W α} (G : FnOk X.prog X.w X.K X.mg X.base CX0 k f fd ps (spW (fun q : α × α × Unit => [sv (rObj C fl) q.1, sv (rObj C fl) q.2.1]) (fun _ => []) wf ro)) (hr : Room k X.A) (hb : Binds X.K fd ps []) (c : BinO X.K C f op)
    (ha : EE X B env os a (rObj C fl) w1) (hb' : ∀ x, EE X B env os b (rObj C fl) (w2 x)) : EE X B env os (.BinOp a op b pos) ro (bnd w1 fun x => bnd (w2 x) fun y => noX (wf (x, y, ()))) :=
  PE.imp (pe_op (op_own G hr hb c) ha (PE.ex hb')) fun σ H Q ⟨F, P, S, hw, kk⟩ => ⟨F, _, S, hw, fun x hx v F1 H1 S1 e1 ⟨y, dx, vs, ev, hy, hf⟩ => ⟨x, F1, _, S1, hx, fun x2 hx2 u F2 H2 S2 e2 ⟨z, dz, us, eu, hz, hg⟩ => by
    subst ev eu
    refine ⟨y, z, dx, dz, vs, us, rfl, rfl, S2.fh _ _ (e2 _ _ hy), S2.fh _ _ hz, (x, x2, ()), F2, P, S2.fh, .cons ⟨_, rfl, y, dx, vs, rfl, e2 _ _ hy, hf.mono e2⟩ (.cons ⟨_, rfl, z, dz, us, rfl, hz, hg⟩ .nil), fun z hz => (by cases hz), List.nodup_nil, hx2, fun z hz v F' H' fn ow okz => ?_⟩
    exact kk z hz v F' H' (S2.back OsLe.none fn ow) ((e1.trans e2).trans fn.bf) okz⟩⟩
theorem e_binI {wf : α × Int × Unit → W ρ} {w1 : W α} {w2 : α → W Int} (G : FnOk X.prog X.w X.K X.mg X.base CX0 k f fd ps (spW (fun q : α × Int × Unit => [sv (rObj C fl) q.1, sv rInt q.2.1]) (fun _ => []) wf ro)) (hr : Room k X.A) (hb : Binds X.K fd ps []) (c : BinT X.K C f op "int")
    (ha : EE X B env os a (rObj C fl) w1) (hb' : ∀ x, EE X B env os b rInt (w2 x)) : EE X B env os (.BinOp a op b pos) ro (bnd w1 fun x => bnd (w2 x) fun y => noX (wf (x, y, ()))) :=
  PE.imp (pe_op (op_ownI G hr hb c) ha (PE.ex hb')) fun σ H Q ⟨F, P, S, hw, kk⟩ => ⟨F, _, S, hw, fun x hx v F1 H1 S1 e1 ⟨y, dx, vs, ev, hy, hf⟩ => ⟨x, F1, _, S1, hx, fun i hi u F2 H2 S2 e2 eu => by
    have eu : u = .int i := eu
    subst ev eu
    refine ⟨y, i, dx, vs, rfl, rfl, S2.fh _ _ (e2 _ _ hy), (x, i, ()), F2, P, S2.fh, .cons ⟨_, rfl, y, dx, vs, rfl, e2 _ _ hy, hf.mono e2⟩ (.cons ⟨_, rfl, rfl⟩ .nil), fun z hz => (by cases hz), List.nodup_nil, hi, fun z hz v F' H' fn ow okz => ?_⟩
    exact kk z hz v F' H' (S2.back OsLe.none fn ow) ((e1.trans e2).trans fn.bf) okz⟩⟩
theorem e_negO {wf : α × Unit → W ρ} {w1 : W α} (G : FnOk X.prog X.w X.K X.mg X.base CX0 k f fd ps (spW (fun q : α × Unit => [sv (rObj C fl) q.1]) (fun _ => []) wf ro)) (hr : Room k X.A) (hb : Binds X.K fd ps []) (hs : PySem.W.findIn X.K (.ref C) "__neg__" = some (some (.ref f))) (hf : PySem.W.isFn X.K (.ref f) = true)
    (ha : EE X B env os a (rObj C fl) w1) : EE X B env os (.UnaryOp .USub a pos) ro (bnd w1 fun x => noX (wf (x, ()))) :=
  PE.imp (pe_un (un_ownN G hr hb hs hf) ha) fun σ H Q ⟨F, P, S, hw, kk⟩ => ⟨F, _, S, hw, fun x hx v F1 H1 S1 e1 ⟨y, dx, vs, ev, hy, hf⟩ => by
    subst ev
    refine ⟨y, dx, vs, rfl, S1.fh _ _ hy, (x, ()), F1, P, S1.fh, .cons ⟨_, rfl, y, dx, vs, rfl, hy, hf⟩ .nil, fun z hz => (by cases hz), List.nodup_nil, hx, fun z hz v F' H' fn ow okz => ?_⟩
    exact kk z hz v F' H' (S1.back OsLe.none fn ow) (e1.trans fn.bf) okz⟩
end
/-! ### isinstance -/
/-- what type all of a kind have -/
def TyR (K : PySem.W.Frag) {α : Type} (r : Rp α) (t : Value) : Prop := ∀ (F H : Hp) (v : V) (x : α), r.ok F v x → Ex F H → TyX K H v t
theorem ty_int {K : PySem.W.Frag} : TyR K rInt (.type "int") := fun F H v x e _ => by
  have e : v = .int x := e
  rw [e]
  exact .base (.int x)
theorem ty_bool {K : PySem.W.Frag} : TyR K rBool (.type "bool") := fun F H v x e _ => by
  have e : v = .bl x := e
  rw [e]
  exact .base (.bl x)
theorem ty_str {K : PySem.W.Frag} : TyR K rStr (.type "str") := fun F H v x e _ => by
  rw [e.1]
  exact .base (.str x)
theorem ty_non {K : PySem.W.Frag} : TyR K rNon (.type "NoneType") := fun F H v x e _ => by
  have e : v = .non := e
  rw [e]
  exact .base .non
theorem ty_lst {K : PySem.W.Frag} {r : Rp α} : TyR K (rLst r) (.type "list") := fun F H v x ⟨a, vs, e, h, _⟩ q => by
  rw [e]
  exact .base (.lst (q _ _ h))
theorem ty_obj {K : PySem.W.Frag} {C : Addr} {fl : α → List (Str × Slot)} (c : C8.InsC K C) : TyR K (rObj C fl) (.ref C) := fun F H v x ⟨a, dx, vs, e, h, _⟩ q => by
  rw [e]
  exact .base (.ins (q _ _ h) c.cl c.ha c.hn c.htk c.hm)
theorem kit_refl {K : PySem.W.Frag} {C : Addr} : PySem.W.kitOne K (.ref C) (.ref C) = some true := by
  unfold PySem.W.kitOne
  rw [if_pos (by simp)]
theorem kit_up {K : PySem.W.Frag} {C : Addr} {T : String} {k : Bool} (hs : PySem.W.subIn K (.ref C) (.type T) = some k) (hm : PySem.W.kitMeta T = true := by decide +kernel) : PySem.W.kitOne K (.ref C) (.type T) = some k := by
  unfold PySem.W.kitOne
  rw [if_neg (by intro h; cases beq_iff_eq.mp h)]
  unfold PySem.W.kitCls
  dsimp only
  rw [if_pos hm]
  exact hs
theorem kit_down {K : PySem.W.Frag} {C : Addr} {t : Value} {k : Bool} (ht : PySem.W.typeIn K (.ref C) = some (.type "type")) (hc : PySem.W.isClsIn K C = true) (hs : PySem.W.subIn K t (.ref C) = some k) (hne : (t == Value.ref C) = false) : PySem.W.kitOne K t (.ref C) = some k := by
  unfold PySem.W.kitOne
  rw [if_neg (by rw [hne]; decide)]
  unfold PySem.W.kitCls
  dsimp only
  rw [if_pos (by rw [ht, show (PySem.W.clsIn K C).isSome = true from hc]; rfl)]
  exact hs
/-- isinstance(e, T), T a built-in type -/
theorem e_isB {w : W α} {t : Value} {x : Str} {T : String} {k : Bool} {p1 p2 : Pos} (ty : TyR X.K r t) (hk : PySem.W.kitOne X.K t (.type T) = some k) (ha : EE X B env os a r w) (hm : X.mg "isinstance" = none) (hx : X.mg x = none)
    (hv : bootBuiltins x = some (.type T) := by decide +kernel) (hn : x ≠ "__name__" := by decide) (hd : (x == ("__debug__" : Str)) = false := by decide)
    (hg : Gl X "isinstance" := by rfl) (hgx : Gl X x := by rfl) (hs : starEach [a, .Name x p2] X.env = (false, eval a X.env) :: starEach [.Name x p2] X.env := by rfl) (hs2 : starEach [.Name x p2] X.env = (false, eval (.Name x p2) X.env) :: starEach [] X.env := by rfl) (hpl : (backTo pos (starEach [.Name x p2] X.env)).any (·.1) = false := by rfl) :
    EE X B env os (.Call (.Name "isinstance" p1) [a, .Name x p2] [] pos) rBool (bnd w fun _ => ret k) :=
  PE.imp (pe_callB call_isi hg hm (by decide +kernel) (pa_cons ha (pa_cons (pe_bltn (v := .ty T) hgx hx hv rfl hn hd) pa_nil hs2) hs) (by decide) (by decide) hs hpl) fun σ H Q ⟨F, P, S, hw, kk⟩ => ⟨F, _, S, hw, fun x hx v F1 H1 S1 e1 ok =>
    ⟨v, .ty T, t, .type T, k, rfl, .ty T, ty F1 H1 v x ok S1.fh, hk, kk k hx (.bl k) F1 H1 S1 e1 rfl⟩⟩
/-- isinstance(e, C), C an own class -/
theorem e_isC {w : W α} {t : Value} {x : Str} {C : Addr} {k : Bool} {p1 p2 : Pos} (ty : TyR X.K r t) (hk : PySem.W.kitOne X.K t (.ref C) = some k) (ha : EE X B env os a r w) (hm : X.mg "isinstance" = none) (hx : X.mg x = some (.ref C)) (hd : (x == ("__debug__" : Str)) = false := by decide)
    (hg : Gl X "isinstance" := by rfl) (hgx : Gl X x := by rfl) (hs : starEach [a, .Name x p2] X.env = (false, eval a X.env) :: starEach [.Name x p2] X.env := by rfl) (hs2 : starEach [.Name x p2] X.env = (false, eval (.Name x p2) X.env) :: starEach [] X.env := by rfl) (hpl : (backTo pos (starEach [.Name x p2] X.env)).any (·.1) = false := by rfl) :
    EE X B env os (.Call (.Name "isinstance" p1) [a, .Name x p2] [] pos) rBool (bnd w fun _ => ret k) :=
  PE.imp (pe_callB call_isi hg hm (by decide +kernel) (pa_cons ha (pa_cons (pe_glob (v := .ref C) hgx hx rfl hd) pa_nil hs2) hs) (by decide) (by decide) hs hpl) fun σ H Q ⟨F, P, S, hw, kk⟩ => ⟨F, _, S, hw, fun x hx v F1 H1 S1 e1 ok =>
    ⟨v, .ref C, t, .ref C, k, rfl, .own C, ty F1 H1 v x ok S1.fh, hk, kk k hx (.bl k) F1 H1 S1 e1 rfl⟩⟩
end
end Mi

namespace Mi
open PySem L2 Evl

section
variable {X : Cx} {B : Bs} {env : Env} {os : Os} {pos p : Pos} {α β γ : Type} {r : Rp α} {s : Rp β} {e a b c tg : Expr} {es : List Expr} {rest : List Stmt} {post : Post β}
/-! ### texts of numbers, f-strings -/
def intS (i : Int) : W Str := chk (i.natAbs < 2 ^ 1920) (ret (Str.ofString (toString i)))
theorem intS_log {i : Int} (h : i.natAbs < 2 ^ 1920) : i.natAbs.log2 < 1920 := log2_lt h (by decide)
theorem intS_ok {F : Hp} {i : Int} (h : i.natAbs < 2 ^ 1920) : rStr.ok F (.str (Str.ofString (toString i))) (Str.ofString (toString i)) :=
  ⟨rfl, Nat.le_trans (PyProof.Rows.int_text_len_1921 (intS_log h)) (by decide), strOk_str _⟩
theorem e_fmtI {w : W Int} (h : EE X B env os e rInt w) : EE X B env os (.FormattedValue e (-1) none pos) rStr (bnd w intS) :=
  PE.imp (pe_fmt h) fun σ H Q ⟨F, P, S, hw, k⟩ => ⟨F, _, S, hw, fun i ⟨hi, hp⟩ v F1 H1 S1 e1 ok => .inr ⟨i, ok, intS_log hi, k _ hp _ F1 H1 S1 e1 (intS_ok hi)⟩⟩
theorem e_fmtS {w : W Str} (h : EE X B env os e rStr w) : EE X B env os (.FormattedValue e (-1) none pos) rStr w :=
  PE.imp (pe_fmt h) fun σ H Q ⟨F, P, S, hw, k⟩ => ⟨F, P, S, hw, fun x hx v F1 H1 S1 e1 ok => .inl ⟨x, ok.1, ok.2.1, by rw [← ok.1]; exact k x hx v F1 H1 S1 e1 ok⟩⟩
/-- the parts of an f-string, behind what is there -/
def EJ (X : Cx) (B : Bs) (env : Env) (os : Os) (es : List Expr) (w : Str → W Str) : Prop := ∃ ts, PJ X es ts ∧ ∀ acc σ H (Q : Str → Hp → Prop) F P, Sit B F H σ env os → acc.length ≤ sizeLine → PyData.strOk acc = true → w acc P B.E0 →
  (∀ z, P z → z.length ≤ sizeLine → PyData.strOk z = true → ∀ F' H', Sit B F' H' σ env os → Ex F F' → Q z H') → tJs ts acc σ H Q
theorem j_nil : EJ X B env os [] ret := ⟨[], .nil, fun acc σ H Q F P S h1 h2 hw k => k acc hw h1 h2 F H S (Ex.refl F)⟩
def joinS (acc y : Str) : W Str := chk ((acc ++ y).length ≤ sizeLine) (ret (acc ++ y))
theorem j_cons {w1 : W Str} {w2 : Str → W Str} (h : EE X B env os e rStr w1) (t : EJ X B env os es w2) : EJ X B env os (e :: es) (fun acc => bnd w1 fun y => bnd (joinS acc y) w2) := by
  obtain ⟨ts, h1, h2⟩ := t
  refine ⟨_ :: ts, .cons h h1, fun acc σ H Q F P S hz ho hw k => ⟨F, _, S, hw, fun y ⟨hy, hp⟩ v F1 H1 S1 e1 ok => ⟨y, ok.1, hy, h2 (acc ++ y) σ H1 Q F1 P S1 hy (strOk_app ho ok.2.2) hp fun z hz hz1 hz2 F2 H2 S2 e2 => k z hz hz1 hz2 F2 H2 S2 (e1.trans e2)⟩⟩⟩
theorem e_fstr {v1 v2 : Expr} {w : Str → W Str} (h : EJ X B env os (v1 :: v2 :: es) w) : EE X B env os (.JoinedStr (v1 :: v2 :: es) pos) rStr (w Str.empty) := by
  obtain ⟨ts, h1, h2⟩ := h
  exact PE.imp (pe_joined h1) fun σ H Q ⟨F, P, S, hw, k⟩ => h2 Str.empty σ H _ F P S (Nat.zero_le _) (by decide +kernel) hw fun z hz h1 h2 F' H' S' e' => k z hz _ F' H' S' e' ⟨rfl, h1, h2⟩
theorem e_fstr1 {w : W Str} (h : EE X B env os e rStr w) : EE X B env os (.JoinedStr [e] pos) rStr w := PE.imp (pe_joined1 h) fun _ _ _ q => q
theorem sem_strI {K : PySem.W.Frag} : C1T (fun xs H Q => ∃ i, xs = [.int i] ∧ i.natAbs.log2 < 1920 ∧ Q (.str (toString i)) H) rInt rStr intS := fun F H v i P E Q fh ok ⟨hi, hp⟩ k => by
  have ok : v = .int i := ok
  subst ok
  exact ⟨i, rfl, intS_log hi, k _ hp _ F H (Grow.refl fh) (intS_ok hi)⟩
theorem e_strI {w : W Int} (ha : EE X B env os a rInt w) (hm : X.mg "str" = none) (hg : Gl X "str" := by rfl) (he : starEach [a] X.env = (false, eval a X.env) :: starEach [] X.env := by rfl) (hpl : (backTo pos (starEach [] X.env)).any (·.1) = false := by rfl) :
    EE X B env os (.Call (.Name "str" p) [a] [] pos) rStr (bnd w intS) := e_callTy call_str_int (sem_strI (K := X.K)) ha hm hg (by decide +kernel) (by decide) (by decide) he hpl
/-! ### max(a, b), min(a, b) -/
theorem e_max2 {w1 : W Int} {w2 : Int → W Int} (hc : X.calm = true) (ha : EE X B env os a rInt w1) (hb : ∀ x, EE X B env os b rInt (w2 x)) (hm : X.mg "max" = none) (hg : Gl X "max" := by rfl) (he : starEach [a, b] X.env = (false, eval a X.env) :: starEach [b] X.env := by rfl) (he2 : starEach [b] X.env = (false, eval b X.env) :: starEach [] X.env := by rfl)
    (hpl : (backTo pos (starEach [b] X.env)).any (·.1) = false := by rfl) : EE X B env os (.Call (.Name "max" p) [a, b] [] pos) rInt (bnd w1 fun x => bnd (w2 x) fun y => ret (if y > x then y else x)) :=
  PE.imp (pe_callB (call_max2 hc) hg hm (by decide +kernel) (pa_cons ha (pa_cons (PE.ex hb) pa_nil he2) he) (by decide) (by decide) he hpl) fun σ H Q ⟨F, P, S, hw, k⟩ => ⟨F, _, S, hw, fun x hx v F1 H1 S1 e1 ok1 => ⟨x, F1, _, S1, hx, fun y hy u F2 H2 S2 e2 ok2 =>
    ⟨x, y, by rw [show v = .int x from ok1, show u = .int y from ok2], k _ hy _ F2 H2 S2 (e1.trans e2) rfl⟩⟩⟩
theorem e_min2 {w1 : W Int} {w2 : Int → W Int} (hc : X.calm = true) (ha : EE X B env os a rInt w1) (hb : ∀ x, EE X B env os b rInt (w2 x)) (hm : X.mg "min" = none) (hg : Gl X "min" := by rfl) (he : starEach [a, b] X.env = (false, eval a X.env) :: starEach [b] X.env := by rfl) (he2 : starEach [b] X.env = (false, eval b X.env) :: starEach [] X.env := by rfl)
    (hpl : (backTo pos (starEach [b] X.env)).any (·.1) = false := by rfl) : EE X B env os (.Call (.Name "min" p) [a, b] [] pos) rInt (bnd w1 fun x => bnd (w2 x) fun y => ret (if y < x then y else x)) :=
  PE.imp (pe_callB (call_min2 hc) hg hm (by decide +kernel) (pa_cons ha (pa_cons (PE.ex hb) pa_nil he2) he) (by decide) (by decide) he hpl) fun σ H Q ⟨F, P, S, hw, k⟩ => ⟨F, _, S, hw, fun x hx v F1 H1 S1 e1 ok1 => ⟨x, F1, _, S1, hx, fun y hy u F2 H2 S2 e2 ok2 =>
    ⟨x, y, by rw [show v = .int x from ok1, show u = .int y from ok2], k _ hy _ F2 H2 S2 (e1.trans e2) rfl⟩⟩⟩
/-! ### range(a, b, -1) -/
def downI (lo hi : Int) : List Int := (List.range (lo - hi).toNat).map fun (k : Nat) => lo - (k : Int)
def rngD (lo hi : Int) : W (List Int) := chk (RgOk hi lo) (ret (downI lo hi))
theorem downI_len (lo hi : Int) : (downI lo hi).length = (lo - hi).toNat := by
  unfold downI
  rw [List.length_map, List.length_range]
theorem walks_down {lo hi : Int} {F : Hp} : Walks (Itc lo (-1) (lo - hi).toNat) F rInt (downI lo hi) := by
  refine ⟨fun i F1 H1 _ _ h => ?_, fun i F1 H1 v H2 x _ fh y hx => ?_, fun i F1 H1 _ _ h => ?_⟩
  · rw [downI_len] at h
    exact h
  · obtain ⟨e1, e2⟩ := y
    subst e1
    refine ⟨F1, Grow.refl fh, ?_⟩
    unfold downI at hx
    rw [List.getElem?_map] at hx
    obtain ⟨k, hk, ek⟩ := Option.map_eq_some_iff.mp hx
    have hki : k = i := by
      rw [List.getElem?_range (by have := (List.getElem?_eq_some_iff.mp hk).1; simpa using this)] at hk
      exact (Option.some.inj hk).symm
    subst hki
    show v = .int x
    rw [e2, ← ek]
    exact congrArg V.int (by omega)
  · rw [downI_len] at h
    exact h
theorem s_rngD {p1 p2 : Pos} {q : Nat} {w : W Int} {w2 : Int → W Int} (ha : EE X B env os a rInt w) (hb : ∀ x, EE X B env os b rInt (w2 x)) (hm : X.mg "range" = none) (hg : Gl X "range" := by rfl)
    (hs : starEach [a, b, .UnaryOp .USub (.Constant (.int 1) q p1) p2] X.env = (false, eval a X.env) :: starEach [b, .UnaryOp .USub (.Constant (.int 1) q p1) p2] X.env := by rfl) (hs2 : starEach [b, .UnaryOp .USub (.Constant (.int 1) q p1) p2] X.env = (false, eval b X.env) :: starEach [.UnaryOp .USub (.Constant (.int 1) q p1) p2] X.env := by rfl)
    (hs3 : starEach [.UnaryOp .USub (.Constant (.int 1) q p1) p2] X.env = (false, eval (.UnaryOp .USub (.Constant (.int 1) q p1) p2) X.env) :: starEach [] X.env := by rfl) (hpl : (backTo pos (starEach [b, .UnaryOp .USub (.Constant (.int 1) q p1) p2] X.env)).any (·.1) = false := by rfl) :
    ES X B env os tg (.Call (.Name "range" p) [a, b, .UnaryOp .USub (.Constant (.int 1) q p1) p2] [] pos) rInt (bnd w fun x => bnd (w2 x) fun y => rngD x y) :=
  PI.imp (pi_range3 hg hm (pa_cons ha (pa_cons (PE.ex hb) (pa_cons (pe_un un_neg pe_int) pa_nil hs3) hs2) hs) hs hpl) fun σ H R ⟨F, P, S, hw, k⟩ => ⟨F, _, S, hw, fun x hx v F1 H1 S1 e1 ok1 => ⟨x, F1, _, S1, hx, fun y ⟨c, hy⟩ u F2 H2 S2 e2 ok2 => by
  obtain ⟨c1, c2, c3, c4, c5⟩ := c
  refine ⟨1, rfl, x, y, -1, (x - y).toNat, by rw [show v = .int x from ok1, show u = .int y from ok2], RgC.neg c3 c4 c1 c2, k _ hy _ F2 H2 S2 (e1.trans e2) walks_down ?_⟩
  rw [downI_len]
  refine Nat.le_trans (show (x - y).toNat ≤ 16777216 by omega) (by decide)⟩⟩
theorem pair_rev {R : V → α → Prop} : ∀ {vs : List V} {xs : List α}, Paired R vs xs → Paired R vs.reverse xs.reverse
  | _, _, .nil => .nil
  | _, _, .cons h t => by
    rw [List.reverse_cons, List.reverse_cons]
    exact Paired.app (pair_rev t) (.cons h .nil)
theorem pair_last {R : V → α → Prop} {vs : List V} {xs : List α} (h : Paired R vs xs) : Paired R vs.dropLast xs.dropLast := by
  rw [List.dropLast_eq_take, List.dropLast_eq_take, h.length]
  exact Paired.takeR _ h
/-! ### xs[::-1] -/
theorem n_rev {w : W (List α)} {q : Nat} {p1 p2 p3 : Pos} (ha : EE X B env os a (rLst r) w) : EN X B env os (.Subscript a (.Slice none none (some (.UnaryOp .USub (.Constant (.int 1) q p1) p2)) p3) pos) r (bnd w fun x => ret x.reverse) :=
  PE.imp (pe_revL ha) fun σ H Q ⟨F, P, S, hw, k⟩ => ⟨F, _, S, hw, fun x hx v F1 H1 S1 e1 ⟨p1, vs, q1, h1, z1, ok⟩ => ⟨p1, vs, q1, SqL.of (S1.fh _ _ h1), fun l hl =>
    k _ hx l F1 _ (S1.newOwn hl ⟨_, rfl, by rw [List.length_reverse]; exact z1, pair_rev ok⟩) e1⟩⟩
/-! ### xs.pop(), xs one's own -/
theorem b_pop (i j : Nat) {x : Str} {p1 p2 p3 : Pos} {a : Addr} {xs : List α} {w : W β} (hi : env[i]? = some (sv (rAdr a) ())) (hj : os[j]? = some (a, oLst r xs)) (hr : BG X B env (os.set j (a, oLst r xs.dropLast)) rest post w) (hN : X.N[i]? = some x := by rfl)
    (hv : Vis X.env.scope x := by first | exact Or.inl rfl | exact Or.inr (Or.inl rfl) | exact Or.inr (Or.inr rfl)) (hd : (x == ("__debug__" : Str)) = false := by decide) (hcd : (x == ("__classdict__" : Str)) = false := by decide)
    (hbase : attributeBase (.Name x p1) "pop" X.env (eval (.Name x p1) X.env) = eval (.Name x p1) X.env := by rfl) (hline : (p2.endLine == p3.line) = true := by rfl) (hsw : swapsWith (.Call (.Attribute (.Name x p1) "pop" p2) [] [] p3) none pos.line X.env = pure false := by rfl) :
    BG X B env os (.Expr (.Call (.Attribute (.Name x p1) "pop" p2) [] [] p3) pos :: rest) post (chk (xs ≠ []) w) :=
  PSs.imp (pss_cons (ps_expr (pe_bm0 PySem.F.plainAttrs_list PySem.F.slot_list_pop PySem.F.type_list_pop mt_pop (pe_var hN hv hd hcd) hbase hline) hsw) hr) fun D σ H ⟨F, P, S, ⟨hne, hw⟩, k⟩ => by
  obtain ⟨g1, g2, vs, g3, g4, g5⟩ := S.own hi hj
  have hl : 0 < vs.length := by rw [g5.length]; exact List.length_pos_iff.mpr hne
  refine ⟨.ref a, g1, .inl ⟨rfl, vs, SqL.of g3⟩, a, vs, vs[vs.length - 1], rfl, rfl, g3, List.getElem?_eq_getElem (by omega), F, P, S.change hj ⟨_, rfl, ?_, pair_last g5⟩, hw, k⟩
  rw [List.length_dropLast]
  omega
/-! ### a < b < c of numbers -/
theorem t_chain {op op' : CmpOp} {q q' : R2} {f g : Int → Int → Bool} {w1 : W Int} {w2 w3 : Int → W Int} (ho : OpR X (compareOp op) q) (ho' : OpR X (compareOp op') q') (sf : R2T q rInt rInt rBool fun x y => ret (f x y)) (sg : R2T q' rInt rInt rBool fun x y => ret (g x y))
    (ha : EE X B env os a rInt w1) (hb : ∀ x, EE X B env os b rInt (w2 x)) (hc : ∀ y, EE X B env os c rInt (w3 y)) (hm : lastMarks [op, op'] [b, c] = false := by with_unfolding_all rfl) :
    ET X B env os (.Compare a [op, op'] [b, c] pos) (bnd w1 fun x => bnd (w2 x) fun y => if f x y = true then bnd (w3 y) fun z => ret (g y z) else ret false) :=
  PT.imp (pt_chain ho ho' ha (PE.ex hb) (PE.ex hc) hm) fun σ H Q ⟨F, P, S, hw, k⟩ => ⟨F, _, S, hw, fun x hx v F1 H1 S1 e1 ok1 => ⟨x, F1, _, S1, hx, fun y hy u F2 H2 S2 e2 ok2 => by
  refine sf F2 H2 v u x y (fun b => b = f x y) B.E0 _ S2.fh ok1 ok2 rfl fun d hd v' F' H' gr okd => ?_
  subst hd
  refine ⟨f x y, okd, ?_⟩
  have hy : (if f x y = true then bnd (w3 y) fun z => ret (g y z) else ret false : W Bool) P B.E0 := hy
  by_cases h : f x y = true
  · rw [if_pos h] at hy
    rw [if_pos h]
    refine ⟨y, F', _, S2.grow gr, hy, fun z hz u3 F3 H3 S3 e3 ok3 => ?_⟩
    refine sg F3 H3 u u3 y z (fun b => P b) B.E0 _ S3.fh (by have e : u = .int y := ok2; exact e) ok3 hz fun d hd v4 F4 H4 gr4 ok4 => ?_
    exact ⟨d, ok4, k d hd F4 H4 (S3.grow gr4) ((((e1.trans e2).trans gr.f).trans e3).trans gr4.f)⟩
  · rw [if_neg h] at hy
    rw [if_neg h]
    exact ⟨false, rfl, k false hy F' H' (S2.grow gr) ((e1.trans e2).trans gr.f)⟩⟩⟩
end
end Mi

namespace Mi
open PySem L2 Evl

/-! ### plain reasoning, more -/
section
variable {α β γ S : Type}
theorem Ok.while {c : S → W Bool} {b : S → W S} {J : S → Prop} (inv : S → Prop) (m : S → Nat) (step : ∀ s, inv s → ∃ v : Bool, Ok (c s) (· = v) ∧ (v = true → Ok (b s) fun s' => inv s' ∧ m s' < m s) ∧ (v = false → J s)) : ∀ {s0 : S}, inv s0 → Ok (whileW c b s0) J := by
  intro s0 h0 P E hp
  have all : ∀ (k : Nat) (s : S), m s < k → inv s → whileN c b k s P E := by
    intro k
    induction k with
    | zero => exact fun s h => absurd h (Nat.not_lt_zero _)
    | succ k ih =>
      intro s hk hs
      obtain ⟨v, h1, h2, h3⟩ := step s hs
      refine h1 _ E fun x hx => ?_
      subst hx
      cases x with
      | false => exact hp _ (h3 rfl)
      | true => exact h2 rfl _ E fun s' ⟨q1, q2⟩ => ih s' (by omega) q1
  exact ⟨_, all _ s0 (Nat.lt_succ_self _) h0⟩
theorem Ok.intS {i : Int} (h : i.natAbs < 2 ^ 1920) : Ok (intS i) (· = Str.ofString (toString i)) := Ok.chk h Ok.eq
theorem Ok.joinS {x y : Str} (h : x.length + y.length ≤ sizeLine) : Ok (joinS x y) (· = x ++ y) := Ok.chk (by rw [strLen_append]; exact h) Ok.eq
theorem Ok.catS {x y : Str} (h : x.length + y.length ≤ sizeLine) : Ok (catS x y) (· = x ++ y) := Ok.chk h Ok.eq
/-- what a text shows -/
theorem hex_ok (c : Nat) : ∀ d ∈ (Nat.toDigits 16 c).map Char.toNat, d < 0x110000 := fun d hd => by
  obtain ⟨ch, _, rfl⟩ := List.mem_map.mp hd
  have := ch.valid
  unfold Char.toNat
  rcases this with h | ⟨_, h⟩
  · exact Nat.lt_trans h (by decide)
  · exact h
theorem reprChar_ok {q c : Nat} (hc : c < 0x110000) : ∀ d ∈ Builtin.Str.reprChar q c, d < 0x110000 := by
  intro d hd
  have small : ∀ {l : List Nat}, (∀ x ∈ l, x < 0x110000) → d ∈ l → d < 0x110000 := fun h m => h d m
  unfold Builtin.Str.reprChar at hd
  have hexs : ∀ (n : Nat), d ∈ List.replicate n 48 ++ (Nat.toDigits 16 c).map Char.toNat → d < 0x110000 := fun n m => by
    rcases List.mem_append.mp m with m | m
    · rw [(List.mem_replicate.mp m).2]
      decide
    · exact hex_ok c d m
  dsimp only at hd
  split at hd
  · exact small (fun x hx => by simp at hx; rcases hx with rfl | rfl <;> omega) hd
  · split at hd
    · exact small (fun x hx => by simp at hx; rcases hx with rfl | rfl <;> decide) hd
    · split at hd
      · exact small (fun x hx => by simp at hx; rcases hx with rfl | rfl <;> decide) hd
      · split at hd
        · exact small (fun x hx => by simp at hx; rcases hx with rfl | rfl <;> decide) hd
        · split at hd
          · rw [List.mem_singleton.mp hd]
            exact hc
          · split at hd
            · rcases List.mem_append.mp hd with m | m
              · exact small (fun x hx => by simp at hx; rcases hx with rfl | rfl <;> decide) m
              · exact hexs _ m
            · split at hd
              · rcases List.mem_append.mp hd with m | m
                · exact small (fun x hx => by simp at hx; rcases hx with rfl | rfl <;> decide) m
                · exact hexs _ m
              · rcases List.mem_append.mp hd with m | m
                · exact small (fun x hx => by simp at hx; rcases hx with rfl | rfl <;> decide) m
                · exact hexs _ m
theorem reprText_okS {x : Str} (h : PyData.strOk x = true) : PyData.strOk (reprText x) = true := by
  have hx : ∀ c ∈ x.cps.toList, c < 0x110000 := fun c hc => by
    unfold PyData.strOk at h
    rw [← Array.all_toList, List.all_eq_true] at h
    exact of_decide_eq_true (h c hc)
  have hq : reprQuote x < 0x110000 := by
    unfold reprQuote
    split <;> decide
  have acc : ∀ (l : List Nat) (a : Array Nat), (∀ c ∈ l, c < 0x110000) → (∀ c ∈ a.toList, c < 0x110000) → ∀ c ∈ (l.foldl (fun out c => out ++ (Builtin.Str.reprChar (reprQuote x) c).toArray) a).toList, c < 0x110000 := by
    intro l
    induction l with
    | nil => exact fun a _ h2 => h2
    | cons c l ih =>
      intro a h1 h2
      refine ih _ (fun d hd => h1 d (List.mem_cons_of_mem _ hd)) fun d hd => ?_
      simp only [Array.toList_append] at hd
      rcases List.mem_append.mp hd with m | m
      · exact h2 d m
      · exact reprChar_ok (h1 c List.mem_cons_self) d m
  unfold PyData.strOk
  rw [← Array.all_toList, List.all_eq_true]
  intro d hd
  refine decide_eq_true ?_
  unfold reprText at hd
  rw [Array.toList_push, ← Array.foldl_toList] at hd
  rcases List.mem_append.mp hd with m | m
  · exact acc _ _ hx (fun c hc => by simp at hc; rw [hc]; exact hq) d m
  · rw [List.mem_singleton.mp m]
    exact hq
theorem Shw.str {x : Str} {n : Nat} (h : PyData.strOk x = true) (hn : x.length ≤ n) : Shw (.str x) (10 * n + 2) := by
  refine ⟨by simp [PyData.showable], ?_, ?_⟩
  · rw [PyData.shown]
    have hx : ∀ c ∈ x.cps.toList, c < 16 ^ 8 := fun c hc => by
      unfold PyData.strOk at h
      rw [← Array.all_toList, List.all_eq_true] at h
      have := of_decide_eq_true (h c hc)
      omega
    have := StrLaws.reprText_len x hx
    omega
  · rw [PyData.shown]
    exact reprText_okS h
end
end Mi

namespace Mi
open PySem L2 Evl NdefX
open PyProof.Rows (envOfC)

/-! ### an own exception over ValueError: super().__init__(text) in its __init__ -/
/-- what the written part says of such a class and of its __init__ at f -/
structure SupC (K : PySem.W.Frag) (prog : Program) (C f : Addr) (F : NF) (fd : FuncData) (cc : Addr) : Prop where
  oex : OexC K C
  fdE : ∃ kV doc pm ct an, fd = PySem.W.fnX F.name F.qual F.params F.body F.scope [(("__class__" : Str), cc)] .none kV doc pm an (.ref F.c) ct
  look : ∃ oc od osl, K.lookup f = some ⟨oc, od, .func fd, osl⟩
  cl : F.cl = [(("__class__" : Str), cc)]
  cd : PySem.W.codeIn K (.ref F.c) F.qual = true
  cell : ∃ cl cld csl, K.lookup cc = some ⟨cl, cld, .cell (some (.ref C)), csl⟩
  code : ∃ ccl cdd vs ccs file tf, K.lookup F.c = some ⟨ccl, cdd, .fields vs, ccs⟩ ∧ vs[2]? = some (.str file tf) ∧ ((prog.main.file : Str) == file) = true
  opq : PySem.W.nsIn K cStatics "thirdparty.any" = some none
  along : PySem.W.ks_superIn K C C "__init__" = some (some (.builtin "ValueError.__init__"))
  sub : PySem.W.subIn K (.ref C) (.type "ValueError") = some true
  mro : PySem.W.mroIn K C (.ref C) = some true
  sup : PySem.W.nsIn K mainGlobals "super" = some none
  top : (prog.main.scope.names.lookup ("super" : Str)).isSome = false
section
variable {P : Program} {w : World} {K : PySem.W.Frag} {mg : Str → Option Value} {base : Heap} {C f cc : Addr} {F : NF} {fd : FuncData} {N ps : List Str}
theorem loadName_blt {X : Cx} {E : Value → Shared → Prop} {pins : List (Addr × Obj)} {s : Shared} {σ : L2.St} {H : Hp} {x : Str} {u : Value} {Q : Value → Shared → Prop} (I : Inv X pins σ H s) (hg : X.env.kindOf x = some .globalImplicit) (hm : X.mg x = none) (hv : bootBuiltins x = some u) (h : Q u s)
    (hn : x ≠ "__name__" := by decide) : wpAny (model X.prog X.w) X.A (loadName X.env x) Q E s := by
  obtain ⟨mb, h1, h2⟩ := I.mod.blt
  exact PySem.W.ks_loadName_global I.ok.kind hg (Calls.loadGlobal_builtin (by rw [I.ok.glob]; exact I.mod.glob.keeps I.bk) hm (by rw [I.ok.blt]; exact h1.keeps I.bk) ((h2 x hn).trans hv) h)
theorem super_init {A : Around} {outer : List PySem.Env} {s0 s : Shared} {H0 H : Hp} {E : XK} {σ : L2.St} {a : Addr} {t : Str} {j : Nat} {p0 p1 p2 p3 p4 pos : Pos} {rest : List Stmt} {Q : Flow → Shared → Prop} {ar : Arg}
    (T : SupC K P C f F fd cc) (hsup : mg "super" = none)
    (I : Inv (ncx CX0 P w K mg base N F f A outer s0 H0 E) [] σ H s) (h0 : N[0]? = some ar.arg) (hs0 : σ[0]? = some (some (.ref a))) (ha : H a = some (exo a C none)) (har : (F.params.posonlyargs ++ F.params.args).head? = some ar)
    (hsc1 : F.scope.names.lookup ("super" : Str) = some .globalImplicit) (hsc2 : F.scope.names.lookup ("__class__" : Str) = some .free) (hsc3 : F.scope.names.lookup ar.arg = some .local)
    {pl : Sem Bool} (he : eval (.Call (.Attribute (.Call (.Name "super" p0) [] [] p1) "__init__" p2) [.Constant (.str t) j p3] [] p4) (envF F f s0.heap.objs.size) = (do
      let ov ← attributeBase (.Call (.Name "super" p0) [] [] p1) "__init__" (envF F f s0.heap.objs.size) (eval (.Call (.Name "super" p0) [] [] p1) (envF F f s0.heap.objs.size))
      standAt p2.atName
      let (f', first) ← holding [ov] (getMethod ov "__init__" pl)
      callWith p4 f' first (backTo p4 (starEach [.Constant (.str t) j p3] (envF F f s0.heap.objs.size))) []))
    (hint : interactive (envF F f s0.heap.objs.size) = false) (hsw : swapsWith (.Call (.Attribute (.Call (.Name "super" p0) [] [] p1) "__init__" p2) [.Constant (.str t) j p3] [] p4) none pos.line (envF F f s0.heap.objs.size) = pure false)
    (hk : ∀ s', Inv (ncx CX0 P w K mg base N F f A outer s0 H0 E) [] σ H s' → wpAny (model P w) (A.deeper (envF F f s0.heap.objs.size)) (execs rest (envF F f s0.heap.objs.size)) Q (ncx CX0 P w K mg base N F f A outer s0 H0 E).xe s') :
    wpAt (model P w) (A.deeper (envF F f s0.heap.objs.size)) (.func F.body (envF F f s0.heap.objs.size))
      (execs (.Expr (.Call (.Attribute (.Call (.Name "super" p0) [] [] p1) "__init__" p2) [.Constant (.str t) j p3] [] p4) pos :: rest) (envF F f s0.heap.objs.size)) Q (ncx CX0 P w K mg base N F f A outer s0 H0 E).xe s := by
  obtain ⟨oc, od, osl, hf⟩ := T.look
  obtain ⟨kV, doc, pm, ct, an, efd⟩ := T.fdE
  obtain ⟨cl, cld, csl, hcell⟩ := T.cell
  obtain ⟨ccl, cdd, vs, ccs, file, tf, hcode, hvs, hfile⟩ := T.code
  obtain ⟨nm, q, NN, bs, bm, sn, sub, ab, col, dd, k0, k1, k2, k3, k5, hC, hbm⟩ := T.oex.cls
  have X := I.kIn
  have hclC : PySem.W.clsIn K C = some { name := nm, bases := bs, mro := .ref C :: bm, ns := NN, qualname := q, hasDict := true, slotNames := sn, subclasses := sub, abstract := ab, collection := col, hasDel := false } := by unfold PySem.W.clsIn; rw [hC] <;> rfl
  refine PySem.ks_wpAt_execs_cons (PySem.ks_wpAt_Expr_any (PySem.ks_wpAt_MethodCall (pl := pl) ?_ he) hint hsw)
  refine PySem.ks_wpAt_super_base (f := f) (cc := F.c) (fd := fd) (ar := ar) (vs := vs) (file := file) (tf := tf) hsc1 hsc2 (by decide) rfl (X _ _ hf) rfl (by rw [efd]; exact har) rfl (X _ _ hcode) rfl hvs hfile T.top ?_
  refine loadName_blt (X := ncx CX0 P w K mg base N F f A outer s0 H0 E) I hsc1 hsup (by decide +kernel) ⟨rfl, ?_⟩
  have hcl : (envF F f s0.heap.objs.size).cells.lookup ("__class__" : Str) = some cc := by
    show F.cl.lookup _ = _
    rw [T.cl]
    rfl
  refine wpAny_loadName_free I.ok.kind hsc2 hcl ⟨_, X _ _ hcell, rfl⟩ ?_
  obtain ⟨m, hns, hl⟩ := I.loc
  obtain ⟨u, ru, lu⟩ := hl 0 ar.arg (.ref a) h0 hs0 (.inl hsc3)
  obtain rfl : u = Value.ref a := ru
  have hma : m ar.arg = some (.ref a) := by
    rcases lu with ⟨_, z⟩ | ⟨z, _⟩
    · exact z
    · rcases z with z | z <;> rw [show (ncx CX0 P w K mg base N F f A outer s0 H0 E).env.kindOf ar.arg = some .local from hsc3] at z <;> cases z
  refine wpAny_loadName_local I.ok.kind hsc3 hns hma ?_
  obtain ⟨t1, ho⟩ := exo_at I.hok ha
  have hD := X _ _ hC
  obtain ⟨hp, g, d, tk, os⟩ := s
  refine PySem.ks_wpAny_isType_cls hD rfl ⟨rfl, ?_⟩
  refine PySem.ks_wpAny_call_super hD rfl ho rfl (fun c e => by cases e) (PySem.W.looks_mroIn X T.mro) fun h1 e1 k1 => ?_
  have I1 := I.kept (t' := tk) (h' := h1) k1
  have X1 := I1.kIn
  have ho1 := k1 _ _ ho
  have hno : PySem.W.Looks (model P w) h1 (opaqueClassAbove (.ref C)) none := PySem.W.looks_opaque X1 T.opq
  have J1 : PySem.W.InstAt h1 a ({ cls := .ref C, dict := none, data := .fields #[.ref t1, .none, .none, .none, .bool false, .none] } : Obj) C none := ⟨ho1, rfl, rfl, trivial⟩
  have hm1 : PySem.W.Looks (model P w) h1 (mroOf (.ref C)) (.ref C :: bm) := fun A Q E s k q => wpAny_bind ((PySem.W.looks_clsIn X1 hclC) A _ E s k (wpAny_pure q))
  have hal := T.along
  unfold PySem.W.ks_superIn at hal
  rw [hclC] at hal
  refine PySem.W.kxs_getMethod PySem.W.kxs_ValueError e1 hno hm1 rfl X1 hal (J1.type.andThen (PySem.W.looks_subIn X1 T.sub)) (PySem.W.ks_ne X1 J1 hclC) (by decide) ?_
  have k2 : ∀ b o, h1.get? b = some o → (h1.push (PySem.W.kxs_mw "ValueError.__init__" a)).get? b = some o := fun b o e => Heap.get?_push_of_some _ e
  have I2 := I1.kept (t' := tk + 1) k2
  have hu2 : (h1.push (PySem.W.kxs_mw "ValueError.__init__" a)).get? h1.objs.size = some (PySem.W.kxs_mw "ValueError.__init__" a) := Heap.get?_push_size _ rfl
  have hst : starEach [Expr.Constant (.str t) j p3] (envF F f s0.heap.objs.size) = (false, eval (Expr.Constant (.str t) j p3) (envF F f s0.heap.objs.size)) :: starEach [] (envF F f s0.heap.objs.size) := rfl
  show wpAny _ _ (callWith p4 (.ref h1.objs.size) [] _ []) _ _ _
  rw [hst]
  refine PySem.W.kxs_callWith (i := "ValueError.__init__") (x := a) rfl (Calls.evalArgs_plain ?_)
  have PAc : PA (ncx CX0 P w K mg base N F f A outer s0 H0 E) [Expr.Constant (.str t) j p3] (tCons (tC (.str t)) tNil) := pa_cons pe_str pa_nil
  have hun : H h1.objs.size = none := I1.hok.fresh (Nat.le_refl _)
  have I2p : Inv (ncx CX0 P w K mg base N F f A outer s0 H0 E) [(h1.objs.size, PySem.W.kxs_mw "ValueError.__init__" a)] σ H ⟨h1.push (PySem.W.kxs_mw "ValueError.__init__" a), g, d, tk + 1, os⟩ := I2.pins_of fun p hp => by
    rw [List.mem_singleton.mp hp]
    refine ⟨hu2, hun, fun z => ?_, fun z => ?_, fun v => by intro z; cases z⟩
    · exact absurd I1.lt (by rw [← show h1.objs.size = _ from z]; exact Nat.lt_irrefl _)
    · exact I1.nofs (Nat.le_refl _) z
  refine wpAny_mono (PAc.run p4 [(h1.objs.size, PySem.W.kxs_mw "ValueError.__init__" a)] _ σ H (fun vs H1 => vs = [.str t] ∧ H1 = H) I2p ⟨rfl, rfl⟩) (fun us s3 ⟨vs3, H3, I3, r3, ev3, eH3⟩ => ?_) ?_
  · subst ev3 eH3
    have hu3 := (I3.pin (h1.objs.size, PySem.W.kxs_mw "ValueError.__init__" a) (List.mem_append_right _ List.mem_cons_self)).1
    obtain ⟨t3, ho3⟩ := exo_at I3.hok ha
    have hC3 := I3.kIn _ _ hC
    have I4 : Inv (ncx CX0 P w K mg base N F f A outer s0 H0 E) [] σ H3 s3 := I3.pins_of fun p hp => by cases hp
    have hlen : us.length ≤ sizeLine := by
      rw [← Paired.length r3]
      show 1 ≤ sizeLine
      rw [sizeLine_eq]
      omega
    obtain ⟨hp3, g3, d3, tk3, os3⟩ := s3
    refine ⟨hu3, ?_⟩
    show wpAny _ _ (call (.ref h1.objs.size) us) _ _ _
    refine wpAny_call (codeAny_of_tree ?_)
    show wpAny _ (A.deeper (envF F f s0.heap.objs.size)).in1 (callAny (.ref h1.objs.size) ⟨us, []⟩) _ _ _
    simp only [callAny]
    refine wpAny_bind (wpAny_load hu3 ?_)
    simp only [PySem.W.kxs_mw, show (Value.type "method-wrapper" == Value.type "method" || Value.type "method-wrapper" == Value.type "builtin_function_or_method" || Value.type "method-wrapper" == Value.type "method-wrapper") = true by decide, if_true]
    refine PySem.W.KFB.if_so (by decide) ?_
    refine wpAny_bind (PySem.W.check_bound_init PySem.F.excBase_ValueError.toExcCallFacts hC3 ho3 rfl ?_)
    refine wpAny_bind (wpAny_pure (wpAny_pure ?_))
    refine ⟨plainId_quiet PySem.F.excBase_ValueError.init.plain _, codeAny_builtin PySem.F.excBase_ValueError.initEntry ?_⟩
    refine PySem.W.exc_init_tree (cls := .ref C) (t0 := t3) (dv := none) (c2 := .none) (c3 := .none) (b4 := .bool false) ho3 hlen fun h' k e' t' => ?_
    have J := I4.write (t' := tk3) (x := a) (e := a) (o := exo a C none) (by rw [ha]; exact True.intro) (.inl rfl) k ⟨_, e'⟩ (exo_ok e')
    have eu : upd H3 a (exo a C none) = H3 := by
      funext b
      by_cases hb : b = a
      · rw [hb, upd_same, ha]
      · rw [upd_ne hb]
    rw [eu] at J
    exact wpAt_of_wpAny (hk _ J)
  · exact fun _ _ x => x
/-- what an own exception's __init__ with one field leaves -/
def spE1 (C : Addr) (f1 code : Str) : Sp := fun vs H Q _ => ∃ (a : Addr) (x : V), vs = [.ref a, x] ∧ H a = some (exo a C none) ∧ ∀ dx, H dx = none → dx ≠ a → Q .non (upd (upd (upd H dx (exd dx [(f1, x)])) a (exo a C (some dx))) dx (exd dx [("code", .str code), (f1, x)]))
def spE0 (C : Addr) (code : Str) : Sp := fun vs H Q _ => ∃ (a : Addr), vs = [.ref a] ∧ H a = some (exo a C none) ∧ ∀ dx, H dx = none → dx ≠ a → Q .non (upd (upd H dx (exd dx [("code", .str code)])) a (exo a C (some dx)))
/-- the start of such a def -/
theorem exc_enter {sp : Sp} {ar : Arg} (T : SupC K P C f F fd cc) (S : NScope N ps ["__class__"] F.scope) (hps : ps[0]? = some ar.arg) (har : (F.params.posonlyargs ++ F.params.args).head? = some ar) (hnil : ∀ y ∈ F.scope.names, y.2 ≠ .cell)
    (len : ∀ vs H Q E, sp vs H Q E → vs.length = ps.length)
    (body : ∀ (A : Around) (outer : List PySem.Env) (s0 : Shared) (H : Hp) (vs : List V) (Q : VK) (E : XK), sp vs H Q E → ∀ s, Inv (ncx CX0 P w K mg base N F f A outer s0 H E) [] (startF N vs [none]) H s →
      wpAt (model P w) (A.deeper (envF F f s0.heap.objs.size)) (.func F.body (envF F f s0.heap.objs.size)) (execs F.body (envF F f s0.heap.objs.size)) (SP (ncx CX0 P w K mg base N F f A outer s0 H E) [] { nx := fun _ H' => Q .non H', rt := Q }) (ncx CX0 P w K mg base N F f A outer s0 H E).xe s) :
    FnOk P w K mg base CX0 1 f fd ps sp := by
  refine ⟨len, fun A outer s H args us vs Q E hr e0 hb r hsp => ?_⟩
  have hl := len _ _ _ _ hsp
  obtain ⟨oc, od, osl, hf⟩ := T.look
  obtain ⟨kV, doc, pm, ct, an, efd⟩ := T.fdE
  obtain ⟨cl, cld, csl, hcell⟩ := T.cell
  have hk0 : ∀ b o, base.get? b = some o → s.heap.get? b = some o := fun b o e => (e0.bs b o e).1
  have KX := e0.mod.kin.keeps hk0
  have hce : callEnv fd s.heap.objs.size f = envF F f s.heap.objs.size := by
    rw [efd]
    show PySem.W.envX _ _ _ _ _ [(("__class__" : Str), cc)] = PySem.W.envX _ _ _ _ _ F.cl
    rw [T.cl]
  refine PySem.ks_codeAny_call_defAt (fd := fd) (body := F.body) (binds := ps.zip us) hr.depth (KX _ _ hf) rfl (e0.mod.nolimit.keeps hk0) (by rw [efd]; exact PySem.W.codeRec_of KX T.cd) (by rw [efd]) hb (by rw [efd]; exact S.nocell)
    (fun ⟨n, _⟩ hy => by rw [efd]; exact S.par n (List.of_mem_zip hy).1) (fun h₁ hns kp => ?_) (by rw [efd]; exact S.co) (by rw [efd]; exact S.gen) (by rw [efd]; exact S.kind)
  rw [hce]
  have hcc : base.get? cc = some ⟨cl, cld, .cell (some (.ref C)), csl⟩ := e0.mod.kin _ _ hcell
  have CA : CellsAt F.cl ["__class__"] [none] s.heap H := by
    rw [T.cl]
    refine ⟨rfl, fun y c e => ?_, fun x y c e1 e2 => ?_, fun i y e => ?_⟩
    · have e' : c = cc := by
        rw [List.lookup_cons] at e
        split at e
        · cases e
          rfl
        · cases e
      subst e'
      exact ⟨(e0.bs _ _ hcc).2, _, _, (e0.bs _ _ hcc).1, rfl⟩
    · rw [List.lookup_cons] at e1 e2
      split at e1
      · split at e2
        · rename_i _ a _ b
          exact (beq_iff_eq.mp a).trans (beq_iff_eq.mp b).symm
        · cases e2
      · cases e1
    · cases i with
      | zero =>
        cases e
        exact ⟨cc, rfl, fun v hv => by cases hv⟩
      | succ i => cases e
  have I : Inv (ncx CX0 P w K mg base N F f A outer s H E) [] (startF N vs [none]) H { s with heap := h₁, toks := s.toks + (ps.zip us).length } := inv_startN S hr.hd e0 hl r CA hns kp
  refine PySem.ks_wpAt_mono (body A outer s H vs Q E hsp _ I) (fun fl s' hs => ?_) fun e s' hs => hs
  have fin : ∀ {σ' : L2.St} {H' : Hp} {v : V} {u : Value}, Inv (ncx CX0 P w K mg base N F f A outer s H E) [] σ' H' s' → L2.RelV v u → Q v H' → CE outer P w H s Q u s' :=
    fun {σ' H' v u} J rv q => ⟨v, H', J.os, J.bare, J.base, J.hok, rv, q⟩
  cases fl with
  | ret u =>
    obtain ⟨v, σ', H', J, rv, q⟩ := hs
    exact fin J rv q
  | next =>
    obtain ⟨σ', H', J, q⟩ := hs
    exact fin (v := V.non) (u := Value.none) J rfl q
  | brk =>
    obtain ⟨_, _, _, q⟩ := hs
    exact False.elim q
  | cont =>
    obtain ⟨_, _, _, q⟩ := hs
    exact False.elim q
/-- the first statement's form -/
structure SupOk (F : NF) (f : Addr) (e : Expr) (t : Str) (pos : Pos) : Prop where
  ok : ∃ (j : Nat) (p0 p1 p2 p3 p4 : Pos), e = .Call (.Attribute (.Call (.Name "super" p0) [] [] p1) "__init__" p2) [.Constant (.str t) j p3] [] p4 ∧ ∀ L : Addr,
    (∃ pl : Sem Bool, eval (.Call (.Attribute (.Call (.Name "super" p0) [] [] p1) "__init__" p2) [.Constant (.str t) j p3] [] p4) (envF F f L) = (do
      let ov ← attributeBase (.Call (.Name "super" p0) [] [] p1) "__init__" (envF F f L) (eval (.Call (.Name "super" p0) [] [] p1) (envF F f L))
      standAt p2.atName
      let (f', first) ← holding [ov] (getMethod ov "__init__" pl)
      callWith p4 f' first (backTo p4 (starEach [.Constant (.str t) j p3] (envF F f L))) [])) ∧ interactive (envF F f L) = false ∧ swapsWith e none pos.line (envF F f L) = pure false
end
end Mi

namespace Mi
open PySem L2 Evl NdefX
open PyProof.Rows (envOfC)
section
variable {P : Program} {w : World} {K : PySem.W.Frag} {mg : Str → Option Value} {base : Heap} {C f cc : Addr} {F : NF} {fd : FuncData} {N ps : List Str}
theorem exc_fn1 {f1 code t xn : Str} {e : Expr} {i1 : Nat} {q0 q1 q2 q3 q4 q5 q6 q7 q8 : Pos} {ar : Arg} (T : SupC K P C f F fd cc) (S : NScope N [ar.arg, xn] ["__class__"] F.scope) (hsup : mg "super" = none) (har : (F.params.posonlyargs ++ F.params.args).head? = some ar)
    (hb : F.body = [.Expr e q0, .Assign [.Attribute (.Name ar.arg q1) f1 q2] (.Name xn q3) q4, .Assign [.Attribute (.Name ar.arg q5) "code" q6] (.Constant (.str code) i1 q7) q8]) (he : SupOk F f e t q0)
    (hs1 : F.scope.names.lookup ("super" : Str) = some .globalImplicit) (hs2 : F.scope.names.lookup ("__class__" : Str) = some .free)
    (d1 : (ar.arg == ("__debug__" : Str)) = false) (d2 : (ar.arg == ("__classdict__" : Str)) = false) (d3 : (xn == ("__debug__" : Str)) = false) (d4 : (xn == ("__classdict__" : Str)) = false)
    (n1 : PySem.W.findIn K (.ref C) f1 = some none) (n2 : PySem.W.findIn K (.ref C) "code" = some none)
    (w1 : ∀ L, swapsWith (.Name xn q3) (some (.Attribute (.Name ar.arg q1) f1 q2)) q4.line (envF F f L) = pure false) (w2 : ∀ L, swapsWith (.Constant (.str code) i1 q7) (some (.Attribute (.Name ar.arg q5) "code" q6)) q8.line (envF F f L) = pure false) :
    FnOk P w K mg base CX0 1 f fd [ar.arg, xn] (spE1 C f1 code) := by
  have hpre : N.take 3 = [ar.arg, xn, "__class__"] := S.pre
  have hN0 : N[0]? = some ar.arg := by
    have := congrArg (fun l : List Str => l[0]?) hpre
    simpa [List.getElem?_take] using this
  have hN1 : N[1]? = some xn := by
    have := congrArg (fun l : List Str => l[1]?) hpre
    simpa [List.getElem?_take] using this
  have v1 : F.scope.names.lookup ar.arg = some .local := S.par _ (by simp)
  have v2 : F.scope.names.lookup xn = some .local := S.par _ (by simp)
  refine exc_enter T S rfl har S.nocell (fun vs H Q E ⟨a, x, e, _⟩ => by rw [e]; rfl) fun A outer s0 H vs Q E ⟨a, x, ev, ha, hq⟩ s I => ?_
  obtain ⟨j, p0, p1, p2, p3, p4, ee, hh⟩ := he.ok
  obtain ⟨⟨pl, h1⟩, h2, h3⟩ := hh s0.heap.objs.size
  subst ee ev
  have hbody : wpAt (model P w) (A.deeper (envF F f s0.heap.objs.size)) (.func F.body (envF F f s0.heap.objs.size))
      (execs (.Expr (.Call (.Attribute (.Call (.Name "super" p0) [] [] p1) "__init__" p2) [.Constant (.str t) j p3] [] p4) q0 :: [.Assign [.Attribute (.Name ar.arg q1) f1 q2] (.Name xn q3) q4, .Assign [.Attribute (.Name ar.arg q5) "code" q6] (.Constant (.str code) i1 q7) q8]) (envF F f s0.heap.objs.size))
      (SP (ncx CX0 P w K mg base N F f A outer s0 H E) [] { nx := fun _ H' => Q .non H', rt := Q }) (ncx CX0 P w K mg base N F f A outer s0 H E).xe s := by
    refine super_init T hsup I hN0 rfl ha har hs1 hs2 v1 h1 h2 h3 fun s' J => ?_
    have hps : PSs (ncx CX0 P w K mg base N F f A outer s0 H E) [.Assign [.Attribute (.Name ar.arg q1) f1 q2] (.Name xn q3) q4, .Assign [.Attribute (.Name ar.arg q5) "code" q6] (.Constant (.str code) i1 q7) q8] _ :=
      pss_cons (ps_ost (pe_var (i := 0) hN0 (.inl v1) d1 d2) (pe_var (i := 1) hN1 (.inl v2) d3 d4) (w1 _)) (pss_one (ps_ost (pe_var (i := 0) hN0 (.inl v1) d1 d2) pe_str (w2 _)))
    refine hps.run [] s' _ H _ J ?_
    refine ⟨x, rfl, .ref a, rfl, a, C, rfl, T.oex, n1, .inl ⟨ha, fun dx hdx hne => ?_⟩⟩
    refine ⟨.ref a, rfl, a, C, rfl, T.oex, n2, .inr ⟨dx, [(f1, x)], upd_same, ?_, by simp, hq dx hdx hne⟩⟩
    rw [upd_ne hne, upd_same]
  rw [← hb] at hbody
  exact hbody
theorem exc_fn0 {code t : Str} {e : Expr} {i1 : Nat} {q0 q5 q6 q7 q8 : Pos} {ar : Arg} (T : SupC K P C f F fd cc) (S : NScope N [ar.arg] ["__class__"] F.scope) (hsup : mg "super" = none) (har : (F.params.posonlyargs ++ F.params.args).head? = some ar)
    (hb : F.body = [.Expr e q0, .Assign [.Attribute (.Name ar.arg q5) "code" q6] (.Constant (.str code) i1 q7) q8]) (he : SupOk F f e t q0)
    (hs1 : F.scope.names.lookup ("super" : Str) = some .globalImplicit) (hs2 : F.scope.names.lookup ("__class__" : Str) = some .free)
    (d1 : (ar.arg == ("__debug__" : Str)) = false) (d2 : (ar.arg == ("__classdict__" : Str)) = false)
    (n2 : PySem.W.findIn K (.ref C) "code" = some none)
    (w2 : ∀ L, swapsWith (.Constant (.str code) i1 q7) (some (.Attribute (.Name ar.arg q5) "code" q6)) q8.line (envF F f L) = pure false) :
    FnOk P w K mg base CX0 1 f fd [ar.arg] (spE0 C code) := by
  have hpre : N.take 2 = [ar.arg, "__class__"] := S.pre
  have hN0 : N[0]? = some ar.arg := by
    have := congrArg (fun l : List Str => l[0]?) hpre
    simpa [List.getElem?_take] using this
  have v1 : F.scope.names.lookup ar.arg = some .local := S.par _ (by simp)
  refine exc_enter T S rfl har S.nocell (fun vs H Q E ⟨a, e, _⟩ => by rw [e]; rfl) fun A outer s0 H vs Q E ⟨a, ev, ha, hq⟩ s I => ?_
  obtain ⟨j, p0, p1, p2, p3, p4, ee, hh⟩ := he.ok
  obtain ⟨⟨pl, h1⟩, h2, h3⟩ := hh s0.heap.objs.size
  subst ee ev
  have hbody : wpAt (model P w) (A.deeper (envF F f s0.heap.objs.size)) (.func F.body (envF F f s0.heap.objs.size))
      (execs (.Expr (.Call (.Attribute (.Call (.Name "super" p0) [] [] p1) "__init__" p2) [.Constant (.str t) j p3] [] p4) q0 :: [.Assign [.Attribute (.Name ar.arg q5) "code" q6] (.Constant (.str code) i1 q7) q8]) (envF F f s0.heap.objs.size))
      (SP (ncx CX0 P w K mg base N F f A outer s0 H E) [] { nx := fun _ H' => Q .non H', rt := Q }) (ncx CX0 P w K mg base N F f A outer s0 H E).xe s := by
    refine super_init T hsup I hN0 rfl ha har hs1 hs2 v1 h1 h2 h3 fun s' J => ?_
    have hps : PSs (ncx CX0 P w K mg base N F f A outer s0 H E) [.Assign [.Attribute (.Name ar.arg q5) "code" q6] (.Constant (.str code) i1 q7) q8] _ :=
      pss_one (ps_ost (pe_var (i := 0) hN0 (.inl v1) d1 d2) pe_str (w2 _))
    refine hps.run [] s' _ H _ J ?_
    exact ⟨.ref a, rfl, a, C, rfl, T.oex, n2, .inl ⟨ha, fun dx hdx hne => hq dx hdx hne⟩⟩
  rw [← hb] at hbody
  exact hbody
end
end Mi

namespace PySem.W
open PySem PySem.Spec PySem.Calls PyProof.Rows
/-- a lambda's words, its defaults at dV -/
abbrev lmFn (q : Str) (params : Arguments) (body : Expr) (scope : Scope) (cl : List (Str × Addr)) (dV pm cdv ct : Value) : FuncData :=
  { name := "<lambda>", qualname := q, params, body := .expr body, scope, globals := mainGlobals, closure := cl, defaults := dV, kwdefaults := .none, doc := .none, pyModule := pm, annotations := none, code := cdv, closureTuple := ct, builtins := builtinsNs }
section
variable {M : Model} {A : Around} {E : Value → Shared → Prop} {s : Shared} {name qual : Str} {params : Arguments} {body : Expr} {scope : Scope} {env : Env} {c P : Addr} {ps : Array Value} {pos : Pos} {firstLine : Nat} {mg : Str → Option Value}
  {clos : List (Str × Addr)} {Q : Value → Shared → Prop} {dV : Value}
theorem lm_makeTail (hcl : closureFor scope env = pure clos) (hge0 : env.globals = mainGlobals) (hg : s.heap.Ns mainGlobals mg) (hcode : env.code = .ref c) (C : CodeHd s.heap c P) (hP : s.heap.get? P = some (tabObj ps)) (ht : TriplesOk ps.toList)
    (hnf : codeAmong pos ps.toList = none) (hgP : mainGlobals ≠ P) (hb : s.heap.BuiltinsAt mg P)
    (h : ∀ c' ctv h' tk, Heap.ExtBut P s.heap h' → s.heap.objs.size ≤ c' → c' < h'.objs.size → h'.CodeRec (.ref c') qual → h'.get? P = some (tabObj (ps ++ #[rawInt pos.line, rawInt pos.col, .ref c'])) →
      Q (.ref h'.objs.size) { s with heap := h'.push { cls := .type "function", data := .func (lmFn qual params body scope clos dV ((mg "__name__").getD .none) (.ref c') ctv) }, toks := tk }) :
    wpAny M A (makeTail "<lambda>" qual params (.expr body) scope env dV .none none pos firstLine) Q E s := by
  obtain ⟨bm, ob, hbm, hne0, _, hneP, hbo, hcls, hdict, hdata⟩ := hb
  unfold makeTail
  rw [hcl, hge0]
  refine wpAny_bind (wpAny_pure ?_)
  cases clos with
  | nil =>
    simp only [List.isEmpty_nil, if_true]
    refine wpAny_bind (wpAny_pure ?_)
    refine wpAny_bind (wpAny_functionCodeX hcode (C.code hP ht) (C.tab hP) hnf fun c' h' tk hx hge hlt _ hrec htb _ => ?_)
    have hg' := hg.extBut hx hgP
    refine wpAny_bind (wpAny_builtinsFor hg' hbm hne0 (hx _ _ hneP hbo) hcls hdict hdata ?_)
    refine wpAny_bind (wpAny_nsGet hg' ?_)
    exact wpAny_bind (wpAny_pure (wpAny_newObj_type (h c' .none h' tk hx hge hlt hrec htb.2) (by size_fits)))
  | cons q r =>
    simp only [List.isEmpty_cons, Bool.false_eq_true, if_false]
    refine wpAny_bind (wpAny_newTextTuple ?_)
    refine wpAny_bind (wpAny_functionCodeX hcode ((C.keeps fun b o e => Heap.get?_push_of_some _ e).code (Heap.get?_push_of_some _ hP) ht) ((C.keeps fun b o e => Heap.get?_push_of_some _ e).tab (Heap.get?_push_of_some _ hP)) hnf fun c' h' tk hx hge hlt _ hrec htb _ => ?_)
    have hg' := (hg.push _).extBut hx hgP
    have hx' : Heap.ExtBut P s.heap h' := fun b o hb' e => hx b o hb' (Heap.get?_push_of_some _ e)
    have hge' : s.heap.objs.size ≤ c' := Nat.le_trans (by rw [Heap.size_push]; omega) hge
    refine wpAny_bind (wpAny_builtinsFor hg' hbm hne0 (hx' _ _ hneP hbo) hcls hdict hdata ?_)
    refine wpAny_bind (wpAny_nsGet hg' ?_)
    exact wpAny_bind (wpAny_pure (wpAny_newObj_type (h c' _ h' tk hx' hge' hlt hrec htb.2) (by size_fits)))
theorem lm_makeTailHit {cv : Value} (hcl : closureFor scope env = pure clos) (hge0 : env.globals = mainGlobals) (hg : s.heap.Ns mainGlobals mg) (hcode : env.code = .ref c) (C : CodeHd s.heap c P) (hP : s.heap.get? P = some (tabObj ps)) (ht : TriplesOk ps.toList)
    (hf : codeAmong pos ps.toList = some cv) (hb : s.heap.BuiltinsAt mg P)
    (h : ∀ (ctv : Value) (h' : Heap) (tk : Tok), (∀ b o, s.heap.get? b = some o → h'.get? b = some o) → s.heap.objs.size ≤ h'.objs.size →
      Q (.ref h'.objs.size) { s with heap := h'.push { cls := .type "function", data := .func (lmFn qual params body scope clos dV ((mg "__name__").getD .none) cv ctv) }, toks := tk }) :
    wpAny M A (makeTail "<lambda>" qual params (.expr body) scope env dV .none none pos firstLine) Q E s := by
  obtain ⟨bm, ob, hbm, hne0, _, hneP, hbo, hcls, hdict, hdata⟩ := hb
  unfold makeTail
  rw [hcl, hge0]
  refine wpAny_bind (wpAny_pure ?_)
  cases clos with
  | nil =>
    simp only [List.isEmpty_nil, if_true]
    refine wpAny_bind (wpAny_pure ?_)
    refine wpAny_bind (wpAny_functionCode_hit hcode (C.code hP ht) hf ?_)
    refine wpAny_bind (wpAny_builtinsFor hg hbm hne0 hbo hcls hdict hdata ?_)
    refine wpAny_bind (wpAny_nsGet hg ?_)
    exact wpAny_bind (wpAny_pure (wpAny_newObj_type (h .none s.heap s.toks (fun _ _ e => e) (Nat.le_refl _)) (by size_fits)))
  | cons q r =>
    simp only [List.isEmpty_cons, Bool.false_eq_true, if_false]
    refine wpAny_bind (wpAny_newTextTuple ?_)
    refine wpAny_bind (wpAny_functionCode_hit hcode ((C.keeps fun b o e => Heap.get?_push_of_some _ e).code (Heap.get?_push_of_some _ hP) ht) hf ?_)
    refine wpAny_bind (wpAny_builtinsFor (hg.push _) hbm hne0 (Heap.get?_push_of_some _ hbo) hcls hdict hdata ?_)
    refine wpAny_bind (wpAny_nsGet (hg.push _) ?_)
    have hsz : ∀ oT : Obj, s.heap.objs.size ≤ (s.heap.push oT).objs.size := fun oT => by rw [Heap.size_push]; omega
    exact wpAny_bind (wpAny_pure (wpAny_newObj_type (h _ _ s.toks (fun b o e => Heap.get?_push_of_some _ e) (hsz _)) (by size_fits)))
end
end PySem.W
namespace Mi
open PySem L2 Evl LamX
open PyProof.Rows (envOfC)
/-- a lambda's object at g -/
structure LamD where
  q : Str
  params : Arguments
  body : Expr
  scope : Scope
  cl : List (Str × Addr)
def LamO (g c' : Addr) (D : LamD) (dV : Value) : HO := .ext fun h => ∃ (pm ctv : Value), h.get? g = some ({ cls := .type "function", data := .func (PySem.W.lmFn D.q D.params D.body D.scope D.cl dV pm (.ref c') ctv) } : Obj)
/-- the table of the running def's lambdas -/
def oTab (q : Str) : Own := ⟨fun F o => ∃ ps : Array Value, o = .tbl ps ∧ TriplesOk ps.toList ∧ ∀ (pos : Pos) (cv : Value), codeAmong pos ps.toList = some cv → ∃ c, cv = .ref c ∧ F c = some (CodeO c q), fun e ⟨ps, h1, h2, h3⟩ => ⟨ps, h1, h2, fun pos cv h => let ⟨c, a, b⟩ := h3 pos cv h; ⟨c, a, e _ _ b⟩⟩⟩
/-- what the defaults are: none, or one that is 0 -/
def DfOk (F : Hp) (df : Bool) (dV : Value) : Prop := if df then ∃ td, dV = .ref td ∧ F td = some (.tup [.int 0]) else dV = .none
/-- a lambda just made, seen from the def that made it -/
def rLam (D : LamD) (df : Bool) : Rp Unit := ⟨fun F v _ => ∃ g c' dV, v = .ref g ∧ F g = some (LamO g c' D dV) ∧ F c' = some (CodeO c' D.q) ∧ DfOk F df dV, fun {F F' v x} e ⟨g, c', dV, h1, h2, h3, h4⟩ => ⟨g, c', dV, h1, e _ _ h2, e _ _ h3, by
  unfold DfOk at h4 ⊢
  cases df with
  | true =>
    obtain ⟨td, a, b⟩ := h4
    exact ⟨td, a, e _ _ b⟩
  | false => exact h4⟩⟩
theorem upd_comm {H : Hp} {a b : Addr} {o u : HO} (h : a ≠ b) : upd (upd H a o) b u = upd (upd H b u) a o := by
  funext x
  by_cases h1 : x = a
  · subst h1
    rw [upd_ne h, upd_same, upd_same]
  · rw [upd_ne h1]
    by_cases h2 : x = b
    · subst h2
      rw [upd_same, upd_same]
    · rw [upd_ne h2, upd_ne h2, upd_ne h1]
theorem lamO_ok {P : Program} {w : World} {H : Hp} {h : Heap} {g c' : Addr} {D : LamD} {dV pm ctv : Value} (e : h.get? g = some ({ cls := .type "function", data := .func (PySem.W.lmFn D.q D.params D.body D.scope D.cl dV pm (.ref c') ctv) } : Obj)) : ObjOk P w H h g (LamO g c' D dV) :=
  ⟨⟨pm, ctv, e⟩, ⟨_, e⟩, fun h1 h2 ⟨pm, ctv, z⟩ st => ⟨pm, ctv, st _ z⟩⟩
section
variable {X : Cx} {B : Bs} {env : Env} {os : Os}
/-- the making, the defaults being at hand -/
theorem lam_core {pins : List (Addr × Obj)} {s : Shared} {σ : L2.St} {F H : Hp} {Q : Value → Shared → Prop} {c P : Addr} {params : Arguments} {body : Expr} {scope : Scope} {pos : Pos} {dV : Value} {df : Bool} {j : Nat}
    (TB : TabB X.base X.mg c P) (hcode : X.env.code = .ref c) (hj : os[j]? = some (P, oTab (X.env.qual ++ "<lambda>"))) (hfree : ∀ y ∈ scope.names, y.2 = .free → ∃ c, X.env.cells.lookup y.1 = some c)
    (I : Inv X pins σ H s) (S : Sit B F H σ env os) (hd : DfOk F df dV)
    (k : ∀ g F' H' s', Inv X pins σ H' s' → Sit B F' H' σ env os → Ex F F' → (rLam ⟨X.env.qual ++ "<lambda>", params, body, scope, cloFrom X.env.cells scope.names []⟩ df).ok F' (.ref g) () → Q (.ref g) s') :
    wpAny (model X.prog X.w) X.A (makeTail "<lambda>" (X.env.qual ++ "<lambda>") params (.expr body) scope X.env dV .none none pos pos.line) Q X.xe s := by
  obtain ⟨z1, ⟨o, z2, ps, z3, ht, ha⟩, z4⟩ := S.ow _ (List.mem_of_getElem? hj)
  subst z3
  have hP : H P = some (.tbl ps) := z2
  have hP' : s.heap.get? P = some { cls := .none, data := .fields ps } := I.hok P _ hP
  have bP : s.heap.BuiltinsAt X.mg P := TB.bm.keeps I.bk
  cases hc : codeAmong pos ps.toList with
  | none =>
    refine PySem.W.lm_makeTail (mg := X.mg) (c := c) (P := P) (ps := ps) (closure_ok hfree) I.ok.glob (I.mod.glob.keeps I.bk) hcode (TB.code.keeps I.bk) hP' ht hc TB.gP bP fun c' ctv h' tk hx hge hlt hrec htb => ?_
    obtain ⟨c2, oc, vs, t, e2, hoc, hdd, hv⟩ := hrec
    cases e2
    have nC : H c' = none := I.hok.fresh hge
    have nPc : P ≠ c' := ne_of_none hP nC
    have I1 := inv_table (t' := tk) (more := #[rawInt pos.line, rawInt pos.col, .ref c']) (h' := h') I hP (fun b o hb e => hx b o hb e) htb hge ⟨oc, vs, t, hoc, hdd, hv⟩
    have g : Grow F H (upd F c' (CodeO c' (X.env.qual ++ "<lambda>"))) (upd H c' (CodeO c' (X.env.qual ++ "<lambda>"))) := Grow.alloc S.fh nC
    have S1 := S.grow g
    have eL : (ps ++ #[rawInt pos.line, rawInt pos.col, .ref c']).toList = ps.toList ++ [rawInt pos.line, rawInt pos.col, .ref c'] := by simp
    have S2 := S1.change (ow' := oTab (X.env.qual ++ "<lambda>")) (o' := .tbl (ps ++ #[rawInt pos.line, rawInt pos.col, .ref c'])) hj ⟨_, rfl, by rw [eL]; exact PySem.TriplesOk_snoc _ _ _ _ ht, fun p' cv hcv => by
      rw [eL] at hcv
      rcases among_app _ ht hcv with z | z
      · obtain ⟨c0, e1, e2⟩ := ha p' cv z
        exact ⟨c0, e1, g.f _ _ e2⟩
      · exact ⟨c', z, upd_same⟩⟩
    rw [set_same hj] at S2
    rw [upd_comm nPc] at I1
    have nF := I1.hok.fresh (Nat.le_refl _)
    have I2 := I1.laid (t' := tk) (a := h'.objs.size) (o := LamO h'.objs.size c' ⟨X.env.qual ++ "<lambda>", params, body, scope, cloFrom X.env.cells scope.names []⟩ dV) (h' := h'.push { cls := .type "function", data := .func (PySem.W.lmFn (X.env.qual ++ "<lambda>") params body scope (cloFrom X.env.cells scope.names []) dV ((X.mg "__name__").getD .none) (.ref c') ctv) })
      (fun b o e => Heap.get?_push_of_some _ e) (Nat.le_refl _) (lamO_ok (D := ⟨X.env.qual ++ "<lambda>", params, body, scope, cloFrom X.env.cells scope.names []⟩) (Heap.get?_push_size _ rfl))
    have g2 := Grow.alloc (o := LamO h'.objs.size c' ⟨X.env.qual ++ "<lambda>", params, body, scope, cloFrom X.env.cells scope.names []⟩ dV) S2.fh nF
    have S3 := S2.grow g2
    refine k _ _ _ _ I2 S3 (g.f.trans g2.f) ⟨_, c', dV, rfl, upd_same, ?_, ?_⟩
    · exact g2.f _ _ upd_same
    · unfold DfOk at hd ⊢
      cases df with
      | true =>
        obtain ⟨td, a, b⟩ := hd
        exact ⟨td, a, g2.f _ _ (g.f _ _ b)⟩
      | false => exact hd
  | some cv =>
    obtain ⟨c', e, hco⟩ := ha pos cv hc
    subst e
    refine PySem.W.lm_makeTailHit (mg := X.mg) (c := c) (P := P) (ps := ps) (closure_ok hfree) I.ok.glob (I.mod.glob.keeps I.bk) hcode (TB.code.keeps I.bk) hP' ht hc bP fun ctv h' tk hx hsz => ?_
    have I1 : Inv X pins σ H { s with heap := h', toks := tk } := I.kept hx
    have nF : H h'.objs.size = none := I1.hok.fresh (Nat.le_refl _)
    have I2 := I1.laid (t' := tk) (a := h'.objs.size) (o := LamO h'.objs.size c' ⟨X.env.qual ++ "<lambda>", params, body, scope, cloFrom X.env.cells scope.names []⟩ dV) (h' := h'.push { cls := .type "function", data := .func (PySem.W.lmFn (X.env.qual ++ "<lambda>") params body scope (cloFrom X.env.cells scope.names []) dV ((X.mg "__name__").getD .none) (.ref c') ctv) })
      (fun b o e => Heap.get?_push_of_some _ e) (Nat.le_refl _) (lamO_ok (D := ⟨X.env.qual ++ "<lambda>", params, body, scope, cloFrom X.env.cells scope.names []⟩) (Heap.get?_push_size _ rfl))
    have g2 := Grow.alloc (o := LamO h'.objs.size c' ⟨X.env.qual ++ "<lambda>", params, body, scope, cloFrom X.env.cells scope.names []⟩ dV) S.fh nF
    have S3 := S.grow g2
    refine k _ _ _ _ I2 S3 g2.f ⟨_, c', dV, rfl, upd_same, g2.f _ _ hco, ?_⟩
    unfold DfOk at hd ⊢
    cases df with
    | true =>
      obtain ⟨td, a, b⟩ := hd
      exact ⟨td, a, g2.f _ _ b⟩
    | false => exact hd
theorem e_lam0 {c P : Addr} {params : Arguments} {body : Expr} {scope : Scope} {pos : Pos} (j : Nat) (TB : TabB X.base X.mg c P) (hcode : X.env.code = .ref c) (hj : os[j]? = some (P, oTab (X.env.qual ++ "<lambda>"))) (L : ∀ y ∈ scope.names, y.2 = .free → X.env.scope.names.lookup y.1 = some .cell ∨ X.env.scope.names.lookup y.1 = some .free) (hdef : defaultsOf params X.env = ([], []) := by rfl) :
    EE X B env os (.Lambda params body scope pos) (rLam ⟨X.env.qual ++ "<lambda>", params, body, scope, cloFrom X.env.cells scope.names []⟩ false) (ret ()) :=
  ⟨fun pins s σ H Q I ⟨F, P, S, hw, k⟩ => by
    refine PySem.W.kla_eval hdef ?_
    rw [makeFunction_eq]
    simp only [List.zip_nil_right, List.filterMap_nil, List.isEmpty_nil, if_true, pure_bind]
    exact lam_core (df := false) TB hcode hj (fun y hy e => (L y hy e).elim (fun z => I.ok.has _ (.inl z)) fun z => I.ok.has _ (.inr z)) I S rfl fun g F' H' s' I' S' e ok => ⟨.ref g, H', I', rfl, k () hw _ F' H' S' e ok⟩⟩
theorem e_lam1 {c P : Addr} {params : Arguments} {body : Expr} {scope : Scope} {pos dp : Pos} {di : Nat} (j : Nat) (TB : TabB X.base X.mg c P) (hcode : X.env.code = .ref c) (hj : os[j]? = some (P, oTab (X.env.qual ++ "<lambda>"))) (L : ∀ y ∈ scope.names, y.2 = .free → X.env.scope.names.lookup y.1 = some .cell ∨ X.env.scope.names.lookup y.1 = some .free)
    (hdef : defaultsOf params X.env = ([eval (.Constant (.int 0) di dp) X.env], []) := by rfl) :
    EE X B env os (.Lambda params body scope pos) (rLam ⟨X.env.qual ++ "<lambda>", params, body, scope, cloFrom X.env.cells scope.names []⟩ true) (ret ()) :=
  ⟨fun pins s σ H Q I ⟨F, P, S, hw, k⟩ => by
    rw [arm_eval_Lambda, hdef]
    show wpAny _ _ (do let dv ← evalAll [eval (.Constant (.int 0) di dp) X.env]; let kdv ← holding dv (evalAllOpt []); makeFunction "<lambda>" (X.env.qual ++ "<lambda>") params (.expr body) scope X.env dv kdv [] pos pos.line) _ _ _
    refine wpAny_bind ?_
    unfold evalAll
    refine wpAny_bind (thn (pe_int.run pins s σ H (fun v H1 => v = .int 0 ∧ H1 = H) I ⟨rfl, rfl⟩) fun u s1 ⟨v, H1, I1, r1, e1, e2⟩ => ?_)
    subst e1 e2
    unfold evalAll
    refine wpAny_bind (wpAny_holding (wpAny_pure (wpAny_pure ?_)))
    refine wpAny_bind (wpAny_holding (wpAny_pure ?_))
    rw [makeFunction_eq]
    simp only [List.zip_nil_right, List.filterMap_nil, List.isEmpty_nil, List.isEmpty_cons, if_true, pure_bind]
    refine wpAny_bind ?_
    refine wpAny_newTextTuple ?_
    have nT : H1 s1.heap.objs.size = none := I1.hok.fresh (Nat.le_refl _)
    have I2 := I1.laid (t' := s1.toks) (a := s1.heap.objs.size) (o := .tup [.int 0]) (h' := s1.heap.push { cls := .type "tuple", data := .seq [u].toArray }) (fun b o e => Heap.get?_push_of_some _ e) (Nat.le_refl _)
      ⟨by show 1 ≤ sizeLine; rw [sizeLine_eq]; omega, [u], .cons r1 .nil, by
        exact ⟨_, Heap.get?_push_size _ rfl, rfl, _, rfl⟩⟩
    have g := Grow.alloc (o := .tup [.int 0]) S.fh nT
    have S2 := S.grow g
    refine lam_core (df := true) TB hcode hj (fun y hy e => (L y hy e).elim (fun z => I.ok.has _ (.inl z)) fun z => I.ok.has _ (.inr z)) I2 S2 ⟨_, rfl, upd_same⟩ fun gg F' H' s' I' S' e ok => ⟨.ref gg, H', I', rfl, k () hw _ F' H' S' (g.f.trans e) ok⟩⟩
end
end Mi

namespace Mi
open PySem L2 Evl
open PyProof.Rows (envOfC)

/-! ### what is raised -/
/-- own exceptions: the code, the class, the name of the field beside the code -/
abbrev ETab := List (String × Addr × Option Str)
def ErAt (K : PySem.W.Frag) (tb : ETab) (F : Hp) (e : Er) (cls : Value) (d : Option Addr) : Prop :=
  ∃ (C : Addr) (fo : Option Str) (dd : Addr) (fs : List (Str × V)), (e.cls, C, fo) ∈ tb ∧ cls = .ref C ∧ d = some dd ∧ F dd = some (.xd fs) ∧ fs.lookup ("code" : Str) = some (V.str (Str.ofString e.cls)) ∧
    (match fo with | none => e.vals = [] | some f => ∃ (v : V) (x : PyData), e.vals = [x] ∧ fs.lookup f = some v ∧ (rD K).ok F v x)
theorem ErAt.mono {K : PySem.W.Frag} {tb : ETab} {F F' : Hp} {e : Er} {cls : Value} {d : Option Addr} (x : Ex F F') (h : ErAt K tb F e cls d) : ErAt K tb F' e cls d := by
  obtain ⟨C, fo, dd, fs, h1, h2, h3, h4, h5, h6⟩ := h
  refine ⟨C, fo, dd, fs, h1, h2, h3, x _ _ h4, h5, ?_⟩
  cases fo with
  | none => exact h6
  | some f =>
    obtain ⟨v, y, a, b, c⟩ := h6
    exact ⟨v, y, a, b, (rD K).mono x c⟩
/-- the wish of what is raised -/
def eB (K : PySem.W.Frag) (tb : ETab) (B : Bs) : XK := fun cls d H => ∃ e F, B.E0 e ∧ Fn (B.at B.F) F H ∧ ErAt K tb F e cls d
abbrev wB (K : PySem.W.Frag) (tb : ETab) (B : Bs) : WX := fun cls d _ H => eB K tb B cls d H
theorem Fn.low {B : Bs} {F H : Hp} (s : Fn B F H) : Fn (B.at B.F) F H := ⟨s.fh, s.bf, s.bf, s.bb, s.ios, s.keep⟩
/-- behind a call that raised: the caller's base -/
theorem Sit.backE {B : Bs} {F F' H H' : Hp} {σ : L2.St} {env : Env} {os osf : Os} (S : Sit B F H σ env os) (ho : OsLe os osf) (fn : Fn (bs0 F H osf) F' H') : Fn (B.at B.F) F' H' := by
  have e : Ex F F' := fn.bf
  have apart : ∀ a, (∀ p ∈ osf, p.1 ≠ a) → a ∉ osf.map (·.1) := fun a h hm => by
    obtain ⟨p, hp, ep⟩ := List.mem_map.mp hm
    exact h p hp ep
  refine ⟨fn.fh, S.fin.bf.trans e, S.fin.bf.trans e, S.fin.bb, fun a ha => ?_, fun a o h1 h2 h3 => ?_⟩
  · obtain ⟨o, hoa⟩ := S.fin.ios a ha
    by_cases hm : a ∈ osf.map (·.1)
    · exact fn.ios a hm
    · cases ef : F a with
      | none => exact ⟨o, (fn.keep a o ef hoa hm).1⟩
      | some u => exact ⟨u, fn.fh a u (e a u ef)⟩
  · obtain ⟨k1, k2⟩ := S.fin.keep a o h1 h2 h3
    refine fn.keep a o k2 k1 (apart a fun p hp ep => ?_)
    rcases (S.ow p (ho p hp)).2.2 with q | q
    · rw [ep, h2] at q
      cases q
    · exact h3 (ep ▸ q)
/-- a def's promise that may raise -/
def spX (K : PySem.W.Frag) (tb : ETab) {ι ρ : Type} (args : ι → Env) (os : ι → Os) (w : ι → W ρ) (ro : Rp ρ) : Sp := fun vs H Q E => ∃ (i : ι) (F : Hp) (P : ρ → Prop) (PE : Er → Prop), Ex F H ∧ EnvOk F (args i) (vs.map some) ∧ (∀ p ∈ os i, F p.1 = none ∧ ∃ o, H p.1 = some o ∧ p.2.ok F o) ∧ ((os i).map (·.1)).Nodup ∧
  w i P PE ∧ (∀ x, P x → ∀ v F' H', Fn (bs0 F H (os i)) F' H' → OsOk (bs0 F H (os i)) F' H' (os i) → ro.ok F' v x → Q v H') ∧ ∀ e, PE e → ∀ cls d F' H', Fn (bs0 F H (os i)) F' H' → ErAt K tb F' e cls d → E cls d H'
section
variable {P : Program} {w : World} {K : PySem.W.Frag} {tb : ETab} {mg : Str → Option Value} {base : Heap} {k : Nat} {f : Addr} {fd : FuncData} {ps N : List Str} {ι ρ : Type} {args : ι → Env} {os : ι → Os} {wf : ι → W ρ} {ro : Rp ρ}
theorem spX_len (hl : ∀ i, (args i).length = ps.length) : ∀ vs H Q E, spX K tb args os wf ro vs H Q E → vs.length = ps.length := fun vs H Q E ⟨i, F, P, PE, _, he, _⟩ => by
  have := he.len
  rw [List.length_map, hl i] at this
  exact this.symm
theorem okX {x qual : Str} {st : Stmt} (F : Fun K x qual st f fd) (S : FnScope N ps (defScope st)) (hl : ∀ i, (args i).length = ps.length)
    (body : ∀ (cdv : Value) (A : Around) (outer : List PySem.Env) (s : Shared) (H : Hp) (E : XK) (B : Bs) (i : ι), Room k (A.deeper (envOfC qual (defScope st) s.heap.objs.size f cdv)) →
      Takes (cxOf (L2.CX P w) P w K mg base N qual (defScope st) f cdv A outer s H E) (wB K tb B) → PassesOwn (model P w) (A.deeper (envOfC qual (defScope st) s.heap.objs.size f cdv)) (envOfC qual (defScope st) s.heap.objs.size f cdv) (cxOf (L2.CX P w) P w K mg base N qual (defScope st) f cdv A outer s H E).xe →
      BG (cxOf (L2.CX P w) P w K mg base N qual (defScope st) f cdv A outer s H E) B (entry (args i) (N.length - ps.length)) (os i) (defBody st) (pFn B (os i) ro) (wf i)) : FnOk P w K mg base (L2.CX P w) (k + 1) f fd ps (spX K tb args os wf ro) := by
  refine F.okX S (spX_len hl) fun cdv A outer s H vs Q E hr hsp => ?_
  have hvl := spX_len hl vs H Q E hsp
  obtain ⟨i, F0, P0, PE, fh, he, ho, nd, hw, hk, hx⟩ := hsp
  refine ⟨_, body cdv A outer s H E { bs0 F0 H (os i) with E0 := PE } i hr ((takes_of rfl rfl rfl rfl).imp fun cls d σ H' ⟨e, F', h1, h2, h3⟩ => hx e h1 cls d F' H' ⟨h2.fh, h2.bf, h2.mrk, h2.bb, h2.ios, h2.keep⟩ h3) (passes_of rfl),
    F0, P0, ⟨?_, ?_, fun p hp => ?_, nd⟩, hw, fun y hy => ⟨fun v F' H' fn ow ok => hk y hy v F' H' ⟨fn.fh, fn.bf, fn.mrk, fn.bb, fn.ios, fn.keep⟩ ow ok, fun σ F' H' fn ow ok => hk y hy .non F' H' ⟨fn.fh, fn.bf, fn.mrk, fn.bb, fn.ios, fn.keep⟩ ow ok⟩⟩
  · have z := bs0_start fh ho
    exact ⟨z.fh, z.bf, z.mrk, z.bb, z.ios, z.keep⟩
  · rw [← hvl]
    exact entry_ok he
  · obtain ⟨h1, o, h2, h3⟩ := ho p hp
    exact ⟨h1, ⟨o, h2, h3⟩, .inr (List.mem_map_of_mem hp)⟩
end
/-! ### raise -/
section
variable {X : Cx} {B : Bs} {env : Env} {os : Os} {tb : ETab} {pos p pos2 : Pos} {α β ι ρ : Type} {r : Rp α} {args : ι → Env} {osf : ι → Os} {wf : ι → W ρ} {ro : Rp ρ} {e : Expr} {es : List Expr} {rest : List Stmt} {post : Post β} {x : Str} {k : Nat} {f C : Addr} {fd : FuncData} {ps : List Str}
theorem b_raise1 {w : W α} {g : α → PyData} {n : Nat} {f1 : Str} {code : String} {xn : Str} {sn : Str} (tk : Takes X (wB X.K tb B)) (hc : X.calm = true) (hmem : (code, C, some f1) ∈ tb) (hnc : f1 ≠ "code") (T : OexC X.K C) (iC : PySem.W.findIn X.K (.ref C) "__init__" = some (some (.ref f))) (tI : PySem.W.typeIn X.K (.ref f) = some (.type "function"))
    (G : FnOk X.prog X.w X.K X.mg X.base CX0 1 f fd [sn, xn] (spE1 C f1 (Str.ofString code))) (hr : Room 2 X.A) (hb : Binds X.K fd [sn, xn] []) (hm : X.mg x = some (.ref C)) (d : DD X.K r g n) (hn : n ≤ 30) (he : EE X B env os e r w)
    (hg : Gl X x := by rfl) (hdb : (x == ("__debug__" : Str)) = false := by decide) (hse : starEach [e] X.env = (false, eval e X.env) :: starEach [] X.env := by rfl) (hpl : (backTo pos (starEach [] X.env)).any (·.1) = false := by rfl) :
    BG X B env os (.Raise (some (.Call (.Name x p) [e] [] pos)) none pos2 :: rest) post (bnd w fun v => thr ⟨code, [g v]⟩) :=
  PSs.imp (pss_cons (ps_raise hc tk (pmk_oex T iC tI G hr hb .nil pass0 hg hm (pa_cons he pa_nil hse) hdb hse hpl)) pss_never) fun D σ H ⟨F, P, S, hw, k⟩ => ⟨F, _, S, hw, fun y hy v F1 H1 S1 e1 ok => ⟨by show 1 ≤ 1000; omega, fun a ha => by
    have hd := d.ok ok
    refine ⟨a, v, rfl, upd_same, fun dx hdx hne => ⟨rfl, dx, [("code", .str (Str.ofString code)), (f1, v)], ?_, upd_same, ?_, ?_⟩⟩
    · rw [upd_ne (Ne.symm hne), upd_same]
    · rwa [upd_ne hne] at hdx
    have hdx1 : H1 dx = none := by rwa [upd_ne hne] at hdx
    have eH : upd (del (upd (upd (upd (upd H1 a (exo a C none)) dx (exd dx [(f1, v)])) a (exo a C (some dx))) dx (exd dx [("code", .str (Str.ofString code)), (f1, v)])) a) dx (.xd [("code", .str (Str.ofString code)), (f1, v)]) = upd H1 dx (.xd [("code", .str (Str.ofString code)), (f1, v)]) := by
      funext b
      by_cases h1 : b = dx
      · rw [h1, upd_same, upd_same]
      · rw [upd_ne h1, upd_ne h1]
        by_cases h2 : b = a
        · rw [h2, del_same, ha]
        · rw [del_ne h2, upd_ne h1, upd_ne h2, upd_ne h1, upd_ne h2]
    rw [eH]
    have gr : Grow F1 H1 (upd F1 dx (.xd [("code", .str (Str.ofString code)), (f1, v)])) (upd H1 dx (.xd [("code", .str (Str.ofString code)), (f1, v)])) := Grow.alloc S1.fh hdx1
    have S2 := S1.grow gr
    refine ⟨⟨code, [g y]⟩, _, hy, S2.fin.low, C, some f1, dx, _, hmem, rfl, rfl, upd_same, rfl, v, g y, rfl, ?_, (rD X.K).mono gr.f ⟨hd.1, hd.2.1, Nat.le_trans hd.2.2 hn⟩⟩
    rw [lookup_put, if_neg hnc, lookup_put, if_pos rfl]⟩⟩
/-- f(e, ..), f a def that may raise -/
theorem passB (tk : Takes X (wB X.K tb B)) : Passes (L2.CX X.prog X.w) X (eB X.K tb B) := passes_call tk fun _ _ _ _ h => h
theorem back_call {w : W ι} {σ : L2.St} {H : Hp} {Q : VK} (ho : ∀ i, OsLe os (osf i)) (hnd : ∀ i, ((osf i).map (·.1)).Nodup) (h : tOf B env os ro (bnd w fun i => wf i) σ H Q) : tAA B env os args w σ H fun vs H1 => spX X.K tb args osf wf ro vs H1 Q (eB X.K tb B) := by
  obtain ⟨F, P, S, hw, k⟩ := h
  refine ⟨F, _, S, hw, fun i hi vs F1 H1 S1 e1 ok => ⟨i, F1, P, B.E0, S1.fh, ok, fun p hp => ?_, hnd i, hi, fun y hy v F2 H2 fn ow okv => ?_, fun e he cls d F2 H2 fn er => ?_⟩⟩
  · obtain ⟨h1, h2, _⟩ := S1.ow p (ho i p hp)
    exact ⟨h1, h2⟩
  · exact k y hy v F2 H2 (S1.back (ho i) fn ow) (e1.trans fn.bf) okv
  · exact ⟨e, F2, he, S1.backE (ho i) fn, er⟩
theorem e_callX {w : W ι} (G : FnOk X.prog X.w X.K X.mg X.base (L2.CX X.prog X.w) k f fd ps (spX X.K tb args osf wf ro)) (tk : Takes X (wB X.K tb B)) (hr : Room k X.A) (hm : X.mg x = some (.ref f)) (hk : PySem.W.keepIn X.K (.ref f) = true) (hb : Binds X.K fd ps [])
    (ha : AA X B env os (e :: es) args w) (ho : ∀ i, OsLe os (osf i)) (hnd : ∀ i, ((osf i).map (·.1)).Nodup) (hg : Gl X x := by rfl) (hdb : (x == ("__debug__" : Str)) = false := by decide)
    (he : starEach (e :: es) X.env = (false, eval e X.env) :: starEach es X.env := by rfl) (hpl : (backTo pos (starEach es X.env)).any (·.1) = false := by rfl) :
    EE X B env os (.Call (.Name x p) (e :: es) [] pos) ro (bnd w fun i => wf i) :=
  PE.imp (pe_call G hr hg hm hk hb .nil (passB tk) ha hdb he hpl) fun σ H Q h => by
    have q := back_call (X := X) (tb := tb) (args := args) ho hnd h
    obtain ⟨F, P, S, hw, k⟩ := q
    refine ⟨F, P, S, hw, fun i hi vs F' H' S' e' ok => ?_⟩
    show spX X.K tb args osf wf ro (vs ++ []) H' Q (eB X.K tb B)
    rw [List.append_nil]
    exact k i hi vs F' H' S' e' ok
end
section
variable {X : Cx} {B : Bs} {env : Env} {os : Os} {tb : ETab} {pos p : Pos} {α ι ρ : Type} {e o : Expr} {es : List Expr} {wf : α × ι → W ρ} {ro : Rp ρ} {sl : ι → Env} {k : Nat} {f C : Addr} {fd : FuncData} {ps : List Str} {m : Str} {fl : α → List (Str × Slot)} {apos : Pos}
theorem e_methX {w1 : W α} {w2 : α → W ι} {pl : Sem Bool} (G : FnOk X.prog X.w X.K X.mg X.base (L2.CX X.prog X.w) k f fd ps (spX X.K tb (fun q : α × ι => sv (rObj C fl) q.1 :: sl q.2) (fun _ => []) wf ro)) (tk : Takes X (wB X.K tb B)) (hr : Room k X.A) (cl : Cls X.K C) (hm : Meth X.K C m f) (hb : Binds X.K fd ps [])
    (ho : EE X B env os o (rObj C fl) w1) (ha : ∀ x, AA X B env os (e :: es) sl (w2 x)) (hn : ∀ x, (fl x).lookup m = none := by exact fun _ => rfl) (hst : starEach (e :: es) X.env = (false, eval e X.env) :: starEach es X.env := by rfl) (hpl : (backTo pos (starEach es X.env)).any (·.1) = false := by rfl)
    (ht : eval (.Call (.Attribute o m apos) (e :: es) [] pos) X.env = (do
      let ov ← eval o X.env
      standAt apos.atName
      let (f, first) ← holding [ov] (getMethod ov m pl)
      callWith pos f first (backTo pos (starEach (e :: es) X.env)) (backToKw pos (keywordEach [] X.env))) := by rfl) :
    EE X B env os (.Call (.Attribute o m apos) (e :: es) [] pos) ro (bnd w1 fun x => bnd (w2 x) fun i => wf (x, i)) :=
  PE.imp (pe_meth (pl := pl) ho cl hm G hr hb .nil (passB tk) (PA.ex ha) hst hpl ht) fun σ H Q ⟨F, P, S, hw, kk⟩ => ⟨F, _, S, hw, fun x hx v F1 H1 S1 e1 ⟨y, dx, vs, ev, hy, hf⟩ => ⟨y, dx, vs, ev, S1.fh _ _ hy, hf.none (hn x), x, F1, _, S1, hx, fun i hi us F2 H2 S2 e2 ok => by
    subst ev
    rw [List.append_nil]
    refine ⟨(x, i), F2, P, B.E0, S2.fh, .cons ⟨_, rfl, y, dx, vs, rfl, e2 _ _ hy, hf.mono e2⟩ ok, fun z hz => (by cases hz), List.nodup_nil, hi, fun z hz v F' H' fn ow okz => ?_, fun e he cls d F' H' fn er => ?_⟩
    · exact kk z hz v F' H' (S2.back OsLe.none fn ow) ((e1.trans e2).trans fn.bf) okz
    · exact ⟨e, F', he, S2.backE OsLe.none fn, er⟩⟩⟩
end
/-! ### making that may raise -/
def spIX (K : PySem.W.Frag) (tb : ETab) {ι ρ : Type} (C : Addr) (args : ι → Env) (w : ι → W ρ) (fl : ρ → List (Str × Slot)) : Sp := fun vs H Q E => ∃ (i : ι) (F : Hp) (P : ρ → Prop) (PE : Er → Prop) (x dx : Addr) (us : List V), vs = .ref x :: us ∧ Ex F H ∧ F x = none ∧ H x = some (.ins C dx []) ∧ EnvOk F (args i) (us.map some) ∧
  w i P PE ∧ (∀ r, P r → ∀ F' H', Fn (bs0 F H [(x, oObj C [])]) F' H' → OsOk (bs0 F H [(x, oObj C [])]) F' H' [(x, oObj C (fl r))] → Q .non H') ∧ ∀ e, PE e → ∀ cls d F' H', Fn (bs0 F H [(x, oObj C [])]) F' H' → ErAt K tb F' e cls d → E cls d H'
def spISX (K : PySem.W.Frag) (tb : ETab) {α ρ : Type} (C : Addr) (r : Rp α) (wf : List α → W ρ) (fl : ρ → List (Str × Slot)) : Sp := fun vs H Q E => ∃ (xs : List α) (F : Hp) (P : ρ → Prop) (PE : Er → Prop) (x dx : Addr) (us : List V), vs = .ref x :: us ∧ Ex F H ∧ F x = none ∧ H x = some (.ins C dx []) ∧ Paired (r.ok F) us xs ∧ xs.length ≤ sizeLine ∧
  wf xs P PE ∧ (∀ r, P r → ∀ F' H', Fn (bs0 F H [(x, oObj C [])]) F' H' → OsOk (bs0 F H [(x, oObj C [])]) F' H' [(x, oObj C (fl r))] → Q .non H') ∧ ∀ e, PE e → ∀ cls d F' H', Fn (bs0 F H [(x, oObj C [])]) F' H' → ErAt K tb F' e cls d → E cls d H'
section
variable {P : Program} {w : World} {K : PySem.W.Frag} {tb : ETab} {mg : Str → Option Value} {base : Heap} {k : Nat} {f C : Addr} {fd : FuncData} {ps N : List Str} {ι ρ α : Type} {r : Rp α} {args : ι → Env} {wf : ι → W ρ} {wl : List α → W ρ} {fl : ρ → List (Str × Slot)}
/-- the body of such a def -/
theorem bodyIX {A : Around} {outer : List PySem.Env} {s : Shared} {H : Hp} {E : XK} {Q : VK} {vs : List V} {qual : Str} {sc : Scope} {cdv : Value} {blk : List Stmt} (hl : ∀ i, (args i).length + 1 = ps.length) (hsp : spIX K tb C args wf fl vs H Q E)
    (body : ∀ (B : Bs) (a : Addr) (i : ι), Takes (cxOf (L2.CX P w) P w K mg base N qual sc f cdv A outer s H E) (wB K tb B) →
      BG (cxOf (L2.CX P w) P w K mg base N qual sc f cdv A outer s H E) B (entry (sv (rAdr a) () :: args i) (N.length - ps.length)) [(a, oObj C [])] blk (pIn B C a fl) (wf i)) :
    ∃ t, PSs (cxOf (L2.CX P w) P w K mg base N qual sc f cdv A outer s H E) blk t ∧ t { nx := fun _ H' => Q .non H', rt := Q } (L2.start N vs) H := by
  obtain ⟨i, F0, P0, PE, a, dx, us, ev, fh, fa, ha, he, hw, hk, hx⟩ := hsp
  subst ev
  have ow : ∀ p ∈ ([(a, oObj C [])] : Os), F0 p.1 = none ∧ ∃ o, H p.1 = some o ∧ p.2.ok F0 o := fun p hp => by
    rw [List.mem_singleton.mp hp]
    exact ⟨fa, _, ha, dx, [], rfl, .nil⟩
  have hvl : (V.ref a :: us).length = ps.length := by
    have := he.len
    rw [List.length_map] at this
    rw [List.length_cons, ← this, hl i]
  refine ⟨_, body { bs0 F0 H [(a, oObj C [])] with E0 := PE } a i ((takes_of rfl rfl rfl rfl).imp fun cls d σ H' ⟨e, F', h1, h2, h3⟩ => hx e h1 cls d F' H' ⟨h2.fh, h2.bf, h2.mrk, h2.bb, h2.ios, h2.keep⟩ h3),
    F0, P0, ⟨?_, ?_, fun p hp => ?_, by simp⟩, hw, fun y hy => ⟨fun F' H' fn ow => hk y hy F' H' ⟨fn.fh, fn.bf, fn.mrk, fn.bb, fn.ios, fn.keep⟩ ow, fun σ F' H' fn ow => hk y hy F' H' ⟨fn.fh, fn.bf, fn.mrk, fn.bb, fn.ios, fn.keep⟩ ow⟩⟩
  · have z := bs0_start fh ow
    exact ⟨z.fh, z.bf, z.mrk, z.bb, z.ios, z.keep⟩
  · rw [← hvl]
    exact entry_ok (.cons ⟨_, rfl, rfl⟩ he)
  · obtain ⟨h1, o, h2, h3⟩ := ow p hp
    exact ⟨h1, ⟨o, h2, h3⟩, .inr (List.mem_map_of_mem hp)⟩
theorem initX {x qual : Str} {st : Stmt} (F : Fun K x qual st f fd) (S : FnScope N ps (defScope st)) (hl : ∀ i, (args i).length + 1 = ps.length)
    (body : ∀ (cdv : Value) (A : Around) (outer : List PySem.Env) (s : Shared) (H : Hp) (E : XK) (B : Bs) (a : Addr) (i : ι), Room k (A.deeper (envOfC qual (defScope st) s.heap.objs.size f cdv)) → Takes (cxOf (L2.CX P w) P w K mg base N qual (defScope st) f cdv A outer s H E) (wB K tb B) →
      BG (cxOf (L2.CX P w) P w K mg base N qual (defScope st) f cdv A outer s H E) B (entry (sv (rAdr a) () :: args i) (N.length - ps.length)) [(a, oObj C [])] (defBody st) (pIn B C a fl) (wf i)) : FnOk P w K mg base (L2.CX P w) (k + 1) f fd ps (spIX K tb C args wf fl) :=
  F.okX S (fun vs H Q E ⟨i, F, P, PE, x, dx, us, ev, _, _, _, he, _⟩ => by
    have := he.len
    rw [List.length_map] at this
    rw [ev, List.length_cons, ← this, hl i]) fun cdv A outer s H vs Q E hr hsp => bodyIX hl hsp fun B a i tk => body cdv A outer s H E B a i hr tk
theorem initSX {x qual self pv : Str} {st : Stmt} (F : Fun K x qual st f fd) (S : FnScope N [self, pv] (defScope st)) (hb : BindStar K fd self pv)
    (body : ∀ (cdv : Value) (A : Around) (outer : List PySem.Env) (s : Shared) (H : Hp) (E : XK) (B : Bs) (a : Addr) (xs : List α), Room k (A.deeper (envOfC qual (defScope st) s.heap.objs.size f cdv)) → Takes (cxOf (L2.CX P w) P w K mg base N qual (defScope st) f cdv A outer s H E) (wB K tb B) →
      BG (cxOf (L2.CX P w) P w K mg base N qual (defScope st) f cdv A outer s H E) B (entry [sv (rAdr a) (), sv (rTup K r) xs] (N.length - 2)) [(a, oObj C [])] (defBody st) (pIn B C a fl) (wl xs)) : FnR P w K mg base (L2.CX P w) (k + 1) f (spISX K tb C r wl fl) := by
  obtain ⟨oc, od, kV, doc, pm, an, cdv, ct, osl, rfl, lk, hcd⟩ := F.ex
  have z := StX.fn_star (P := P) (w := w) (mg := mg) (base := base) (ps := [self]) (pv := pv) (sp := spIX K tb C (fun xs : List α => [sv (rTup K r) xs]) wl fl) (k := k) lk hcd S StX.cxUp hb fun A outer s H vs Q E hr hsp => bodyIX (ps := [self, pv]) (fun _ => rfl) hsp fun B a i tk => body cdv A outer s H E B a i hr tk
  intro A outer s H us vs Q E hr e0 rv hsp
  obtain ⟨xs, F0, P0, PE, a, dx, vs', ev, fh, fa, ha, he, hz, hw, hk, hx⟩ := hsp
  refine z A outer s H us vs Q E hr e0 rv ⟨[.ref a], vs', ev, rfl, by rw [he.length]; exact hz, fun p hp => ?_⟩
  have g : Grow F0 H (upd F0 p (.tup vs')) (upd H p (.tup vs')) := Grow.alloc fh hp
  have fh' := g.fh fh
  have hap : a ≠ p := ne_of_none ha hp
  have fa' : upd F0 p (.tup vs') a = none := by rw [upd_ne hap]; exact fa
  have ha' : upd H p (.tup vs') a = some (.ins C dx []) := by rw [upd_ne hap]; exact ha
  have fnb : ∀ F' H', Fn (bs0 (upd F0 p (.tup vs')) (upd H p (.tup vs')) [(a, oObj C [])]) F' H' → Fn (bs0 F0 H [(a, oObj C [])]) F' H' := fun F' H' fn => ⟨fn.fh, g.f.trans fn.bf, g.f.trans fn.mrk, fh, fn.ios, fun b o h1 h2 h3 => by
    have hbp : b ≠ p := ne_of_none h2 hp
    refine fn.keep b o ?_ ?_ h3
    · show upd F0 p (.tup vs') b = none
      rw [upd_ne hbp]
      exact h1
    · show upd H p (.tup vs') b = some o
      rw [upd_ne hbp]
      exact h2⟩
  refine ⟨xs, upd F0 p (.tup vs'), P0, PE, a, dx, [.ref p], rfl, fh', fa', ha', .cons ⟨_, rfl, p, vs', rfl, SqT.of upd_same, by rw [he.length]; exact hz, Paired.imp (fun _ _ => r.mono g.f) he⟩ .nil, hw, fun q hq F' H' fn ow => ?_, fun e he cls d F' H' fn er => hx e he cls d F' H' (fnb _ _ fn) er⟩
  refine hk q hq F' H' (fnb _ _ fn) fun y hy => ?_
  obtain ⟨h1, h2, h3⟩ := ow y hy
  refine ⟨h1, h2, .inr ?_⟩
  rw [List.mem_singleton.mp hy]
  simp
end
section
variable {X : Cx} {B : Bs} {env : Env} {os : Os} {tb : ETab} {pos p : Pos} {ρ α : Type} {r : Rp α} {wf : List α → W ρ} {fl : ρ → List (Str × Slot)} {e : Expr} {es : List Expr} {x : Str} {k : Nat} {f C : Addr}
theorem Sit.backEI {F F' H H' : Hp} {σ : L2.St} {x : Addr} {o : Own} (S : Sit B F H σ env ((x, o) :: os)) (hx : B.H x = none) (fn : Fn (bs0 F H [(x, o)]) F' H') : Fn (B.at B.F) F' H' := by
  have e : Ex F F' := fn.bf
  have nin : ∀ a, a ≠ x → a ∉ ([(x, o)] : Os).map (·.1) := fun a h hm => h (by simpa using hm)
  refine ⟨fn.fh, S.fin.bf.trans e, S.fin.bf.trans e, S.fin.bb, fun a ha => ?_, fun a u h1 h2 h3 => ?_⟩
  · obtain ⟨u, hu⟩ := S.fin.ios a ha
    by_cases hax : a = x
    · subst hax
      obtain ⟨q, hq⟩ := fn.ios a (by simp)
      exact ⟨q, hq⟩
    · cases ef : F a with
      | none => exact ⟨u, (fn.keep a u ef hu (nin a hax)).1⟩
      | some q => exact ⟨q, fn.fh a q (e a q ef)⟩
  · obtain ⟨k1, k2⟩ := S.fin.keep a u h1 h2 h3
    refine fn.keep a u k2 k1 (nin a ?_)
    rintro rfl
    rw [hx] at h2
    cases h2
theorem madeSX {F H : Hp} {σ : L2.St} {vs : List V} {xs : List α} {P : ρ → Prop} {Q : VK} (S : Sit B F H σ env os) (ok : Paired (r.ok F) vs xs) (hz : xs.length ≤ sizeLine) (hw : wf xs P B.E0)
    (k : ∀ z, P z → ∀ v F' H', Sit B F' H' σ env os → Ex F F' → (rObj C fl).ok F' v z → Q v H') (x dx : Addr) (hx : H x = none) (hdx : H dx = none) (hne : dx ≠ x) :
    spISX X.K tb C r wf fl (.ref x :: vs) (upd (upd H dx (.own x)) x (.ins C dx [])) (fun v H2 => v = .non ∧ Q (.ref x) H2) (eB X.K tb B) := by
  have g : Grow F H (upd F dx (.own x)) (upd H dx (.own x)) := Grow.alloc S.fh hdx
  have S1 := S.grow g
  have hx1 : upd H dx (.own x) x = none := by rw [upd_ne (Ne.symm hne)]; exact hx
  have S2 := S1.newOwn (o := .ins C dx []) (ow := oObj C []) hx1 ⟨dx, [], rfl, .nil⟩
  refine ⟨xs, upd F dx (.own x), P, B.E0, x, dx, vs, rfl, S2.fh, ?_, upd_same, Paired.imp (fun _ _ => r.mono g.f) ok, hz, hw, fun r hr F' H' fn ow => ⟨rfl, ?_⟩, fun e he cls d F' H' fn er => ⟨e, F', he, S2.backEI (S1.fin.fresh hx1) fn, er⟩⟩
  · exact (S2.ow (x, oObj C []) List.mem_cons_self).1
  · obtain ⟨F2, o, e2, h1, ⟨dx', vs', h2, h3⟩, S4⟩ := (S2.backI fn ow).freeze
    subst h2
    exact k r hr (.ref x) F2 H' S4 ((g.f.trans fn.bf).trans e2) ⟨x, dx', vs', rfl, h1, h3⟩
/-- C(a, b, ..), C over a star parameter, that may raise -/
theorem e_makeSX {w : W (List α)} (M : Mk X.K C f) (G : FnR X.prog X.w X.K X.mg X.base (L2.CX X.prog X.w) k f (spISX X.K tb C r wf fl)) (tk : Takes X (wB X.K tb B)) (hr : Room (k + 1) X.A) (hm : X.mg x = some (.ref C)) (ha : AL X B env os (e :: es) r w) (hz : (e :: es).length ≤ sizeLine := by decide)
    (hg : Gl X x := by rfl) (hdb : (x == ("__debug__" : Str)) = false := by decide) (he : starEach (e :: es) X.env = (false, eval e X.env) :: starEach es X.env := by rfl) (hpl : (backTo pos (starEach es X.env)).any (·.1) = false := by rfl) :
    EE X B env os (.Call (.Name x p) (e :: es) [] pos) (rObj C fl) (bnd w fun i => wf i) :=
  PE.imp (StX.pe_makeR M G hr hg hm (passB tk) ha hdb he hpl) fun σ H Q ⟨F, P, S, hw, k⟩ => ⟨F, _, S, hw, fun xs hi vs F1 H1 S1 e1 ok hvl y dy h1 h2 h3 =>
    madeSX (X := X) S1 ok (by rw [← ok.length, hvl]; exact hz) hi (fun z hz v F' H' S' e' ok' => k z hz v F' H' S' (e1.trans e') ok') y dy h1 h2 h3⟩
end
end Mi

namespace Mi
open PySem L2 Evl LamX
open PyProof.Rows (envOfC)

/-! ### cells, tracked and untracked -/
def cellHO (c : Addr) (o : Obj) : HO := .ext fun h => h.get? c = some o
def addC (Z : Addr → Option Obj) (H : Hp) : Hp := fun b => match Z b with | some o => some (cellHO b o) | none => H b
def remC (Z : Addr → Option Obj) (H : Hp) : Hp := fun b => match Z b with | some _ => none | none => H b
section
variable {Z : Addr → Option Obj} {F H F' H' : Hp} {P : Program} {w : World} {h h' : Heap} {b : Addr} {o : Obj}
theorem addC_some (e : Z b = some o) : addC Z H b = some (cellHO b o) := by
  unfold addC
  rw [e]
theorem addC_none (e : Z b = none) : addC Z H b = H b := by
  unfold addC
  rw [e]
theorem remC_some (e : Z b = some o) : remC Z H b = none := by
  unfold remC
  rw [e]
theorem remC_none (e : Z b = none) : remC Z H b = H b := by
  unfold remC
  rw [e]
theorem remC_of {u : HO} (e : remC Z H b = some u) : Z b = none ∧ H b = some u := by
  unfold remC at e
  cases q : Z b with
  | none =>
    rw [q] at e
    exact ⟨rfl, e⟩
  | some o =>
    rw [q] at e
    cases e
theorem addC_of {u : HO} (e : addC Z H b = some u) : (Z b = none ∧ H b = some u) ∨ ∃ o, Z b = some o ∧ u = cellHO b o := by
  unfold addC at e
  cases q : Z b with
  | none =>
    rw [q] at e
    exact .inl ⟨rfl, e⟩
  | some o =>
    rw [q] at e
    cases e
    exact .inr ⟨o, rfl, rfl⟩
theorem ex_add (hz : ∀ b o, Z b = some o → F b = none) : Ex F (addC Z F) := fun b u e => by
  cases q : Z b with
  | none => rw [addC_none q]; exact e
  | some o => rw [hz b o q] at e; cases e
theorem ex_addC (e : Ex F F') : Ex (addC Z F) (addC Z F') := fun b u h => by
  rcases addC_of h with ⟨q, z⟩ | ⟨o, q, z⟩
  · rw [addC_none q]; exact e _ _ z
  · rw [addC_some q, z]
theorem ex_remC (e : Ex F F') : Ex (remC Z F) (remC Z F') := fun b u h => by
  obtain ⟨q, z⟩ := remC_of h
  rw [remC_none q]
  exact e _ _ z
theorem hok_add (k : HOk P w H h) (hz : ∀ b o, Z b = some o → h.get? b = some o ∧ H b = none) : HOk P w (addC Z H) h := fun b u e => by
  rcases addC_of e with ⟨q, z⟩ | ⟨o, q, z⟩
  · exact (k b u z).stay (fun _ _ _ y => y) (fun c y => by
      cases qc : Z c with
      | none => rw [addC_none qc]; exact y
      | some o => rw [(hz c o qc).2] at y; cases y) fun c xs y => by
      cases qc : Z c with
      | none => rw [addC_none qc]; exact y
      | some o => rw [(hz c o qc).2] at y; cases y
  · subst z
    exact ⟨(hz b o q).1, ⟨o, (hz b o q).1⟩, fun h1 h2 y st => st _ y⟩
theorem hok_rem (k : HOk P w H h) (hz : ∀ b o, Z b = some o → H b = some (cellHO b o)) : HOk P w (remC Z H) h := fun b u e => by
  obtain ⟨q, z⟩ := remC_of e
  exact (k b u z).stay (fun _ _ _ y => y) (fun c y => by
      cases qc : Z c with
      | none => rw [remC_none qc]; exact y
      | some o => rw [hz c o qc] at y; cases y) fun c xs y => by
      cases qc : Z c with
      | none => rw [remC_none qc]; exact y
      | some o => rw [hz c o qc] at y; cases y
theorem cell_at (k : HOk P w H h) (e : H b = some (cellHO b o)) : h.get? b = some o := by
  have x : ObjOk P w H h b (.ext fun h => h.get? b = some o) := k b _ e
  exact x.1
/-- into the closure's own frame -/
theorem env0_rem {K : PySem.W.Frag} {mg : Str → Option Value} {base : Heap} {A : Around} {outer : List PySem.Env} {s : Shared} (e0 : Env0 P w K mg base A outer s H) (hz : ∀ b o, Z b = some o → H b = some (cellHO b o)) : Env0 P w K mg base A outer s (remC Z H) :=
  ⟨e0.frames, e0.mod, fun b o e => ⟨(e0.bs b o e).1, by
    cases q : Z b with
    | none => rw [remC_none q]; exact (e0.bs b o e).2
    | some o => exact remC_some q⟩, e0.bsz, e0.funs, fun b hb => by
    cases q : Z b with
    | none => rw [remC_none q]; exact e0.frf b hb
    | some o => exact remC_some q, hok_rem e0.hok hz, e0.bare⟩
theorem env0_add {K : PySem.W.Frag} {mg : Str → Option Value} {base : Heap} {A : Around} {outer : List PySem.Env} {s : Shared} (e0 : Env0 P w K mg base A outer s H) (hz : ∀ b o, Z b = some o → s.heap.get? b = some o ∧ H b = none ∧ b ∉ frs outer ∧ base.get? b = none) : Env0 P w K mg base A outer s (addC Z H) :=
  ⟨e0.frames, e0.mod, fun b o e => ⟨(e0.bs b o e).1, by
    cases q : Z b with
    | none => rw [addC_none q]; exact (e0.bs b o e).2
    | some o => rw [(hz b o q).2.2.2] at e; cases e⟩, e0.bsz, e0.funs, fun b hb => by
    cases q : Z b with
    | none => rw [addC_none q]; exact e0.frf b hb
    | some o => exact absurd hb (hz b o q).2.2.1, hok_add e0.hok fun b o q => ⟨(hz b o q).1, (hz b o q).2.1⟩, e0.bare⟩
/-- behind the closure's run: the cells tracked again -/
theorem un_add {fs : List Addr} (un : Un fs [] (remC Z H) H' h h') (hz : ∀ b o, Z b = some o → H b = some (cellHO b o)) : Un fs [] H (addC Z H') h h' := by
  have nZ : ∀ b u, H b = some u → (∀ φ, u ≠ .ext φ) → Z b = none := fun b u e n => by
    cases q : Z b with
    | none => rfl
    | some o =>
      rw [hz b o q] at e
      cases e
      exact absurd rfl (n _)
  have nN : ∀ b, H b = none → Z b = none := fun b e => by
    cases q : Z b with
    | none => rfl
    | some o => rw [hz b o q] at e; cases e
  refine ⟨fun b o q n => un.keep b o q (by rw [remC_none (nN b n)]; exact n), fun b o q n => un.slot b o q (by rw [remC_none (nN b n)]; exact n), fun b o q n hx => ?_, un.there, fun b xs q => ?_, fun b o u q => ?_, fun b ps q => ?_⟩
  · rw [addC_none (nN b n)]
    exact un.free b o q (by rw [remC_none (nN b n)]; exact n) hx
  · have z := nZ b _ q (fun φ z => by cases z)
    rw [addC_none z]
    exact un.tups b xs (by rw [remC_none z]; exact q)
  · have z := nZ b _ q (fun φ z => by cases z)
    rw [addC_none z]
    exact un.frzs b o u (by rw [remC_none z]; exact q)
  · have z := nZ b _ q (fun φ z => by cases z)
    rw [addC_none z]
    exact un.tbls b ps (by rw [remC_none z]; exact q)
/-- behind a call with the cells tracked: they are let go -/
theorem un_rem {fs : List Addr} (un : Un fs [] (addC Z H) H' h h') (hok : HOk P w H' h') (hz : ∀ b o, Z b = some o → h.get? b = some o ∧ H b = none ∧ b ∉ fs) (hk : ∀ b o, Z b = some o → H' b = some (cellHO b o)) : Un fs [] H (remC Z H') h h' := by
  have at_ : ∀ b u, H b = some u → addC Z H b = some u := fun b u e => by
    cases q : Z b with
    | none => rw [addC_none q]; exact e
    | some o => rw [(hz b o q).2.1] at e; cases e
  have out : ∀ b u, H' b = some u → (∀ φ, u ≠ .ext φ) → remC Z H' b = some u := fun b u e n => by
    cases q : Z b with
    | none => rw [remC_none q]; exact e
    | some o =>
      rw [hk b o q] at e
      cases e
      exact absurd rfl (n _)
  refine ⟨fun b o q n hf hx => ?_, fun b o q n hf hx => ?_, fun b o q n hx => ?_, un.there, fun b xs q => out b _ (un.tups b xs (at_ _ _ q)) (fun φ z => by cases z), fun b o u q => out b _ (un.frzs b o u (at_ _ _ q)) (fun φ z => by cases z), fun b ps q => ?_⟩
  · cases z : Z b with
    | none => exact un.keep b o q (by rw [addC_none z]; exact n) hf hx
    | some o' =>
      have e1 := (hz b o' z).1
      rw [q] at e1
      cases e1
      exact cell_at hok (hk b o z)
  · cases z : Z b with
    | none => exact un.slot b o q (by rw [addC_none z]; exact n) hf hx
    | some o' => exact absurd hf (hz b o' z).2.2
  · cases z : Z b with
    | none => rw [remC_none z]; exact un.free b o q (by rw [addC_none z]; exact n) hx
    | some o' => exact remC_some z
  · obtain ⟨m, e⟩ := un.tbls b ps (at_ _ _ q)
    exact ⟨m, out b _ e (fun φ z => by cases z)⟩
theorem fn_rem (fn : Fn (bs0 (addC Z F) (addC Z H) []) F' H') (fh : Ex F H) (hz : ∀ b o, Z b = some o → H b = none) : Fn (bs0 F H []) (remC Z F') (remC Z H') := by
  have zF : ∀ b u, F b = some u → Z b = none := fun b u e => by
    cases q : Z b with
    | none => rfl
    | some o => rw [fresh_back fh (hz b o q)] at e; cases e
  have bf : Ex F (remC Z F') := fun b u e => by
    rw [remC_none (zF b u e)]
    exact fn.bf b u (by show addC Z F b = _; rw [addC_none (zF b u e)]; exact e)
  refine ⟨ex_remC fn.fh, bf, bf, fh, fun a ha => (by cases ha), fun a o h1 h2 h3 => ?_⟩
  have q : Z a = none := by
    cases q : Z a with
    | none => rfl
    | some u => rw [show (bs0 F H []).H a = H a from rfl, hz a u q] at h2; cases h2
  rw [remC_none q, remC_none q]
  exact fn.keep a o (by show addC Z F a = none; rw [addC_none q]; exact h1) (by show addC Z H a = _; rw [addC_none q]; exact h2) (by simp)
theorem fn_add (fn : Fn (bs0 (remC Z F) (remC Z H) []) F' H') (fh : Ex F H) (hz : ∀ b o, Z b = some o → F b = some (cellHO b o)) (hf : ∀ b o, Z b = some o → H' b = none) : Fn (bs0 F H []) (addC Z F') (addC Z H') := by
  have bf : Ex F (addC Z F') := fun b u e => by
    cases q : Z b with
    | none => rw [addC_none q]; exact fn.bf b u (by show remC Z F b = _; rw [remC_none q]; exact e)
    | some o =>
      rw [hz b o q] at e
      rw [addC_some q, e]
  refine ⟨ex_addC fn.fh, bf, bf, fh, fun a ha => (by cases ha), fun a o h1 h2 h3 => ?_⟩
  have q : Z a = none := by
    cases q : Z a with
    | none => rfl
    | some u => rw [show (bs0 F H []).F a = F a from rfl, hz a u q] at h1; cases h1
  rw [addC_none q, addC_none q]
  exact fn.keep a o (by show remC Z F a = none; rw [remC_none q]; exact h1) (by show remC Z H a = _; rw [remC_none q]; exact h2) (by simp)
theorem cx_add {outer : List PySem.Env} {s s' : Shared} {E E' : XK} {u : Value} (c : L2.CX P w outer (remC Z H) s E u s') (hz : ∀ b o, Z b = some o → H b = some (cellHO b o)) (hok : HOk P w H s.heap) (hfr : ∀ b o, Z b = some o → b ∉ frs outer) (hE : ∀ cls d H', (∀ b o, Z b = some o → H' b = none) → E cls d H' → E' cls d (addC Z H')) : L2.CX P w outer H s E' u s' := by
  obtain ⟨a, B, H', cls, d, rfl, fl, hokB, ub, na, os, ag, hE0⟩ := c
  have nN : ∀ b, H b = none → Z b = none := fun b e => by
    cases q : Z b with
    | none => rfl
    | some o => rw [hz b o q] at e; cases e
  have nZ : ∀ b u, H b = some u → (∀ φ, u ≠ .ext φ) → Z b = none := fun b u e n => by
    cases q : Z b with
    | none => rfl
    | some o =>
      rw [hz b o q] at e
      cases e
      exact absurd rfl (n _)
  have hB : ∀ b o, Z b = some o → B.get? b = some o ∧ H' b = none := fun b o q => by
    have e1 := cell_at hok (hz b o q)
    exact ⟨ub.keep b o e1 (remC_some q) (hfr b o q), ub.free b o e1 (remC_some q)⟩
  refine ⟨a, B, addC Z H', cls, d, rfl, fl, hok_add hokB hB, ⟨fun b o q n hf => ub.keep b o q (by rw [remC_none (nN b n)]; exact n) hf, ub.slot, fun b o q n => by rw [addC_none (nN b n)]; exact ub.free b o q (by rw [remC_none (nN b n)]; exact n), ub.there, fun b xs q => ?_, fun b o u q => ?_, fun b ps q => ?_⟩, ?_, os, ag, hE _ _ _ (fun b o q => (hB b o q).2) hE0⟩
  · have z := nZ b _ q (fun φ z => by cases z)
    rw [addC_none z]
    exact ub.tups b xs (by rw [remC_none z]; exact q)
  · have z := nZ b _ q (fun φ z => by cases z)
    rw [addC_none z]
    exact ub.frzs b o u (by rw [remC_none z]; exact q)
  · have z := nZ b _ q (fun φ z => by cases z)
    rw [addC_none z]
    exact ub.tbls b ps (by rw [remC_none z]; exact q)
  · have hza : Z a = none := by
      cases q : Z a with
      | none => rfl
      | some o =>
        have e1 := (hB a o q).1
        rw [fl.2.1] at e1
        cases e1
    rw [addC_none hza]
    exact na
end
end Mi

namespace Mi
open PySem L2 Evl LamX
open PyProof.Rows (envOfC)

/-- a lambda's names: ps its parameters; else captured ones and globals -/
structure LamS2 (sc scope : Scope) (ps : List Str) : Prop where
  kind : scope.kind = .function
  co : scope.isCoroutine = false
  gen : scope.isGenerator = false
  nocell : ∀ y ∈ scope.names, y.2 ≠ .cell
  loc : ∀ y ∈ scope.names, y.2 = .local → y.1 ∈ ps
  par : ∀ y ∈ ps, scope.names.lookup y = some .local
  free : ∀ y ∈ scope.names, y.2 = .free → sc.names.lookup y.1 = some .cell ∨ sc.names.lookup y.1 = some .free
def lamS2B (sc scope : Scope) (ps : List Str) : Bool :=
  decide (scope.kind = .function) && !scope.isCoroutine && !scope.isGenerator && scope.names.all (fun y => !decide (y.2 = .cell)) && scope.names.all (fun y => !decide (y.2 = .local) || decide (y.1 ∈ ps)) && ps.all (fun y => decide (scope.names.lookup y = some .local)) &&
    scope.names.all (fun y => !decide (y.2 = .free) || decide (sc.names.lookup y.1 = some .cell) || decide (sc.names.lookup y.1 = some .free))
theorem lamS2_by {sc scope : Scope} {ps : List Str} (h : lamS2B sc scope ps = true) : LamS2 sc scope ps := by
  unfold lamS2B at h
  simp only [Bool.and_eq_true, Bool.or_eq_true, Bool.not_eq_true', decide_eq_true_eq, decide_eq_false_iff_not, List.all_eq_true] at h
  obtain ⟨⟨⟨⟨⟨⟨h1, h2⟩, h3⟩, h4⟩, h5⟩, h6⟩, h7⟩ := h
  refine ⟨h1, h2, h3, h4, fun y hy e => (h5 y hy).elim (fun z => absurd e z) id, h6, fun y hy e => ?_⟩
  rcases h7 y hy with (z | z) | z
  · exact absurd e z
  · exact .inl z
  · exact .inr z
theorem LamS2.has {X : Cx} {scope : Scope} {ps : List Str} (L : LamS2 X.env.scope scope ps) (ok : X.Ok) : ∀ y ∈ scope.names, y.2 = .free → ∃ c, X.env.cells.lookup y.1 = some c := fun y hy e => by
  rcases L.free y hy e with k | k
  · exact ok.has _ (.inl k)
  · exact ok.has _ (.inr k)
section
variable {X : Cx} {pins : List (Addr × Obj)} {σ : L2.St} {H HZ : Hp} {s s1 : Shared}
/-- the state at the entry of a lambda's frame -/
theorem lam_inv {A : Around} {outer : List PySem.Env} {E : XK} {scope : Scope} {f c' : Addr} {h₁ : Heap} {tk : Nat} {ps : List Str} {us : List Value} (ok : X.Ok) (L : LamS2 X.env.scope scope ps) (e0 : Env0 X.prog X.w X.K X.mg X.base A outer s1 HZ) (hd : A.handled = none)
    (hns : h₁.Ns s1.heap.objs.size fun y => (ps.zip us).reverse.lookup y) (kp : ∀ b o, s1.heap.get? b = some o → h₁.get? b = some o)
    (hc : ∀ y c, X.env.cells.lookup y = some c → HZ c = none ∧ ∃ v, s1.heap.IsCell c v)
    (hl : ∀ (i : Nat) (y : Str) (v : V), X.N[i]? = some y → σ[i]? = some (some v) → Vis scope y → scope.names.lookup y = some .free ∧ ∃ c u, X.env.cells.lookup y = some c ∧ RelV v u ∧ s1.heap.IsCell c (some u)) (hlen : σ.length = X.N.length) :
    Inv (lamCx X A outer s1 HZ E scope f c') [] σ HZ { s1 with heap := h₁, toks := tk } := by
  have hfree := L.has ok
  have cm : ∀ {y c}, (cloFrom X.env.cells scope.names []).lookup y = some c → X.env.cells.lookup y = some c := fun {y c} e => by
    rcases cloFrom_mem (PySem.mem_of_lookup e) with hm | ⟨h1, h2⟩
    · cases hm
    · obtain ⟨c1, hc⟩ := hfree _ h1 rfl
      have hc : X.env.cells.lookup y = some c1 := hc
      have e2 : c = c1 := by
        rw [h2, hc] <;> rfl
      rw [e2]
      exact hc
  have look : ∀ {y}, scope.names.lookup y = some .free → ∃ c, (cloFrom X.env.cells scope.names []).lookup y = some c := fun {y} hl => by
    have hy : (y, NameKind.free) ∈ scope.names := PySem.mem_of_lookup hl
    exact mem_lookup (cloFrom_has (cells := X.env.cells) (acc := []) hy)
  have cellK : ∀ {c : Addr} {v : Option Value}, s1.heap.IsCell c v → h₁.IsCell c v := fun {c v} ⟨o, ho, hd⟩ => ⟨_, kp _ _ ho, hd⟩
  have noA : ∀ b : Addr, b ∉ (lamCx X A outer s1 HZ E scope f c').ex := fun b z => absurd (show b ∈ ([] : List Addr) from z) (by simp)
  refine ⟨⟨e0.mod, L.kind, rfl, rfl, Nat.le_refl _, fun y z c e1 e2 => ok.inj y z c (cm e1) (cm e2), fun y hy => ?_, fun y c z _ => ?_, fun _ => hd, Around.frames_deeper e0.frames, .inr ⟨rfl, rfl⟩, fun b z => absurd z (noA b), e0.bs, e0.bsz, fun b _ _ => noA b,
      fun b z => absurd z (noA b), e0.funs, e0.frf⟩,
    rfl, e0.bare, Un.kept kp, ⟨_, hns, fun i y v e1 e2 e3 => ?_⟩, fun y c e => ?_, e0.hok.fresh (Nat.le_refl _), fun y c e => (hc y c (cm e)).1, fun q hq => absurd (show q ∈ ([] : List (Addr × Obj)) ++ [] from hq) (by simp), e0.hok.kept kp, hlen⟩
  · have hy : scope.names.lookup y = some .cell ∨ scope.names.lookup y = some .free := hy
    rcases hy with hy | hy
    · exact absurd rfl (L.nocell _ (PySem.mem_of_lookup hy))
    · exact look hy
  · have z : false = true := z
    cases z
  · obtain ⟨k, c, u, h1, h2, h3⟩ := hl i y v e1 e2 e3
    obtain ⟨c2, hc2⟩ := look k
    have := cm hc2
    rw [h1] at this
    cases this
    exact ⟨u, h2, .inr ⟨.inr k, c, hc2, cellK h3⟩⟩
  · obtain ⟨v, z⟩ := (hc y c (cm e)).2
    exact ⟨v, cellK z⟩
end
/-! ### closures -/
/-- the promise of a call without arguments -/
def spC (K : PySem.W.Frag) (tb : ETab) {ρ : Type} (w : W ρ) (r : Rp ρ) (F H : Hp) (Q : VK) (E : XK) : Prop := ∃ (P : ρ → Prop) (PE : Er → Prop), w P PE ∧ (∀ x, P x → ∀ v F' H', Fn (bs0 F H []) F' H' → r.ok F' v x → Q v H') ∧ ∀ e, PE e → ∀ cls d F' H', Fn (bs0 F H []) F' H' → ErAt K tb F' e cls d → E cls d H'
/-- a function to be called without arguments, by its mirror -/
def rClo (P : Program) (w : World) (K : PySem.W.Frag) (mg : Str → Option Value) (base : Heap) (tb : ETab) (k : Nat) {ρ : Type} (r : Rp ρ) : Rp (W ρ) :=
  ⟨fun F v wf => ∃ (g : Addr) (φ : Heap → Prop), v = .ref g ∧ F g = some (.ext φ) ∧ (∀ h, φ h → PySem.W.FnAt g h) ∧ ∀ (A : Around) (outer : List PySem.Env) (s : Shared) (F' H : Hp) (Q : VK) (E : XK), Ex F F' → Ex F' H → Room k A → Env0 P w K mg base A outer s H → spC K tb wf r F' H Q E →
    codeAny (model P w) A (.call (.ref g) ⟨[], []⟩) (CR (L2.CX P w) outer P w H s Q E) s, fun e ⟨g, φ, h1, h2, h3, h4⟩ => ⟨g, φ, h1, e _ _ h2, h3, fun A o s F' H Q E e1 => h4 A o s F' H Q E (e.trans e1)⟩⟩
section
variable {X : Cx} {B : Bs} {env : Env} {os : Os} {tb : ETab} {ρ : Type} {r : Rp ρ}
/-- x(), x a name that holds one -/
theorem e_callClo (i : Nat) {k : Nat} {x : Str} {p pos : Pos} {wf : W ρ} (tk : Takes X (wB X.K tb B)) (hr : Room k X.A) (he : env[i]? = some (sv (rClo X.prog X.w X.K X.mg X.base tb k r) wf) := by rfl) (hN : X.N[i]? = some x := by rfl) (hv : Vis X.env.scope x := by first | exact Or.inl rfl | exact Or.inr (Or.inl rfl) | exact Or.inr (Or.inr rfl))
    (hd : (x == ("__debug__" : Str)) = false := by decide) (hcd : (x == ("__classdict__" : Str)) = false := by decide) : EE X B env os (.Call (.Name x p) [] [] pos) r wf := by
  refine ⟨fun pins s σ H Q I ⟨F, P, S, hw, k⟩ => ?_⟩
  obtain ⟨ov, h1, v, h2, g, φ, ev, hg, hφ, run⟩ := S.env.get he
  subst h2 ev
  refine wpAny_Call_Name_kw (thn ((pe_var (pos := p) hN hv hd hcd).run pins s σ H (fun v H1 => v = .ref g ∧ H1 = H) I ⟨.ref g, h1, rfl, rfl⟩) fun u s1 ⟨v, H1, I1, r1, e1, e2⟩ => ?_)
  subst e1 e2
  obtain rfl : u = Value.ref g := r1
  have hx : ObjOk X.prog X.w H1 s1.heap g (.ext φ) := I1.hok g _ (S.fh _ _ hg)
  refine PySem.W.callWith_F0 (hφ _ hx.1) ?_
  refine wpAny_call (codeAny_mono (run X.A X.stack s1 F H1 Q (eB X.K tb B) (Ex.refl F) S.fh hr I1.env0 ⟨P, B.E0, hw, fun y hy v F' H' fn ok => ?_, fun e he cls d F' H' fn er => ⟨e, F', he, S.backE OsLe.none fn, er⟩⟩) fun res s' hq => ?_)
  · exact k y hy v F' H' (S.back OsLe.none fn (fun p hp => by cases hp)) fn.bf ok
  · cases res with
    | error e => exact passB tk pins σ H1 s1 e s' I1 hq
    | ok fl =>
      cases fl with
      | ret u => exact I1.after hq
      | next => exact False.elim hq
      | brk => exact False.elim hq
      | cont => exact False.elim hq
end
/-! ### a lambda becomes a closure -/
open Classical in
noncomputable def cellZ (X : Cx) (h : Heap) : Addr → Option Obj := fun b => if ∃ y, X.env.cells.lookup y = some b then h.get? b else none
theorem cellZ_of {X : Cx} {h : Heap} {b : Addr} {o : Obj} (e : cellZ X h b = some o) : (∃ y, X.env.cells.lookup y = some b) ∧ h.get? b = some o := by
  unfold cellZ at e
  split at e
  · rename_i q
    exact ⟨q, e⟩
  · cases e
theorem cellZ_at {X : Cx} {h : Heap} {y : Str} {c : Addr} (e : X.env.cells.lookup y = some c) : cellZ X h c = h.get? c := by
  unfold cellZ
  rw [if_pos ⟨y, e⟩]
/-- how its parameters are bound: none, or one by its default -/
def LamBind (D : LamD) (df : Bool) (ps : List Str) : Prop :=
  if df then ps.length = 1 ∧ ∀ (td : Addr) (pm cv ct : Value), ∃ k, bindArgs (PySem.W.lmFn D.q D.params D.body D.scope D.cl (.ref td) pm cv ct) ⟨[], []⟩ = seqItems? (.ref td) >>= k ∧ ∀ u, k (some #[u]) = pure (ps.zip [u])
  else ps = [] ∧ ∀ (pm cv ct : Value), bindArgs (PySem.W.lmFn D.q D.params D.body D.scope D.cl .none pm cv ct) ⟨[], []⟩ = pure []
theorem wipe_none {σ : L2.St} {vs : List Nat} {i : Nat} {v : V} (h : (wipe σ vs)[i]? = some (some v)) : i ∉ vs ∧ σ[i]? = some (some v) := by
  induction vs with
  | nil => exact ⟨by simp, h⟩
  | cons a vs ih =>
    have h' : ((wipe σ vs).set a none)[i]? = some (some v) := h
    rw [List.getElem?_set] at h'
    split at h'
    · split at h' <;> cases h'
    · rename_i hne
      obtain ⟨h1, h2⟩ := ih h'
      exact ⟨fun z => by
        rcases List.mem_cons.mp z with e | e
        · exact hne e.symm
        · exact h1 e, h2⟩
theorem wipe_len {σ : L2.St} : ∀ vs : List Nat, (wipe σ vs).length = σ.length
  | [] => rfl
  | a :: vs => by
    show ((wipe σ vs).set a none).length = _
    rw [List.length_set, wipe_len vs]
section
variable {X : Cx} {B : Bs} {env : Env} {os : Os} {tb : ETab} {ρ : Type} {r : Rp ρ}
theorem clo_of {pins : List (Addr × Obj)} {σ : L2.St} {F H : Hp} {s : Shared} {v : V} {params : Arguments} {body : Expr} {scope : Scope} {df : Bool} {ps : List Str} {vs : List Nat} {k : Nat} {wf : W ρ} (I : Inv X pins σ H s) (S : Sit B F H σ env os)
    (hv : (rLam ⟨X.env.qual ++ "<lambda>", params, body, scope, cloFrom X.env.cells scope.names []⟩ df).ok F v ())
    (L : LamS2 X.env.scope scope ps) (hb : LamBind ⟨X.env.qual ++ "<lambda>", params, body, scope, cloFrom X.env.cells scope.names []⟩ df ps) (hvs : ∀ p ∈ ps, ∀ i, X.N[i]? = some p → i ∈ vs)
    (hbody : ∀ (A : Around) (outer : List PySem.Env) (s1 : Shared) (H1 : Hp) (E : XK) (f c' : Addr) (B' : Bs), Room k (A.deeper (lamEnv X scope s1.heap.objs.size f c')) → Takes (lamCx X A outer s1 H1 E scope f c') (wB X.K tb B') → EE (lamCx X A outer s1 H1 E scope f c') B' (wipeE env vs) [] body r wf) :
    (rClo X.prog X.w X.K X.mg X.base tb (k + 1) r).ok (addC (cellZ X s.heap) F) v wf := by
  obtain ⟨g, c', dV, ev, hg, hco, hd⟩ := hv
  have zH : ∀ b o, cellZ X s.heap b = some o → H b = none := fun b o e => let ⟨⟨y, h1⟩, _⟩ := cellZ_of e; I.freeC y b h1
  have zF : ∀ b u, F b = some u → cellZ X s.heap b = none := fun b u e => by
    cases z : cellZ X s.heap b with
    | none => rfl
    | some o => rw [fresh_back S.fh (zH b o z)] at e; cases e
  refine ⟨g, _, ev, (addC_none (zF _ _ hg)).trans hg, fun h ⟨pm, ctv, e⟩ => ⟨_, _, _, _, e⟩, fun A outer s1 F' H1 Q E e1 fh1 hr e0 ⟨P', PE, hw, hk, hx⟩ => ?_⟩
  have zF1 : ∀ b o, cellZ X s.heap b = some o → F' b = some (cellHO b o) := fun b o e => e1 _ _ (addC_some e)
  have zH1 : ∀ b o, cellZ X s.heap b = some o → H1 b = some (cellHO b o) := fun b o e => fh1 _ _ (zF1 b o e)
  have up : ∀ b u, F b = some u → F' b = some u := fun b u e => e1 _ _ ((addC_none (zF b u e)).trans e)
  have exm : Ex F (remC (cellZ X s.heap) F') := fun b u e => by rw [remC_none (zF b u e)]; exact up b u e
  have e0m := env0_rem e0 zH1
  have nfr : ∀ b o, cellZ X s.heap b = some o → b ∉ frs outer := fun b o e hb => by
    have := e0.frf b hb
    rw [zH1 b o e] at this
    cases this
  have atc : ∀ y c, X.env.cells.lookup y = some c → ∃ o, cellZ X s.heap c = some o ∧ s.heap.get? c = some o ∧ s1.heap.get? c = some o := fun y c e => by
    obtain ⟨v, o, ho, _⟩ := I.cell y c e
    have z : cellZ X s.heap c = some o := (cellZ_at e).trans ho
    exact ⟨o, z, ho, cell_at e0.hok (zH1 c o z)⟩
  obtain ⟨pm, ctv, ho⟩ : ∃ (pm ctv : Value), s1.heap.get? g = some ({ cls := .type "function", data := .func (PySem.W.lmFn (X.env.qual ++ "<lambda>") params body scope (cloFrom X.env.cells scope.names []) dV pm (.ref c') ctv) } : Obj) := by
    have x := e0.hok g _ (fh1 _ _ (up _ _ hg))
    exact x.1
  have hcode : s1.heap.CodeRec (.ref c') (X.env.qual ++ "<lambda>") := NdefX.codeO_at e0.hok (fh1 _ _ (up _ _ hco))
  obtain ⟨us, vs', rv, hul, hbind⟩ : ∃ (us : List Value) (vs' : List V), Vals vs' us ∧ us.length = ps.length ∧ ∀ (M : Model) (A : Around) (Q : List (Str × Value) → Shared → Prop) (E : Value → Shared → Prop), Q (ps.zip us) s1 → wpAny M A (bindArgs (PySem.W.lmFn (X.env.qual ++ "<lambda>") params body scope (cloFrom X.env.cells scope.names []) dV pm (.ref c') ctv) ⟨[], []⟩) Q E s1 := by
    unfold LamBind at hb
    unfold DfOk at hd
    cases df with
    | false =>
      obtain ⟨h1, h2⟩ := hb
      subst h1
      have hd : dV = .none := hd
      subst hd
      exact ⟨[], [], .nil, rfl, fun M A Q E q => by rw [h2]; exact wpAny_pure q⟩
    | true =>
      obtain ⟨h1, h2⟩ := hb
      obtain ⟨td, e1', e2'⟩ := hd
      subst e1'
      obtain ⟨kk, h3, h4⟩ := h2 td pm (.ref c') ctv
      have x := e0.hok td _ (fh1 _ _ (up _ _ e2'))
      obtain ⟨_, its, rv, o, ho', _, n, hod⟩ := x
      have hl := rv.length
      match its, rv, hod with
      | [u], rv, hod =>
        refine ⟨[u], [.int 0], rv, by rw [h1]; rfl, fun M A Q E q => ?_⟩
        rw [h3]
        refine wpAny_bind (wpAny_seqItems ho' hod ?_)
        have h5 := h4 u
        have h6 : kk (some ([u] : List Value).toArray) = pure (ps.zip [u]) := h5
        rw [h6]
        exact wpAny_pure q
  have lim : s1.heap.NoLimit := e0.mod.nolimit.keeps fun b o e => (e0.bs b o e).1
  refine PySem.W.kla_callFunE hr.depth ho rfl L.co L.gen rfl hcode ?_
  refine hbind _ _ _ _ (wpAny_newFunctionEnv L.nocell (fun ⟨n, _⟩ hy => L.par n (List.of_mem_zip hy).1) (fun h₁ hns hsb => ⟨lim.fresh _ hsb, ?_⟩) L.kind)
  show codeAny _ _ (.expr body (lamEnv X scope s1.heap.objs.size g c')) _ _
  have kp : ∀ b o, s1.heap.get? b = some o → h₁.get? b = some o := fun b o e => hsb.extBut b o (Nat.ne_of_lt (Heap.lt_size e)) (Heap.get?_push_of_some _ e)
  obtain ⟨B', hB'⟩ : ∃ B' : Bs, B' = { bs0 (remC (cellZ X s.heap) F') (remC (cellZ X s.heap) H1) [] with E0 := PE } := ⟨_, rfl⟩
  have J := lam_inv (s1 := s1) (f := g) (c' := c') (E := eB X.K tb B') (σ := wipe σ vs) (tk := s1.toks + (ps.zip us).length) I.ok L e0m hr.hd hns kp (fun y c e => by
      obtain ⟨o, z1, z2, z3⟩ := atc y c e
      obtain ⟨v, o', ho', hd'⟩ := I.cell y c e
      rw [z2] at ho'
      cases ho'
      exact ⟨remC_some z1, v, _, z3, hd'⟩) (fun i y v hy hi hvis => by
      obtain ⟨h1, h2⟩ := wipe_none hi
      have hf : scope.names.lookup y = some .free := by
        rcases hvis with k | k | k
        · exact absurd (hvs y (L.loc _ (PySem.mem_of_lookup k) rfl) i hy) h1
        · exact absurd rfl (L.nocell _ (PySem.mem_of_lookup k))
        · exact k
      obtain ⟨m, hn, hl⟩ := I.loc
      have hvis' : Vis X.env.scope y := (L.free _ (PySem.mem_of_lookup hf) rfl).elim (fun k => .inr (.inl k)) (fun k => .inr (.inr k))
      obtain ⟨u, ru, lu⟩ := hl i y v hy h2 hvis'
      refine ⟨hf, ?_⟩
      rcases lu with ⟨k', _⟩ | ⟨_, c, hc, o, ho2, hd2⟩
      · have k' : X.env.scope.names.lookup y = some .local := k'
        rcases L.free _ (PySem.mem_of_lookup hf) rfl with k2 | k2 <;> rw [show X.env.scope.names.lookup y = _ from k2] at k' <;> cases k'
      · obtain ⟨o', z1, z2, z3⟩ := atc y c hc
        rw [ho2] at z2
        cases z2
        exact ⟨c, u, hc, ru, _, z3, hd2⟩) (by rw [wipe_len]; exact I.len)
  have hbd := hbody A outer s1 (remC (cellZ X s.heap) H1) (eB X.K tb B') g c' B' (hr.deeper _) ((takes_of rfl rfl rfl rfl).imp fun cls d σ' H' h => h)
  have cur : ∀ {H' : Hp} {s' : Shared}, Un (frs outer) [] (remC (cellZ X s.heap) H1) H' s1.heap s'.heap → ∀ b o, cellZ X s.heap b = some o → s'.heap.get? b = some o ∧ H' b = none := fun {H' s'} un b o z => by
    have e := cell_at e0.hok (zH1 b o z)
    exact ⟨un.keep b o e (remC_some z) (nfr b o z) (by simp), un.free b o e (remC_some z) (by simp)⟩
  refine PySem.W.kla_codeExpr (wpAny_mono (hbd.run [] _ _ _ (fun v H2 => ∃ x F2, P' x ∧ Fn (bs0 (remC (cellZ X s.heap) F') (remC (cellZ X s.heap) H1) []) F2 H2 ∧ r.ok F2 v x) J ⟨remC (cellZ X s.heap) F', P', ?_, ?_, fun z hz v F2 H2 S2 e2 okz => ?_⟩) (fun u s' hq => ?_) fun e s' he => ?_)
  · subst hB'
    exact ⟨⟨ex_remC fh1, Ex.refl _, Ex.refl _, ex_remC fh1, fun a ha => (by cases ha), fun a o h1 h2 h3 => ⟨h2, h1⟩⟩, (S.env.mono exm).wipe vs, fun p hp => (by cases hp), List.nodup_nil⟩
  · subst hB'
    exact hw
  · subst hB'
    have f := S2.fin
    exact ⟨z, F2, hz, ⟨f.fh, f.bf, f.mrk, f.bb, f.ios, f.keep⟩, okz⟩
  · obtain ⟨v', H2, J', rv', x, F2, px, fn, okx⟩ := hq
    have cu := cur J'.base
    refine ⟨v', addC (cellZ X s.heap) H2, J'.os, J'.bare, un_add J'.base zH1, hok_add J'.hok cu, rv', hk x px v' (addC (cellZ X s.heap) F2) _ (fn_add fn fh1 zF1 fun b o z => (cu b o z).2) (r.mono (ex_add fun b o z => fresh_back fn.fh (cu b o z).2) okx)⟩
  · have conv : ∀ (e' : Value) (s'' : Shared), L2.CX X.prog X.w outer (remC (cellZ X s.heap) H1) s1 (eB X.K tb B') e' s'' → L2.CX X.prog X.w outer H1 s1 E e' s'' := fun e' s'' c => cx_add c zH1 e0.hok nfr fun cls d H' hfree ⟨er, F2, h1, h2, h3⟩ => by
      subst hB'
      exact hx er h1 cls d (addC (cellZ X s.heap) F2) _ (fn_add ⟨h2.fh, h2.bf, h2.mrk, h2.bb, h2.ios, h2.keep⟩ fh1 zF1 hfree) (h3.mono (ex_add fun b o z => fresh_back h2.fh (hfree b o z)))
    exact wpAny_mono he (fun _ s'' c => conv _ _ c) fun e' s'' c => conv _ _ c
end
/-! ### a call that takes closures -/
/-- what stands for x leans on no object that is told by what is true of it -/
def PlR {α : Type} (r : Rp α) : Prop := ∀ (F F' : Hp) (v : V) (x : α), (∀ a o, F a = some o → (∀ φ, o ≠ .ext φ) → F' a = some o) → r.ok F v x → r.ok F' v x
theorem pl_int : PlR rInt := fun _ _ _ _ _ h => h
theorem pl_bool : PlR rBool := fun _ _ _ _ _ h => h
theorem pl_str : PlR rStr := fun _ _ _ _ _ h => h
theorem pl_non : PlR rNon := fun _ _ _ _ _ h => h
section
variable {α β : Type} {r : Rp α} {s : Rp β} {K : PySem.W.Frag}
theorem pl_lst (h : PlR r) : PlR (rLst r) := fun F F' v x e ⟨a, vs, h1, h2, h3, h4⟩ => ⟨a, vs, h1, e _ _ h2 (fun φ z => by cases z), h3, Paired.imp (fun _ _ q => h F F' _ _ e q) h4⟩
theorem sqt_pl {F F' : Hp} {a : Addr} {vs : List V} (e : ∀ a o, F a = some o → (∀ φ, o ≠ .ext φ) → F' a = some o) (h : SqT K F a vs) : SqT K F' a vs := by
  rcases h with (h | ⟨o, h⟩) | h
  · exact .inl (.inl (e _ _ h (fun φ z => by cases z)))
  · exact .inl (.inr ⟨o, e _ _ h (fun φ z => by cases z)⟩)
  · exact .inr h
theorem sql_pl {F F' : Hp} {a : Addr} {vs : List V} (e : ∀ a o, F a = some o → (∀ φ, o ≠ .ext φ) → F' a = some o) (h : SqL K F a vs) : SqL K F' a vs := by
  rcases h with (h | ⟨o, h⟩) | h
  · exact .inl (.inl (e _ _ h (fun φ z => by cases z)))
  · exact .inl (.inr ⟨o, e _ _ h (fun φ z => by cases z)⟩)
  · exact .inr h
theorem pl_tup (h : PlR r) : PlR (rTup K r) := fun F F' v x e ⟨a, vs, h1, h2, h3, h4⟩ => ⟨a, vs, h1, sqt_pl e h2, h3, Paired.imp (fun _ _ q => h F F' _ _ e q) h4⟩
theorem pl_t2 (h : PlR r) (k : PlR s) : PlR (rT2 K r s) := fun F F' v x e ⟨a, v1, v2, h1, h2, h3, h4⟩ => ⟨a, v1, v2, h1, sqt_pl e h2, h _ _ _ _ e h3, k _ _ _ _ e h4⟩
theorem pl_D : PlR (rD K) := fun F F' v d e ⟨h, hc⟩ => ⟨by
  refine (show ∀ {v d}, Dp K F v d → Dp K F' v d from ?_) h
  intro v d h
  exact Dp.rec (K := K) (H := F) (motive_1 := fun v d _ => Dp K F' v d) (motive_2 := fun vs ds _ => DpAll K F' vs ds) .non .bl .int .str (fun h1 _ ih => .lst (sql_pl e h1) ih) (fun h1 _ ih => .tup (sqt_pl e h1) ih) .nil (fun _ _ i1 i2 => .cons i1 i2) h, hc⟩
end
section
variable {X : Cx} {B : Bs} {env : Env} {os : Os} {tb : ETab} {ι ρ : Type} {args : ι → Env} {wf : ι → W ρ} {ro : Rp ρ} {k : Nat} {f : Addr} {fd : FuncData} {ps : List Str}
theorem callC {pins : List (Addr × Obj)} {σ : L2.St} {F H : Hp} {s : Shared} {us : List Value} {vs : List V} {P : ρ → Prop} {Q : VK} (G : FnOk X.prog X.w X.K X.mg X.base CX0 k f fd ps (spW args (fun _ => []) wf ro)) (hr : Room k X.A) (hb : Binds X.K fd ps [])
    (hstk : X.stack = X.env :: X.outer) (hfr : X.env.frame = some X.env.locals) (hfn : ∀ x, X.fn x = true) (I : Inv X pins σ H s) (S : Sit B F H σ env os) (r : Vals vs us) (i : ι) (hargs : EnvOk (addC (cellZ X s.heap) F) (args i) (vs.map some)) (hw : wf i P (fun _ => False)) (pl : PlR ro)
    (kk : ∀ z, P z → ∀ v F' H', Sit B F' H' σ env os → Ex F F' → ro.ok F' v z → Q v H') : wpAny (model X.prog X.w) X.A (call (.ref f) us) (EP X pins σ Q) X.xe s := by
  have zok : ∀ b o, cellZ X s.heap b = some o → s.heap.get? b = some o ∧ H b = none ∧ b ∉ frs X.stack ∧ X.base.get? b = none := fun b o e => by
    obtain ⟨⟨y, h1⟩, h2⟩ := cellZ_of e
    have above := I.ok.cab y b (hfn y) h1
    refine ⟨h2, I.freeC y b h1, fun hm => ?_, ?_⟩
    · rw [hstk] at hm
      obtain ⟨en, hen, q⟩ := List.mem_filterMap.mp hm
      rcases List.mem_cons.mp hen with z | z
      · subst z
        rw [hfr] at q
        have q : X.env.locals = b := Option.some.inj q
        obtain ⟨m, ⟨oL, es, ep, e1, e2, _⟩, _⟩ := I.loc
        obtain ⟨v, oc, e3, e4⟩ := I.cell y b h1
        rw [q, e3] at e1
        cases e1
        rw [e4] at e2
        cases e2
      · obtain ⟨_, o', e', _⟩ := I.ok.funs.mem (List.mem_filterMap.mpr ⟨en, z, q⟩)
        exact absurd (Heap.lt_size e') (Nat.not_lt.mpr above)
    · cases z : X.base.get? b with
      | none => rfl
      | some o' => exact absurd (Heap.lt_size (I.ok.bs b o' z).1) (Nat.not_lt.mpr above)
  have zH : ∀ b o, cellZ X s.heap b = some o → H b = none := fun b o e => (zok b o e).2.1
  have e0 := env0_add I.env0 zok
  have hsp : spW args (fun _ => []) wf ro vs (addC (cellZ X s.heap) H) (fun v H' => (∀ b o, cellZ X s.heap b = some o → H' b = some (cellHO b o)) ∧ Q v (remC (cellZ X s.heap) H')) E0 := by
    refine ⟨i, addC (cellZ X s.heap) F, P, ex_addC S.fh, hargs, fun p hp => (by cases hp), List.nodup_nil, hw, fun x hx v F' H' fn ow ok => ⟨fun b o e => fn.fh _ _ (fn.bf _ _ (addC_some e)), ?_⟩⟩
    have f2 := fn_rem fn S.fh zH
    refine kk x hx v _ _ (S.back OsLe.none f2 (fun p hp => by cases hp)) f2.bf (pl _ _ _ _ (fun a o e n => ?_) ok)
    cases q : cellZ X s.heap a with
    | none => rw [remC_none q]; exact e
    | some o' =>
      have z := fn.bf _ _ (addC_some (H := F) q)
      rw [z] at e
      cases e
      exact absurd rfl (n _)
  have hl : us.length = ps.length := by rw [← r.length]; exact G.len _ _ _ _ hsp
  have b := hb s us I.kIn (by rw [List.append_nil]; exact hl)
  rw [List.append_nil] at b
  refine wpAny_call (codeAny_mono (G.run X.A X.stack s (addC (cellZ X s.heap) H) ⟨us, []⟩ us vs _ E0 hr e0 b r hsp) fun res s' hq => ?_)
  cases res with
  | error e => exact False.elim hq
  | ok fl =>
    cases fl with
    | ret u =>
      obtain ⟨v, H', os', bare, un, hok, rv, hc, q⟩ := hq
      exact I.after ⟨v, remC (cellZ X s.heap) H', os', bare, un_rem un hok (fun b o e => ⟨(zok b o e).1, (zok b o e).2.1, (zok b o e).2.2.1⟩) hc, hok_rem hok hc, rv, q⟩
    | next => exact False.elim hq
    | brk => exact False.elim hq
    | cont => exact False.elim hq
/-- f(e), e a list of lambdas or one: lifted to closures -/
theorem e_callC {x : Str} {e : Expr} {p pos : Pos} {α : Type} {rr : Rp α} {w : W α} (i : ι) (G : FnOk X.prog X.w X.K X.mg X.base CX0 k f fd ps (spW args (fun _ => []) wf ro)) (hr : Room k X.A) (hm : X.mg x = some (.ref f)) (hk : PySem.W.keepIn X.K (.ref f) = true) (hb : Binds X.K fd ps [])
    (ha : EE X B env os e rr w) (hstk : X.stack = X.env :: X.outer) (hfr : X.env.frame = some X.env.locals) (hfn : ∀ x, X.fn x = true) (pl : PlR ro)
    (conv : ∀ (pins : List (Addr × Obj)) (σ : L2.St) (F H : Hp) (s : Shared) (v : V) (y : α), Inv X pins σ H s → Sit B F H σ env os → rr.ok F v y → EnvOk (addC (cellZ X s.heap) F) (args i) [some v])
    (hg : Gl X x := by rfl) (hdb : (x == ("__debug__" : Str)) = false := by decide) (he : starEach [e] X.env = (false, eval e X.env) :: starEach [] X.env := by rfl) (hpl : (backTo pos (starEach [] X.env)).any (·.1) = false := by rfl) :
    EE X B env os (.Call (.Name x p) [e] [] pos) ro (bnd w fun _ => noX (wf i)) := by
  refine ⟨fun pins s σ H Q I ⟨F, P, S, hw, kk⟩ => ?_⟩
  refine wpAny_Call_Name_kw (ld_glob I hg hm ?_ hdb)
  have pa : PA X [e] (tCons (tOf B env os rr w) tNil) := pa_cons ha pa_nil he
  refine PySem.W.callWith_K (h₀ := X.base) I.ok.mod.kin hk (thn (pa.run pos pins s σ H (fun vs H1 => ∃ v F1 y, vs = [v] ∧ Sit B F1 H1 σ env os ∧ Ex F F1 ∧ rr.ok F1 v y ∧ noX (wf i) P B.E0) I ⟨F, _, S, hw, fun y hy v F1 H1 S1 e1 ok => ⟨v, F1, y, rfl, S1, e1, ok, hy⟩⟩) fun us s1 ⟨vs, H1, I1, r, v, F1, y, ev, S1, e1, ok, hw1⟩ => ⟨I1.kIn, ?_⟩) he hpl
  subst ev
  exact callC G hr hb hstk hfr hfn I1 S1 r i (conv pins σ F1 H1 s1 v y I1 S1 ok) hw1 pl fun z hz v F' H' S' e' ok' => kk z hz v F' H' S' (e1.trans e') ok'
end
end Mi

namespace Mi
open PySem L2 Evl
open PyProof.Rows (envOfC)

theorem flyingZ_keeps {B h h' : Heap} {l : List PySem.Env} {a : Addr} {Z : Obj → Prop} (R : HandSPX.FlyingZ B l a Z h) (k : ∀ b o, h.get? b = some o → h'.get? b = some o) : HandSPX.FlyingZ B l a Z h' := by
  obtain ⟨f1, f2, f3, oe, ws, T, oT, ts, he, hc, hd, h1, hn, hne, hT, hdT, h3⟩ := R
  exact ⟨fun b o q => k b o (f1 b o q), f2, f3.of_keeps fun b o q _ => ⟨o, k b o q, rfl⟩, oe, ws, T, oT, ts, k _ _ he, hc, hd, h1, hn, hne, k _ _ hT, hdT, h3⟩
/-- what the clause 'except (x1, x2) as n' wishes, where it takes all that comes -/
def wTup (K : PySem.W.Frag) (c1 c2 : Value) (i : Nat) (ts : Addr → Obj → Value → Option Addr → TS) (D : Ends) : WX := fun cls d σ H =>
  PySem.W.exmAny K cls [c1, c2] = some true ∧ ∀ a oe, H a = none → Zc cls d oe → (∃ vs, oe.data = .fields vs) → ts a oe cls d { nx := fun σ' H' => D.nx (σ'.set i none) H', rt := D.rt, bk := fun σ' H' => D.bk (σ'.set i none) H', ct := fun σ' H' => D.ct (σ'.set i none) H' } (σ.set i (some (.ref a))) H
section
variable {X : Cx} {x1 x2 n : Str} {c1 c2 : Value} {i kk : Nat} {body suite : List Stmt} {b₀ : Stmt} {np1 np2 tp pos pos' : Pos} {tb : WX → TS} {ts : Addr → Obj → Value → Option Addr → TS} {hds : List ExceptHandler}
theorem ps_try_tup2 (hs : X.stack = X.env :: X.outer) (hf : X.env.frame = some X.env.locals) (hN : X.N.Nodup) (hi : X.N[i]? = some n) (hln : X.env.kindOf n = some .local) (hc1 : Names X x1 c1) (hc2 : Names X x2 c2)
    (hb : ∀ (W : WX) (pn : List (Addr × Obj)) (xe : Value → Shared → Prop), Takes (X.tr pn xe) W → PassesOwn (model X.prog X.w) X.A X.env xe → PSs (X.tr pn xe) body (tb W))
    (hsu : ∀ (a : Addr) (oe : Obj) (cls : Value) (d : Option Addr) (pn : List (Addr × Obj)), Zc cls d oe → (∃ vs, oe.data = .fields vs) → PSs (X.suite a ((a, oe) :: pn)) (b₀ :: suite) (ts a oe cls d)) :
    PS X (.Try body (.ExceptHandler (some (.Tuple [.Name x1 np1, .Name x2 np2] kk tp)) (some n) (b₀ :: suite) pos' :: hds) [] [] pos) (fun D σ H => tb (wTup X.K c1 c2 i ts D) D σ H) := by
  refine ⟨fun pins s σ H D I h => ?_⟩
  have ok := I.ok
  have hfr : X.A.frames = some (X.env :: X.outer) := by rw [ok.frames, hs]
  have hloc : Loc X.env.scope n := .inl hln
  refine wpAny_Try_except ?_
  refine wpAny_mono ((hb (wTup X.K c1 c2 i ts D) (X.pn ++ pins) (fun e s₁ => wpAny (model X.prog X.w) X.A (noteFrame e X.env) (fun _ s₂ => wpAny (model X.prog X.w) X.A (setFlight e none) (fun _ s₃ =>
    wpAny (model X.prog X.w) X.A (handleBy e X.env (.ExceptHandler (some (.Tuple [.Name x1 np1, .Name x2 np2] kk tp)) (some n) (b₀ :: suite) pos' :: hds)) (SP X pins D) X.xe s₃) X.xe s₂) X.xe s₁) (fun u s' xx => ?_) PassesOwn.looking).run [] s σ H D (I.toTry _) h) (fun f s1 hsp => ?_) (fun e s1 he => he)
  · -- the catch
    obtain ⟨a, B, sI, pins', σ', H', cls, d, rfl, J', nb, up, sky, na, os, ag, hb1, hyes⟩ := xx
    have J : Inv X pins σ' H' sI := J'.ofTry ok
    have sky' : Sky B (X.env :: X.outer) a (Zc cls d) X.env.locals s'.heap := by rw [← hs]; exact sky
    show wpAny (model X.prog X.w) X.A (noteFrame (.ref a) X.env) _ _ _
    refine Sky.land Zc.steady hfr hf sky' fun h3 fl3 up3 => ?_
    have J3 : Inv X pins σ' H' { s' with heap := h3 } := J.landed nb fl3.1 (up.trans up3) os ag
    obtain ⟨oe3, vs3, he3, hz3, hd3⟩ := fl3.there
    have notFr : ∀ {h : Heap} {o : Obj} {vs : Array Value}, h.FunFrames B (X.env :: X.outer) → h.get? a = some o → o.data = .fields vs → a ∉ frs (X.env :: X.outer) := fun {h o vs} ff e dd hm => by
      obtain ⟨_, o', e', hnf⟩ := ff.mem hm
      rw [e] at e'; cases e'
      exact hnf _ dd
    have nfr := notFr fl3.2.2.1 he3 hd3
    have nL : a ≠ X.env.locals := fun z => nfr (List.mem_filterMap.mpr ⟨X.env, List.mem_cons_self, by rw [hf, z]⟩)
    have nF : a ∉ X.fs := fun hm => by
      obtain ⟨e, he, q⟩ := List.mem_filterMap.mp hm
      exact nfr (List.mem_filterMap.mpr ⟨e, List.mem_cons_of_mem _ he, q⟩)
    have S3 := J3.suite he3 hd3 na nL nF
    refine wpAny_handleBy_cons (codeAny_handlers_test ?_) (by intro q; cases q)
    have LT : PySem.W.Looks (model X.prog X.w) h3 (typeOf (.ref a)) cls := fun A Q E s k q => wpAny_typeOf_ref (k _ _ he3) (by rw [hz3.1]; exact q)
    have test : ∀ {x : Str} {c : Value} {np : Pos} {Q : Value → Shared → Prop} {E : Value → Shared → Prop}, Names X x c → Q c { s' with heap := h3 } → wpAny (model X.prog X.w) (X.A.mark (some (.ref a))) (eval (.Name x np) X.env) Q E { s' with heap := h3 } := fun {x c np Q E} hc q => by
      obtain ⟨hg, hdbg, hm | ⟨hm, hv, hnn⟩⟩ := hc
      · exact ld_glob (X := X.suite a ((a, oe3) :: (X.pn ++ pins))) S3 hg hm q hdbg
      · exact ld_blt (X := X.suite a ((a, oe3) :: (X.pn ++ pins))) S3 hg hm hv q hnn hdbg
    refine wpAny_Tuple ?_
    refine wpAny_items_cons (test hc1 ?_)
    refine wpAny_items_cons (test hc2 ?_)
    refine wpAny_items_nil ⟨by size_fits, ?_⟩
    have kp : ∀ q o, h3.get? q = some o → (h3.push { cls := .type "tuple", data := .seq [c1, c2].toArray }).get? q = some o := fun _ _ z => Heap.get?_push_of_some _ z
    have LM := PySem.W.exm_tup2 (M := model X.prog X.w) (J3.kIn.keeps kp) (LT.keeps kp) (Heap.get?_push_size h3 rfl) hb1
    refine LM.here ?_
    have fl3' := flyingZ_keeps fl3 kp
    have up3' := up3.trans (Heap.UpToSlots.of_keeps kp)
    refine codeAny_handlers_suite_as ?_
    refine HandSPX.lands_againZ (s := { s' with heap := h3.push { cls := .type "tuple", data := .seq [c1, c2].toArray } }) fl3' fun h4 fl4 up4 => ?_
    have J4 : Inv X pins σ' H' { s' with heap := h4 } := J.landed nb fl4.1 ((up.trans up3').trans up4) os ag
    obtain ⟨oe4, vs4, he4, hz4, hd4⟩ := fl4.there
    have S4 := J4.suite he4 hd4 na nL nF
    refine store_ok (X := X.suite a ((a, oe4) :: (X.pn ++ pins))) (v := .ref a) S4 hN hi hloc rfl (fun s5 S5 => ?_) (.inr hln)
    refine wpAny_mono ((hsu a oe4 cls d (X.pn ++ pins) hz4 ⟨_, hd4⟩).run [] s5 _ H' _ S5 (hyes a oe4 na hz4 ⟨_, hd4⟩)) (fun f s6 hsp => ?_) (fun _ _ z => False.elim z)
    have end_ : ∀ {σ6 : L2.St} {H6 : Hp} {Q : Shared → Prop}, Inv (X.suite a ((a, oe4) :: (X.pn ++ pins))) [] σ6 H6 s6 → (∀ s7, Inv X pins (σ6.set i none) H6 s7 → Q s7) →
        wpAny (model X.prog X.w) X.A (do bindName X.env n .none; unbindBehindTheSuite X.env n pos') (fun _ s7 => Q s7) X.xe s6 := fun {σ6 H6 Q} S6 hq => gone_ok (S6.unsuite ok) hN hi hln hq
    cases f with
    | next =>
      obtain ⟨σ6, H6, S6, q6⟩ := hsp
      exact end_ S6 fun s7 J7 => ⟨_, _, J7, q6⟩
    | brk =>
      obtain ⟨σ6, H6, S6, q6⟩ := hsp
      exact end_ S6 fun s7 J7 => ⟨_, _, J7, q6⟩
    | cont =>
      obtain ⟨σ6, H6, S6, q6⟩ := hsp
      exact end_ S6 fun s7 J7 => ⟨_, _, J7, q6⟩
    | ret u =>
      obtain ⟨v6, σ6, H6, S6, r6, q6⟩ := hsp
      exact end_ S6 fun s7 J7 => ⟨_, _, _, J7, r6, q6⟩
  · cases f with
    | next =>
      obtain ⟨σ', H', J', q⟩ := hsp
      exact wpAny_execs_nil ⟨σ', H', J'.ofTry ok, q⟩
    | brk =>
      obtain ⟨σ', H', J', q⟩ := hsp
      exact ⟨σ', H', J'.ofTry ok, q⟩
    | cont =>
      obtain ⟨σ', H', J', q⟩ := hsp
      exact ⟨σ', H', J'.ofTry ok, q⟩
    | ret u =>
      obtain ⟨v, σ', H', J', r, q⟩ := hsp
      exact ⟨v, σ', H', J'.ofTry ok, r, q⟩
end
end Mi

namespace Mi
open PySem L2 Evl
open PyProof.Rows (envOfC)

section
variable {X : Cx} {B : Bs} {env : Env} {os : Os} {pos : Pos} {α β : Type} {r : Rp α} {a b : Expr} {es : List Expr}
/-- (e, ..) of one kind -/
theorem e_tupL {w : W (List α)} {kk : Nat} (h : AL X B env os es r w) (hz : es.length ≤ sizeLine := by decide) : EE X B env os (.Tuple es kk pos) (rTup X.K r) w := PE.imp (pe_tup h) fun σ H Q ⟨F, P, S, hw, k⟩ => ⟨F, P, S, hw, fun xs hx vs F' H' S' e' ok hl =>
  ⟨by rw [hl]; exact hz, fun p hp => by
    have g : Grow F' H' (upd F' p (.tup vs)) (upd H' p (.tup vs)) := Grow.alloc S'.fh hp
    exact k xs hx (.ref p) _ _ (S'.grow g) (e'.trans g.f) ⟨p, vs, rfl, SqT.of upd_same, by rw [hl]; exact hz, Paired.imp (fun _ _ => r.mono g.f) ok⟩⟩⟩
theorem str_beq {x y : Str} : (x == y) = decide (x = y) := by
  rw [Bool.eq_iff_iff]
  simp
/-- in a tuple, a list of texts or numbers -/
theorem inV_str (x : Str) (ys : List Str) : inV (.str x) (ys.map V.str) = decide (x ∈ ys) := by
  induction ys with
  | nil => rfl
  | cons y ys ih =>
    unfold inV at ih ⊢
    rw [List.map_cons, List.any_cons, ih]
    show ((y == x) || _) = _
    rw [Bool.eq_iff_iff, Bool.or_eq_true, beq_iff_eq, decide_eq_true_eq, decide_eq_true_eq, List.mem_cons]
    exact ⟨fun h => h.elim (fun e => .inl e.symm) .inr, fun h => h.elim (fun e => .inl e.symm) .inr⟩
theorem inV_int (x : Int) (ys : List Int) : inV (.int x) (ys.map V.int) = decide (x ∈ ys) := by
  induction ys with
  | nil => rfl
  | cons y ys ih =>
    unfold inV at ih ⊢
    rw [List.map_cons, List.any_cons, ih]
    show ((y == x) || _) = _
    rw [Bool.eq_iff_iff, Bool.or_eq_true, beq_iff_eq, decide_eq_true_eq, decide_eq_true_eq, List.mem_cons]
    exact ⟨fun h => h.elim (fun e => .inl e.symm) .inr, fun h => h.elim (fun e => .inl e.symm) .inr⟩
theorem strs_map {F : Hp} : ∀ {vs : List V} {xs : List Str}, Paired (rStr.ok F) vs xs → vs = xs.map V.str
  | _, _, .nil => rfl
  | _, _, .cons h t => by
    rw [List.map_cons, ← strs_map t, h.1]
theorem sem_inST {K : PySem.W.Frag} : R2T (rIn K false) rStr (rTup K rStr) rBool (fun x ys => ret (decide (x ∈ ys))) := fun F H v u x ys P E Q fh o1 ⟨p, vs, e1, h1, h2, h3⟩ hw k => by
  have e := strs_map h3
  subst e
  refine ⟨p, _, e1, .inr (ex_t fh h1), by rw [o1.1]; rfl, by simp [flatV], ?_⟩
  show Q (.bl (inV v (ys.map V.str))) H
  rw [o1.1, inV_str]
  exact k _ hw _ F H (Grow.refl fh) rfl
theorem sem_inIL {K : PySem.W.Frag} : R2T (rIn K false) rInt (rLst rInt) rBool (fun x ys => ret (decide (x ∈ ys))) := fun F H v u x ys P E Q fh o1 ⟨p, vs, e1, h1, h2, h3⟩ hw k => by
  have e := ints_map h3
  have o1 : v = .int x := o1
  subst e o1
  refine ⟨p, _, e1, .inl (SqL.of (fh _ _ h1)), rfl, by simp [flatV], ?_⟩
  show Q (.bl (inV _ (ys.map V.int))) H
  rw [inV_int]
  exact k _ hw _ F H (Grow.refl fh) rfl
theorem sem_inIT {K : PySem.W.Frag} : R2T (rIn K false) rInt (rTup K rInt) rBool (fun x ys => ret (decide (x ∈ ys))) := fun F H v u x ys P E Q fh o1 ⟨p, vs, e1, h1, h2, h3⟩ hw k => by
  have e := ints_map h3
  have o1 : v = .int x := o1
  subst e o1
  refine ⟨p, _, e1, .inr (ex_t fh h1), rfl, by simp [flatV], ?_⟩
  show Q (.bl (inV _ (ys.map V.int))) H
  rw [inV_int]
  exact k _ hw _ F H (Grow.refl fh) rfl
theorem e_inST {w1 : W Str} {w2 : Str → W (List Str)} (ha : EE X B env os a rStr w1) (hb : ∀ x, EE X B env os b (rTup X.K rStr) (w2 x)) (hm : behindInMarks .In b = false := by rfl) : EE X B env os (.Compare a [.In] [b] pos) rBool (bnd w1 fun x => bnd (w2 x) fun y => ret (decide (x ∈ y))) := e_cmp op_in_seq sem_inST hm ha hb
theorem t_inST {w1 : W Str} {w2 : Str → W (List Str)} (ha : EE X B env os a rStr w1) (hb : ∀ x, EE X B env os b (rTup X.K rStr) (w2 x)) (hm : behindInMarks .In b = false := by rfl) : ET X B env os (.Compare a [.In] [b] pos) (bnd w1 fun x => bnd (w2 x) fun y => ret (decide (x ∈ y))) := t_cmp op_in_seq sem_inST hm ha hb
theorem e_inIL {w1 : W Int} {w2 : Int → W (List Int)} (ha : EE X B env os a rInt w1) (hb : ∀ x, EE X B env os b (rLst rInt) (w2 x)) (hm : behindInMarks .In b = false := by rfl) : EE X B env os (.Compare a [.In] [b] pos) rBool (bnd w1 fun x => bnd (w2 x) fun y => ret (decide (x ∈ y))) := e_cmp op_in_seq sem_inIL hm ha hb
theorem t_inIL {w1 : W Int} {w2 : Int → W (List Int)} (ha : EE X B env os a rInt w1) (hb : ∀ x, EE X B env os b (rLst rInt) (w2 x)) (hm : behindInMarks .In b = false := by rfl) : ET X B env os (.Compare a [.In] [b] pos) (bnd w1 fun x => bnd (w2 x) fun y => ret (decide (x ∈ y))) := t_cmp op_in_seq sem_inIL hm ha hb
theorem e_inIT {w1 : W Int} {w2 : Int → W (List Int)} (ha : EE X B env os a rInt w1) (hb : ∀ x, EE X B env os b (rTup X.K rInt) (w2 x)) (hm : behindInMarks .In b = false := by rfl) : EE X B env os (.Compare a [.In] [b] pos) rBool (bnd w1 fun x => bnd (w2 x) fun y => ret (decide (x ∈ y))) := e_cmp op_in_seq sem_inIT hm ha hb
theorem t_inIT {w1 : W Int} {w2 : Int → W (List Int)} (ha : EE X B env os a rInt w1) (hb : ∀ x, EE X B env os b (rTup X.K rInt) (w2 x)) (hm : behindInMarks .In b = false := by rfl) : ET X B env os (.Compare a [.In] [b] pos) (bnd w1 fun x => bnd (w2 x) fun y => ret (decide (x ∈ y))) := t_cmp op_in_seq sem_inIT hm ha hb
end

/-! ### a caught exception -/
/-- the exception at p, pinned while it is handled -/
def rExc (K : PySem.W.Frag) (tb : ETab) (p : Addr × Obj) : Rp Er := ⟨fun F v e => v = .ref p.1 ∧ (∃ vs, p.2.data = .fields vs) ∧ ∃ cls d, Zc cls d p.2 ∧ ErAt K tb F e cls d, fun x ⟨h1, h2, cls, d, h3, h4⟩ => ⟨h1, h2, cls, d, h3, h4.mono x⟩⟩
abbrev FTab := List (String × Option Str)
structure TbOk (K : PySem.W.Frag) (tb : ETab) (ft : FTab) : Prop where
  xf : ∀ t ∈ tb, XfC K t.2.1
  nc : ∀ t ∈ tb, PySem.W.findIn K (.ref t.2.1) "code" = some none
  nf : ∀ t ∈ tb, ∀ f, t.2.2 = some f → PySem.W.findIn K (.ref t.2.1) f = some none
  st : ∀ t ∈ tb, (Str.ofString t.1).length ≤ sizeLine ∧ PyData.strOk (Str.ofString t.1) = true
  ft : ∀ t ∈ tb, ft.lookup t.1 = some t.2.2
def excF (ft : FTab) (e : Er) (f : Str) : W PyData := chk (ft.lookup e.cls = some (some f)) (ret (e.vals.headD .none))
section
variable {X : Cx} {B : Bs} {env : Env} {os : Os} {pos : Pos} {tb : ETab} {ft : FTab} {q : Addr × Obj}
theorem pe_xfP {e : Expr} {te : TE} {n : Str} (hp : q ∈ X.pn) (he : PE X e te) (hb : attributeBase e n X.env (eval e X.env) = eval e X.env := by rfl) :
    PE X (.Attribute e n pos) (fun σ H Q => te σ H fun x H1 => x = .ref q.1 ∧ ∃ (C : Addr) (d : Option Addr), XfC X.K C ∧ PySem.W.findIn X.K (.ref C) n = some none ∧ Zc (.ref C) d q.2 ∧ (∃ vs, q.2.data = .fields vs) ∧ ∃ (dd : Addr) (fs : List (Str × V)) (v : V), d = some dd ∧ H1 dd = some (.xd fs) ∧ fs.lookup n = some v ∧ Q v H1) := by
  refine ⟨fun pins s σ H Q I h => ?_⟩
  refine attr_of hb (thn (he.run pins s σ H _ I h) fun u s1 hh => ?_)
  obtain ⟨x, H1, I1, rx, ex, C, d, T, hno, hz, hf, dd, fs, v, ed, ea, l, q'⟩ := hh
  subst ex
  obtain rfl : u = Value.ref q.1 := rx
  subst ed
  obtain ⟨ha, _⟩ := I1.pin q (List.mem_append_left _ hp)
  obtain ⟨vs, hd⟩ := hf
  have hx : ObjOk X.prog X.w H1 s1.heap dd (.xd fs) := I1.hok dd _ ea
  obtain ⟨mA, hns, hr⟩ := hx
  obtain ⟨od, ho, hl⟩ := lookIn_ns hns
  obtain ⟨u, hu, ru⟩ := RelO.some_of (v := v) (o := mA n) (by rw [← l]; exact hr n)
  have J : PySem.W.InstAt s1.heap q.1 q.2 C (some od) := ⟨ha, hz.1, by unfold PySem.W.notCls; rw [hd] <;> rfl, by rw [hz.2]; exact ho⟩
  exact HandSPX.exc_get I1.kIn J T.ga T.gg T.exC (PySem.W.findObj_own T.hdC hno rfl (by rw [hl, hu])) (handed_of ru) ⟨v, H1, I1.tok _, ru, q'⟩
theorem e_excCode (i : Nat) {x : Str} {p1 : Pos} {e : Er} (hp : q ∈ X.pn) (T : TbOk X.K tb ft) (he : env[i]? = some (sv (rExc X.K tb q) e) := by rfl) (hN : X.N[i]? = some x := by rfl) (hv : Vis X.env.scope x := by first | exact Or.inl rfl | exact Or.inr (Or.inl rfl) | exact Or.inr (Or.inr rfl))
    (hd : (x == ("__debug__" : Str)) = false := by decide) (hcd : (x == ("__classdict__" : Str)) = false := by decide) (hb : attributeBase (.Name x p1) "code" X.env (eval (.Name x p1) X.env) = eval (.Name x p1) X.env := by rfl) :
    EE X B env os (.Attribute (.Name x p1) "code" pos) rStr (ret (Str.ofString e.cls)) :=
  PE.imp (pe_xfP hp (pe_var hN hv hd hcd) hb) fun σ H Q ⟨F, P, S, hw, k⟩ => by
    obtain ⟨ov, h1, v, h2, h3, hf, cls, d, hz, C, fo, dd, fs, m1, m2, m3, m4, m5, m6⟩ := S.env.get he
    subst h2 h3 m2
    exact ⟨_, h1, rfl, C, d, T.xf _ m1, T.nc _ m1, hz, hf, dd, fs, _, m3, S.fh _ _ m4, m5, k _ hw _ F H S (Ex.refl F) ⟨rfl, (T.st _ m1).1, (T.st _ m1).2⟩⟩
theorem e_excFld (i : Nat) {x f : Str} {p1 : Pos} {e : Er} (hp : q ∈ X.pn) (T : TbOk X.K tb ft) (he : env[i]? = some (sv (rExc X.K tb q) e) := by rfl) (hN : X.N[i]? = some x := by rfl) (hv : Vis X.env.scope x := by first | exact Or.inl rfl | exact Or.inr (Or.inl rfl) | exact Or.inr (Or.inr rfl))
    (hd : (x == ("__debug__" : Str)) = false := by decide) (hcd : (x == ("__classdict__" : Str)) = false := by decide) (hb : attributeBase (.Name x p1) f X.env (eval (.Name x p1) X.env) = eval (.Name x p1) X.env := by rfl) :
    EE X B env os (.Attribute (.Name x p1) f pos) (rD X.K) (excF ft e f) :=
  PE.imp (pe_xfP hp (pe_var hN hv hd hcd) hb) fun σ H Q ⟨F, P, S, ⟨hc, hw⟩, k⟩ => by
    obtain ⟨ov, h1, v, h2, h3, hf, cls, d, hz, C, fo, dd, fs, m1, m2, m3, m4, m5, m6⟩ := S.env.get he
    subst h2 h3 m2
    have e1 := T.ft _ m1
    rw [hc] at e1
    have e1 : some (some f) = some fo := e1
    cases e1
    obtain ⟨v, y, z1, z2, z3⟩ := m6
    rw [z1] at hw
    exact ⟨_, h1, rfl, C, d, T.xf _ m1, T.nf _ m1 f rfl, hz, hf, dd, fs, v, m3, S.fh _ _ m4, z2, k _ hw v F H S (Ex.refl F) z3⟩
end
/-! ### a def called while an exception is handled -/
structure FnS (P : Program) (w : World) (K : PySem.W.Frag) (mg : Str → Option Value) (base : Heap) (k : Nat) (f : Addr) (fd : FuncData) (ps : List Str) (sp : Addr × Obj → Sp) : Prop where
  len : ∀ p vs H Q E, sp p vs H Q E → vs.length = ps.length
  run : ∀ (A : Around) (outer : List PySem.Env) (s : Shared) (H : Hp) (args : Args) (us : List Value) (vs : List V) (Q : VK) (p : Addr × Obj), L2H.RoomH k A → L2H.PinOk outer H s p → Env0 P w K mg base A outer s H → BindsTo s fd args (ps.zip us) → Vals vs us → sp p vs H Q E0 →
    codeAny (model P w) A (.call (.ref f) args) (CR CX0 outer P w H s Q E0) s
section
variable {P : Program} {w : World} {K : PySem.W.Frag} {mg : Str → Option Value} {base : Heap} {k : Nat} {f : Addr} {fd : FuncData} {ps N : List Str} {ι ρ : Type} {args : Addr × Obj → ι → Env} {wf : ι → W ρ} {ro : Rp ρ}
theorem okS {x qual : Str} {st : Stmt} (F : Fun K x qual st f fd) (S : FnScope N ps (defScope st)) (hl : ∀ p i, (args p i).length = ps.length)
    (body : ∀ (cdv : Value) (A : Around) (outer : List PySem.Env) (s : Shared) (H : Hp) (B : Bs) (p : Addr × Obj) (i : ι),
      BG (L2H.cxH CX0 P w K mg base N qual (defScope st) f cdv A outer s H E0 p) B (entry (args p i) (N.length - ps.length)) [] (defBody st) (pFn B [] ro) (wf i)) : FnS P w K mg base (k + 1) f fd ps (fun p => spW (args p) (fun _ => []) wf ro) := by
  obtain ⟨oc, od, kV, doc, pm, an, cdv, ct, osl, rfl, lk, hcd⟩ := F.ex
  refine ⟨fun p => spW_len (hl p), fun A outer s H args' us vs Q p hr hpin e0 hb r hsp => ?_⟩
  have hvl := spW_len (hl p) vs H Q E0 hsp
  have KX : K.In s.heap := e0.mod.kin.keeps fun b o e => (e0.bs b o e).1
  have lim : s.heap.NoLimit := e0.mod.nolimit.keeps fun b o e => (e0.bs b o e).1
  have hkind : ∀ y ∈ ps.zip us, (defScope st).names.lookup y.1 = some .local ∨ ((defScope st).names.lookup y.1 = some .cell ∧ ((cellsFrom (s.heap.objs.size + 1) (defScope st).names []).lookup y.1).isSome = true) := fun ⟨n, v⟩ hy => by
    rcases S.par n (List.of_mem_zip hy).1 with q | q
    · exact .inl q
    · exact .inr ⟨q, PySem.W.cellsFrom_some _ _ _ (.inl q)⟩
  obtain ⟨i, F0, P0, fh, he, ho, nd, hw, hk⟩ := hsp
  refine codeAny_call_function hr.depth (KX _ _ lk) rfl S.co S.gen rfl (PySem.W.codeRec_of KX hcd) (hb _ _ _ _ ?_)
  refine wpAny_newFunctionEnv_cells S.kind hkind fun env he' s1 x => ?_
  subst he'
  refine ⟨lim.keeps x.toInCall.keep, codeAny_func ?_⟩
  have I : Inv (L2H.cxH CX0 P w K mg base N qual (defScope st) f cdv A outer s H E0 p) [] (L2.start N vs) H s1 := L2H.inv_startH S hpin e0 hvl r x
  refine wpAny_mono ((body cdv A outer s H (bs0 F0 H []) p i).run [] s1 (L2.start N vs) H { nx := fun _ H' => Q .non H', rt := Q } I ⟨F0, P0, ⟨bs0_start fh ho, by rw [← hvl]; exact entry_ok he, fun p hp => (by cases hp), List.nodup_nil⟩, hw,
    fun y hy => ⟨fun v F' H' fn ow ok => hk y hy v F' H' fn ow ok, fun σ F' H' fn ow ok => hk y hy .non F' H' fn ow ok⟩⟩) (fun fl s' hs => ?_) fun e s' hs => hs
  have fin : ∀ {σ' : L2.St} {H' : Hp} {v : V} {u : Value}, Inv (L2H.cxH CX0 P w K mg base N qual (defScope st) f cdv A outer s H E0 p) [] σ' H' s' → RelV v u → Q v H' → CE outer P w H s Q u s' :=
    fun {σ' H' v u} J rv q => ⟨v, H', J.os, J.bare, J.base, J.hok, rv, q⟩
  cases fl with
  | ret u =>
    obtain ⟨v, σ', H', J, rv, q⟩ := hs
    exact fin J rv q
  | next =>
    obtain ⟨σ', H', J, q⟩ := hs
    exact fin (v := V.non) (u := Value.none) J rfl q
  | brk =>
    obtain ⟨_, _, _, q⟩ := hs
    exact False.elim q
  | cont =>
    obtain ⟨_, _, _, q⟩ := hs
    exact False.elim q
end
section
variable {X : Cx} {B : Bs} {env : Env} {os : Os} {pos p : Pos} {ι ρ : Type} {args : Addr × Obj → ι → Env} {wf : ι → W ρ} {ro : Rp ρ} {e : Expr} {es : List Expr} {x : Str} {k : Nat} {f : Addr} {fd : FuncData} {ps : List Str} {q : Addr × Obj}
theorem e_callS {w : W ι} (G : FnS X.prog X.w X.K X.mg X.base k f fd ps (fun p => spW (args p) (fun _ => []) wf ro)) (hp : q ∈ X.pn) (hr : L2H.RoomH k X.A) (hm : X.mg x = some (.ref f)) (hk : PySem.W.keepIn X.K (.ref f) = true) (hb : Binds X.K fd ps [])
    (ha : AA X B env os (e :: es) (args q) w) (hg : Gl X x := by rfl) (hdb : (x == ("__debug__" : Str)) = false := by decide)
    (he : starEach (e :: es) X.env = (false, eval e X.env) :: starEach es X.env := by rfl) (hpl : (backTo pos (starEach es X.env)).any (·.1) = false := by rfl) :
    EE X B env os (.Call (.Name x p) (e :: es) [] pos) ro (bnd w fun i => noX (wf i)) := by
  refine ⟨fun pins s σ H Q I h => ?_⟩
  refine wpAny_Call_Name_kw (ld_glob I hg hm ?_ hdb)
  refine PySem.W.callWith_K (h₀ := X.base) I.ok.mod.kin hk (thn (ha.run pos pins s σ H _ I (call_back (args := args q) (osf := fun _ => []) (fun _ => OsLe.none) (fun _ => List.nodup_nil) h)) fun us s1 ⟨vs, H1, I1, r, qq⟩ => ⟨I1.kIn, ?_⟩) he hpl
  show wpAny _ _ (call (.ref f) us) _ _ _
  have hl : us.length = ps.length := by rw [← r.length]; exact G.len q _ _ _ _ qq
  have b := hb s1 us I1.kIn (by rw [List.append_nil]; exact hl)
  rw [List.append_nil] at b
  have P1 := I1.pin q (List.mem_append_left _ hp)
  have hpin : L2H.PinOk X.stack H1 s1 q := ⟨P1.1, P1.2.1, fun hm => (List.mem_cons.mp (I1.stkSub q.1 hm)).elim P1.2.2.1 P1.2.2.2.1, P1.2.2.2.2⟩
  refine wpAny_call (codeAny_mono (G.run X.A X.stack s1 H1 ⟨us, []⟩ us vs Q q hr hpin I1.env0 b r qq) fun res s' hq => ?_)
  cases res with
  | error e => exact False.elim hq
  | ok fl =>
    cases fl with
    | ret u => exact I1.after hq
    | next => exact False.elim hq
    | brk => exact False.elim hq
    | cont => exact False.elim hq
end
end Mi

namespace Mi
open PySem L2 Evl
open PyProof.Rows (envOfC)

/-- try: w1, what is raised goes to w2 -/
def tryW {α : Type} (w1 : W α) (w2 : Er → W α) : W α := fun P E => w1 P fun e => w2 e P E
theorem takes_len {X : Cx} {W W' : WX} (t : Takes X W) (h : ∀ c d σ H, σ.length = X.N.length → W' c d σ H → W c d σ H) : Takes X W' := fun u s' ⟨a, B, sI, pins, σ, H, cls, d, e, I, nb, up, sky, na, os, ag, w⟩ =>
  t u s' ⟨a, B, sI, pins, σ, H, cls, d, e, I, nb, up, sky, na, os, ag, h _ _ _ _ I.len w⟩
theorem env_sa {F : Hp} : ∀ {σ : L2.St} {n : Nat}, σ.length = n → EnvOk F (List.replicate n sa) σ
  | [], _, h => by subst h; exact .nil
  | o :: σ, _, h => by
    subst h
    rw [List.length_cons, List.replicate_succ]
    exact .cons trivial (env_sa rfl)
section
variable {P : Program} {w : World} {K : PySem.W.Frag} {tb : ETab} {mg : Str → Option Value} {base : Heap} {k : Nat} {f C1 C2 : Addr} {fd : FuncData} {ps N : List Str} {ι ρ : Type} {args : ι → Env} {w1 : ι → W ρ} {w2 : Er → W ρ} {ro : Rp ρ}
theorem tryFn {x qual x1 x2 n : Str} {st b₀ : Stmt} {body suite : List Stmt} {hds : List ExceptHandler} {np1 np2 tp pos' pos : Pos} {kk i : Nat} (F : Fun K x qual st f fd) (S : FnScope N ps (defScope st)) (hl : ∀ i, (args i).length = ps.length)
    (hblk : defBody st = [.Try body (.ExceptHandler (some (.Tuple [.Name x1 np1, .Name x2 np2] kk tp)) (some n) (b₀ :: suite) pos' :: hds) [] [] pos]) (hi : N[i]? = some n) (hln : (defScope st).names.lookup n = some .local)
    (g1 : (defScope st).names.lookup x1 = some .globalImplicit) (g2 : (defScope st).names.lookup x2 = some .globalImplicit) (d1 : (x1 == ("__debug__" : Str)) = false) (d2 : (x2 == ("__debug__" : Str)) = false) (m1 : mg x1 = some (.ref C1)) (m2 : mg x2 = some (.ref C2))
    (hall : ∀ t ∈ tb, PySem.W.exmAny K (.ref t.2.1) [.ref C1, .ref C2] = some true)
    (hbody : ∀ (cdv : Value) (A : Around) (outer : List PySem.Env) (s : Shared) (H : Hp) (E : XK) (pn : List (Addr × Obj)) (xe : Value → Shared → Prop) (B : Bs) (i0 : ι), Room k (A.deeper (envOfC qual (defScope st) s.heap.objs.size f cdv)) →
      Takes ((cxOf CX0 P w K mg base N qual (defScope st) f cdv A outer s H E).nox.tr pn xe) (wB K tb B) → BG ((cxOf CX0 P w K mg base N qual (defScope st) f cdv A outer s H E).nox.tr pn xe) B (entry (args i0) (N.length - ps.length)) [] body (pFn B [] ro) (w1 i0))
    (hsuite : ∀ (cdv : Value) (A : Around) (outer : List PySem.Env) (s : Shared) (H : Hp) (E : XK) (a : Addr) (oe : Obj) (pn : List (Addr × Obj)) (B : Bs) (e : Er), Room k (A.deeper (envOfC qual (defScope st) s.heap.objs.size f cdv)) →
      BG ((cxOf CX0 P w K mg base N qual (defScope st) f cdv A outer s H E).nox.suite a ((a, oe) :: pn)) B ((List.replicate N.length sa).set i (sv (rExc K tb (a, oe)) e)) [] (b₀ :: suite) (pFn B [] ro) (w2 e)) :
    FnOk P w K mg base CX0 (k + 1) f fd ps (spW args (fun _ => []) (fun i0 => tryW (w1 i0) w2) ro) := by
  refine F.ok S (spW_len hl) fun cdv A outer s H vs Q E hr hsp => ?_
  have hvl := spW_len hl vs H Q E hsp
  obtain ⟨i0, F0, P0, fh, he, ho, nd, hw, hk⟩ := hsp
  obtain ⟨X, hX⟩ : ∃ X, X = (cxOf CX0 P w K mg base N qual (defScope st) f cdv A outer s H E).nox := ⟨_, rfl⟩
  obtain ⟨B1, hB1⟩ : ∃ B1 : Bs, B1 = { bs0 F0 H [] with E0 := fun e => w2 e P0 fun _ => False } := ⟨_, rfl⟩
  have fn1 : ∀ F' H', Fn B1 F' H' → Fn (bs0 F0 H []) F' H' := fun F' H' f => by
    subst hB1
    exact ⟨f.fh, f.bf, f.mrk, f.bb, f.ios, f.keep⟩
  have key : PSs X (defBody st) (fun D σ H' => D = { nx := fun _ H' => Q .non H', rt := Q } ∧ tBG B1 (entry (args i0) (N.length - ps.length)) [] (pFn B1 [] ro) (w1 i0) D σ H') := by
    rw [hblk]
    suffices one : PS X (.Try body (.ExceptHandler (some (.Tuple [.Name x1 np1, .Name x2 np2] kk tp)) (some n) (b₀ :: suite) pos' :: hds) [] [] pos) (fun D σ H' => D = { nx := fun _ H' => Q .non H', rt := Q } ∧ tBG B1 (entry (args i0) (N.length - ps.length)) [] (pFn B1 [] ro) (w1 i0) D σ H')
      from PSs.imp (pss_one one) fun _ _ _ q => q
    refine ⟨fun pins s' σ H' D I ⟨eD, h⟩ => ?_⟩
    refine (ps_try_tup2 (X := X) (i := i) (c1 := .ref C1) (c2 := .ref C2) (tb := fun W D σ H' => (∀ cls d σ H', σ.length = X.N.length → wB K tb B1 cls d σ H' → W cls d σ H') ∧ tBG B1 (entry (args i0) (N.length - ps.length)) [] (pFn B1 [] ro) (w1 i0) D σ H')
      (ts := fun a oe cls d => fun D σ H' => ∃ e, tBG (bs0 F0 H []) ((List.replicate N.length sa).set i (sv (rExc K tb (a, oe)) e)) [] (pFn (bs0 F0 H []) [] ro) (w2 e) D σ H') (by subst hX; rfl) (by subst hX; rfl) (by subst hX; exact S.nd) (by subst hX; exact hi) (by subst hX; exact hln) (by subst hX; exact ⟨g1, d1, .inl m1⟩) (by subst hX; exact ⟨g2, d2, .inl m2⟩)
      (fun W pn xe tk _ => ?_) (fun a oe cls d pn hz hv => ?_)).run pins s' σ H' D I ⟨?_, h⟩
    · refine ⟨fun pins s' σ H' D I ⟨hW, h⟩ => ?_⟩
      subst hX
      exact (hbody cdv A outer s H E pn xe B1 i0 hr (takes_len tk hW)).run pins s' σ H' D I h
    · refine PSs.ex fun e => ?_
      subst hX
      exact hsuite cdv A outer s H E a oe pn _ e hr
    · rintro cls d σ2 H2 hlen ⟨e, F2, h1, h2, h3⟩
      have h2' := fn1 F2 H2 (by subst hB1; exact ⟨h2.fh, h2.bf, h2.bf, h2.bb, h2.ios, h2.keep⟩)
      have h1' : w2 e P0 fun _ => False := by
        subst hB1
        exact h1
      obtain ⟨C, fo, dd, fs, q1, q2, q3⟩ := id h3
      refine ⟨by rw [q2, show X.K = K by subst hX; rfl]; exact hall _ q1, fun a oe na hz hv => ⟨e, F2, P0, ⟨h2', ?_, fun p hp => (by cases hp), List.nodup_nil⟩, h1', fun y hy => ?_⟩⟩
      · have hN : X.N.length = N.length := by
          subst hX
          rfl
        exact EnvOk.set (s := sv (rExc K tb (a, oe)) e) ⟨_, rfl, rfl, hv, cls, d, hz, h3⟩ (env_sa (by rw [hlen, hN]))
      · subst eD
        exact ⟨fun v F' H' fn ow ok => hk y hy v F' H' fn ow ok, fun σ F' H' fn ow ok => hk y hy .non F' H' fn ow ok⟩
  rw [hX] at key
  refine ⟨_, key, ⟨rfl, F0, P0, ⟨?_, ?_, fun p hp => (by cases hp), List.nodup_nil⟩, ?_, fun y hy => ⟨fun v F' H' fn ow ok => hk y hy v F' H' (fn1 _ _ fn) (fun p hp => by cases hp) ok, fun σ F' H' fn ow ok => hk y hy .non F' H' (fn1 _ _ fn) (fun p hp => by cases hp) ok⟩⟩⟩
  · have z := bs0_start (os := []) fh (fun p hp => by cases hp)
    subst hB1
    exact ⟨z.fh, z.bf, z.mrk, z.bb, z.ios, z.keep⟩
  · rw [← hvl]
    exact entry_ok he
  · subst hB1
    exact hw
end
end Mi

namespace Mi
open PySem L2 Evl LamX
open PyProof.Rows (envOfC IntsAre AllBare)

/-! ### the end of a law that makes lambdas: its table of code objects -/
theorem sqL_but {K : PySem.W.Frag} {H : Hp} {P a : Addr} {xs : List V} {ps : Array Value} (hP : H P = some (.tbl ps)) (h : SqL K H a xs) : SqL K (del H P) a xs := by
  have ne : ∀ o, H a = some o → o ≠ .tbl ps → a ≠ P := fun o e n z => by
    subst z
    rw [hP] at e
    exact n (Option.some.inj e).symm
  rcases h with (h | ⟨o, h⟩) | h
  · exact .inl (.inl ((del_ne (ne _ h (by intro z; cases z))).trans h))
  · exact .inl (.inr ⟨o, (del_ne (ne _ h (by intro z; cases z))).trans h⟩)
  · exact .inr h
theorem law_runT {P : Program} {w : World} {K : PySem.W.Frag} {mg mb : Str → Option Value} {k : Nat} {fa a c T : Addr} {fd : FuncData} {x : Str} {sp : Sp} {s : Shared} {vs : List Value}
    (KX : K.In s.heap) (hns : s.heap.Ns mainGlobals mg) (hb : s.heap.Ns builtinsNs mb) (hbb : ∀ x : Str, x ≠ "__name__" → mb x = bootBuiltins x) (hlim : s.heap.NoLimit) (hg : s.gens = #[])
    (hT : s.heap.get? T = some { cls := .none, data := .fields #[] }) (nT : K.lookup T = none) (C : PySem.W.CodeHd s.heap c T)
    (hbm : ∃ (bm : Addr) (ob : Obj), mg "__builtins__" = some (.ref bm) ∧ bm ≠ builtinsNs ∧ s.heap.get? bm = some ob ∧ ob.cls = .type "module" ∧ ob.dict = some builtinsNs ∧ ob.data = .plain)
    (ha : s.heap.get? a = some { cls := .type "list", data := .seq vs.toArray }) (hr : Room k callerA)
    (F : ∀ base : Heap, K.In base → base.Ns mainGlobals mg → TabB base mg c T → FnG P w K mg base CX0 k fa fd [x] sp) (hbind : ∀ (s : Shared) (u : Value), BindsTo s fd ⟨[u], []⟩ [(x, u)])
    {H : Hp} (hH : H T = some (.tbl #[])) (hO : ∀ b, H b = none ∨ b = T ∨ ∃ o xs, H b = some (.frz o (.lst xs))) (hok : HOk P w H s.heap) (hA : ∀ b, H b ≠ none → b = T ∨ b = a ∧ K.lookup a = none) (hsp : sp [.ref a] H (fun v _ => v = .bl true) fun _ _ _ => False) :
    codeAny (model P w) callerA (.call (.ref fa) ⟨[.ref a], []⟩) (fun r s' => r = .ok (.ret (.bool true)) ∧ OldK s.heap s'.heap ∧ s'.os = s.os ∧ AllBare s'.gens) s := by
  have noD : ∀ {b : Addr} {o : Obj}, s.heap.get? b = some o → (∀ vs n, o.data ≠ .seq vs n) → o.data ≠ .fields #[] → H b = none := fun {b o} e h1 h2 => by
    cases q : H b with
    | none => rfl
    | some u =>
      rcases hA b (by rw [q]; simp) with e' | ⟨e', _⟩
      · rw [e', hT] at e
        cases e
        exact (h2 rfl).elim
      · rw [e', ha] at e
        cases e
        exact (h1 _ _ rfl).elim
  have here : ∀ {b : Addr} {o : Obj}, s.heap.get? b = some o → H b = none → (hidT s.heap H).get? b = some o := fun e n => hidT_get e n
  have ns_ : ∀ {b : Addr} {m : Str → Option Value}, s.heap.Ns b m → (hidT s.heap H).Ns b m := fun {b m} ⟨o, es, ep, e, d, r⟩ => by
    refine ⟨o, es, ep, here e (noD e (fun vs n z => ?_) fun z => ?_), d, r⟩ <;> rw [d] at z <;> cases z
  have kin : K.In (hidT s.heap H) := fun b o e => here (KX b o e) (by
    cases q : H b with
    | none => rfl
    | some u =>
      rcases hA b (by rw [q]; simp) with e' | ⟨e', n⟩
      · rw [e', nT] at e
        cases e
      · rw [e', n] at e
        cases e)
  have md : L2.Mod K mg (hidT s.heap H) := ⟨kin, ns_ hns, ⟨mb, ns_ hb, hbb⟩, hlim.elim fun mc hm => ⟨mc, ns_ hm.1, hm.2⟩⟩
  have TB : TabB (hidT s.heap H) mg c T := by
    refine ⟨?_, ?_, fun z => ?_⟩
    · obtain ⟨o, us, file, tf, flags, tg, inF, text, tt, e1, r1, r2, r3, r4, r5, r6, r7, r8, hne⟩ := C
      refine ⟨o, us, file, tf, flags, tg, inF, text, tt, here e1 (noD e1 (fun vs n z => ?_) fun z => ?_), r1, r2, r3, r4, r5, r6, r7, r8, hne⟩
      · rw [r2] at z
        cases z
      · rw [r2] at z
        cases z
        simp at r3
    · obtain ⟨bm, ob, b1, b2, b3, b4, b5, b6⟩ := hbm
      have nG : bm ≠ mainGlobals := fun q => by
        obtain ⟨o, es, ep, e, hd, _⟩ := hns
        rw [q, e] at b3
        cases b3
        rw [hd] at b6
        cases b6
      have nP : bm ≠ T := fun q => by
        rw [q, hT] at b3
        cases b3
        cases b6
      refine ⟨bm, ob, b1, b2, nG, nP, here b3 (noD b3 (fun vs n z => ?_) fun z => ?_), b4, b5, b6⟩ <;> rw [b6] at z <;> cases z
    · obtain ⟨o, es, ep, e, hd, _⟩ := hns
      rw [z, hT] at e
      cases e
      cases hd
  have e0 : Env0 P w K mg (hidT s.heap H) callerA [] s H :=
    { frames := rfl, mod := md, bs := fun b o e => of_hidT e, bsz := Nat.le_of_eq (hidT_size _ _), funs := trivial, frf := fun b hb => (by cases hb), hok := hok, bare := .of_eq hg }
  refine codeAny_mono ((F _ kin (ns_ hns) TB).go callerA [] s H ⟨[.ref a], []⟩ [.ref a] [.ref a] _ _ rfl hr e0 (hbind s (.ref a)) (.cons rfl .nil) hsp) fun r s' h => ?_
  cases r with
  | error e => exact False.elim h
  | ok fl =>
    cases fl with
    | next => exact False.elim h
    | brk => exact False.elim h
    | cont => exact False.elim h
    | ret u =>
      obtain ⟨v, H', os, bare, un, hok', rv, q⟩ := h
      have q : v = .bl true := q
      subst q
      have rv : u = Value.bool true := rv
      subst rv
      have key : ∀ b o, b ≠ T → s.heap.get? b = some o → s'.heap.get? b = some o := fun b o nb e => by
        cases q : H b with
        | none => exact un.keep b o e q (fun z => by cases z) (fun z => by cases z)
        | some u =>
          rcases hO b with z | z | ⟨ob, xs, z⟩
          · rw [q] at z
            cases z
          · exact absurd z nb
          · have e1 := (hok b _ z).1
            have e2 := (hok' b _ (un.frzs b ob _ z)).1
            rw [e] at e1
            cases e1
            exact e2
      obtain ⟨more, hm⟩ : ∃ more : Array Value, s'.heap.get? T = some { cls := .none, data := .fields more } := by
        obtain ⟨more, z⟩ := un.tbls T #[] hH
        exact ⟨_, hok' T _ z⟩
      refine ⟨rfl, ⟨fun b o e => ?_, fun b o e => ?_⟩, os, bare⟩
      · by_cases hb : b = T
        · subst hb
          rw [hT] at e
          cases e
          exact .inr (.inl ⟨(C.tab hT).isCodeTable, rfl, #[], more, rfl, by rw [Array.empty_append]; exact hm⟩)
        · exact .inl (key b o hb e)
      · by_cases hb : b = T
        · subst hb
          exact ⟨_, hm⟩
        · exact ⟨o, key b o hb e⟩
theorem law_callGT {P : Program} {w : World} {K : PySem.W.Frag} {mg mb : Str → Option Value} {k : Nat} {fa a c T : Addr} {fd : FuncData} {x : Str} {sp : Sp} {s : Shared} {vs : List Value} {ns : List Int}
    (KX : K.In s.heap) (hns : s.heap.Ns mainGlobals mg) (hb : s.heap.Ns builtinsNs mb) (hbb : ∀ x : Str, x ≠ "__name__" → mb x = bootBuiltins x) (hlim : s.heap.NoLimit) (hg : s.gens = #[])
    (hT : s.heap.get? T = some { cls := .none, data := .fields #[] }) (nT : K.lookup T = none) (C : PySem.W.CodeHd s.heap c T)
    (hbm : ∃ (bm : Addr) (ob : Obj), mg "__builtins__" = some (.ref bm) ∧ bm ≠ builtinsNs ∧ s.heap.get? bm = some ob ∧ ob.cls = .type "module" ∧ ob.dict = some builtinsNs ∧ ob.data = .plain)
    (ha : s.heap.get? a = some { cls := .type "list", data := .seq vs.toArray }) (hi : IntsAre vs ns) (hl : ns.length ≤ sizeLine) (hr : Room k callerA)
    (F : ∀ base : Heap, K.In base → base.Ns mainGlobals mg → TabB base mg c T → FnG P w K mg base CX0 k fa fd [x] sp) (hbind : ∀ (s : Shared) (u : Value), BindsTo s fd ⟨[u], []⟩ [(x, u)])
    (hsp : ∀ H : Hp, H T = some (.tbl #[]) → SqL K H a (ns.map V.int) → sp [.ref a] H (fun v _ => v = .bl true) fun _ _ _ => False) :
    codeAny (model P w) callerA (.call (.ref fa) ⟨[.ref a], []⟩) (fun r s' => r = .ok (.ret (.bool true)) ∧ OldK s.heap s'.heap ∧ s'.os = s.os ∧ AllBare s'.gens) s := by
  have rv := vals_ints hi
  have lenV := hi.length
  have aT : a ≠ T := fun z => by
    subst z
    rw [ha] at hT
    have z' : Data.seq vs.toArray _ = Data.fields #[] := congrArg Obj.data (Option.some.inj hT)
    cases z'
  cases hk : K.lookup a with
  | some o =>
    have e := (KX a o hk).symm.trans ha
    have e' := Option.some.inj e
    subst e'
    obtain ⟨H, eH⟩ : ∃ H : Hp, H = fun b => if b = T then some (HO.tbl #[]) else none := ⟨_, rfl⟩
    have at_ : ∀ b, H b = if b = T then some (HO.tbl #[]) else none := fun b => by rw [eH]
    have at_T : H T = some (.tbl #[]) := (at_ T).trans (if_pos rfl)
    refine law_runT KX hns hb hbb hlim hg hT nT C hbm ha hr F hbind at_T (fun b => ?_) (fun b u z => ?_) (fun b z => ?_) (hsp _ at_T (.inr ⟨_, vs.toArray, _, hk, rfl, rfl, rfl, ?_, ?_⟩))
    · by_cases h : b = T
      · exact .inr (.inl h)
      · exact .inl ((at_ b).trans (if_neg h))
    · by_cases h : b = T
      · subst h
        cases at_T.symm.trans z
        exact hT
      · cases ((at_ b).trans (if_neg h)).symm.trans z
    · by_cases h : b = T
      · exact .inl h
      · exact absurd ((at_ b).trans (if_neg h)) z
    · rw [List.size_toArray, lenV]
      exact hl
    · exact rv
  | none =>
    obtain ⟨H, eH⟩ : ∃ H : Hp, H = fun b => if b = a then some (HO.frz { cls := .type "list", data := .seq vs.toArray } (.lst (ns.map V.int))) else if b = T then some (HO.tbl #[]) else none := ⟨_, rfl⟩
    have at_ : ∀ b, H b = if b = a then some (HO.frz { cls := .type "list", data := .seq vs.toArray } (.lst (ns.map V.int))) else if b = T then some (HO.tbl #[]) else none := fun b => by rw [eH]
    have at_T : H T = some (.tbl #[]) := (at_ T).trans ((if_neg (Ne.symm aT)).trans (if_pos rfl))
    have at_a : H a = some (HO.frz { cls := .type "list", data := .seq vs.toArray } (.lst (ns.map V.int))) := (at_ a).trans (if_pos rfl)
    refine law_runT KX hns hb hbb hlim hg hT nT C hbm ha hr F hbind at_T (fun b => ?_) (fun b u z => ?_) (fun b z => ?_) (hsp _ at_T (.inl (.inr ⟨_, at_a⟩)))
    · by_cases h : b = a
      · exact .inr (.inr ⟨_, _, by rw [h]; exact at_a⟩)
      · by_cases h2 : b = T
        · exact .inr (.inl h2)
        · exact .inl ((((at_ b).trans (if_neg h))).trans (if_neg h2))
    · by_cases h : b = a
      · subst h
        cases at_a.symm.trans z
        exact ⟨ha, by rw [List.length_map]; exact hl, vs, _, rv, ha⟩
      · have z1 := ((at_ b).trans (if_neg h)).symm.trans z
        by_cases h2 : b = T
        · subst h2
          cases at_T.symm.trans z
          exact hT
        · cases (if_neg h2).symm.trans z1
    · by_cases h : b = a
      · exact .inr ⟨h, hk⟩
      · by_cases h2 : b = T
        · exact .inl h2
        · exact absurd ((((at_ b).trans (if_neg h))).trans (if_neg h2)) z
/-- the goal that the head leaves -/
theorem walk_GT {l : PySem.W.OpenLaw} {n k : Nat} {q : Program} {loose : List Str} {XP : (Str → Option Value) → Heap → Prop} {YP : World → Heap → Prop} {d : DefRec} {K : Params → PySem.W.Frag} {sp : PySem.W.Frag → Addr → Sp} {x : Str} {ts : List Addr}
    (hn : l.most = some n) (hn2 : n ≤ sizeLine) (hdf : d.params.defaults = []) (hr : Room k callerA) (hY : ∀ (w : World) (h : Heap), YP w h → (K w.params).In h ∧ ∀ P ∈ ts, h.get? P = some { cls := .none, data := .fields #[] })
    (F : ∀ (w : World) (mg : Str → Option Value) (fa : Addr) (h : Heap), (K w.params).In h → h.Ns mainGlobals mg → mg d.name = some (.ref fa) →
      ∃ (fd : FuncData) (c T : Addr), T ∈ ts ∧ PySem.W.codeHdIn (K w.params) c T = true ∧ (K w.params).lookup T = none ∧ (∀ (s : Shared) (u : Value), BindsTo s fd ⟨[u], []⟩ [(x, u)]) ∧ ∀ base : Heap, (K w.params).In base → base.Ns mainGlobals mg → TabB base mg c T → FnG l.prog w (K w.params) mg base CX0 k fa fd [x] (sp (K w.params) T))
    (hsp : ∀ (K : PySem.W.Frag) (H : Hp) (a T : Addr) (ns : List Int), ns.length ≤ n → H T = some (.tbl #[]) → SqL K H a (ns.map V.int) → sp K T [.ref a] H (fun v _ => v = .bl true) fun _ _ _ => False) :
    PySem.W.WalkO q loose XP YP l.row.toRowW d [] (fun f vs => PySem.call f vs) :=
  Att.attach_callB hn hdf fun w s₀ s₁ mg mb fa o pm cd doc a vs ns G Y ho hd hcd hmg hobj hints hlen hbits hg => by
    obtain ⟨KX, ht⟩ := hY w _ Y
    obtain ⟨fd, c, T, hm, hc, nT, hb, hF⟩ := F w mg fa _ KX G.T.g hmg
    exact law_callGT KX G.T.g G.T.b G.T.builtins G.T.nolimit hg (ht T hm) nT (PySem.W.codeHd_of_K KX hc) G.T.bmain hobj hints (Nat.le_trans hlen hn2) hr hF hb fun H hH hS => hsp _ H a T ns hlen hH hS
/-- the law's promise, one's own table beside the script -/
theorem sp_tab {K : PySem.W.Frag} {H : Hp} {a T : Addr} {ns : List Int} {q : Str} {wf : List Int → W Bool} (hl : ns.length ≤ 63) (hT : H T = some (.tbl #[])) (hS : SqL K H a (ns.map V.int)) (ht : wf ns (fun x => x = true) fun _ => False) :
    spW (fun i : List Int × Unit => [sv (rScr K) i.1]) (fun _ => [(T, oTab q)]) (fun i => wf i.1) rBool [.ref a] H (fun v _ => v = .bl true) fun _ _ _ => False :=
  ⟨(ns, ()), del H T, fun x => x = true, fun b u e => by
    by_cases h : b = T
    · subst h
      rw [del_same] at e
      cases e
    · rw [del_ne h] at e
      exact e, .cons ⟨_, rfl, a, rfl, sqL_but hT hS, Nat.le_trans hl (by decide)⟩ .nil, fun p hp => by
    rw [List.mem_singleton.mp hp]
    exact ⟨del_same, _, hT, #[], rfl, trivial, fun pos cv h => by cases h⟩, by simp, ht, fun x hx v F' H' _ _ ok => by subst hx; exact ok⟩
end Mi

namespace Mi
open PySem L2 Evl

/-! ### own classes: ==, !=, truth, repr, int * x -/
section
variable {X : Cx} {k : Nat} {f C : Addr} {fd : FuncData} {ps : List Str} {sp : Sp}
theorem run_at {pins : List (Addr × Obj)} {σ : L2.St} {H : Hp} {s : Shared} {Q : VK} {us : List Value} {vs : List V} {A' : Around} {E' : Value → Shared → Prop} (G : FnOk X.prog X.w X.K X.mg X.base CX0 k f fd ps sp) (hr : Room k A') (hb : Binds X.K fd ps [])
    (I : Inv X pins σ H s) (e0 : Env0 X.prog X.w X.K X.mg X.base A' X.stack s H) (r : Vals vs us) (h : sp vs H Q fun _ _ _ => False) : wpAny (model X.prog X.w) A' (call (.ref f) us) (EP X pins σ Q) E' s := by
  have hl : us.length = ps.length := by rw [← r.length]; exact G.len _ _ _ _ h
  have b := hb s us I.kIn (by rw [List.append_nil]; exact hl)
  rw [List.append_nil] at b
  refine wpAny_call (codeAny_mono (G.run A' X.stack s H ⟨us, []⟩ us vs Q _ hr e0 b r h) fun res s' hq => ?_)
  cases res with
  | error e => exact False.elim hq
  | ok fl =>
    cases fl with
    | ret u => exact I.after hq
    | next => exact False.elim hq
    | brk => exact False.elim hq
    | cont => exact False.elim hq
theorem tru_own (G : FnOk X.prog X.w X.K X.mg X.base CX0 k f fd ps sp) (hr : Room k X.A) (hb : Binds X.K fd ps []) (hs : PySem.W.findIn X.K (.ref C) "__bool__" = some (some (.ref f))) (hf : PySem.W.isFn X.K (.ref f) = true) :
    TruR X (fun x H Q => ∃ a dx fs, x = .ref a ∧ H a = some (.ins C dx fs) ∧ sp [.ref a] H (fun v H' => ∃ b, v = .bl b ∧ Q b H') fun _ _ _ => False) := by
  intro pins s σ H x v Q I rx ⟨a, dx, fs, ex, ha, hsp⟩
  subst ex
  cases rx
  obtain ⟨mA, J, _⟩ := ins_get I.hok ha
  obtain ⟨od, J, _⟩ := J.look
  obtain ⟨m, hF⟩ := I.fr
  refine PySem.W.truthy_K hF I.ok.mod.kin J hs hf (wpAny_mono (run_at (us := [.ref a]) (vs := [.ref a]) G hr hb I I.env0 (.cons rfl .nil) hsp) (fun v s' z => ?_) fun _ _ z => z)
  obtain ⟨vv, H', I', rv, b, e, q⟩ := z
  subst e
  cases rv
  exact ⟨H', I', q⟩
theorem boolX {x : Value} {Q : Value → Shared → Prop} {E : Value → Shared → Prop} {prog : Program} {w : World} {A : Around} {s : Shared} (h : wpAny (model prog w) A.in1.in1 (truthy x) (fun b s' => Q (.bool b) s') E s) : wpAny (model prog w) A (call (.type "bool") [x]) Q E s := by
  refine PySem.callType_newIn F.called_bool F.newNe_bool (F.typeCall_bool_1 x) (F.newCall_bool_1 x) (fun obj => F.args_object_init_2 obj x) F.entry_bool_new
    (S := fun A R s => wpAny (model prog w) A.in1 (truthy x) (fun b s' => R (.ok (.ret (.bool b))) s') (fun e s' => R (.error e) s') s) (fun A R s hs => ?_) (wpAny_mono h (fun b s' q => ⟨rfl, q⟩) fun _ _ z => z)
  obtain ⟨hp, g, d, tk, os⟩ := s
  have f1 := F.conv_sub_bool
  repeat (any_goals (first | assumption | (with_reducible refine wpAny_bind (m := truthy _) ?_) | wp_step))
  refine wpAny_mono hs (fun b s' q => ?_) fun _ _ z => z
  repeat (any_goals (first | assumption | wp_step))
theorem call_boolO (G : FnOk X.prog X.w X.K X.mg X.base CX0 k f fd ps sp) (hr : Room (k + 2) X.A) (hb : Binds X.K fd ps []) (hs : PySem.W.findIn X.K (.ref C) "__bool__" = some (some (.ref f))) (hf : PySem.W.isFn X.K (.ref f) = true) :
    CallR X (.type "bool") (fun xs H Q => ∃ a dx fs, xs = [.ref a] ∧ H a = some (.ins C dx fs) ∧ sp [.ref a] H (fun v H' => ∃ b, v = .bl b ∧ Q (.bl b) H') fun _ _ _ => False) := by
  intro pins s σ H xs us Q I r ⟨a, dx, fs, ex, ha, hsp⟩
  subst ex
  obtain rfl := Vals.ref1 r
  obtain ⟨mA, J, _⟩ := ins_get I.hok ha
  obtain ⟨od, J, _⟩ := J.look
  obtain ⟨m, hF⟩ := I.fr
  refine boolX (PySem.W.truthy_K hF I.ok.mod.kin J hs hf (wpAny_mono (run_at (us := [.ref a]) (vs := [.ref a]) G (Room.in1 (k := k + 1) hr).in1 hb I I.env0.in1.in1 (.cons rfl .nil) hsp) (fun v s' z => ?_) fun _ _ z => z))
  obtain ⟨vv, H', I', rv, b, e, q⟩ := z
  subst e
  cases rv
  exact ⟨.bl b, H', I', rfl, q⟩
theorem call_reprO (hu : X.A.units + 100 < cLine) (G : FnOk X.prog X.w X.K X.mg X.base CX0 k f fd ps sp) (hr : Room (k + 1) X.A) (hb : Binds X.K fd ps []) (hs : PySem.W.findIn X.K (.ref C) "__repr__" = some (some (.ref f))) (hf : PySem.W.isFn X.K (.ref f) = true) :
    CallR X (.builtin "repr") (fun xs H Q => ∃ a dx fs, xs = [.ref a] ∧ H a = some (.ins C dx fs) ∧ sp [.ref a] H (fun v H' => ∃ b, v = .str b ∧ Q v H') fun _ _ _ => False) := by
  intro pins s σ H xs us Q I r ⟨a, dx, fs, ex, ha, hsp⟩
  subst ex
  obtain rfl := Vals.ref1 r
  obtain ⟨mA, J, _⟩ := ins_get I.hok ha
  obtain ⟨od, J, _⟩ := J.look
  obtain ⟨m, hF⟩ := I.fr
  refine PySem.W.repr_K (by show X.A.in1.units < cLine; have : X.A.in1.units = X.A.units + 1 := rfl; omega) hF I.ok.mod.kin J hs hf (wpAny_mono (run_at (us := [.ref a]) (vs := [.ref a]) G hr.in1 hb I I.env0.in1 (.cons rfl .nil) hsp) (fun v s' z => ?_) fun _ _ z => z)
  obtain ⟨vv, H', I', rv, b, e, q⟩ := z
  subst e
  obtain ⟨t, rfl⟩ := rv
  exact ⟨.str b, H', I', ⟨t, rfl⟩, q⟩
/-! the operators -/
theorem ownEq {op : CmpOp} (hu : X.A.units + 100 < cLine) (G : FnOk X.prog X.w X.K X.mg X.base CX0 k f fd ps sp) (hr : Room k X.A) (hb : Binds X.K fd ps []) (hs : PySem.W.findIn X.K (.ref C) (cmpInfo op).2.1 = some (some (.ref f))) (hf : PySem.W.isFn X.K (.ref f) = true) :
    OpR X (richCompare op) (fun x y H Q => ∃ a t dx fs, x = .ref a ∧ H a = some (.ins C dx fs) ∧ TyX X.K H y t ∧ PySem.W.notFirst X.K C t = true ∧ sp [.ref a, y] H Q fun _ _ _ => False) := by
  intro pins s σ H x y v u Q I rx ry ⟨a, t, dx, fs, ex, ha, ty, nf, hsp⟩
  subst ex
  cases rx
  obtain ⟨mA, J, _⟩ := ins_get I.hok ha
  obtain ⟨od, J, _⟩ := J.look
  obtain ⟨m, hF⟩ := I.fr
  obtain ⟨P, Z, p, _⟩ := kit_of I ry ty
  refine PySem.W.cmp_K (by omega) hF I.ok.mod.kin J (Z.ty _ _ I.kIn p) nf hs hf (wpAny_mono (run_at (us := [.ref a, u]) (vs := [.ref a, y]) G hr hb I I.env0 (.cons rfl (.cons ry .nil)) hsp) (fun v s' z => ?_) fun _ _ z => z)
  obtain ⟨vv, H', I', rv, q⟩ := z
  exact SlX.cmpback rv ⟨vv, H', I', rv, q⟩
theorem ifBound_objNe {K : PySem.W.Frag} {M : Model} {A : Around} {E : Value → Shared → Prop} {s : Shared} {x : Addr} {ox : Obj} {od : Option Obj} {args : List Value} {Q : Option Value → Shared → Prop} (Xk : K.In s.heap) (I : PySem.W.InstAt s.heap x ox C od) (hs : PySem.W.findIn K (.ref C) "__ne__" = some (some (.builtin "object.__ne__")))
    (h : wpAny M A (call (.builtin "object.__ne__") (.ref x :: args)) (fun v => Q (some v)) E s) : wpAny M A (callSpecialIfBound? (.ref x) "__ne__" args) Q E s := by
  simp only [callSpecialIfBound?, bindSpecialIfBound?]
  refine wpAny_holding (wpAny_bind (wpAny_bind (wpAny_bind (I.type.here ((PySem.W.looks_findIn Xk hs).here ?_)))))
  refine wpAny_bind (wpAny_askSetting (wpAny_ite ?_))
  have fin : wpAny M A (call (.builtin "object.__ne__") ([.ref x] ++ args) >>= fun v => pure (some v)) Q E s := wpAny_bind (wpAny_mono h (fun v s' h' => wpAny_pure h') fun _ _ h' => h')
  split
  · exact wpAny_bind (wpAny_of_eq (F.cmp_object.ne.bind _) (wpAny_pure (by exact fin)))
  · exact wpAny_tryCatch (wpAny_bind (wpAny_of_eq (F.cmp_object.ne.bind _) (wpAny_pure (by exact fin))))
theorem objNe {K : PySem.W.Frag} {prog : Program} {w : World} {A : Around} {E : Value → Shared → Prop} {s : Shared} {x : Addr} {ox : Obj} {od : Option Obj} {b : Value} {Q : Fin → Shared → Prop} (Xk : K.In s.heap) (I : PySem.W.InstAt s.heap x ox C od) (hu : A.units < cLine)
    (hs : PySem.W.findIn K (.ref C) "__eq__" = some (some (.ref f))) (hf : PySem.W.isFn K (.ref f) = true)
    (hcall : wpAny (model prog w) A (call (.ref f) [.ref x, b]) (fun v s' => ∃ c, v = .bool c ∧ Q (.done (.ret (.bool (!c)))) s') E s) :
    wpAny (model prog w) A (Builtin.«object.__ne__» ⟨[.ref x, b], []⟩) Q E s := by
  obtain ⟨h, g, d, t, os⟩ := s
  unfold Builtin.«object.__ne__»
  repeat (first
    | with_reducible refine wpAny_cRoomFor hu ?_
    | (refine wpAny_bind (m := callSpecialIfBound? (.ref x) (Str.ofString "__eq__") [b])
        (PySem.W.ifBound_K Xk I hs hf (wpAny_mono hcall (fun r s' hr => by
          obtain ⟨b, rfl, hq⟩ := hr
          repeat (first | exact hq | exact wpAny_pure hq | exact wpAny_truthy_bool hq | (refine wpAny_bind (m := truthy (.bool _)) (wpAny_truthy_bool ?_)) | wp_step)) fun _ _ e => e)))
    | wp_step)
theorem ownNe (hu : X.A.units + 100 < cLine) (G : FnOk X.prog X.w X.K X.mg X.base CX0 k f fd ps sp) (hr : Room (k + 1) X.A) (hb : Binds X.K fd ps []) (hs : PySem.W.findIn X.K (.ref C) "__eq__" = some (some (.ref f))) (hf : PySem.W.isFn X.K (.ref f) = true)
    (hn : PySem.W.findIn X.K (.ref C) "__ne__" = some (some (.builtin "object.__ne__"))) (hm : PySem.W.mroIn X.K C (.type "object") = some true) :
    OpR X (richCompare .NotEq) (fun x y H Q => ∃ a t dx fs, x = .ref a ∧ H a = some (.ins C dx fs) ∧ TyX X.K H y t ∧ PySem.W.notFirst X.K C t = true ∧ sp [.ref a, y] H (fun v H' => ∃ b, v = .bl b ∧ Q (.bl (!b)) H') fun _ _ _ => False) := by
  intro pins s σ H x y v u Q I rx ry ⟨a, t, dx, fs, ex, ha, ty, nf, hsp⟩
  subst ex
  cases rx
  obtain ⟨mA, J, _⟩ := ins_get I.hok ha
  obtain ⟨od, J, _⟩ := J.look
  obtain ⟨m, hF⟩ := I.fr
  obtain ⟨P, Z, p, _⟩ := kit_of I ry ty
  have hb' := Z.ty (model X.prog X.w) _ I.kIn p
  have one : wpAny (model X.prog X.w) X.A (tryCompare (.ref a) "__ne__" u) (fun r s' => ∃ v, r = some v ∧ EP X pins σ Q v s') X.xe s := by
    unfold tryCompare
    refine wpAny_bind (ifBound_objNe I.kIn J hn (wpAny_call (codeAny_call_builtin F.cmp_object.ne.plain F.cmpEntry_ne (PySem.W.check_slot F.cmpKind_ne F.cmpSplit_ne (J.type.andThen (PySem.W.looks_mroIn I.kIn hm)) (F.cmpArgs_ne _ _)
      (objNe I.kIn J (by show X.A.units + 1 < cLine; omega) hs hf (wpAny_mono (run_at (us := [.ref a, u]) (vs := [.ref a, y]) G hr.in1 hb I I.env0.in1 (.cons rfl (.cons ry .nil)) hsp) (fun v s' z => ?_) fun _ _ z => z))))))
    obtain ⟨vv, H', I', rv, b, e, q⟩ := z
    subst e
    cases rv
    exact ⟨b, rfl, wpAny_pure ⟨_, rfl, .bl (!b), H', I', rfl, q⟩⟩
  unfold richCompare
  simp only [oneThing_ref, cmpInfo_NotEq]
  refine wpAny_holding (wpAny_bind (wpAny_cRoomFor (by omega) ?_))
  refine wpAny_bind (J.type.here (wpAny_bind (hb'.here ?_)))
  split
  · rename_i q
    have e : PySem.W.subIn X.K t (.ref C) = some false := by
      rcases Bool.or_eq_true_iff.mp nf with e | e
      · rw [beq_iff_eq.mp e] at q; simp at q
      · exact beq_iff_eq.mp e
    refine wpAny_bind ((PySem.W.looks_subIn I.kIn e).here ?_)
    simp only [Bool.false_eq_true, if_false]
    refine wpAny_bind (m := tryCompare (.ref a) _ u) (wpAny_mono one (fun r s' z => ?_) fun _ _ e => e)
    obtain ⟨v, rfl, hq⟩ := z
    exact wpAny_pure hq
  · refine wpAny_bind (wpAny_pure ?_)
    simp only [Bool.false_eq_true, if_false]
    refine wpAny_bind (m := tryCompare (.ref a) _ u) (wpAny_mono one (fun r s' z => ?_) fun _ _ e => e)
    obtain ⟨v, rfl, hq⟩ := z
    exact wpAny_pure hq
/-! a number and an own object -/
/-- what int says where the class has the other side's name -/
structure RefI (K : PySem.W.Frag) (C f : Addr) (nm : String) : Prop where
  first : PySem.W.selfFirst K C = true
  at_ : PySem.W.findIn K (.ref C) (dunderR nm) = some (some (.ref f))
  fn : PySem.W.isFn K (.ref f) = true
  l : ∃ g, PySem.W.findIn K (.ref C) (PySem.dunder nm) = some (some (.ref g))
  sub : PySem.W.subIn K (.ref C) (.type "int") = some false
theorem q_mulO {prog : Program} {w : World} (i : Int) (t : Tok) (x : Addr) (o : Obj) (hd : o.data = .plain) :
    Meets (Builtin.«int.__mul__» ⟨[.int i t, .ref x], []⟩) (fun _ R s => s.heap.get? x = some o ∧ R (.ok (.ret Value.notImplemented)) s) :=
  .of_wp fun prog w A R s h => by
    obtain ⟨oc, od, dt, sl⟩ := o
    subst hd
    obtain ⟨hp, g, d, tk, os⟩ := s; obtain ⟨hl, h⟩ := h; wp_walk; exact ⟨_, rfl, h⟩
theorem op_refMul (G : FnOk X.prog X.w X.K X.mg X.base CX0 k f fd ps sp) (hr : Room k X.A) (hb : Binds X.K fd ps []) (c : RefI X.K C f "mul") :
    OpR X (binaryOp .Mult) (fun x y H Q => ∃ i a dx fs, x = .int i ∧ y = .ref a ∧ H a = some (.ins C dx fs) ∧ sp [.ref a, .int i] H Q fun _ _ _ => False) := by
  intro pins s σ H x y v u Q I rx ry ⟨i, a, dx, fs, ex, ey, ha, hsp⟩
  subst ex ey
  cases ry
  obtain ⟨tk, rfl⟩ := rx
  have hob : s.heap.get? a = some (PySem.W.instObj C dx) := (I.hok a _ ha).2.2.2.1
  obtain ⟨mA, J, _⟩ := ins_get I.hok ha
  obtain ⟨od, J, _⟩ := J.look
  obtain ⟨cd, rest, hcd, hm⟩ := PySem.W.ksp_first c.first
  obtain ⟨g, hg⟩ := c.l
  have two := PySem.W.ksp_try (M := model X.prog X.w) (A := X.A) (E := X.xe) (b := .int i tk) (Q := EP X pins σ Q) I.kIn J c.at_ c.fn (wpAny_mono (run_at (us := [.ref a, .int i tk]) (vs := [.ref a, .int i]) G hr hb I I.env0 (.cons rfl (.cons ⟨tk, rfl⟩ .nil)) hsp) (fun v s' z => by
    obtain ⟨vv, H', I', rv, q⟩ := z
    exact SlX.cmpback rv ⟨vv, H', I', rv, q⟩) fun _ _ z => z)
  have L1 : PySem.W.Looks (model X.prog X.w) s.heap (typeOf (.ref a)) (.ref C) := J.type
  have L3 : PySem.W.Looks (model X.prog X.w) s.heap (fillsNumberSlot (.ref C) "mul") true := PySem.W.fills_K I.kIn hcd hm hg
  have L5 : PySem.W.Looks (model X.prog X.w) s.heap (isSubtype (.ref C) (.type "int")) false := PySem.W.looks_subIn I.kIn c.sub
  have hne : (Value.type "int" == Value.ref C) = false := Bool.eq_false_iff.mpr fun q => by cases beq_iff_eq.mp q
  have hpy : numberSlotInPython (.type "int") "mul" = pure false := rfl
  have hinfo : (Operator.Mult).info = ("*", "mul") := rfl
  simp only [binaryOp, hinfo]
  refine wpAny_holding (wpAny_bind ?_)
  unfold binaryOp1
  refine wpAny_bind (wpAny_typeOf (typeIs_int s i tk) (wpAny_bind (L1.here (wpAny_bind (wpAny_of_eq F.fills_int_mul ?_)))))
  simp only [hne, Bool.false_eq_true, if_false]
  refine wpAny_bind (L3.here ?_)
  simp only [Bool.and_self, if_true]
  refine wpAny_bind (L5.here ?_)
  simp only [Bool.false_eq_true, if_false, pure_bind, Bool.not_false, Bool.and_self, if_true, hpy]
  refine wpAny_bind (wpAny_tryMethod_declines (T := "int") (typeIs_int s i tk) F.slot_int_mul (call_meets F.slot_int_mul (typeIs_int s i tk) F.entry_int_mul (F.args_int_mul_2 _ _) (q_mulO (prog := X.prog) (w := X.w) i tk a _ rfl) ⟨hob, rfl, ?_⟩))
  simp only [Bool.false_eq_true, if_false, pure_bind]
  refine wpAny_bind (wpAny_mono two (fun r s' z => ?_) fun _ _ z => z)
  obtain ⟨v, rfl, hq⟩ := z
  exact wpAny_bind (wpAny_rule (wpAny_pure (wpAny_pure hq)))
end
section
variable {X : Cx} {B : Bs} {env : Env} {os : Os} {pos p : Pos} {α β ρ : Type} {s : Rp β} {a b : Expr} {fl : α → List (Str × Slot)} {k : Nat} {f C : Addr} {fd : FuncData} {ps : List Str}
section
variable {wf : α × Unit → W Bool} {w1 : W α}
theorem t_truO (G : FnOk X.prog X.w X.K X.mg X.base CX0 k f fd ps (spW (fun q : α × Unit => [sv (rObj C fl) q.1]) (fun _ => []) wf rBool)) (hr : Room k X.A) (hb : Binds X.K fd ps []) (hs : PySem.W.findIn X.K (.ref C) "__bool__" = some (some (.ref f))) (hf : PySem.W.isFn X.K (.ref f) = true)
    (ha : EE X B env os a (rObj C fl) w1) (he : ∀ whole, isTrue a X.env whole = (do let v ← whole; standAt a.pos; holding [v] (truthy v)) := by intro _; rfl) : ET X B env os a (bnd w1 fun x => noX (wf (x, ()))) :=
  PT.imp (pt_truthR ha (tru_own G hr hb hs hf) he) fun σ H Q ⟨F, P, S, hw, kk⟩ => ⟨F, _, S, hw, fun x hx v F1 H1 S1 e1 ⟨y, dx, vs, ev, hy, hf⟩ => by
    subst ev
    refine ⟨y, dx, vs, rfl, S1.fh _ _ hy, (x, ()), F1, P, S1.fh, .cons ⟨_, rfl, y, dx, vs, rfl, hy, hf⟩ .nil, fun z hz => (by cases hz), List.nodup_nil, hx, fun z hz v F' H' fn ow okz => ?_⟩
    exact ⟨z, okz, kk z hz F' H' (S1.back OsLe.none fn ow) (e1.trans fn.bf)⟩⟩
theorem e_boolO (G : FnOk X.prog X.w X.K X.mg X.base CX0 k f fd ps (spW (fun q : α × Unit => [sv (rObj C fl) q.1]) (fun _ => []) wf rBool)) (hr : Room (k + 2) X.A) (hb : Binds X.K fd ps []) (hs : PySem.W.findIn X.K (.ref C) "__bool__" = some (some (.ref f))) (hf : PySem.W.isFn X.K (.ref f) = true)
    (ha : EE X B env os a (rObj C fl) w1) (hm : X.mg "bool" = none) (hg : Gl X "bool" := by rfl) (he : starEach [a] X.env = (false, eval a X.env) :: starEach [] X.env := by rfl) (hpl : (backTo pos (starEach [] X.env)).any (·.1) = false := by rfl) :
    EE X B env os (.Call (.Name "bool" p) [a] [] pos) rBool (bnd w1 fun x => noX (wf (x, ()))) :=
  PE.imp (pe_callTy (call_boolO G hr hb hs hf) hg hm (by decide +kernel) (pa_cons ha pa_nil he) (by decide) (by decide) he hpl) fun σ H Q ⟨F, P, S, hw, kk⟩ => ⟨F, _, S, hw, fun x hx v F1 H1 S1 e1 ⟨y, dx, vs, ev, hy, hf⟩ => by
    subst ev
    refine ⟨y, dx, vs, rfl, S1.fh _ _ hy, (x, ()), F1, P, S1.fh, .cons ⟨_, rfl, y, dx, vs, rfl, hy, hf⟩ .nil, fun z hz => (by cases hz), List.nodup_nil, hx, fun z hz v F' H' fn ow okz => ?_⟩
    exact ⟨z, okz, kk z hz (.bl z) F' H' (S1.back OsLe.none fn ow) (e1.trans fn.bf) rfl⟩⟩
end
theorem e_reprO {wf : α × Unit → W Str} {w1 : W α} (hu : X.A.units + 100 < cLine) (G : FnOk X.prog X.w X.K X.mg X.base CX0 k f fd ps (spW (fun q : α × Unit => [sv (rObj C fl) q.1]) (fun _ => []) wf rStr)) (hr : Room (k + 1) X.A) (hb : Binds X.K fd ps []) (hs : PySem.W.findIn X.K (.ref C) "__repr__" = some (some (.ref f))) (hf : PySem.W.isFn X.K (.ref f) = true)
    (ha : EE X B env os a (rObj C fl) w1) (hm : X.mg "repr" = none) (hg : Gl X "repr" := by rfl) (he : starEach [a] X.env = (false, eval a X.env) :: starEach [] X.env := by rfl) (hpl : (backTo pos (starEach [] X.env)).any (·.1) = false := by rfl) :
    EE X B env os (.Call (.Name "repr" p) [a] [] pos) rStr (bnd w1 fun x => noX (wf (x, ()))) :=
  PE.imp (pe_callB (call_reprO hu G hr hb hs hf) hg hm (by decide +kernel) (pa_cons ha pa_nil he) (by decide) (by decide) he hpl) fun σ H Q ⟨F, P, S, hw, kk⟩ => ⟨F, _, S, hw, fun x hx v F1 H1 S1 e1 ⟨y, dx, vs, ev, hy, hf⟩ => by
    subst ev
    refine ⟨y, dx, vs, rfl, S1.fh _ _ hy, (x, ()), F1, P, S1.fh, .cons ⟨_, rfl, y, dx, vs, rfl, hy, hf⟩ .nil, fun z hz => (by cases hz), List.nodup_nil, hx, fun z hz v F' H' fn ow okz => ?_⟩
    exact ⟨z, okz.1, kk z hz v F' H' (S1.back OsLe.none fn ow) (e1.trans fn.bf) okz⟩⟩
/-- x == y, x of an own class with its own __eq__, y of a kind with one type -/
def rOwnEq (X : Cx) (s : Rp β) (C : Addr) (fl : α → List (Str × Slot)) (wf : α × β × Unit → W Bool) (neg : Bool) : R2 := fun x y H Q => ∃ a t dx fs, x = .ref a ∧ H a = some (.ins C dx fs) ∧ TyX X.K H y t ∧ PySem.W.notFirst X.K C t = true ∧
      (spW (fun q : α × β × Unit => [sv (rObj C fl) q.1, sv s q.2.1]) (fun _ => []) wf rBool) [.ref a, y] H (fun v H' => ∃ b, v = .bl b ∧ Q (.bl (if neg = true then !b else b)) H') fun _ _ _ => False
theorem imp_eqO {wf : α × β × Unit → W Bool} {w1 : W α} {w2 : α → W β} {t : Value} {neg : Bool} (ty : TyR X.K s t) (nf : PySem.W.notFirst X.K C t = true) {σ : L2.St} {H : Hp} {Q : VK}
    (h : ∃ F P, Sit B F H σ env os ∧ (bnd w1 fun x => bnd (w2 x) fun y => noX (wf (x, y, ()))) P B.E0 ∧ ∀ z, P z → ∀ F' H', Sit B F' H' σ env os → Ex F F' → Q (.bl (if neg = true then !z else z)) H') :
    tOp (rOwnEq X s C fl wf neg) (tOf B env os (rObj C fl) w1) (fun σ H Q => ∃ x, tOf B env os s (w2 x) σ H Q) σ H Q := by
  obtain ⟨F, P, S, hw, kk⟩ := h
  exact ⟨F, _, S, hw, fun x hx v F1 H1 S1 e1 ⟨y, dx, vs, ev, hy, hf⟩ => ⟨x, F1, _, S1, hx, fun x2 hx2 u F2 H2 S2 e2 ok2 => by
    subst ev
    refine ⟨y, t, dx, vs, rfl, S2.fh _ _ (e2 _ _ hy), ty F2 H2 u x2 ok2 S2.fh, nf, (x, x2, ()), F2, P, S2.fh, .cons ⟨_, rfl, y, dx, vs, rfl, e2 _ _ hy, hf.mono e2⟩ (.cons ⟨_, rfl, ok2⟩ .nil), fun z hz => (by cases hz), List.nodup_nil, hx2, fun z hz v F' H' fn ow okz => ?_⟩
    exact ⟨z, okz, kk z hz F' H' (S2.back OsLe.none fn ow) ((e1.trans e2).trans fn.bf)⟩⟩⟩
section
variable {wf : α × β × Unit → W Bool} {w1 : W α} {w2 : α → W β} {t : Value}
theorem op_eqO (hu : X.A.units + 100 < cLine) (G : FnOk X.prog X.w X.K X.mg X.base CX0 k f fd ps (spW (fun q : α × β × Unit => [sv (rObj C fl) q.1, sv s q.2.1]) (fun _ => []) wf rBool)) (hr : Room k X.A) (hb : Binds X.K fd ps []) (hs : PySem.W.findIn X.K (.ref C) "__eq__" = some (some (.ref f))) (hf : PySem.W.isFn X.K (.ref f) = true) :
    OpR X (compareOp .Eq) (rOwnEq X s C fl wf false) := fun pins s σ H x y v u Q I rx ry ⟨a, t, dx, fs, h1, h2, h3, h4, i, F, P, h5⟩ => ownEq (op := .Eq) hu G hr hb hs hf pins s σ H x y v u Q I rx ry ⟨a, t, dx, fs, h1, h2, h3, h4, i, F, P, h5.1, h5.2.1, h5.2.2.1, h5.2.2.2.1, h5.2.2.2.2.1, fun x px v' F' H' fn ow ok => by
    obtain ⟨b, e, q⟩ := h5.2.2.2.2.2 x px v' F' H' fn ow ok
    subst e
    exact q⟩
theorem op_neO (hu : X.A.units + 100 < cLine) (G : FnOk X.prog X.w X.K X.mg X.base CX0 k f fd ps (spW (fun q : α × β × Unit => [sv (rObj C fl) q.1, sv s q.2.1]) (fun _ => []) wf rBool)) (hr : Room (k + 1) X.A) (hb : Binds X.K fd ps []) (hs : PySem.W.findIn X.K (.ref C) "__eq__" = some (some (.ref f))) (hf : PySem.W.isFn X.K (.ref f) = true)
    (hn : PySem.W.findIn X.K (.ref C) "__ne__" = some (some (.builtin "object.__ne__"))) (hmr : PySem.W.mroIn X.K C (.type "object") = some true) : OpR X (compareOp .NotEq) (rOwnEq X s C fl wf true) :=
  fun pins s σ H x y v u Q I rx ry ⟨a, t, dx, fs, h1, h2, h3, h4, h5⟩ => ownNe hu G hr hb hs hf hn hmr pins s σ H x y v u Q I rx ry ⟨a, t, dx, fs, h1, h2, h3, h4, h5⟩
theorem e_eqO (hu : X.A.units + 100 < cLine) (G : FnOk X.prog X.w X.K X.mg X.base CX0 k f fd ps (spW (fun q : α × β × Unit => [sv (rObj C fl) q.1, sv s q.2.1]) (fun _ => []) wf rBool)) (hr : Room k X.A) (hb : Binds X.K fd ps []) (hs : PySem.W.findIn X.K (.ref C) "__eq__" = some (some (.ref f))) (hf : PySem.W.isFn X.K (.ref f) = true)
    (ty : TyR X.K s t) (nf : PySem.W.notFirst X.K C t = true) (ha : EE X B env os a (rObj C fl) w1) (hb' : ∀ x, EE X B env os b s (w2 x)) (hm : behindInMarks .Eq b = false := by rfl) :
    EE X B env os (.Compare a [.Eq] [b] pos) rBool (bnd w1 fun x => bnd (w2 x) fun y => noX (wf (x, y, ()))) := PE.imp (pe_cmpR (op_eqO hu G hr hb hs hf) ha (PE.ex hb') hm) fun σ H Q ⟨F, P, S, hw, kk⟩ => imp_eqO ty nf ⟨F, P, S, hw, fun z hz F' H' S' e' => kk z hz (.bl z) F' H' S' e' rfl⟩
theorem t_eqO (hu : X.A.units + 100 < cLine) (G : FnOk X.prog X.w X.K X.mg X.base CX0 k f fd ps (spW (fun q : α × β × Unit => [sv (rObj C fl) q.1, sv s q.2.1]) (fun _ => []) wf rBool)) (hr : Room k X.A) (hb : Binds X.K fd ps []) (hs : PySem.W.findIn X.K (.ref C) "__eq__" = some (some (.ref f))) (hf : PySem.W.isFn X.K (.ref f) = true)
    (ty : TyR X.K s t) (nf : PySem.W.notFirst X.K C t = true) (ha : EE X B env os a (rObj C fl) w1) (hb' : ∀ x, EE X B env os b s (w2 x)) (hm : behindInMarks .Eq b = false := by rfl) :
    ET X B env os (.Compare a [.Eq] [b] pos) (bnd w1 fun x => bnd (w2 x) fun y => noX (wf (x, y, ()))) := PT.imp (pt_cmpR (op_eqO hu G hr hb hs hf) ha (PE.ex hb') hm) fun σ H Q ⟨F, P, S, hw, kk⟩ => imp_eqO ty nf ⟨F, P, S, hw, fun z hz F' H' S' e' => ⟨z, rfl, kk z hz F' H' S' e'⟩⟩
theorem e_neO (hu : X.A.units + 100 < cLine) (G : FnOk X.prog X.w X.K X.mg X.base CX0 k f fd ps (spW (fun q : α × β × Unit => [sv (rObj C fl) q.1, sv s q.2.1]) (fun _ => []) wf rBool)) (hr : Room (k + 1) X.A) (hb : Binds X.K fd ps []) (hs : PySem.W.findIn X.K (.ref C) "__eq__" = some (some (.ref f))) (hf : PySem.W.isFn X.K (.ref f) = true)
    (hn : PySem.W.findIn X.K (.ref C) "__ne__" = some (some (.builtin "object.__ne__"))) (hmr : PySem.W.mroIn X.K C (.type "object") = some true) (ty : TyR X.K s t) (nf : PySem.W.notFirst X.K C t = true) (ha : EE X B env os a (rObj C fl) w1) (hb' : ∀ x, EE X B env os b s (w2 x)) (hm : behindInMarks .NotEq b = false := by rfl) :
    EE X B env os (.Compare a [.NotEq] [b] pos) rBool (bnd (bnd w1 fun x => bnd (w2 x) fun y => noX (wf (x, y, ()))) fun b => ret (!b)) := PE.imp (pe_cmpR (op_neO hu G hr hb hs hf hn hmr) ha (PE.ex hb') hm) fun σ H Q ⟨F, P, S, hw, kk⟩ => imp_eqO ty nf ⟨F, _, S, hw, fun z hz F' H' S' e' => kk (!z) hz (.bl (!z)) F' H' S' e' rfl⟩
theorem t_neO (hu : X.A.units + 100 < cLine) (G : FnOk X.prog X.w X.K X.mg X.base CX0 k f fd ps (spW (fun q : α × β × Unit => [sv (rObj C fl) q.1, sv s q.2.1]) (fun _ => []) wf rBool)) (hr : Room (k + 1) X.A) (hb : Binds X.K fd ps []) (hs : PySem.W.findIn X.K (.ref C) "__eq__" = some (some (.ref f))) (hf : PySem.W.isFn X.K (.ref f) = true)
    (hn : PySem.W.findIn X.K (.ref C) "__ne__" = some (some (.builtin "object.__ne__"))) (hmr : PySem.W.mroIn X.K C (.type "object") = some true) (ty : TyR X.K s t) (nf : PySem.W.notFirst X.K C t = true) (ha : EE X B env os a (rObj C fl) w1) (hb' : ∀ x, EE X B env os b s (w2 x)) (hm : behindInMarks .NotEq b = false := by rfl) :
    ET X B env os (.Compare a [.NotEq] [b] pos) (bnd (bnd w1 fun x => bnd (w2 x) fun y => noX (wf (x, y, ()))) fun b => ret (!b)) := PT.imp (pt_cmpR (op_neO hu G hr hb hs hf hn hmr) ha (PE.ex hb') hm) fun σ H Q ⟨F, P, S, hw, kk⟩ => imp_eqO ty nf ⟨F, _, S, hw, fun z hz F' H' S' e' => ⟨!z, rfl, kk (!z) hz F' H' S' e'⟩⟩
end
theorem e_refMul {wf : α × Int × Unit → W ρ} {ro : Rp ρ} {w1 : W Int} {w2 : Int → W α} (G : FnOk X.prog X.w X.K X.mg X.base CX0 k f fd ps (spW (fun q : α × Int × Unit => [sv (rObj C fl) q.1, sv rInt q.2.1]) (fun _ => []) wf ro)) (hr : Room k X.A) (hb : Binds X.K fd ps []) (c : RefI X.K C f "mul")
    (ha : EE X B env os a rInt w1) (hb' : ∀ x, EE X B env os b (rObj C fl) (w2 x)) : EE X B env os (.BinOp a .Mult b pos) ro (bnd w1 fun x => bnd (w2 x) fun y => noX (wf (y, x, ()))) :=
  PE.imp (pe_op (op_refMul G hr hb c) ha (PE.ex hb')) fun σ H Q ⟨F, P, S, hw, kk⟩ => ⟨F, _, S, hw, fun i hi v F1 H1 S1 e1 eu => ⟨i, F1, _, S1, hi, fun x hx u F2 H2 S2 e2 ⟨y, dx, vs, ev, hy, hf⟩ => by
    have eu : v = .int i := eu
    subst ev eu
    refine ⟨i, y, dx, vs, rfl, rfl, S2.fh _ _ hy, (x, i, ()), F2, P, S2.fh, .cons ⟨_, rfl, y, dx, vs, rfl, hy, hf⟩ (.cons ⟨_, rfl, rfl⟩ .nil), fun z hz => (by cases hz), List.nodup_nil, hx, fun z hz v F' H' fn ow okz => ?_⟩
    exact kk z hz v F' H' (S2.back OsLe.none fn ow) ((e1.trans e2).trans fn.bf) okz⟩⟩
/-- bool(xs) -/
theorem e_boolL {r : Rp α} {w : W (List α)} (ha : EE X B env os a (rLst r) w) (hm : X.mg "bool" = none) (hg : Gl X "bool" := by rfl) (he : starEach [a] X.env = (false, eval a X.env) :: starEach [] X.env := by rfl) (hpl : (backTo pos (starEach [] X.env)).any (·.1) = false := by rfl) :
    EE X B env os (.Call (.Name "bool" p) [a] [] pos) rBool (bnd w fun x => ret (!x.isEmpty)) :=
  PE.imp (pe_callTy call_boolL hg hm (by decide +kernel) (pa_cons ha pa_nil he) (by decide) (by decide) he hpl) fun σ H Q ⟨F, P, S, hw, k⟩ => ⟨F, _, S, hw, fun x hx v F1 H1 S1 e1 ⟨p1, vs, q1, h1, z1, ok1⟩ => by
    have el : vs.isEmpty = x.isEmpty := by
      have := ok1.length
      cases vs <;> cases x <;> first | rfl | (simp at this)
    refine ⟨p1, vs, by rw [q1], SqL.of (S1.fh _ _ h1), ?_⟩
    rw [el]
    exact k _ hx (.bl (!x.isEmpty)) F1 H1 S1 e1 rfl⟩
/-- what never ends may end as anything -/
theorem e_never {γ : Type} {r : Rp α} {r' : Rp γ} {w : W α} (h : EE X B env os a r w) : EE X B env os a r' (bnd w fun _ => fail) := PE.imp h fun σ H Q ⟨F, P, S, hw, k⟩ => ⟨F, _, S, hw, fun z hz => False.elim hz⟩
end
end Mi

namespace Mi
open PySem L2 Evl
open PyProof.Rows (envOfC)

/-! ### [a, *xs, b] -/
def tLs (B : Bs) (env : Env) (os : Os) {α : Type} (r : Rp α) (w : W (List α)) : TA := fun σ H Q => ∃ F P, Sit B F H σ env os ∧ w P B.E0 ∧ ∀ xs, P xs → ∀ vs F' H', Sit B F' H' σ env os → Ex F F' → Paired (r.ok F') vs xs → Q vs H'
def LS (X : Cx) (B : Bs) (env : Env) (os : Os) (es : List Expr) {α : Type} (r : Rp α) (w : W (List α)) : Prop := PA X es (tLs B env os r w)
section
variable {X : Cx} {B : Bs} {env : Env} {os : Os} {pos : Pos} {α β γ : Type} {r : Rp α} {s : Rp β} {a b c o e : Expr} {es : List Expr} {rest : List Stmt} {post : Post β}
theorem ls_nil : LS X B env os [] r (ret []) := PA.imp pa_nil fun σ H Q ⟨F, P, S, hw, k⟩ => k [] hw [] F H S (Ex.refl F) .nil
theorem ls_cons {w1 : W α} {w2 : W (List α)} (h : EE X B env os e r w1) (ht : LS X B env os es r w2) (hs : starEach (e :: es) X.env = (false, eval e X.env) :: starEach es X.env := by rfl) : LS X B env os (e :: es) r (bnd w1 fun x => bnd w2 fun xs => ret (x :: xs)) :=
  PA.imp (pa_cons h ht hs) fun σ H Q ⟨F, P, S, hw, k⟩ => ⟨F, _, S, hw, fun x hx v F1 H1 S1 e1 ok1 => ⟨F1, _, S1, hx, fun xs hxs vs F2 H2 S2 e2 ok2 => k _ hxs (v :: vs) F2 H2 S2 (e1.trans e2) (.cons (r.mono e2 ok1) ok2)⟩⟩
theorem ls_star {w1 w2 : W (List α)} {p : Pos} (h : EE X B env os e (rLst r) w1) (ht : LS X B env os es r w2) (hs : starEach (.Starred e p :: es) X.env = (true, eval e X.env) :: starEach es X.env := by rfl) : LS X B env os (.Starred e p :: es) r (bnd w1 fun x => bnd w2 fun xs => ret (x ++ xs)) :=
  PA.imp (StX.pa_star h ht hs) fun σ H Q ⟨F, P, S, hw, k⟩ => ⟨F, _, S, hw, fun x hx v F1 H1 S1 e1 ⟨p1, vs, q1, h1, z1, ok1⟩ => ⟨p1, vs, q1, .inr (SqL.of (S1.fh _ _ h1)), F1, _, S1, hx, fun xs hxs us F2 H2 S2 e2 ok2 => k _ hxs (vs ++ us) F2 H2 S2 (e1.trans e2) (Paired.app (Paired.imp (fun _ _ => r.mono e2) ok1) ok2)⟩⟩
theorem n_listS {w : W (List α)} (h : LS X B env os es r w) : EN X B env os (.List es pos) r (bnd w fun xs => chk (xs.length ≤ sizeLine) (ret xs)) := PE.imp (pe_lst h) fun σ H Q ⟨F, P, S, hw, k⟩ => ⟨F, _, S, hw, fun xs ⟨hl, hx⟩ vs F' H' S' e' ok =>
  ⟨by rw [ok.length]; exact hl, fun p hp => k xs hx p F' _ (S'.newOwn hp ⟨vs, rfl, by rw [ok.length]; exact hl, ok⟩) e'⟩⟩
/-! ### xs[k] += e, xs one's own -/
def rGetL (K : PySem.W.Frag) : V → V → Hp → VK → Prop := rIxL K
theorem get_list : PGet X (rGetL X.K) := by
  intro pins s σ H x y v u Q I rx ry h
  obtain ⟨p, xs, i, z, rfl, rfl, hq, he, q⟩ := h
  cases rx
  obtain ⟨t, rfl⟩ := ry
  obtain ⟨its, r, pl, hz⟩ := I.list hq
  obtain ⟨j, h1, h2, h3, h4, h5⟩ := atI_get he
  obtain ⟨w, ew, rw'⟩ := r.get h2
  have hl := r.length
  have hn := line63
  have fin : EP X pins σ Q w s := ⟨z, H, I, rw', q⟩
  by_cases h0 : 0 ≤ i
  · have hj : i.toNat = j := by
      rw [PySem.seqIndex_of h0 h5] at h1
      exact Option.some.inj h1
    exact PySem.wpAny_getItem_list (x := w) pl.isList h0 (by omega) (by rw [hj]; simpa using ew) fin
  · have hj : (i + (its.toArray.size : Int)).toNat = j := by
      rw [PySem.seqIndex_neg (by omega) h4] at h1
      rw [List.size_toArray, ← hl]
      exact Option.some.inj h1
    exact PySem.wpAny_getItem_list_neg (x := w) pl.isList (by omega) (by rw [List.size_toArray] <;> omega) (by omega) (by rw [hj]; simpa using ew) fin
theorem atI_mapp {f : α → β} (xs : List α) (i : Int) : atI (xs.map f) i = (atI xs i).map f := by
  unfold atI
  rw [List.length_map]
  cases ixN xs.length i with
  | none => rfl
  | some j => exact List.getElem?_map
theorem b_aug (i j : Nat) {x : Str} {p1 p2 : Pos} {a : Addr} {xs : List Int} {w : W Int} {w1 : W Int} {w2 : List Int → W β} {op : Operator} {g : Int → Int → Int} (hop : PIp X op (ipI g)) (hi : env[i]? = some (sv (rAdr a) ())) (hj : os[j]? = some (a, oLst rInt xs)) (hk : EE X B env os b rInt w1) (he : EE X B env os e rInt w)
    (hr : ∀ ys, BG X B env (os.set j (a, oLst rInt ys)) rest post (w2 ys)) (hN : X.N[i]? = some x := by rfl)
    (hv : Vis X.env.scope x := by first | exact Or.inl rfl | exact Or.inr (Or.inl rfl) | exact Or.inr (Or.inr rfl)) (hd : (x == ("__debug__" : Str)) = false := by decide) (hcd : (x == ("__classdict__" : Str)) = false := by decide)
    (ha : ∀ ov iv new, augStore b ov iv new = (do holding [new, ov, iv] (setItem ov iv new); release [new, ov, iv] []; pure .next) := by intros; rfl) :
    BG X B env os (.AugAssign (.Subscript (.Name x p1) b p2) op e pos :: rest) post (bnd w1 fun k => bnd (idx xs k) fun z => bnd w fun y => bnd (putL xs k (g z y)) w2) :=
  PSs.imp (pss_cons (ps_augS (pe_var hN hv hd hcd) hk get_list he hop set_list ha) (PSs.ex hr)) fun D σ H ⟨F, P, S, hw, k⟩ => by
  obtain ⟨g1, g2, vs, g3, g4, g5⟩ := S.own hi hj
  refine ⟨.ref a, g1, F, _, S, hw, fun kk hkk v F1 H1 S1 e1 ok => ?_⟩
  have ok : v = .int kk := ok
  subst ok
  obtain ⟨_, _, vs1, g31, g41, g51⟩ := S1.own hi hj
  have ev := ints_map g51
  subst ev
  obtain ⟨z, hz, hkk⟩ := idx_of hkk
  refine ⟨a, _, kk, .int z, rfl, rfl, SqL.of g31, by rw [atI_mapp, hz]; rfl, F1, _, S1, hkk, fun y hy u F2 H2 S2 e2 ok2 => ?_⟩
  have ok2 : u = .int y := ok2
  subst ok2
  obtain ⟨_, _, vs2, g32, g42, g52⟩ := S2.own hi hj
  have ev := ints_map g52
  subst ev
  obtain ⟨jj, hjj, hy⟩ := putL_of hy
  refine ⟨z, y, rfl, rfl, a, _, kk, jj, rfl, rfl, g32, by rw [List.length_map]; exact hjj, xs.set jj (g z y), F2, P, ?_, hy, k⟩
  refine S2.change hj ⟨_, rfl, by rw [List.length_set]; exact g42, ?_⟩
  exact Paired.setR (show rInt.ok F2 (V.int (g z y)) (g z y) from rfl) g52
/-! ### sep.join(xs) -/
def joinW (a : Str) (ys : List Str) : W Str := chk ((ys.map (·.length)).sum + ys.length * a.length ≤ 16777216 ∧ (Txt.join a ys).length ≤ sizeLine ∧ PyData.strOk (Txt.join a ys) = true) (ret (Txt.join a ys))
theorem e_joinL {w1 : W Str} {w2 : Str → W (List Str)} {apos : Pos} (ho : EE X B env os o rStr w1) (he : ∀ x, EE X B env os e (rLst rStr) (w2 x)) (hs : starEach [e] X.env = [(false, eval e X.env)] := by rfl) (hbase : attributeBase o "join" X.env (eval o X.env) = eval o X.env := by rfl) (hline : (apos.endLine == pos.line) = true := by rfl) :
    EE X B env os (.Call (.Attribute o "join" apos) [e] [] pos) rStr (bnd w1 fun x => bnd (w2 x) fun ys => joinW x ys) :=
  PE.imp (pe_join ho (PE.ex he) hs hbase hline) fun σ H Q ⟨F, P, S, hw, k⟩ => ⟨F, _, S, hw, fun x hx v F1 H1 S1 e1 ok1 => ⟨⟨x, ok1.1⟩, x, F1, _, S1, hx, fun ys hy u F2 H2 S2 e2 ⟨p1, vs, q1, h1, z1, ok2⟩ => by
    obtain ⟨⟨h2, h3, h4⟩, hp⟩ := hy
    have ev := strs_map ok2
    subst ev
    exact ⟨x, p1, ys, ok1.1, by rw [q1], .inl (SqL.of (S2.fh _ _ h1)), h2, k _ hp _ F2 H2 S2 (e1.trans e2) ⟨rfl, h3, h4⟩⟩⟩⟩
/-! ### isinstance of data -/
def tyD : PyData → String
  | .none => "NoneType"
  | .bool _ => "bool"
  | .int _ => "int"
  | .str _ => "str"
  | .list _ => "list"
  | .tuple _ => "tuple"
  | .dict _ => "dict"
theorem ty_D {K : PySem.W.Frag} {F H : Hp} {v : V} {d : PyData} (h : (rD K).ok F v d) (q : Ex F H) : TyX K H v (.type (tyD d)) := by
  obtain ⟨h, _⟩ := h
  cases h with
  | non => exact .base .non
  | bl b => exact .base (.bl b)
  | int i => exact .base (.int i)
  | str x => exact .base (.str x)
  | lst h _ =>
    rcases h with (h | ⟨o, h⟩) | ⟨o, its, n, hk, hc, _⟩
    · exact .base (.lst (q _ _ h))
    · exact .base (.frz (q _ _ h))
    · exact .kList hk hc
  | tup h _ =>
    rcases h with (h | ⟨o, h⟩) | ⟨o, its, n, hk, hc, _⟩
    · exact .base (.tup (q _ _ h))
    · exact .fTuple (q _ _ h)
    · exact .kTuple hk hc
theorem e_isBD {w : W PyData} {x : Str} {T : String} {k : String → Bool} {p1 p2 : Pos} (hk : ∀ d, PySem.W.kitOne X.K (.type (tyD d)) (.type T) = some (k (tyD d))) (ha : EE X B env os a (rD X.K) w) (hm : X.mg "isinstance" = none) (hx : X.mg x = none)
    (hv : bootBuiltins x = some (.type T) := by decide +kernel) (hn : x ≠ "__name__" := by decide) (hd : (x == ("__debug__" : Str)) = false := by decide)
    (hg : Gl X "isinstance" := by rfl) (hgx : Gl X x := by rfl) (hs : starEach [a, .Name x p2] X.env = (false, eval a X.env) :: starEach [.Name x p2] X.env := by rfl) (hs2 : starEach [.Name x p2] X.env = (false, eval (.Name x p2) X.env) :: starEach [] X.env := by rfl) (hpl : (backTo pos (starEach [.Name x p2] X.env)).any (·.1) = false := by rfl) :
    EE X B env os (.Call (.Name "isinstance" p1) [a, .Name x p2] [] pos) rBool (bnd w fun d => ret (k (tyD d))) :=
  PE.imp (pe_callB call_isi hg hm (by decide +kernel) (pa_cons ha (pa_cons (pe_bltn (v := .ty T) hgx hx hv rfl hn hd) pa_nil hs2) hs) (by decide) (by decide) hs hpl) fun σ H Q ⟨F, P, S, hw, kk⟩ => ⟨F, _, S, hw, fun d hd v F1 H1 S1 e1 ok =>
    ⟨v, .ty T, _, .type T, k (tyD d), rfl, .ty T, ty_D ok S1.fh, hk d, kk _ hd (.bl _) F1 H1 S1 e1 rfl⟩⟩
theorem e_isCD {w : W PyData} {x : Str} {C : Addr} {k : String → Bool} {p1 p2 : Pos} (hk : ∀ d, PySem.W.kitOne X.K (.type (tyD d)) (.ref C) = some (k (tyD d))) (ha : EE X B env os a (rD X.K) w) (hm : X.mg "isinstance" = none) (hx : X.mg x = some (.ref C)) (hd : (x == ("__debug__" : Str)) = false := by decide)
    (hg : Gl X "isinstance" := by rfl) (hgx : Gl X x := by rfl) (hs : starEach [a, .Name x p2] X.env = (false, eval a X.env) :: starEach [.Name x p2] X.env := by rfl) (hs2 : starEach [.Name x p2] X.env = (false, eval (.Name x p2) X.env) :: starEach [] X.env := by rfl) (hpl : (backTo pos (starEach [.Name x p2] X.env)).any (·.1) = false := by rfl) :
    EE X B env os (.Call (.Name "isinstance" p1) [a, .Name x p2] [] pos) rBool (bnd w fun d => ret (k (tyD d))) :=
  PE.imp (pe_callB call_isi hg hm (by decide +kernel) (pa_cons ha (pa_cons (pe_glob (v := .ref C) hgx hx rfl hd) pa_nil hs2) hs) (by decide) (by decide) hs hpl) fun σ H Q ⟨F, P, S, hw, kk⟩ => ⟨F, _, S, hw, fun d hd v F1 H1 S1 e1 ok =>
    ⟨v, .ref C, _, .ref C, k (tyD d), rfl, .own C, ty_D ok S1.fh, hk d, kk _ hd (.bl _) F1 H1 S1 e1 rfl⟩⟩
def tyInt (t : String) : Bool := t == "int" || t == "bool"
theorem kd_int {K : PySem.W.Frag} (d : PyData) : PySem.W.kitOne K (.type (tyD d)) (.type "int") = some (tyInt (tyD d)) := by
  cases d <;> (dsimp only [tyD]; exact kit_ty (by decide +kernel))
theorem kd_bool {K : PySem.W.Frag} (d : PyData) : PySem.W.kitOne K (.type (tyD d)) (.type "bool") = some (tyD d == "bool") := by
  cases d <;> (dsimp only [tyD]; exact kit_ty (by decide +kernel))
theorem kd_str {K : PySem.W.Frag} (d : PyData) : PySem.W.kitOne K (.type (tyD d)) (.type "str") = some (tyD d == "str") := by
  cases d <;> (dsimp only [tyD]; exact kit_ty (by decide +kernel))
theorem kd_list {K : PySem.W.Frag} (d : PyData) : PySem.W.kitOne K (.type (tyD d)) (.type "list") = some (tyD d == "list") := by
  cases d <;> (dsimp only [tyD]; exact kit_ty (by decide +kernel))
theorem kd_tuple {K : PySem.W.Frag} (d : PyData) : PySem.W.kitOne K (.type (tyD d)) (.type "tuple") = some (tyD d == "tuple") := by
  cases d <;> (dsimp only [tyD]; exact kit_ty (by decide +kernel))
end
end Mi

namespace Mi
open PySem L2 Evl LamX
open PyProof.Rows (envOfC)

/-! ### defs that return a new list -/
def spN {ι α : Type} (args : ι → Env) (w : ι → W (List α)) (r : Rp α) : Sp := fun vs H Q _ => ∃ (i : ι) (F : Hp) (P : List α → Prop), Ex F H ∧ EnvOk F (args i) (vs.map some) ∧ w i P (fun _ => False) ∧
  ∀ xs, P xs → ∀ a F' H', Fn (bs0 F H []) F' H' → F' a = none → H a = none → (∃ o, H' a = some o ∧ (oLst r xs).ok F' o) → Q (.ref a) H'
def pN {α : Type} (B : Bs) (r : Rp α) : Post (List α) := fun D xs => ∀ a F H, Fn B F H → F a = none → B.H a = none → (∃ o, H a = some o ∧ (oLst r xs).ok F o) → D.rt (.ref a) H
section
variable {P : Program} {w : World} {K : PySem.W.Frag} {mg : Str → Option Value} {base : Heap} {k : Nat} {f : Addr} {fd : FuncData} {ps N : List Str} {ι α : Type} {args : ι → Env} {wf : ι → W (List α)} {r : Rp α}
theorem okN {x qual : Str} {st : Stmt} (F : Fun K x qual st f fd) (S : FnScope N ps (defScope st)) (hl : ∀ i, (args i).length = ps.length)
    (body : ∀ (cdv : Value) (A : Around) (outer : List PySem.Env) (s : Shared) (H : Hp) (E : XK) (B : Bs) (i : ι), Room k (A.deeper (envOfC qual (defScope st) s.heap.objs.size f cdv)) → B.io = [] →
      BG (cxOf CX0 P w K mg base N qual (defScope st) f cdv A outer s H E).nox B (entry (args i) (N.length - ps.length)) [] (defBody st) (pN B r) (wf i)) : FnOk P w K mg base CX0 (k + 1) f fd ps (spN args wf r) := by
  have ln : ∀ vs H Q E, spN args wf r vs H Q E → vs.length = ps.length := fun vs H Q E ⟨i, F, P, _, he, _⟩ => by
    have := he.len
    rw [List.length_map, hl i] at this
    exact this.symm
  refine F.ok S ln fun cdv A outer s H vs Q E hr hsp => ?_
  have hvl := ln vs H Q E hsp
  obtain ⟨i, F0, P0, fh, he, hw, hk⟩ := hsp
  refine ⟨_, body cdv A outer s H E (bs0 F0 H []) i hr rfl, F0, P0, ⟨bs0_start fh (fun p hp => by cases hp), ?_, fun p hp => (by cases hp), List.nodup_nil⟩, hw, fun xs hx a F' H' fn h1 h2 h3 => hk xs hx a F' H' fn h1 h2 h3⟩
  rw [← hvl]
  exact entry_ok he
end
section
variable {X : Cx} {B : Bs} {env : Env} {os : Os} {pos p : Pos} {α β ι ρ : Type} {r : Rp α} {e o : Expr} {es : List Expr} {rest : List Stmt} {post : Post β} {k : Nat} {f C : Addr} {fd : FuncData} {ps : List Str} {m : Str} {apos : Pos}
theorem b_retN {w : W (List α)} (hio : B.io = []) (h : EN X B env os e r w) : BG X B env os [.Return (some e) pos] (pN B r) w :=
  PSs.imp (pss_one (ps_ret h)) fun D σ H ⟨F, P, Si, hw, k⟩ => ⟨F, P, Si, hw, fun x hx a F' H' S' _ => by
    obtain ⟨h1, h2, h3⟩ := S'.ow (a, oLst r x) List.mem_cons_self
    refine k x hx a F' H' S'.fin h1 (h3.elim id fun z => ?_) h2
    rw [hio] at z
    cases z⟩
theorem Sit.gotN {F F' H H' : Hp} {σ : L2.St} {a : Addr} {xs : List α} (S : Sit B F H σ env os) (fn : Fn (bs0 F H []) F' H') (h1 : F' a = none) (h2 : H a = none) (h3 : ∃ o, H' a = some o ∧ (oLst r xs).ok F' o) : Sit B F' H' σ env ((a, oLst r xs) :: os) := by
  have S' := S.back OsLe.none fn (fun p hp => by cases hp)
  refine ⟨S'.fin, S'.env, fun p hp => ?_, ?_⟩
  · rcases List.mem_cons.mp hp with e | e
    · subst e
      refine ⟨h1, h3, .inl ?_⟩
      cases z : B.H a with
      | none => rfl
      | some u =>
        by_cases hio : a ∈ B.io
        · obtain ⟨o, ho⟩ := S.fin.ios a hio
          rw [h2] at ho
          cases ho
        · cases q : B.F a with
          | none =>
            have := (S.fin.keep a u q z hio).1
            rw [h2] at this
            cases this
          | some u' =>
            have := S.fh _ _ (S.fin.bf _ _ q)
            rw [h2] at this
            cases this
    · exact S'.ow p e
  · rw [List.map_cons]
    refine List.nodup_cons.mpr ⟨fun hm => ?_, S'.nd⟩
    obtain ⟨p, hp, e⟩ := List.mem_map.mp hm
    obtain ⟨_, ⟨u, hu, _⟩, _⟩ := S.ow p hp
    rw [e, h2] at hu
    cases hu
theorem n_meth0 {fl : ρ → List (Str × Slot)} {wf : ρ × Unit → W (List α)} {w1 : W ρ} {pl : Sem Bool} (G : FnOk X.prog X.w X.K X.mg X.base CX0 k f fd ps (spN (fun q : ρ × Unit => [sv (rObj C fl) q.1]) wf r)) (hr : Room k X.A) (cl : Cls X.K C) (hm : Meth X.K C m f) (hb : Binds X.K fd ps [])
    (ho : EE X B env os o (rObj C fl) w1) (hn : ∀ x, (fl x).lookup m = none := by exact fun _ => rfl)
    (ht : eval (.Call (.Attribute o m apos) [] [] pos) X.env = (do
      let ov ← eval o X.env
      standAt apos.atName
      let (f, first) ← holding [ov] (getMethod ov m pl)
      callWith pos f first (backTo pos (starEach [] X.env)) (backToKw pos (keywordEach [] X.env))) := by rfl) :
    EN X B env os (.Call (.Attribute o m apos) [] [] pos) r (bnd w1 fun x => noX (wf (x, ()))) :=
  PE.imp (pe_meth0 (pl := pl) ho cl hm G hr hb .nil pass0 ht) fun σ H Q ⟨F, P, S, hw, kk⟩ => ⟨F, _, S, hw, fun x hx v F1 H1 S1 e1 ⟨y, dx, vs, ev, hy, hf⟩ => by
    subst ev
    refine ⟨y, dx, vs, rfl, S1.fh _ _ hy, hf.none (hn x), (x, ()), F1, P, S1.fh, .cons ⟨_, rfl, y, dx, vs, rfl, hy, hf⟩ .nil, hx, fun z hz a F' H' fn h1 h2 h3 => ?_⟩
    exact kk z hz a F' H' (S1.gotN fn h1 h2 h3) (e1.trans fn.bf)⟩
/-- e.append(x), e a new list that nobody keeps -/
theorem b_appN {w1 : W (List α)} {w : W α} {w2 : W β} {p2 p3 : Pos} (ho : EN X B env os o r w1) (he : ∀ a xs, EE X B env ((a, oLst r xs) :: os) e r w) (hr : BG X B env os rest post w2)
    (hbase : attributeBase o "append" X.env (eval o X.env) = eval o X.env := by rfl)
    (hfew : ((backTo p3 (starEach [e] X.env)).all (fun x => !x.1) && (backToKw p3 (keywordEach [] X.env)).all (fun x => x.1.isSome) && decide (([e] : List Expr).length + ([] : List Keyword).length + (if ([] : List Keyword).isEmpty then 0 else 1) < 30)) = true := by rfl)
    (hline : (p2.endLine == p3.line) = true := by rfl) (hs : starEach [e] X.env = (false, eval e X.env) :: starEach [] X.env := by rfl) (hplain : (backTo p3 (starEach [] X.env)).any (·.1) = false := by rfl)
    (hsw : swapsWith (.Call (.Attribute o "append" p2) [e] [] p3) none pos.line X.env = pure false := by rfl) :
    BG X B env os (.Expr (.Call (.Attribute o "append" p2) [e] [] p3) pos :: rest) post (bnd w1 fun xs => bnd w fun _ => chk (xs.length < sizeLine) w2) :=
  PSs.imp (pss_cons (ps_expr (pe_bm PySem.F.plainAttrs_list PySem.F.slot_list_append PySem.F.type_list_append mt_append ho (PA.ex fun q : Addr × List α => pa_cons (he q.1 q.2) pa_nil hs) hbase hfew hline hs hplain) hsw) hr) fun D σ H ⟨F, P, S, hw, k⟩ =>
  ⟨F, _, S, hw, fun xs hx a F1 H1 S1 e1 => by
    obtain ⟨g1, ⟨u, g2, vs, g3, g4, g5⟩, g6⟩ := S1.ow (a, oLst r xs) List.mem_cons_self
    subst g3
    refine ⟨.inl ⟨rfl, vs, SqL.of g2⟩, (a, xs), F1, _, S1, hx, fun y ⟨hc, hy⟩ v F2 H2 S2 e2 ok => ?_⟩
    obtain ⟨_, ⟨u, g2', vs', g3', g4', g5'⟩, _⟩ := S2.ow (a, oLst r xs) List.mem_cons_self
    subst g3'
    have hl : vs'.length < sizeLine := by rw [g5'.length]; exact hc
    refine ⟨a, vs', v, rfl, rfl, g2', hl, F2, P, ?_, hy, k⟩
    have S3 := S2.change (j := 0) (ow' := oLst r (xs ++ [y])) (o' := .lst (vs' ++ [v])) rfl ⟨_, rfl, by rw [List.length_append, List.length_singleton]; omega, Paired.app g5' (.cons ok .nil)⟩
    exact S3.sub (List.sublist_cons_self _ _)⟩
/-! ### o.m(k = v) -/
theorem e_methK {κ : Type} {fl : α → List (Str × Slot)} {wf : α × ι → W ρ} {ro : Rp ρ} {sl : ι → Env} {ks : List Str} {kws : List Keyword} {w1 : W α} {w2 : α → W ι} {pl : Sem Bool}
    (G : FnOk X.prog X.w X.K X.mg X.base CX0 k f fd ps (spW (fun q : α × ι => sv (rObj C fl) q.1 :: sl q.2) (fun _ => []) wf ro)) (hr : Room k X.A) (cl : Cls X.K C) (hm : Meth X.K C m f)
    (hb : ∀ (s : Shared) (u : Value) (ws : List Value), X.K.In s.heap → ws.length = ks.length → BindsTo s fd ⟨[u], ks.zip ws⟩ (ps.zip (u :: ws)))
    (ho : EE X B env os o (rObj C fl) w1) (hkw : ∀ x, KK X B env os kws sl (w2 x)) (hln : ∀ q, (sl q).length = ks.length) (hn : ∀ x, (fl x).lookup m = none := by exact fun _ => rfl) (hall : (backToKw pos (keywordEach kws X.env)).all (·.1.isSome) = true := by rfl) (hks : (backToKw pos (keywordEach kws X.env)).filterMap (·.1) = ks := by rfl)
    (hpl : ((backTo pos (starEach [] X.env)).any (·.1) || (backToKw pos (keywordEach kws X.env)).any (·.1.isNone)) = false := by rfl)
    (ht : eval (.Call (.Attribute o m apos) [] kws pos) X.env = (do
      let ov ← eval o X.env
      standAt apos.atName
      let (f, first) ← holding [ov] (getMethod ov m pl)
      callWith pos f first (backTo pos (starEach [] X.env)) (backToKw pos (keywordEach kws X.env))) := by rfl) :
    EE X B env os (.Call (.Attribute o m apos) [] kws pos) ro (bnd w1 fun x => bnd (w2 x) fun i => noX (wf (x, i))) := by
  refine ⟨fun pins s σ H Q I ⟨F, P, S, hw, kk⟩ => ?_⟩
  refine PySem.W.methodCall_KW (pl := pl) (thn (ho.run pins s σ H (fun v H1 => ∃ x F1, Sit B F1 H1 σ env os ∧ Ex F F1 ∧ (rObj C fl).ok F1 v x ∧ (bnd (w2 x) fun i => noX (wf (x, i))) P B.E0) I ⟨F, _, S, hw, fun x hx v F1 H1 S1 e1 ok => ⟨x, F1, S1, e1, ok, hx⟩⟩) fun u s1 ⟨v, H1, I1, rx, x, F1, S1, e1, ⟨y, dx, vs, ev, hy, hf⟩, hx⟩ => ?_) ht
  subst ev
  obtain rfl : u = Value.ref y := rx
  refine getmeth_ok I1 (S1.fh _ _ hy) cl hm (hf.none (hn x)) ?_
  refine PySem.W.callWith_KW0 (h₀ := X.base) I1.ok.mod.kin hm.kp hall ?_ hpl
  refine thn ((hkw x).run pos pins s1 σ H1 (fun zs H2 => zs.length = ks.length ∧ spW (fun q : α × ι => sv (rObj C fl) q.1 :: sl q.2) (fun _ => []) wf ro (.ref y :: zs) H2 Q E0) I1 ⟨F1, _, S1, hx, fun q hq zs F2 H2 S2 e2 ok => ⟨?_, (x, q), F2, P, S2.fh, .cons ⟨_, rfl, y, dx, vs, rfl, e2 _ _ hy, hf.mono e2⟩ ok, fun p hp => (by cases hp), List.nodup_nil, hq, fun z hz v F' H' fn ow okz => ?_⟩⟩) fun ws s2 ⟨zs, H2, I2, rz, l2, q2⟩ => ⟨I2.kIn, ?_⟩
  · have := ok.len
    rw [List.length_map, hln q] at this
    exact this.symm
  · exact kk z hz v F' H' (S2.back OsLe.none fn ow) ((e1.trans e2).trans fn.bf) okz
  · rw [hks]
    have r2 : Vals (V.ref y :: zs) (Value.ref y :: ws) := .cons rfl rz
    have b := hb s2 (.ref y) ws I2.kIn (rz.length.symm.trans l2)
    refine wpAny_call (codeAny_mono (G.run X.A X.stack s2 H2 ⟨[.ref y], ks.zip ws⟩ (.ref y :: ws) (.ref y :: zs) Q E0 hr I2.env0 b r2 q2) fun res s' hq => ?_)
    cases res with
    | error e => exact False.elim hq
    | ok fl =>
      cases fl with
      | ret u => exact I2.after hq
      | next => exact False.elim hq
      | brk => exact False.elim hq
      | cont => exact False.elim hq
end
end Mi

namespace Mi
open PySem L2 Evl LamX
open PyProof.Rows (envOfC)

/-! ### a written list of lambdas -/
def LamsOk (F : Hp) (vs : List V) (Ds : List (LamD × Bool)) : Prop := Paired (fun v (D : LamD × Bool) => (rLam D.1 D.2).ok F v ()) vs Ds
theorem LamsOk.mono {F F' : Hp} (e : Ex F F') : ∀ {vs : List V} {Ds : List (LamD × Bool)}, LamsOk F vs Ds → LamsOk F' vs Ds := fun h => Paired.imp (fun v D => (rLam D.1 D.2).mono e) h
def rLamL (Ds : List (LamD × Bool)) : Rp Unit := ⟨fun F v _ => ∃ a vs, v = .ref a ∧ F a = some (.lst vs) ∧ vs.length ≤ sizeLine ∧ LamsOk F vs Ds, fun e ⟨a, vs, h1, h2, h3, h4⟩ => ⟨a, vs, h1, e _ _ h2, h3, h4.mono e⟩⟩
def oLams (Ds : List (LamD × Bool)) : Own := ⟨fun F o => ∃ vs, o = .lst vs ∧ vs.length ≤ sizeLine ∧ LamsOk F vs Ds, fun e ⟨vs, h1, h2, h3⟩ => ⟨vs, h1, h2, h3.mono e⟩⟩
def LL (X : Cx) (B : Bs) (env : Env) (os : Os) (es : List Expr) (Ds : List (LamD × Bool)) : Prop := PA X es fun σ H Q => ∃ F, Sit B F H σ env os ∧ ∀ vs F' H', Sit B F' H' σ env os → Ex F F' → LamsOk F' vs Ds → Q vs H'
section
variable {X : Cx} {B : Bs} {env : Env} {os : Os} {pos p : Pos} {e : Expr} {es : List Expr} {D : LamD} {df : Bool} {Ds : List (LamD × Bool)}
theorem ll_nil : LL X B env os [] [] := PA.imp pa_nil fun σ H Q ⟨F, S, k⟩ => k [] F H S (Ex.refl F) .nil
theorem ll_cons (h : EE X B env os e (rLam D df) (ret ())) (ht : LL X B env os es Ds) (hs : starEach (e :: es) X.env = (false, eval e X.env) :: starEach es X.env := by rfl) : LL X B env os (e :: es) ((D, df) :: Ds) :=
  PA.imp (pa_cons h ht hs) fun σ H Q ⟨F, S, k⟩ => ⟨F, fun _ => True, S, trivial, fun _ _ v F1 H1 S1 e1 ok1 => ⟨F1, S1, fun vs F2 H2 S2 e2 ok2 => k (v :: vs) F2 H2 S2 (e1.trans e2) (.cons ((rLam D df).mono e2 ok1) ok2)⟩⟩
theorem e_lams (h : LL X B env os es Ds) (hz : Ds.length ≤ sizeLine := by decide) : EE X B env os (.List es pos) (rLamL Ds) (ret ()) := PE.imp (pe_lst h) fun σ H Q ⟨F, P, S, hw, k⟩ => ⟨F, S, fun vs F' H' S' e' ok =>
  have hl : vs.length ≤ sizeLine := by rw [ok.length]; exact hz
  ⟨hl, fun p hp => by
    obtain ⟨F2, o, e2, h1, ⟨vs', h2, h3, h4⟩, S2⟩ := (S'.newOwn (ow := oLams Ds) hp ⟨vs, rfl, hl, ok⟩).freeze
    subst h2
    exact k () hw (.ref p) F2 _ S2 (e'.trans e2) ⟨p, vs', rfl, h1, h3, h4⟩⟩⟩
end
/-- each of them as a closure -/
theorem clos_ok {P : Program} {w : World} {K : PySem.W.Frag} {mg : Str → Option Value} {base : Heap} {tb : ETab} {k : Nat} {ρ : Type} {r : Rp ρ} {X : Cx} {s : Shared} {F H : Hp} {σ : L2.St} {B : Bs} {env : Env} {os : Os} {pins : List (Addr × Obj)} {v : V} {u : Unit} {Ds : List (LamD × Bool)} {wfs : List (W ρ)} (I : Inv X pins σ H s) (S : Sit B F H σ env os) (hv : (rLamL Ds).ok F v u)
    (hz : Paired (fun (D : LamD × Bool) (wf : W ρ) => ∀ v, (rLam D.1 D.2).ok F v () → (rClo P w K mg base tb k r).ok (addC (cellZ X s.heap) F) v wf) Ds wfs) : EnvOk (addC (cellZ X s.heap) F) [sv (rLst (rClo P w K mg base tb k r)) wfs] [some v] := by
  obtain ⟨a, vs, ev, hF, hl, hp⟩ := hv
  have na : cellZ X s.heap a = none := by
    cases z : cellZ X s.heap a with
    | none => rfl
    | some o =>
      obtain ⟨⟨y, h1⟩, _⟩ := cellZ_of z
      have := I.freeC y a h1
      rw [S.fh _ _ hF] at this
      cases this
  refine .cons ⟨v, rfl, a, vs, ev, (addC_none na).trans hF, hl, ?_⟩ .nil
  clear hl ev hF na
  induction hp generalizing wfs with
  | nil =>
    cases hz
    exact .nil
  | cons h t ih =>
    cases hz with
    | cons h2 t2 => exact .cons (h2 _ h) (ih t2)
/-! ### a law that makes lambdas -/
section
variable {P : Program} {w : World} {K : PySem.W.Frag} {mg : Str → Option Value} {base : Heap} {k : Nat} {f : Addr} {fd : FuncData} {ps N : List Str} {ι ρ : Type} {args : ι → Env} {os : ι → Os} {wf : ι → W ρ} {ro : Rp ρ}
theorem fnWc {x qual : Str} {st : Stmt} {c : Addr} (F : Fun K x qual st f fd) (hfd : fd.code = .ref c) (S : FnScope N ps (defScope st)) (hl : ∀ i, (args i).length = ps.length)
    (body : ∀ (A : Around) (outer : List PySem.Env) (s : Shared) (H : Hp) (E : XK) (B : Bs) (i : ι), Room k (A.deeper (envOfC qual (defScope st) s.heap.objs.size f (.ref c))) → A.guards = some [] →
      BG (cxOf CX0 P w K mg base N qual (defScope st) f (.ref c) A outer s H E).nox B (entry (args i) (N.length - ps.length)) (os i) (defBody st) (pFn B (os i) ro) (wf i)) : FnG P w K mg base CX0 (k + 1) f fd ps (spW args os wf ro) := by
  obtain ⟨oc, od, kV, doc, pm, an, cdv, ct, osl, rfl, lk, hcd⟩ := F.ex
  have hfd : cdv = .ref c := hfd
  subst hfd
  refine ⟨spW_len hl, fun A outer s H args us vs Q E hgu hr e0 hb r hsp => ?_⟩
  have hln := spW_len hl _ _ _ _ hsp
  have hvl := hln
  obtain ⟨i, F0, P0, fh, he, ho, nd, hw, hk⟩ := hsp
  have hk0 : ∀ b o, base.get? b = some o → s.heap.get? b = some o := fun b o e => (e0.bs b o e).1
  have KX := e0.mod.kin.keeps hk0
  refine codeAny_call_function hr.depth (KX _ _ lk) rfl S.co S.gen rfl (PySem.W.codeRec_of KX hcd) (hb _ _ _ _ ?_)
  refine wpAny_newFunctionEnv_cells S.kind (fun ⟨n, v⟩ hy => ?_) fun env he' s1 x => ?_
  · rcases S.par n (List.of_mem_zip hy).1 with q | q
    · exact .inl q
    · exact .inr ⟨q, PySem.W.cellsFrom_some _ _ _ (.inl q)⟩
  subst he'
  refine ⟨(e0.mod.nolimit.keeps hk0).keeps x.toInCall.keep, codeAny_func ?_⟩
  have ht := body A outer s H E (bs0 F0 H (os i)) i (hr.deeper _) hgu
  have I := inv_start (CX := CX0) (E := E) S hr.hd e0 hln r x
  refine wpAny_mono (ht.nox.run [] s1 (L2.start N vs) H { nx := fun _ H' => Q .non H', rt := Q } I ⟨F0, P0, ⟨bs0_start fh ho, ?_, fun p hp => ?_, nd⟩, hw, fun y hy => ⟨fun v F' H' fn ow ok => hk y hy v F' H' fn ow ok, fun σ F' H' fn ow ok => hk y hy .non F' H' fn ow ok⟩⟩) (fun fl s' hs => ?_) fun e s' hs => hs
  · rw [← hvl]
    exact entry_ok he
  · obtain ⟨h1, o, h2, h3⟩ := ho p hp
    exact ⟨h1, ⟨o, h2, h3⟩, .inr (List.mem_map_of_mem hp)⟩
  cases fl with
  | ret u =>
    obtain ⟨v, σ', H', J, rv, q⟩ := hs
    exact ⟨v, H', J.os, J.bare, J.base, J.hok, rv, q⟩
  | next =>
    obtain ⟨σ', H', J, q⟩ := hs
    exact ⟨.non, H', J.os, J.bare, J.base, J.hok, rfl, q⟩
  | brk =>
    obtain ⟨_, _, _, q⟩ := hs
    exact False.elim q
  | cont =>
    obtain ⟨_, _, _, q⟩ := hs
    exact False.elim q
end
end Mi

namespace Mi
open PySem L2 Evl LamX

/-! ### small things for printed proofs -/
theorem lamBind0 {D : LamD} {ps : List Str} (h1 : ps = []) (h2 : ∀ (pm cv ct : Value), bindArgs (PySem.W.lmFn D.q D.params D.body D.scope D.cl .none pm cv ct) ⟨[], []⟩ = pure []) : LamBind D false ps := by
  unfold LamBind
  exact ⟨h1, h2⟩
theorem lamBind1 {D : LamD} {ps : List Str} (h1 : ps.length = 1) (h2 : ∀ (td : Addr) (pm cv ct : Value), ∃ k, bindArgs (PySem.W.lmFn D.q D.params D.body D.scope D.cl (.ref td) pm cv ct) ⟨[], []⟩ = seqItems? (.ref td) >>= k ∧ ∀ u, k (some #[u]) = pure (ps.zip [u])) : LamBind D true ps := by
  unfold LamBind
  exact ⟨h1, h2⟩
def hvsB (N ps : List Str) (vs : List Nat) : Bool := (List.range N.length).all fun i => ps.all fun p => N[i]? != some p || vs.contains i
theorem hvs_by {N ps : List Str} {vs : List Nat} (h : hvsB N ps vs = true) : ∀ p ∈ ps, ∀ i, N[i]? = some p → i ∈ vs := fun p hp i e => by
  unfold hvsB at h
  rw [List.all_eq_true] at h
  have hi : i < N.length := by
    rcases Nat.lt_or_ge i N.length with q | q
    · exact q
    · rw [List.getElem?_eq_none q] at e
      cases e
  have h1 := List.all_eq_true.mp (h i (List.mem_range.mpr hi)) p hp
  rw [e] at h1
  simpa using h1
theorem fm_nil {α : Type} {p : α → Prop} : ∀ x ∈ ([] : List α), p x := fun _ h => by cases h
theorem fm_cons {α : Type} {p : α → Prop} {a : α} {l : List α} (h : p a) (t : ∀ x ∈ l, p x) : ∀ x ∈ a :: l, p x := fun x hx => by
  rcases List.mem_cons.mp hx with e | e
  · rw [e]
    exact h
  · exact t x e
/-- how keywords bind behind a receiver -/
def KwM (K : PySem.W.Frag) (fd : FuncData) (ps ks : List Str) : Prop := ∀ (s : Shared) (u : Value) (ws : List Value), K.In s.heap → ws.length = ks.length → BindsTo s fd ⟨[u], ks.zip ws⟩ (ps.zip (u :: ws))
theorem kwM_of {K : PySem.W.Frag} {x qual : Str} {st : Stmt} {f : Addr} {fd : FuncData} {ps ks : List Str} (F : Fun K x qual st f fd)
    (h : ∀ (kV doc pm : Value) (an : Option Addr) (cdv ct : Value) (u : Value) (ws : List Value), ws.length = ks.length → bindArgs (PySem.W.fnOf x qual (defArgs st) (defBody st) (defScope st) .none kV doc pm an cdv ct) ⟨[u], ks.zip ws⟩ = pure (ps.zip (u :: ws))) : KwM K fd ps ks := by
  obtain ⟨oc, od, kV, doc, pm, an, cdv, ct, osl, rfl, lk, hcd⟩ := F.ex
  exact fun s u ws _ hl => .of_eq (h kV doc pm an cdv ct u ws hl)
section
variable {X : Cx} {B : Bs} {env : Env} {os : Os} {pos p : Pos} {α : Type} {a : Expr} {fl : α → List (Str × Slot)} {k : Nat} {f C : Addr} {fd : FuncData} {ps : List Str} {wf : α × Unit → W Bool} {w1 : W α}
/-- not x, x of an own class -/
theorem e_notO (G : FnOk X.prog X.w X.K X.mg X.base CX0 k f fd ps (spW (fun q : α × Unit => [sv (rObj C fl) q.1]) (fun _ => []) wf rBool)) (hr : Room k X.A) (hb : Binds X.K fd ps []) (hs : PySem.W.findIn X.K (.ref C) "__bool__" = some (some (.ref f))) (hf : PySem.W.isFn X.K (.ref f) = true)
    (ha : EE X B env os a (rObj C fl) w1) : EE X B env os (.UnaryOp .Not a pos) rBool (bnd (bnd w1 fun x => noX (wf (x, ()))) fun b => ret (!b)) := by
  refine ⟨fun pins s σ H Q I ⟨F, P, S, hw, kk⟩ => ?_⟩
  refine PyProof.Rows.UnaryOp_ (thn (ha.run pins s σ H _ I ⟨F, _, S, hw, fun x hx v F1 H1 S1 e1 ok => (show ∃ F1 x, Sit B F1 H1 σ env os ∧ Ex F F1 ∧ (rObj C fl).ok F1 v x ∧ (bnd (noX (wf (x, ()))) fun b => ret (!b)) P B.E0 from ⟨F1, x, S1, e1, ok, hx⟩)⟩) fun v s1 ⟨x, H1, I1, r1, F1, z, S1, e1, ⟨y, dx, vs, ev, hy, hfl⟩, hx⟩ => ?_)
  refine PyProof.Rows.not_of (wpAny_mono (tru_own G hr hb hs hf pins s1 σ H1 x v (fun b H' => ∃ F2, Sit B F2 H' σ env os ∧ Ex F F2 ∧ P (!b)) I1 r1 ⟨y, dx, vs, ev, S1.fh _ _ hy, (z, ()), F1, _, S1.fh, .cons ⟨_, rfl, y, dx, vs, rfl, hy, hfl⟩ .nil, fun z hz => (by cases hz), List.nodup_nil, hx, fun b hb v F' H' fn ow okz => ⟨b, okz, F', S1.back OsLe.none fn ow, e1.trans fn.bf, hb⟩⟩) (fun b s2 hq => ?_) fun _ _ z => z)
  obtain ⟨H', I', F2, S2, e2, hp⟩ := hq
  exact ⟨.bl (!b), H', I', rfl, kk _ hp (.bl (!b)) F2 H' S2 e2 rfl⟩
end
end Mi
namespace Mi
open PySem L2 Evl
section
variable {X : Cx} {B : Bs} {env : Env} {os : Os} {e : Expr} {α : Type} {r : Rp α}
theorem e_fail : EE X B env os e r fail := ⟨fun _ _ _ _ _ _ ⟨_, _, _, hw, _⟩ => False.elim hw⟩
theorem w_fail : EW X B env os e fail := ⟨by
  intros
  rename_i h
  obtain ⟨_, _, _, hw, _⟩ := h
  exact False.elim hw⟩
end
section
variable {X : Cx} {B : Bs} {env : Env} {os : Os} {pos p : Pos} {α β γ ρ : Type} {s : Rp β} {t : Rp γ} {o e e2 : Expr} {k : Nat} {f C : Addr} {fd : FuncData} {ps : List Str} {m : Str} {fl : α → List (Str × Slot)} {ro : Rp ρ} {apos : Pos} {tb : ETab}
theorem e_meth1 {wf : α × β × Unit → W ρ} {w1 : W α} {w2 : α → W (β × Unit)} {pl : Sem Bool} (G : FnOk X.prog X.w X.K X.mg X.base CX0 k f fd ps (spW (fun q : α × β × Unit => [sv (rObj C fl) q.1, sv s q.2.1]) (fun _ => []) wf ro)) (hr : Room k X.A) (cl : Cls X.K C) (hm : Meth X.K C m f) (hb : Binds X.K fd ps [])
    (ho : EE X B env os o (rObj C fl) w1) (ha : ∀ x, AA X B env os [e] (fun q : β × Unit => [sv s q.1]) (w2 x)) (hn : ∀ x, (fl x).lookup m = none := by exact fun _ => rfl) (hst : starEach [e] X.env = (false, eval e X.env) :: starEach [] X.env := by rfl) (hpl : (backTo pos (starEach [] X.env)).any (·.1) = false := by rfl)
    (ht : eval (.Call (.Attribute o m apos) [e] [] pos) X.env = (do
      let ov ← eval o X.env
      standAt apos.atName
      let (f, first) ← holding [ov] (getMethod ov m pl)
      callWith pos f first (backTo pos (starEach [e] X.env)) (backToKw pos (keywordEach [] X.env))) := by rfl) :
    EE X B env os (.Call (.Attribute o m apos) [e] [] pos) ro (bnd w1 fun x => bnd (w2 x) fun i => noX (wf (x, i))) := e_meth (sl := fun q : β × Unit => [sv s q.1]) G hr cl hm hb ho ha hn hst hpl ht
theorem e_meth2 {wf : α × β × γ × Unit → W ρ} {w1 : W α} {w2 : α → W (β × γ × Unit)} {pl : Sem Bool} (G : FnOk X.prog X.w X.K X.mg X.base CX0 k f fd ps (spW (fun q : α × β × γ × Unit => [sv (rObj C fl) q.1, sv s q.2.1, sv t q.2.2.1]) (fun _ => []) wf ro)) (hr : Room k X.A) (cl : Cls X.K C) (hm : Meth X.K C m f) (hb : Binds X.K fd ps [])
    (ho : EE X B env os o (rObj C fl) w1) (ha : ∀ x, AA X B env os [e, e2] (fun q : β × γ × Unit => [sv s q.1, sv t q.2.1]) (w2 x)) (hn : ∀ x, (fl x).lookup m = none := by exact fun _ => rfl) (hst : starEach [e, e2] X.env = (false, eval e X.env) :: starEach [e2] X.env := by rfl) (hpl : (backTo pos (starEach [e2] X.env)).any (·.1) = false := by rfl)
    (ht : eval (.Call (.Attribute o m apos) [e, e2] [] pos) X.env = (do
      let ov ← eval o X.env
      standAt apos.atName
      let (f, first) ← holding [ov] (getMethod ov m pl)
      callWith pos f first (backTo pos (starEach [e, e2] X.env)) (backToKw pos (keywordEach [] X.env))) := by rfl) :
    EE X B env os (.Call (.Attribute o m apos) [e, e2] [] pos) ro (bnd w1 fun x => bnd (w2 x) fun i => noX (wf (x, i))) := e_meth (sl := fun q : β × γ × Unit => [sv s q.1, sv t q.2.1]) G hr cl hm hb ho ha hn hst hpl ht
theorem e_methX1 {wf : α × β × Unit → W ρ} {w1 : W α} {w2 : α → W (β × Unit)} {pl : Sem Bool} (G : FnOk X.prog X.w X.K X.mg X.base (L2.CX X.prog X.w) k f fd ps (spX X.K tb (fun q : α × β × Unit => [sv (rObj C fl) q.1, sv s q.2.1]) (fun _ => []) wf ro)) (tk : Takes X (wB X.K tb B)) (hr : Room k X.A) (cl : Cls X.K C) (hm : Meth X.K C m f) (hb : Binds X.K fd ps [])
    (ho : EE X B env os o (rObj C fl) w1) (ha : ∀ x, AA X B env os [e] (fun q : β × Unit => [sv s q.1]) (w2 x)) (hn : ∀ x, (fl x).lookup m = none := by exact fun _ => rfl) (hst : starEach [e] X.env = (false, eval e X.env) :: starEach [] X.env := by rfl) (hpl : (backTo pos (starEach [] X.env)).any (·.1) = false := by rfl)
    (ht : eval (.Call (.Attribute o m apos) [e] [] pos) X.env = (do
      let ov ← eval o X.env
      standAt apos.atName
      let (f, first) ← holding [ov] (getMethod ov m pl)
      callWith pos f first (backTo pos (starEach [e] X.env)) (backToKw pos (keywordEach [] X.env))) := by rfl) :
    EE X B env os (.Call (.Attribute o m apos) [e] [] pos) ro (bnd w1 fun x => bnd (w2 x) fun i => wf (x, i)) := e_methX (sl := fun q : β × Unit => [sv s q.1]) G tk hr cl hm hb ho ha hn hst hpl ht
theorem e_methK1 {wf : α × β × Unit → W ρ} {ks : List Str} {kws : List Keyword} {w1 : W α} {w2 : α → W (β × Unit)} {pl : Sem Bool}
    (G : FnOk X.prog X.w X.K X.mg X.base CX0 k f fd ps (spW (fun q : α × β × Unit => [sv (rObj C fl) q.1, sv s q.2.1]) (fun _ => []) wf ro)) (hr : Room k X.A) (cl : Cls X.K C) (hm : Meth X.K C m f)
    (hb : KwM X.K fd ps ks) (ho : EE X B env os o (rObj C fl) w1) (hkw : ∀ x, KK X B env os kws (fun q : β × Unit => [sv s q.1]) (w2 x)) (hln : ks.length = 1 := by rfl) (hn : ∀ x, (fl x).lookup m = none := by exact fun _ => rfl) (hall : (backToKw pos (keywordEach kws X.env)).all (·.1.isSome) = true := by rfl) (hks : (backToKw pos (keywordEach kws X.env)).filterMap (·.1) = ks := by rfl)
    (hpl : ((backTo pos (starEach [] X.env)).any (·.1) || (backToKw pos (keywordEach kws X.env)).any (·.1.isNone)) = false := by rfl)
    (ht : eval (.Call (.Attribute o m apos) [] kws pos) X.env = (do
      let ov ← eval o X.env
      standAt apos.atName
      let (f, first) ← holding [ov] (getMethod ov m pl)
      callWith pos f first (backTo pos (starEach [] X.env)) (backToKw pos (keywordEach kws X.env))) := by rfl) :
    EE X B env os (.Call (.Attribute o m apos) [] kws pos) ro (bnd w1 fun x => bnd (w2 x) fun i => noX (wf (x, i))) := e_methK (κ := Unit) (sl := fun q : β × Unit => [sv s q.1]) G hr cl hm hb ho hkw (fun _ => hln.symm) hn hall hks hpl ht
/-! the lambdas, their defaults by the written form -/
theorem e_la0 {c P : Addr} {params : Arguments} {body : Expr} {scope : Scope} (j : Nat) (TB : LamX.TabB X.base X.mg c P) (hcode : X.env.code = .ref c) (hj : os[j]? = some (P, oTab (X.env.qual ++ "<lambda>"))) (L : ∀ y ∈ scope.names, y.2 = .free → X.env.scope.names.lookup y.1 = some .cell ∨ X.env.scope.names.lookup y.1 = some .free) (h1 : params.defaults = [] := by rfl) (h2 : params.kw_defaults = [] := by rfl) :
    EE X B env os (.Lambda params body scope pos) (rLam ⟨X.env.qual ++ "<lambda>", params, body, scope, cloFrom X.env.cells scope.names []⟩ false) (ret ()) := e_lam0 j TB hcode hj L (by rw [defaultsOf_eq, h1, h2]; rfl)
theorem e_la1 {c P : Addr} {params : Arguments} {body : Expr} {scope : Scope} {dp : Pos} {di : Nat} (j : Nat) (TB : LamX.TabB X.base X.mg c P) (hcode : X.env.code = .ref c) (hj : os[j]? = some (P, oTab (X.env.qual ++ "<lambda>"))) (L : ∀ y ∈ scope.names, y.2 = .free → X.env.scope.names.lookup y.1 = some .cell ∨ X.env.scope.names.lookup y.1 = some .free) (h1 : params.defaults = [.Constant (.int 0) di dp] := by rfl) (h2 : params.kw_defaults = [] := by rfl) :
    EE X B env os (.Lambda params body scope pos) (rLam ⟨X.env.qual ++ "<lambda>", params, body, scope, cloFrom X.env.cells scope.names []⟩ true) (ret ()) := e_lam1 (di := di) (dp := dp) j TB hcode hj L (by rw [defaultsOf_eq, h1, h2]; rfl)
end
end Mi
namespace Mi
open PySem L2 Evl LamX
section
variable {X : Cx} {B : Bs} {env : Env} {os : Os} {tb : ETab} {ι ρ σ' : Type} {wf : List (W σ') × Unit → W ρ} {ro : Rp ρ} {r : Rp σ'} {k kc : Nat} {f : Addr} {fd : FuncData} {ps : List Str}
/-- f(x), x a name that holds a list of lambdas -/
theorem e_callL {x y : Str} {p1 p2 pos : Pos} {Ds : List (LamD × Bool)} {u : Unit} (j : Nat) (wfs : List (W σ')) (he : env[j]? = some (sv (rLamL Ds) u)) (G : FnOk X.prog X.w X.K X.mg X.base CX0 k f fd ps (spW (fun i : List (W σ') × Unit => [sv (rLst (rClo X.prog X.w X.K X.mg X.base tb kc r)) i.1]) (fun _ => []) wf ro)) (hr : Room k X.A) (hm : X.mg x = some (.ref f)) (hk : PySem.W.keepIn X.K (.ref f) = true) (hb : Binds X.K fd ps [])
    (hstk : X.stack = X.env :: X.outer) (hfr : X.env.frame = some X.env.locals) (hfn : ∀ x, X.fn x = true) (pl : PlR ro)
    (conv : ∀ (pins : List (Addr × Obj)) (σ : L2.St) (F H : Hp) (s : Shared), Inv X pins σ H s → Sit B F H σ env os → Paired (fun (D : LamD × Bool) (wf : W σ') => ∀ v, (rLam D.1 D.2).ok F v () → (rClo X.prog X.w X.K X.mg X.base tb kc r).ok (addC (cellZ X s.heap) F) v wf) Ds wfs)
    (hN : X.N[j]? = some y := by rfl) (hv : Vis X.env.scope y := by first | exact Or.inl rfl | exact Or.inr (Or.inl rfl) | exact Or.inr (Or.inr rfl)) (hd2 : (y == ("__debug__" : Str)) = false := by decide) (hcd : (y == ("__classdict__" : Str)) = false := by decide)
    (hg : Gl X x := by rfl) (hdb : (x == ("__debug__" : Str)) = false := by decide) (hs : starEach [Expr.Name y p2] X.env = (false, eval (Expr.Name y p2) X.env) :: starEach [] X.env := by rfl) (hpl : (backTo pos (starEach [] X.env)).any (·.1) = false := by rfl) :
    EE X B env os (.Call (.Name x p1) [.Name y p2] [] pos) ro (noX (wf (wfs, ()))) :=
  e_conv (e_callC (wfs, ()) G hr hm hk hb (e_name j he hN hv hd2 hcd) hstk hfr hfn pl (fun pins σ F H s v y I S ok => clos_ok I S ok (conv pins σ F H s I S)) hg hdb hs hpl) rfl
end
end Mi

namespace Mi
open PySem L2 Evl

/-! ### dicts: keys of one kind -/
structure KeyR {κ : Type} (rk : Rp κ) (kf : κ → Key) : Prop where
  of : ∀ {F v k}, rk.ok F v k → v = kV (kf k)
  inj : ∀ {a b}, kf a = kf b → a = b
theorem key_str : KeyR rStr Sum.inr := ⟨fun h => h.1, fun h => Sum.inr.inj h⟩
theorem key_int : KeyR rInt Sum.inl := ⟨fun h => h, fun h => Sum.inl.inj h⟩
def DPair {κ α : Type} (F : Hp) (rk : Rp κ) (kf : κ → Key) (r : Rp α) (p : Key × V) (q : κ × α) : Prop := p.1 = kf q.1 ∧ rk.ok F (kV p.1) q.1 ∧ r.ok F p.2 q.2
theorem dpairs_mono {κ α : Type} {F F' : Hp} {rk : Rp κ} {kf : κ → Key} {r : Rp α} {kvs : List (Key × V)} {xs : List (κ × α)} (e : Ex F F') (h : Paired (DPair F rk kf r) kvs xs) : Paired (DPair F' rk kf r) kvs xs := Paired.imp (fun _ _ ⟨h1, h2, h3⟩ => ⟨h1, rk.mono e h2, r.mono e h3⟩) h
section
variable {κ α : Type} [DecidableEq κ]
def dget (xs : List (κ × α)) (k : κ) : Option α := (xs.find? fun p => decide (p.1 = k)).map (·.2)
def dput (xs : List (κ × α)) (k : κ) (v : α) : List (κ × α) := if (xs.any fun p => decide (p.1 = k)) = true then xs.map (fun p => if p.1 = k then (p.1, v) else p) else xs ++ [(k, v)]
variable {F F' : Hp} {rk : Rp κ} {kf : κ → Key} {r : Rp α} {kvs : List (Key × V)} {xs : List (κ × α)}
theorem dget_ok (K : KeyR rk kf) (h : Paired (DPair F rk kf r) kvs xs) (k : κ) : (valV kvs (kf k) = none ∧ dget xs k = none) ∨ ∃ v x, valV kvs (kf k) = some v ∧ dget xs k = some x ∧ r.ok F v x := by
  induction h with
  | nil => exact .inl ⟨rfl, rfl⟩
  | @cons p q kvs xs hp t ih =>
    by_cases e : q.1 = k
    · refine .inr ⟨p.2, q.2, valV_pos (by rw [hp.1, e]), ?_, hp.2.2⟩
      unfold dget
      rw [List.find?_cons, e]
      simp
    · have e' : ¬ p.1 = kf k := fun z => e (K.inj (hp.1.symm.trans z))
      rw [valV_neg e']
      have : dget (q :: xs) k = dget xs k := by
        unfold dget
        rw [List.find?_cons]
        simp [e]
      rw [this]
      exact ih
theorem dany_ok (K : KeyR rk kf) (h : Paired (DPair F rk kf r) kvs xs) (k : κ) : (kvs.any fun kv => decide (kv.1 = kf k)) = (xs.any fun p => decide (p.1 = k)) := by
  induction h with
  | nil => rfl
  | @cons p q kvs xs hp t ih =>
    rw [List.any_cons, List.any_cons, ih]
    congr 1
    rw [Bool.eq_iff_iff, decide_eq_true_eq, decide_eq_true_eq, hp.1]
    exact ⟨fun z => K.inj z, fun z => by rw [z]⟩
theorem dmap_ok (K : KeyR rk kf) (h : Paired (DPair F rk kf r) kvs xs) {k : κ} {v : V} {x : α} (hv : r.ok F v x) : Paired (DPair F rk kf r) (kvs.map fun kv => if kv.1 = kf k then (kv.1, v) else kv) (xs.map fun p => if p.1 = k then (p.1, x) else p) := by
  induction h with
  | nil => exact .nil
  | @cons p q kvs xs hp t ih =>
    rw [List.map_cons, List.map_cons]
    refine .cons ?_ ih
    by_cases e : q.1 = k
    · rw [if_pos e, if_pos (by rw [hp.1, e])]
      exact ⟨hp.1, hp.2.1, hv⟩
    · rw [if_neg e, if_neg fun z => e (K.inj (hp.1.symm.trans z))]
      exact hp
theorem dput_ok (K : KeyR rk kf) (h : Paired (DPair F rk kf r) kvs xs) {k : κ} {v : V} {x : α} (hk : rk.ok F (kV (kf k)) k) (hv : r.ok F v x) : Paired (DPair F rk kf r) (putK kvs (kf k) v) (dput xs k x) := by
  unfold putK dput
  rw [dany_ok K h k]
  split
  · exact dmap_ok K h hv
  · exact Paired.app h (.cons ⟨rfl, hk, hv⟩ .nil)
theorem putK_len (kvs : List (Key × V)) (k : Key) (v : V) : (putK kvs k v).length ≤ kvs.length + 1 := by
  unfold putK
  split
  · rw [List.length_map]; omega
  · rw [List.length_append]; exact Nat.le_refl _
end
/-- a dict that nobody changes any more -/
def rDct {κ α : Type} (rk : Rp κ) (kf : κ → Key) (r : Rp α) : Rp (List (κ × α)) := ⟨fun F v xs => ∃ a ob kvs, v = .ref a ∧ F a = some (.frz ob (.dK kvs)) ∧ kvs.length ≤ sizeLine ∧ Paired (DPair F rk kf r) kvs xs, fun e ⟨a, ob, kvs, h1, h2, h3, h4⟩ => ⟨a, ob, kvs, h1, e _ _ h2, h3, dpairs_mono e h4⟩⟩
/-- a dict of one's own -/
def oDct {κ α : Type} (rk : Rp κ) (kf : κ → Key) (r : Rp α) (xs : List (κ × α)) : Own := ⟨fun F o => ∃ kvs, o = .dK kvs ∧ kvs.length ≤ sizeLine ∧ Paired (DPair F rk kf r) kvs xs, fun e ⟨kvs, h1, h2, h3⟩ => ⟨kvs, h1, h2, dpairs_mono e h3⟩⟩
def optW {α : Type} : Option α → W α
  | some x => ret x
  | none => fail
section
variable {X : Cx} {B : Bs} {env : Env} {os : Os} {pos p : Pos} {κ α β : Type} [DecidableEq κ] {rk : Rp κ} {kf : κ → Key} {r : Rp α} {o a b c e : Expr} {rest : List Stmt} {post : Post β}
/-- d[k] -/
theorem e_dget {w1 : W (List (κ × α))} {w2 : List (κ × α) → W κ} (K : KeyR rk kf) (hu : X.A.units + 100 < cLine) (ha : EE X B env os a (rDct rk kf r) w1) (hb : ∀ x, EE X B env os b rk (w2 x)) (hs : NoSl b := by exact fun _ _ => rfl) : EE X B env os (.Subscript a b pos) r (bnd w1 fun xs => bnd (w2 xs) fun k => optW (dget xs k)) :=
  PE.imp (pe_dget (by omega) ha (PE.ex hb) hs) fun σ H Q ⟨F, P, S, hw, kk⟩ => ⟨F, _, S, hw, fun xs hx v F1 H1 S1 e1 ⟨p1, ob, kvs, q1, h1, z1, ok1⟩ => ⟨xs, F1, _, S1, hx, fun k hk u F2 H2 S2 e2 ok2 => by
    have eu := K.of ok2
    subst q1 eu
    have hk : optW (dget xs k) P B.E0 := hk
    rcases dget_ok K (dpairs_mono e2 ok1) k with ⟨g1, g2⟩ | ⟨v, x, g1, g2, g3⟩
    · rw [g2] at hk
      exact False.elim hk
    · rw [g2] at hk
      exact ⟨p1, v, rfl, .inl ⟨kvs, kf k, .inr ⟨_, S2.fh _ _ (e2 _ _ h1)⟩, rfl, g1.symm⟩, kk x hk v F2 H2 S2 (e1.trans e2) g3⟩⟩⟩
/-- k in d, k not in d -/
theorem e_din {w1 : W κ} {w2 : κ → W (List (κ × α))} (K : KeyR rk kf) (hu : X.A.units + 100 < cLine) (ha : EE X B env os a rk w1) (hb : ∀ x, EE X B env os b (rDct rk kf r) (w2 x)) (hm : behindInMarks .In b = false := by rfl) : EE X B env os (.Compare a [.In] [b] pos) rBool (bnd w1 fun k => bnd (w2 k) fun xs => ret (dget xs k).isSome) :=
  PE.imp (pe_cmp (pc_din (by omega) ha (PE.ex hb)) hm) fun σ H Q ⟨F, P, S, hw, kk⟩ => ⟨F, _, S, hw, fun k hk v F1 H1 S1 e1 ok1 => ⟨k, F1, _, S1, hk, fun xs hx u F2 H2 S2 e2 ⟨p1, ob, kvs, q1, h1, z1, ok2⟩ => by
    have eu := K.of ok1
    subst q1 eu
    refine ⟨p1, valV kvs (kf k), rfl, .inl ⟨kvs, kf k, .inr ⟨_, S2.fh _ _ h1⟩, rfl, rfl⟩, ?_⟩
    have : (valV kvs (kf k)).isSome = (dget xs k).isSome := by
      rcases dget_ok K ok2 k with ⟨g1, g2⟩ | ⟨v, x, g1, g2, g3⟩ <;> rw [g1, g2] <;> rfl
    rw [this]
    exact kk _ hx (.bl _) F2 H2 S2 (e1.trans e2) rfl⟩⟩
/-- d.get(k, c) -/
theorem e_dgetD {w1 : W (List (κ × α))} {w2 : List (κ × α) → W κ} {w3 : List (κ × α) → κ → W α} {apos : Pos} (K : KeyR rk kf) (hu : X.A.units + 100 < cLine) (ha : EE X B env os a (rDct rk kf r) w1) (hb : ∀ x, EE X B env os b rk (w2 x)) (hc : ∀ x y, EE X B env os c r (w3 x y)) (m : M2 X a "get" apos b c pos := by exact ⟨rfl, rfl, rfl, rfl⟩) :
    EE X B env os (.Call (.Attribute a "get" apos) [b, c] [] pos) r (bnd w1 fun xs => bnd (w2 xs) fun k => bnd (w3 xs k) fun d => ret ((dget xs k).getD d)) :=
  PE.imp (pe_dget2 (by omega) ha (PE.ex fun x => hb x) (PE.ex fun q : List (κ × α) × κ => hc q.1 q.2) m) fun σ H Q ⟨F, P, S, hw, kk⟩ => ⟨F, _, S, hw, fun xs hx v F1 H1 S1 e1 ⟨p1, ob, kvs, q1, h1, z1, ok1⟩ => ⟨p1, q1, .inl ⟨kvs, .inr ⟨_, S1.fh _ _ h1⟩⟩, xs, F1, _, S1, hx, fun k hk u F2 H2 S2 e2 ok2 => ⟨(xs, k), F2, _, S2, hk, fun d hd t F3 H3 S3 e3 ok3 => by
    have eu := K.of ok2
    subst eu
    refine ⟨valV kvs (kf k), .inl ⟨kvs, kf k, .inr ⟨_, S3.fh _ _ (e3 _ _ (e2 _ _ h1))⟩, rfl, rfl⟩, ?_⟩
    have hd : P ((dget xs k).getD d) := hd
    rcases dget_ok K (dpairs_mono (e2.trans e3) ok1) k with ⟨g1, g2⟩ | ⟨v, x, g1, g2, g3⟩
    · rw [g1]
      rw [g2] at hd
      exact kk d hd t F3 H3 S3 ((e1.trans e2).trans e3) ok3
    · rw [g1]
      rw [g2] at hd
      exact kk x hd v F3 H3 S3 ((e1.trans e2).trans e3) g3⟩⟩⟩
theorem e_dnin {w1 : W κ} {w2 : κ → W (List (κ × α))} (K : KeyR rk kf) (hu : X.A.units + 100 < cLine) (ha : EE X B env os a rk w1) (hb : ∀ x, EE X B env os b (rDct rk kf r) (w2 x)) (hm : behindInMarks .NotIn b = false := by rfl) : EE X B env os (.Compare a [.NotIn] [b] pos) rBool (bnd w1 fun k => bnd (w2 k) fun xs => ret (!(dget xs k).isSome)) :=
  PE.imp (pe_cmp (pc_dnotin (by omega) ha (PE.ex hb)) hm) fun σ H Q ⟨F, P, S, hw, kk⟩ => ⟨F, _, S, hw, fun k hk v F1 H1 S1 e1 ok1 => ⟨k, F1, _, S1, hk, fun xs hx u F2 H2 S2 e2 ⟨p1, ob, kvs, q1, h1, z1, ok2⟩ => by
    have eu := K.of ok1
    subst q1 eu
    refine ⟨p1, valV kvs (kf k), rfl, .inl ⟨kvs, kf k, .inr ⟨_, S2.fh _ _ h1⟩, rfl, rfl⟩, ?_⟩
    have : (valV kvs (kf k)).isSome = (dget xs k).isSome := by
      rcases dget_ok K ok2 k with ⟨g1, g2⟩ | ⟨v, x, g1, g2, g3⟩ <;> rw [g1, g2] <;> rfl
    rw [this]
    exact kk _ hx (.bl _) F2 H2 S2 (e1.trans e2) rfl⟩⟩
/-! one's own -/
theorem Sit.dct {F H : Hp} {σ : L2.St} {i j : Nat} {q : Addr} {xs : List (κ × α)} (S : Sit B F H σ env os) (hi : env[i]? = some (sv (rAdr q) ())) (hj : os[j]? = some (q, oDct rk kf r xs)) :
    σ[i]? = some (some (.ref q)) ∧ F q = none ∧ ∃ kvs, H q = some (.dK kvs) ∧ kvs.length ≤ sizeLine ∧ Paired (DPair F rk kf r) kvs xs := by
  obtain ⟨ov, g1, v, g2, g3⟩ := S.env.get hi
  have g3 : v = .ref q := g3
  subst g2 g3
  obtain ⟨h1, ⟨o, h2, kvs, h3, h4, h5⟩, _⟩ := S.ow _ (List.mem_of_getElem? hj)
  subst h3
  exact ⟨g1, h1, kvs, h2, h4, h5⟩
/-- d = {} -/
theorem b_dnew (i : Nat) {x : Str} {pos' p2 : Pos} {w2 : W β} (rk : Rp κ) (kf : κ → Key) (r : Rp α) (hr : ∀ a, BG X B (env.set i (sv (rAdr a) ())) ((a, oDct rk kf r []) :: os) rest post w2) (hN : X.N.Nodup) (hi : X.N[i]? = some x := by rfl)
    (hx : Loc X.env.scope x := by first | exact Or.inl rfl | exact Or.inr rfl) (hs : swapsWith (.Dict [] [] p2) (some (.Name x pos')) pos.line X.env = pure false := by rfl) (hf : X.fn x = true ∨ X.env.scope.names.lookup x = some .local := by first | exact .inl rfl | exact .inr rfl | assumption) :
    BG X B env os (.Assign [.Name x pos'] (.Dict [] [] p2) pos :: rest) post w2 :=
  PSs.imp (pss_cons (ps_set hN hi hx pe_dnewK hs hf) (PSs.ex hr)) fun D σ H ⟨F, P, S, hw, k⟩ => fun q hq => ⟨q, F, P, (S.newOwn (ow := oDct rk kf r []) hq ⟨[], rfl, Nat.zero_le _, .nil⟩).store ⟨_, rfl, rfl⟩, hw, k⟩
/-- d[k] = e, d one's own -/
theorem b_dput (i j : Nat) {x : Str} {p1 p2 : Pos} {q : Addr} {xs : List (κ × α)} {w : W α} {w1 : α → W κ} {w2 : List (κ × α) → W β} (K : KeyR rk kf) (hu : X.A.units + 100 < cLine) (hi : env[i]? = some (sv (rAdr q) ())) (hj : os[j]? = some (q, oDct rk kf r xs)) (he : EE X B env os e r w) (hk : ∀ y, EE X B env os b rk (w1 y))
    (hr : ∀ ys, BG X B env (os.set j (q, oDct rk kf r ys)) rest post (w2 ys)) (hN : X.N[i]? = some x := by rfl)
    (hv : Vis X.env.scope x := by first | exact Or.inl rfl | exact Or.inr (Or.inl rfl) | exact Or.inr (Or.inr rfl)) (hd : (x == ("__debug__" : Str)) = false := by decide) (hcd : (x == ("__classdict__" : Str)) = false := by decide)
    (hs : swapsWith e (some (.Subscript (.Name x p1) b p2)) pos.line X.env = pure false := by rfl) :
    BG X B env os (.Assign [.Subscript (.Name x p1) b p2] e pos :: rest) post (bnd w fun y => bnd (w1 y) fun k => chk (xs.length < sizeLine) (w2 (dput xs k y))) :=
  PSs.imp (pss_cons (ps_dput (by omega) (pe_var hN hv hd hcd) (PE.ex hk) he hs) (PSs.ex hr)) fun D σ H ⟨F, P, S, hw, kk⟩ => ⟨F, _, S, hw, fun y hy v F1 H1 S1 e1 ok => by
    obtain ⟨g1, _, _, _, _, _⟩ := S1.dct hi hj
    refine ⟨.ref q, g1, y, F1, _, S1, hy, fun k ⟨hl, hz⟩ u F2 H2 S2 e2 ok2 => ?_⟩
    obtain ⟨_, g2, kvs, g3, g4, g5⟩ := S2.dct hi hj
    have eu := K.of ok2
    subst eu
    have hl' : kvs.length < sizeLine := by rw [g5.length]; exact hl
    have lp := putK_len kvs (kf k) v
    exact ⟨q, _, rfl, .inl ⟨kvs, kf k, g3, rfl, hl', rfl⟩, _, F2, P, S2.change hj ⟨_, rfl, by omega, dput_ok K g5 ok2 (r.mono e2 ok)⟩, hz, kk⟩⟩
/-- d.get(k, c), d one's own -/
theorem e_dgetO (i j : Nat) {x : Str} {p1 apos : Pos} {q : Addr} {xs : List (κ × α)} {w2 : W κ} {w3 : κ → W α} (K : KeyR rk kf) (hu : X.A.units + 100 < cLine) (hi : env[i]? = some (sv (rAdr q) ())) (hj : os[j]? = some (q, oDct rk kf r xs)) (hb : EE X B env os b rk w2) (hc : ∀ y, EE X B env os c r (w3 y)) (hN : X.N[i]? = some x := by rfl)
    (hv : Vis X.env.scope x := by first | exact Or.inl rfl | exact Or.inr (Or.inl rfl) | exact Or.inr (Or.inr rfl)) (hd : (x == ("__debug__" : Str)) = false := by decide) (hcd : (x == ("__classdict__" : Str)) = false := by decide) (m : M2 X (.Name x p1) "get" apos b c pos := by exact ⟨rfl, rfl, rfl, rfl⟩) :
    EE X B env os (.Call (.Attribute (.Name x p1) "get" apos) [b, c] [] pos) r (bnd w2 fun k => bnd (w3 k) fun d => ret ((dget xs k).getD d)) :=
  PE.imp (pe_dget2 (by omega) (pe_var hN hv hd hcd) hb (PE.ex hc) m) fun σ H Q ⟨F, P, S, hw, kk⟩ => by
    obtain ⟨g1, g2, kvs, g3, g4, g5⟩ := S.dct hi hj
    refine ⟨.ref q, g1, q, rfl, .inl ⟨kvs, .inl g3⟩, F, _, S, hw, fun k hk u F2 H2 S2 e2 ok2 => ⟨k, F2, _, S2, hk, fun d hd t F3 H3 S3 e3 ok3 => ?_⟩⟩
    obtain ⟨_, _, kvs, g3, g4, g5⟩ := S3.dct hi hj
    have eu := K.of ok2
    subst eu
    have hd : P ((dget xs k).getD d) := hd
    refine ⟨valV kvs (kf k), .inl ⟨kvs, kf k, .inl g3, rfl, rfl⟩, ?_⟩
    rcases dget_ok K g5 k with ⟨h1, h2⟩ | ⟨v, x, h1, h2, h3⟩
    · rw [h1]
      rw [h2] at hd
      exact kk d hd t F3 H3 S3 (e2.trans e3) ok3
    · rw [h1]
      rw [h2] at hd
      exact kk x hd v F3 H3 S3 (e2.trans e3) h3
/-- from now on nobody changes it -/
theorem pss_lock {blk : List Stmt} {t : TS} (h : PSs X blk t) : PSs X blk (fun D σ H => ∃ d u, H d = some u ∧ Mut (some u) ∧ ∀ od, t D σ (upd H d (.frz od u))) := ⟨fun pins s σ H D I ⟨d, u, hd, mu, hw⟩ => by
  obtain ⟨od, I1⟩ := I.lock hd mu
  exact h.run pins s σ _ D I1 (hw od)⟩
theorem pe_lockR {t : TE} (h : PE X e t) : PE X e (fun σ H Q => t σ H fun v H' => ∃ d u, v = .ref d ∧ H' d = some u ∧ Mut (some u) ∧ ∀ od, Q v (upd H' d (.frz od u))) := ⟨fun pins s σ H Q I hw => by
  refine thn (h.run pins s σ H _ I hw) fun w s1 ⟨x, H1, I1, r1, d, u, ex, hd, mu, q⟩ => ?_
  obtain ⟨od, I2⟩ := I1.lock hd mu
  exact ⟨x, _, I2, r1, q od⟩⟩
theorem Sit.lockD {F H : Hp} {σ : L2.St} {q : Addr} {xs : List (κ × α)} (S : Sit B F H σ env ((q, oDct rk kf r xs) :: os)) :
    ∃ kvs, H q = some (.dK kvs) ∧ ∀ od, ∃ F', Ex F F' ∧ (rDct rk kf r).ok F' (.ref q) xs ∧ Sit B F' (upd H q (.frz od (.dK kvs))) σ env os := by
  obtain ⟨h1, ⟨o, h2, kvs, h3, h4, h5⟩, _⟩ := S.ow _ List.mem_cons_self
  subst h3
  refine ⟨kvs, h2, fun od => ?_⟩
  have S2 := S.change (j := 0) (ow' := ⟨fun F o => o = .frz od (.dK kvs) ∧ Paired (DPair F rk kf r) kvs xs, fun e ⟨z, w⟩ => ⟨z, dpairs_mono e w⟩⟩) (o' := .frz od (.dK kvs)) rfl ⟨rfl, h5⟩
  obtain ⟨F', o, e, k1, ⟨k2, k3⟩, S3⟩ := Sit.freeze S2
  subst k2
  exact ⟨F', e, ⟨q, od, kvs, rfl, k1, h4, k3⟩, S3⟩
theorem b_dfreeze (i j : Nat) {q : Addr} {xs : List (κ × α)} {w : W β} {blk : List Stmt} (hi : env[i]? = some (sv (rAdr q) ())) (hj : os[j]? = some (q, oDct rk kf r xs)) (h : BG X B (env.set i (sv (rDct rk kf r) xs)) (os.eraseIdx j) blk post w) : BG X B env os blk post w :=
  PSs.imp (pss_lock h) fun D σ H ⟨F, P, S, hw, k⟩ => by
  obtain ⟨kvs, h1, hl⟩ := (S.pick hj).lockD
  refine ⟨q, .dK kvs, h1, trivial, fun od => ?_⟩
  obtain ⟨F2, e2, ok, S2⟩ := hl od
  obtain ⟨ov, g1, v, g2, g3⟩ := S2.env.get hi
  have g3' : v = .ref q := g3
  subst g2 g3'
  have z : σ.set i (some (.ref q)) = σ := set_same g1
  have S3 := S2.store (i := i) (sl := sv (rDct rk kf r) xs) (v := .ref q) ⟨_, rfl, ok⟩
  rw [z] at S3
  exact ⟨F2, P, S3, hw, k⟩
/-! a new dict as an expression -/
def tNewD {κ α : Type} (B : Bs) (env : Env) (os : Os) (rk : Rp κ) (kf : κ → Key) (r : Rp α) (w : W (List (κ × α))) : TE := fun σ H Q => ∃ F P, Sit B F H σ env os ∧ w P B.E0 ∧ ∀ xs, P xs → ∀ a F' H', Sit B F' H' σ env ((a, oDct rk kf r xs) :: os) → Ex F F' → Q (.ref a) H'
def ED {κ α : Type} (X : Cx) (B : Bs) (env : Env) (os : Os) (e : Expr) (rk : Rp κ) (kf : κ → Key) (r : Rp α) (w : W (List (κ × α))) : Prop := PE X e (tNewD B env os rk kf r w)
theorem e_newD {w : W (List (κ × α))} (h : ED X B env os e rk kf r w) : EE X B env os e (rDct rk kf r) w := PE.imp (pe_lockR h) fun σ H Q ⟨F, P, S, hw, k⟩ => ⟨F, P, S, hw, fun xs hx a F' H' S' e' => by
  obtain ⟨kvs, h1, hl⟩ := S'.lockD
  refine ⟨a, .dK kvs, rfl, h1, trivial, fun od => ?_⟩
  obtain ⟨F2, e2, ok, S2⟩ := hl od
  exact k xs hx (.ref a) F2 _ S2 (e'.trans e2) ok⟩
theorem d_empty {p2 : Pos} : ED X B env os (.Dict [] [] p2) rk kf r (ret []) := PE.imp pe_dnewK fun σ H Q ⟨F, P, S, hw, k⟩ => fun q hq => k [] hw q F _ (S.newOwn (ow := oDct rk kf r []) hq ⟨[], rfl, Nat.zero_le _, .nil⟩) (Ex.refl F)
end
end Mi

namespace Mi
open PySem L2 Evl

/-! ### data of any kind: len, items, what it is -/
theorem dpAll_paired {K : PySem.W.Frag} {F : Hp} : ∀ {ds : List PyData} {vs : List V}, DpAll K F vs ds → Paired (Dp K F) vs ds
  | [], _, h => by
    cases h
    exact .nil
  | d :: ds, _, h => by
    cases h with
    | cons h t => exact .cons h (dpAll_paired t)
theorem depthAll_mem : ∀ {ds : List PyData} {d : PyData}, d ∈ ds → d.depth ≤ PyData.depthAll ds
  | d :: ds, e, h => by
    rw [PyData.depthAll]
    rcases List.mem_cons.mp h with z | z
    · rw [z]
      omega
    · have := depthAll_mem z
      omega
def lenD : PyData → W Int
  | .str s => chk (s.length ≤ sizeLine) (ret (s.length : Int))
  | .list ds => ret (ds.length : Int)
  | .tuple ds => ret (ds.length : Int)
  | _ => fail
def idxD (d : PyData) (i : Int) : W PyData := match d with
  | .list ds => idx ds i
  | .tuple ds => idx ds i
  | _ => fail
section
variable {X : Cx} {B : Bs} {env : Env} {os : Os} {pos p : Pos} {a b e : Expr} {rest : List Stmt} {α β : Type} {post : Post β}
theorem e_lenD {w : W PyData} (ha : EE X B env os a (rD X.K) w) (hm : X.mg "len" = none) (hg : Gl X "len" := by rfl) (he : starEach [a] X.env = (false, eval a X.env) :: starEach [] X.env := by rfl) (hpl : (backTo pos (starEach [] X.env)).any (·.1) = false := by rfl) :
    EE X B env os (.Call (.Name "len" p) [a] [] pos) rInt (bnd w lenD) :=
  PE.imp (pe_callB call_len hg hm PySem.boot_len (pa_cons ha pa_nil he) (by decide) (by decide) he hpl) fun σ H Q ⟨F, P, S, hw, kk⟩ => ⟨F, _, S, hw, fun d hd v F1 H1 S1 e1 ⟨ok, h2, h3⟩ => by
    have hd : lenD d P B.E0 := hd
    cases ok with
    | non => exact False.elim hd
    | bl b => exact False.elim hd
    | int i => exact False.elim hd
    | str x => exact ⟨_, x.length, rfl, ⟨hd.1, rfl⟩, kk _ hd.2 (.int _) F1 H1 S1 e1 rfl⟩
    | @lst a1 vs ds h t =>
      have hl := (dpAll_paired t).length
      refine ⟨_, ds.length, rfl, .inl ⟨vs, ex_l S1.fh h, hl.symm⟩, kk _ hd (.int _) F1 H1 S1 e1 rfl⟩
    | @tup a1 vs ds h t =>
      have hl := (dpAll_paired t).length
      refine ⟨_, ds.length, rfl, .inr ⟨vs, ex_t S1.fh h, hl.symm⟩, kk _ hd (.int _) F1 H1 S1 e1 rfl⟩⟩
theorem atI_pair {κ : Type} {R : V → κ → Prop} {vs : List V} {ds : List κ} (h : Paired R vs ds) {i : Int} {d : κ} (e : atI ds i = some d) : ∃ v, atI vs i = some v ∧ R v d := by
  unfold atI at e ⊢
  rw [h.length]
  cases q : ixN ds.length i with
  | none => rw [q] at e; cases e
  | some j =>
    rw [q] at e
    have e2 : ds[j]? = some d := e
    clear q e
    show ∃ v, vs[j]? = some v ∧ R v d
    induction h generalizing j with
    | nil => simp at e2
    | cons r t ih =>
      cases j with
      | zero =>
        simp at e2
        subst e2
        exact ⟨_, rfl, r⟩
      | succ j => exact ih j (by simpa using e2)
theorem atI_mem {κ : Type} {ds : List κ} {i : Int} {d : κ} (e : atI ds i = some d) : d ∈ ds := by
  unfold atI at e
  cases q : ixN ds.length i with
  | none => rw [q] at e; cases e
  | some j =>
    rw [q] at e
    exact List.mem_of_getElem? (show ds[j]? = some d from e)
theorem e_idxD {w1 : W PyData} {w2 : PyData → W Int} (ha : EE X B env os a (rD X.K) w1) (hb : ∀ x, EE X B env os b rInt (w2 x)) (hs : PlainIx b := by exact fun _ _ => rfl) : EE X B env os (.Subscript a b pos) (rD X.K) (bnd w1 fun d => bnd (w2 d) fun i => idxD d i) :=
  PE.imp (pe_ix ix_seq ha (PE.ex hb) hs) fun σ H Q ⟨F, P, S, hw, kk⟩ => ⟨F, _, S, hw, fun d hd v F1 H1 S1 e1 okd => ⟨d, F1, _, S1, hd, fun i hi u F2 H2 S2 e2 ok2 => by
    have ok2 : u = .int i := ok2
    subst ok2
    have hi : idxD d i P B.E0 := hi
    obtain ⟨ok, c, dp⟩ := (rD X.K).mono e2 okd
    cases ok with
    | non => exact False.elim hi
    | bl b => exact False.elim hi
    | int i => exact False.elim hi
    | str x => exact False.elim hi
    | lst h t =>
      obtain ⟨y, g1, g2⟩ := idx_of (show idx _ i P B.E0 from hi)
      obtain ⟨v, g3, g4⟩ := atI_pair (dpAll_paired t) g1
      have hm : y ∈ _ := atI_mem g1
      rw [PyData.depth] at dp
      have := depthAll_mem hm
      exact .inl ⟨_, _, i, v, rfl, rfl, ex_l S2.fh h, g3, kk y g2 v F2 H2 S2 (e1.trans e2) ⟨g4, PyData.canLay0_of_mem _ _ (by simpa only [PyData.canLay0] using c) hm, by omega⟩⟩
    | tup h t =>
      obtain ⟨y, g1, g2⟩ := idx_of (show idx _ i P B.E0 from hi)
      obtain ⟨v, g3, g4⟩ := atI_pair (dpAll_paired t) g1
      have hm : y ∈ _ := atI_mem g1
      rw [PyData.depth] at dp
      have := depthAll_mem hm
      exact .inr (.inl ⟨_, _, i, v, rfl, rfl, ex_t S2.fh h, g3, kk y g2 v F2 H2 S2 (e1.trans e2) ⟨g4, PyData.canLay0_of_mem _ _ (by simpa only [PyData.canLay0] using c) hm, by omega⟩⟩)⟩⟩
/-- isinstance(e, (T1, T2)) -/
theorem e_isTD {w : W PyData} {x1 x2 : Str} {T1 T2 : String} {k : String → Bool} {p1 p2 p3 p4 : Pos} {kk0 : Nat} (hk : ∀ d, PySem.W.kitAny X.K (.type (tyD d)) [.type T1, .type T2] = some (k (tyD d))) (ha : EE X B env os a (rD X.K) w) (hm : X.mg "isinstance" = none) (hx1 : X.mg x1 = none) (hx2 : X.mg x2 = none)
    (hv1 : bootBuiltins x1 = some (.type T1) := by decide +kernel) (hn1 : x1 ≠ "__name__" := by decide) (hd1 : (x1 == ("__debug__" : Str)) = false := by decide) (hv2 : bootBuiltins x2 = some (.type T2) := by decide +kernel) (hn2 : x2 ≠ "__name__" := by decide) (hd2 : (x2 == ("__debug__" : Str)) = false := by decide)
    (hg : Gl X "isinstance" := by rfl) (hg1 : Gl X x1 := by rfl) (hg2 : Gl X x2 := by rfl) (hs : starEach [a, .Tuple [.Name x1 p2, .Name x2 p3] kk0 p4] X.env = (false, eval a X.env) :: starEach [.Tuple [.Name x1 p2, .Name x2 p3] kk0 p4] X.env := by rfl) (hs2 : starEach [.Tuple [.Name x1 p2, .Name x2 p3] kk0 p4] X.env = (false, eval (.Tuple [.Name x1 p2, .Name x2 p3] kk0 p4) X.env) :: starEach [] X.env := by rfl)
    (hs3 : starEach [.Name x1 p2, .Name x2 p3] X.env = (false, eval (.Name x1 p2) X.env) :: starEach [.Name x2 p3] X.env := by rfl) (hs4 : starEach [.Name x2 p3] X.env = (false, eval (.Name x2 p3) X.env) :: starEach [] X.env := by rfl) (hpl : (backTo pos (starEach [.Tuple [.Name x1 p2, .Name x2 p3] kk0 p4] X.env)).any (·.1) = false := by rfl) :
    EE X B env os (.Call (.Name "isinstance" p1) [a, .Tuple [.Name x1 p2, .Name x2 p3] kk0 p4] [] pos) rBool (bnd w fun d => ret (k (tyD d))) :=
  PE.imp (pe_callB call_isiT hg hm (by decide +kernel) (pa_cons ha (pa_cons (pe_tup (pa_cons (pe_bltn (v := .ty T1) hg1 hx1 hv1 rfl hn1 hd1) (pa_cons (pe_bltn (v := .ty T2) hg2 hx2 hv2 rfl hn2 hd2) pa_nil hs4) hs3)) pa_nil hs2) hs) (by decide) (by decide) hs hpl) fun σ H Q ⟨F, P, S, hw, kk⟩ => ⟨F, _, S, hw, fun d hd v F1 H1 S1 e1 ok => ⟨by show 2 ≤ sizeLine; decide, fun q hq => by
    have g : Grow F1 H1 (upd F1 q (.tup [.ty T1, .ty T2])) (upd H1 q (.tup [.ty T1, .ty T2])) := Grow.alloc S1.fh hq
    exact ⟨v, q, [.ty T1, .ty T2], _, [.type T1, .type T2], k (tyD d), rfl, upd_same, .cons (.ty T1) (.cons (.ty T2) .nil), ty_D ((rD X.K).mono g.f ok) (S1.grow g).fh, hk d, kk _ hd (.bl _) _ _ (S1.grow g) (e1.trans g.f) rfl⟩⟩⟩
/-! ### from here on it is known what a datum is -/
def asIS : PyData → W (Int × Str)
  | .tuple [.int i, .str s] => chk (s.length ≤ sizeLine) (ret (i, s))
  | _ => fail
def asStr : PyData → W Str
  | .str s => chk (s.length ≤ sizeLine) (ret s)
  | _ => fail
def asInt : PyData → W Int
  | .int i => ret i
  | _ => fail
theorem b_narrow {γ : Type} (i : Nat) {d : PyData} {s : Rp γ} {g : PyData → W γ} {w2 : γ → W β} (hi : env[i]? = some (sv (rD X.K) d)) (hg : ∀ {F v P E}, (rD X.K).ok F v d → g d P E → ∃ x, P x ∧ s.ok F v x) (h : ∀ x, BG X B (env.set i (sv s x)) os rest post (w2 x)) : BG X B env os rest post (bnd (g d) w2) :=
  PSs.imp (PSs.ex h) fun D σ H ⟨F, P, S, hw, k⟩ => by
  obtain ⟨ov, g1, v, g2, g3⟩ := S.env.get hi
  subst g2
  obtain ⟨x, hx, ok⟩ := hg g3 hw
  have S2 := S.store (i := i) (sl := sv s x) (v := v) ⟨_, rfl, ok⟩
  rw [set_same g1] at S2
  exact ⟨x, F, P, S2, hx, k⟩
theorem nr_int {K : PySem.W.Frag} {d : PyData} {F : Hp} {v : V} {P : Int → Prop} {E : Er → Prop} (h : (rD K).ok F v d) (q : asInt d P E) : ∃ x, P x ∧ rInt.ok F v x := by
  obtain ⟨ok, _, _⟩ := h
  cases ok with
  | int i => exact ⟨i, q, rfl⟩
  | _ => exact False.elim q
theorem nr_str {K : PySem.W.Frag} {d : PyData} {F : Hp} {v : V} {P : Str → Prop} {E : Er → Prop} (h : (rD K).ok F v d) (q : asStr d P E) : ∃ x, P x ∧ rStr.ok F v x := by
  obtain ⟨ok, c, _⟩ := h
  cases ok with
  | str x => exact ⟨x, q.2, rfl, q.1, by simpa [PyData.canLay0] using c⟩
  | _ => exact False.elim q
end
end Mi

namespace Mi
open PySem L2 Evl

theorem nr_IS {K : PySem.W.Frag} {d : PyData} {F : Hp} {v : V} {P : Int × Str → Prop} {E : Er → Prop} (h : (rD K).ok F v d) (q : asIS d P E) : ∃ x, P x ∧ (rT2 K rInt rStr).ok F v x := by
  obtain ⟨ok, c, _⟩ := h
  unfold asIS at q
  split at q
  · rename_i i s _
    cases ok with
    | tup h t =>
      cases t with
      | cons h1 t =>
        cases t with
        | cons h2 t =>
          cases t
          cases h1
          cases h2
          refine ⟨(i, s), q.2, _, _, _, rfl, h, rfl, rfl, q.1, ?_⟩
          simpa [PyData.canLay0, PyData.canLayAll0] using c
  · exact False.elim q
theorem kt_lt {K : PySem.W.Frag} (d : PyData) : PySem.W.kitAny K (.type (tyD d)) [.type "list", .type "tuple"] = some (tyD d == "list" || tyD d == "tuple") := by
  unfold PySem.W.kitAny PySem.W.kitAny PySem.W.kitAny
  rw [kd_list, kd_tuple]
  cases d <;> rfl
/-! ### dicts: walked, listed -/
section
variable {X : Cx} {B : Bs} {env : Env} {os : Os} {pos p : Pos} {κ α β : Type} {rk : Rp κ} {kf : κ → Key} {r : Rp α} {tg o a b c e : Expr}
theorem dkeys_get {F : Hp} {kvs : List (Key × V)} {xs : List (κ × α)} (h : Paired (DPair F rk kf r) kvs xs) {i : Nat} {q : κ × α} (hq : xs[i]? = some q) : ∃ p, kvs[i]? = some p ∧ DPair F rk kf r p q := by
  obtain ⟨v, h1, h2⟩ := Paired.get h hq
  exact ⟨v, h1, h2⟩
theorem s_keys {w : W (List (κ × α))} (h : EE X B env os e (rDct rk kf r) w) : ES X B env os tg e rk (bnd w fun xs => ret (xs.map (·.1))) := PI.imp (pi_keys h) fun σ H R ⟨F, P, S, hw, k⟩ => ⟨F, _, S, hw, fun xs hx v F' H' S' e' ⟨p, ob, kvs, e1, h1, h2, h3⟩ =>
  ⟨p, ob, e1, .inl ⟨kvs, S'.fh _ _ h1, k _ hx _ F' H' S' e' ⟨fun i F1 H1 x1 x2 hi => by
    rw [List.length_map] at hi
    exact ⟨x2 _ _ (x1 _ _ h1), by rw [h3.length]; exact hi⟩, fun i F1 H1 u H2 x x1 x2 y hx => by
    obtain ⟨e2, k1, v1, y1, y2⟩ := y
    subst e2 y2
    rw [List.getElem?_map] at hx
    cases q : xs[i]? with
    | none => rw [q] at hx; cases hx
    | some z =>
      rw [q] at hx
      cases hx
      obtain ⟨pp, g1, g2⟩ := dkeys_get h3 q
      rw [y1] at g1
      cases g1
      exact ⟨F1, Grow.refl x2, rk.mono x1 g2.2.1⟩, fun i F1 H1 x1 x2 hi => by
    rw [List.length_map] at hi
    exact ⟨x2 _ _ (x1 _ _ h1), by rw [h3.length]; exact hi⟩⟩ (by rw [List.length_map, ← h3.length]; exact h2)⟩⟩⟩
/-- sorted(xs): whatever is in order -/
def sortI (xs : List Int) : W (List Int) := fun P _ => xs.length < 64 ∧ ∀ ys : List Int, ys.Perm xs → ys.Pairwise (· ≤ ·) → P ys
def sortS (xs : List Str) : W (List Str) := fun P _ => xs.length < 64 ∧ ∀ ys : List Str, ys.Perm xs → PyProof.Rows.sortedS ys = true → P ys
theorem n_sortedI {w : W (List Int)} (ha : EE X B env os a (rLst rInt) w) (hm : X.mg "sorted" = none) (hg : Gl X "sorted" := by rfl) (he : starEach [a] X.env = (false, eval a X.env) :: starEach [] X.env := by rfl) (hpl : (backTo pos (starEach [] X.env)).any (·.1) = false := by rfl) :
    EN X B env os (.Call (.Name "sorted" p) [a] [] pos) rInt (bnd w sortI) :=
  PE.imp (pe_callB cr_sorted hg hm (by decide +kernel) (pa_cons ha pa_nil he) (by decide) (by decide) he hpl) fun σ H Q ⟨F, P, S, hw, k⟩ => ⟨F, _, S, hw, fun x ⟨hl, hx⟩ v F1 H1 S1 e1 ⟨p1, vs, q1, h1, z1, ok1⟩ => by
    have ev := ints_map ok1
    subst ev
    exact ⟨p1, x, by rw [q1], SqL.of (S1.fh _ _ h1), hl, fun ys q h2 h3 hq => k ys (hx ys h2 h3) q F1 _ (S1.newOwn hq ⟨ys.map V.int, rfl, by rw [List.length_map, h2.length_eq]; exact small64 hl, ints_paired ys⟩) e1⟩⟩
theorem strs_paired {F : Hp} : ∀ {xs : List Str}, (∀ x ∈ xs, rStr.ok F (.str x) x) → Paired (rStr.ok F) (xs.map V.str) xs
  | [], _ => .nil
  | x :: xs, h => .cons (h x List.mem_cons_self) (strs_paired fun y hy => h y (List.mem_cons_of_mem _ hy))
theorem strs_each {F : Hp} : ∀ {xs : List Str} {vs : List V}, Paired (rStr.ok F) vs xs → ∀ x ∈ xs, rStr.ok F (.str x) x
  | _, _, .cons h t, x, hx => by
    rcases List.mem_cons.mp hx with e | e
    · subst e
      have := h
      rw [h.1] at this
      exact this
    · exact strs_each t x e
theorem n_sortedS {w : W (List Str)} (ha : EE X B env os a (rLst rStr) w) (hm : X.mg "sorted" = none) (hg : Gl X "sorted" := by rfl) (he : starEach [a] X.env = (false, eval a X.env) :: starEach [] X.env := by rfl) (hpl : (backTo pos (starEach [] X.env)).any (·.1) = false := by rfl) :
    EN X B env os (.Call (.Name "sorted" p) [a] [] pos) rStr (bnd w sortS) :=
  PE.imp (pe_callB cr_sortedS hg hm (by decide +kernel) (pa_cons ha pa_nil he) (by decide) (by decide) he hpl) fun σ H Q ⟨F, P, S, hw, k⟩ => ⟨F, _, S, hw, fun x ⟨hl, hx⟩ v F1 H1 S1 e1 ⟨p1, vs, q1, h1, z1, ok1⟩ => by
    have each := strs_each ok1
    have ev := strs_map ok1
    subst ev
    exact ⟨p1, x, by rw [q1], SqL.of (S1.fh _ _ h1), hl, fun ys q h2 h3 hq => k ys (hx ys h2 h3) q F1 _ (S1.newOwn hq ⟨ys.map V.str, rfl, by rw [List.length_map, h2.length_eq]; exact small64 hl, strs_paired fun y hy => each y (h2.mem_iff.mp hy)⟩) e1⟩⟩
theorem dkeys_list {F : Hp} : ∀ {kvs : List (Key × V)} {xs : List (κ × α)}, Paired (DPair F rk kf r) kvs xs → Paired (rk.ok F) (kvs.map fun kv => kV kv.1) (xs.map (·.1))
  | _, _, .nil => .nil
  | _, _, .cons h t => .cons h.2.1 (dkeys_list t)
/-- list(d) -/
theorem n_listD {w : W (List (κ × α))} (hc : X.calm = true) (ha : EE X B env os a (rDct rk kf r) w) (hm : X.mg "list" = none) (hg : Gl X "list" := by rfl) (he : starEach [a] X.env = (false, eval a X.env) :: starEach [] X.env := by rfl) (hpl : (backTo pos (starEach [] X.env)).any (·.1) = false := by rfl) :
    EN X B env os (.Call (.Name "list" p) [a] [] pos) rk (bnd w fun xs => ret (xs.map (·.1))) :=
  PE.imp (pe_callTy (call_listD hc) hg hm (by decide +kernel) (pa_cons ha pa_nil he) (by decide) (by decide) he hpl) fun σ H Q ⟨F, P, S, hw, k⟩ => ⟨F, _, S, hw, fun x hx v F1 H1 S1 e1 ⟨p1, ob, kvs, q1, h1, z1, ok1⟩ => by
    refine ⟨p1, kvs, by rw [q1], .inr ⟨_, S1.fh _ _ h1⟩, fun l hl => k _ hx l F1 _ (S1.newOwn hl ⟨kvs.map fun kv => kV kv.1, rfl, by rw [List.length_map]; exact z1, dkeys_list ok1⟩) e1⟩⟩
end
end Mi

namespace Mi
open PySem L2 Evl

/-! ### dict comprehensions -/
def dcW {α κ β : Type} [DecidableEq κ] (c : α → W Bool) (fk : α → W κ) (fv : α → W β) : List α → List (κ × β) → W (List (κ × β))
  | [], ys => ret ys
  | x :: xs, ys => bnd (c x) fun b => if b = true then bnd (fk x) fun k => bnd (fv x) fun v => dcW c fk fv xs (dput ys k v) else dcW c fk fv xs ys
section
variable {X : Cx} {B : Bs} {env : Env} {os : Os} {α κ β : Type} [DecidableEq κ] {r : Rp α} {rk : Rp κ} {kf : κ → Key} {s : Rp β} {kx vx tg iter test : Expr} {scope : Scope} {pos : Pos}
theorem dput_len (ys : List (κ × β)) (k : κ) (v : β) : (dput ys k v).length ≤ ys.length + 1 := by
  unfold dput
  split
  · rw [List.length_map]; exact Nat.le_succ _
  · rw [List.length_append, List.length_singleton]; exact Nat.le_refl _
theorem dc_read {w : W (List α)} {c : α → W Bool} {fk : α → W κ} {f : α → W β} {own : List (Str × Nat)} {g : TG} {tt : TT} {tk te : TE} {is : List Nat} {envT : Env → α → Env} (K : KeyR rk kf)
    (st : ∀ M D ys x σ H Q, tOfT (B.at M) (envT (wipeE env (own.map (fun p : Str × Nat => p.2))) x) ((D, oDct rk kf s ys) :: os) (c x) σ H Q → tt σ H Q)
    (sk : ∀ M D ys x σ H Q, tOf (B.at M) (envT (wipeE env (own.map (fun p : Str × Nat => p.2))) x) ((D, oDct rk kf s ys) :: os) rk (fk x) σ H Q → tk σ H Q)
    (se : ∀ M D ys x σ H Q, tOf (B.at M) (envT (wipeE env (own.map (fun p : Str × Nat => p.2))) x) ((D, oDct rk kf s ys) :: os) s (f x) σ H Q → te σ H Q)
    (tgt : TgT g r is envT) (his : ∀ i ∈ is, i ∈ own.map (fun p : Str × Nat => p.2)) {σ : L2.St} {H : Hp} {Q : VK} (h : tNewD B env os rk kf s (bnd w fun xs => dcW c fk f xs []) σ H Q) :
    tDc (tSrc B env os r w) g tt tk te (own.map (fun p : Str × Nat => p.2)) σ H Q := by
  obtain ⟨F, P, S, hw, k⟩ := h
  refine ⟨F, _, S, hw, fun xs hxs J F1 H1 S1 e1 wk hz D hD => ?_⟩
  refine ⟨(fun i m H => m = xs.length - i ∧ i ≤ xs.length ∧ ∃ F' ys, ys.length ≤ i ∧ Sit (B.at F1) F' H σ env ((D, oDct rk kf s ys) :: os) ∧ dcW c fk f (xs.drop i) ys P B.E0 : Nat → Nat → Hp → Prop), ?_, ?_⟩
  · refine ⟨xs.length, by simp, Nat.zero_le _, F1, [], Nat.zero_le _, ?_, ?_⟩
    · have S1' : Sit (B.at F1) F1 H1 σ env os := ⟨⟨S1.fin.fh, S1.fin.bf, Ex.refl F1, S1.fin.bb, S1.fin.ios, S1.fin.keep⟩, S1.env, S1.ow, S1.nd⟩
      exact S1'.newOwn (ow := oDct rk kf s []) hD ⟨[], rfl, Nat.zero_le _, .nil⟩
    · rw [List.drop_zero]
      exact hxs
  rintro i m H2 ⟨rfl, hi, F2, ys, hyl, S2, hw2⟩
  have e12 : Ex F1 F2 := S2.fin.mrk
  by_cases hlt : i < xs.length
  · obtain ⟨x, hx⟩ : ∃ x, xs[i]? = some x := ⟨_, List.getElem?_eq_getElem hlt⟩
    refine .inr ⟨wk.go i F2 H2 e12 S2.fh hlt, (fun H' => ∃ F' ys, ys.length ≤ i + 1 ∧ Sit (B.at F1) F' H' σ env ((D, oDct rk kf s ys) :: os) ∧ dcW c fk f (xs.drop (i + 1)) ys P B.E0 : Hp → Prop), ?_, fun v H3 y => ?_⟩
    · intro H' h
      exact ⟨xs.length - (i + 1), by omega, rfl, hlt, h⟩
    obtain ⟨F3, gr, rv⟩ := wk.yld i F2 H2 v H3 x e12 S2.fh y hx
    have S3 : Sit (B.at F1) F3 H3 σ env ((D, oDct rk kf s ys) :: os) := S2.grow gr
    refine tgt F3 H3 v x (wipe σ (own.map (fun p : Str × Nat => p.2))) (wipeE env (own.map (fun p : Str × Nat => p.2))) _ rv S3.fh (S3.env.wipe _) fun σ' hσ hwipe => ⟨?_, ?_⟩
    · rw [hwipe _ his]
      have ww : ∀ (τ : L2.St) (vs : List Nat), wipe (wipe τ vs) vs = wipe τ vs := by
        intro τ vs
        have key : ∀ (us vs : List Nat), (∀ u ∈ us, u ∈ vs) → wipe (wipe τ us) vs = wipe τ vs := by
          intro us
          induction us with
          | nil => intro vs _; rfl
          | cons u us ih =>
            intro vs h
            show wipe ((wipe τ us).set u none) vs = wipe τ vs
            rw [wipe_set (h u (List.mem_cons_self ..)), ih vs fun z hz => h z (List.mem_cons_of_mem _ hz)]
        exact key vs vs fun _ h => h
      exact ww σ _
    · rw [drop_cons hx] at hw2
      have hw3 : c x (fun b => (if b = true then bnd (fk x) fun kk => bnd (f x) fun y => dcW c fk f (xs.drop (i + 1)) (dput ys kk y) else dcW c fk f (xs.drop (i + 1)) ys) P B.E0) B.E0 := hw2
      have St : Sit (B.at F1) F3 H3 σ' (envT (wipeE env (own.map (fun p : Str × Nat => p.2))) x) ((D, oDct rk kf s ys) :: os) := ⟨S3.fin, hσ, S3.ow, S3.nd⟩
      refine st F1 D ys x σ' H3 _ ⟨F3, _, St, hw3, fun b hb F4 H4 S4 e34 => ?_⟩
      cases b with
      | false => exact ⟨F4, ys, by omega, ⟨S4.fin, S3.env.mono e34, S4.ow, S4.nd⟩, hb⟩
      | true =>
        have hb' : fk x (fun kk => f x (fun y => dcW c fk f (xs.drop (i + 1)) (dput ys kk y) P B.E0) B.E0) B.E0 := hb
        refine sk F1 D ys x σ' H4 _ ⟨F4, _, S4, hb', fun kk hk vk F5 H5 S5 e45 okk => ?_⟩
        refine se F1 D ys x σ' H5 _ ⟨F5, _, S5, hk, fun z hz v' F6 H6 S6 e56 okz => ?_⟩
        obtain ⟨hF6, ⟨o, ho, vs, eo, hl, pr⟩, hB6⟩ := S6.ow (D, oDct rk kf s ys) (List.mem_cons_self ..)
        subst eo
        have hlen : vs.length < sizeLine := by
          have := pr.length
          omega
        have ek := K.of okk
        subst ek
        refine ⟨vs, kf kk, rfl, ho, hlen, F6, dput ys kk z, ?_, ?_, hz⟩
        · have := dput_len ys kk z
          omega
        · have S7 := S6.change (j := 0) (ow' := oDct rk kf s (dput ys kk z)) (o' := .dK (putK vs (kf kk) v')) rfl ⟨putK vs (kf kk) v', rfl, by have := putK_len vs (kf kk) v'; omega, dput_ok K pr (rk.mono e56 okk) okz⟩
          exact ⟨S7.fin, ((S3.env.mono e34).mono e45).mono e56, S7.ow, S7.nd⟩
  · have e : i = xs.length := by omega
    subst e
    refine .inl ⟨wk.stop _ F2 H2 e12 S2.fh (Nat.le_refl _), ?_⟩
    rw [List.drop_length] at hw2
    have hp : P ys := hw2
    exact k ys hp D F2 H2 ⟨⟨S2.fin.fh, S2.fin.bf, S1.fin.mrk.trans e12, S2.fin.bb, S2.fin.ios, S2.fin.keep⟩, S2.env, S2.ow, S2.nd⟩ (e1.trans e12)
abbrev tkC {γ : Type} (B : Bs) (env : Env) (os : Os) (own : List (Str × Nat)) {α : Type} (envT : Env → α → Env) (rk : Rp κ) (kf : κ → Key) (s : Rp β) (t : Rp γ) (f : α → W γ) : TE := fun σ H Q => ∃ p : Hp × Addr × List (κ × β) × α, tOf (B.at p.1) (envI env own envT p.2.2.2) ((p.2.1, oDct rk kf s p.2.2.1) :: os) t (f p.2.2.2) σ H Q
abbrev ttD (B : Bs) (env : Env) (os : Os) (own : List (Str × Nat)) {α : Type} (envT : Env → α → Env) (rk : Rp κ) (kf : κ → Key) (s : Rp β) (c : α → W Bool) : TT := fun σ H Q => ∃ p : Hp × Addr × List (κ × β) × α, tOfT (B.at p.1) (envI env own envT p.2.2.2) ((p.2.1, oDct rk kf s p.2.2.1) :: os) (c p.2.2.2) σ H Q
section
variable {γ : Type} {t : Rp γ} {w : W (List α)} {c : α → W Bool} {fk : α → W κ} {f : α → W β} {h : α → W γ} {own : List (Str × Nat)} {g : TG} {is : List Nat} {envT : Env → α → Env} {elt : Expr}
theorem ex_tkC {Y : Cx} (q : ∀ (M : Hp) (D : Addr) (ys : List (κ × β)) (x : α), EE Y (B.at M) (envI env own envT x) ((D, oDct rk kf s ys) :: os) elt t (h x)) : PE Y elt (tkC B env os own envT rk kf s t h) :=
  ⟨fun pins s σ H Q I ⟨p, z⟩ => (q p.1 p.2.1 p.2.2.1 p.2.2.2).run pins s σ H Q I z⟩
theorem ex_ttD {Y : Cx} (q : ∀ (M : Hp) (D : Addr) (ys : List (κ × β)) (x : α), ET Y (B.at M) (envI env own envT x) ((D, oDct rk kf s ys) :: os) test (c x)) : PT Y test (ttD B env os own envT rk kf s c) :=
  ⟨fun pins s σ H Q I ⟨p, z⟩ => (q p.1 p.2.1 p.2.2.1 p.2.2.2).run pins s σ H Q I z⟩
variable (K : KeyR rk kf) (hc : X.calm = true) (hN : X.N.Nodup) (src : ES X B env os tg iter r w) (ok : BlkOk X.N X.env.scope scope own) (tgt : TgT g r is envT)
  (hg : ∀ (s : Shared) (H : Hp) (C : Addr) (cl : List (Str × Addr)) (fp : List Addr), PG (X.blk s H scope (compEnvC scope cl C X.env) fp) tg g) (his : ∀ i ∈ is, i ∈ own.map (fun p : Str × Nat => p.2))
  (ht : ∀ (s' : Shared) (H : Hp) (C : Addr) (cl : List (Str × Addr)) (fp : List Addr) (M : Hp) (D : Addr) (ys : List (κ × β)) (x : α), ET (X.blk s' H scope (compEnvC scope cl C X.env) fp) (B.at M) (envI env own envT x) ((D, oDct rk kf s ys) :: os) test (c x))
  (hk : ∀ (s' : Shared) (H : Hp) (C : Addr) (cl : List (Str × Addr)) (fp : List Addr) (M : Hp) (D : Addr) (ys : List (κ × β)) (x : α), EE (X.blk s' H scope (compEnvC scope cl C X.env) fp) (B.at M) (envI env own envT x) ((D, oDct rk kf s ys) :: os) kx rk (fk x))
  (he : ∀ (s' : Shared) (H : Hp) (C : Addr) (cl : List (Str × Addr)) (fp : List Addr) (M : Hp) (D : Addr) (ys : List (κ × β)) (x : α), EE (X.blk s' H scope (compEnvC scope cl C X.env) fp) (B.at M) (envI env own envT x) ((D, oDct rk kf s ys) :: os) vx s (f x))
include hc hN src ok tgt hg his hk he K
/-- {k: v for target in iter} -/
theorem d_comp (hs : ∀ x, foldedSetIterable iter X.env x = pure x := by intro _; rfl) : ED X B env os (.DictComp kx vx [⟨tg, iter, [], 0⟩] scope pos) rk kf s (bnd w fun xs => dcW (fun _ => ret true) fk f xs []) :=
  PE.imp (pe_dc hc hN src ok hg (fun _ _ _ _ _ => pts_nil) (fun s' H C cl fp => ex_tkC (hk s' H C cl fp)) (fun s' H C cl fp => ex_tkC (he s' H C cl fp)) hs) fun σ H Q h =>
    dc_read (own := own) K (fun M D ys x σ H Q ⟨F, P, S, hw, k⟩ => k true hw F H S (Ex.refl F)) (fun M D ys x σ H Q h => ⟨(M, D, ys, x), h⟩) (fun M D ys x σ H Q h => ⟨(M, D, ys, x), h⟩) tgt his h
include ht
/-- {k: v for target in iter if test} -/
theorem d_compF (hs : ∀ x, foldedSetIterable iter X.env x = pure x := by intro _; rfl) : ED X B env os (.DictComp kx vx [⟨tg, iter, [test], 0⟩] scope pos) rk kf s (bnd w fun xs => dcW c fk f xs []) :=
  PE.imp (pe_dc hc hN src ok hg (fun s' H C cl fp => pts_one (ex_ttD (ht s' H C cl fp))) (fun s' H C cl fp => ex_tkC (hk s' H C cl fp)) (fun s' H C cl fp => ex_tkC (he s' H C cl fp)) hs) fun σ H Q h =>
    dc_read (own := own) K (fun M D ys x σ H Q h => ⟨(M, D, ys, x), h⟩) (fun M D ys x σ H Q h => ⟨(M, D, ys, x), h⟩) (fun M D ys x σ H Q h => ⟨(M, D, ys, x), h⟩) tgt his h
end
end
end Mi

namespace Mi
open PySem L2 Evl

/-! ### dicts compared: whole numbers as values -/
section
variable {κ : Type} [DecidableEq κ] {rk : Rp κ} {kf : κ → Key}
def dsubI (xs ys : List (κ × Int)) : Bool := xs.all fun p => decide (dget ys p.1 = some p.2)
def deqI (xs ys : List (κ × Int)) : Bool := xs.length == ys.length && dsubI xs ys
theorem hitsI {A : Around} {s : Shared} {kvb : List (Key × V)} {vb : List (Key × Value)} (rb : KV kvb vb) {F : Hp} {ys : List (κ × Int)} (K : KeyR rk kf) (pb : Paired (DPair F rk kf rInt) kvb ys) :
    ∀ {ks : List (Key × V)} {va : List (Key × Value)} {xs : List (κ × Int)}, KV ks va → Paired (DPair F rk kf rInt) ks xs → PySem.W.KeqHits A s vb va (dsubI xs ys)
  | _, _, _, .nil, .nil => .nil
  | p :: ks, (k, v) :: va, q :: xs, .cons h t, .cons g u => by
    obtain ⟨h1, h2⟩ := h
    obtain ⟨g1, g2, g3⟩ := g
    have h1 : p.1 = k := h1
    have g3 : p.2 = V.int q.2 := g3
    have ih := hitsI (A := A) (s := s) rb K pb t u
    have e : dsubI (q :: xs) ys = (decide (dget ys q.1 = some q.2) && dsubI xs ys) := rfl
    have rv := rb.val k
    rw [← h1, g1] at rv
    rw [e]
    rcases dget_ok K pb q.1 with ⟨a1, a2⟩ | ⟨w, x, a1, a2, a3⟩
    · rw [a1] at rv
      have z := rv.none_of
      rw [a2, show decide ((none : Option Int) = some q.2) = false from rfl, Bool.false_and]
      rw [← g1, h1] at z
      exact .miss z
    · rw [a1] at rv
      obtain ⟨y, hy, ry⟩ := rv.some_of
      have a3 : w = V.int x := a3
      rw [a3] at ry
      rw [g3] at h2
      obtain ⟨t1, rfl⟩ := (show ∃ t, v = Value.int q.2 t from h2)
      obtain ⟨t2, rfl⟩ := (show ∃ t, y = Value.int x t from ry)
      rw [← g1, h1] at hy
      have q1 := SeqAt.EqAt.int_int (A := A) (s := s) q.2 t1 x t2
      have e2 : decide (dget ys q.1 = some q.2) = (q.2 == x) := by
        rw [a2, Bool.eq_iff_iff]
        simp only [decide_eq_true_eq, Option.some.injEq, beq_iff_eq]
        exact eq_comm
      rw [e2]
      exact .hit hy q1 ih
end
section
variable {X : Cx} {B : Bs} {env : Env} {os : Os} {pos p : Pos} {κ α β : Type} [DecidableEq κ] {rk : Rp κ} {kf : κ → Key} {r : Rp α} {o a b c e : Expr}
def rEqDI {κ : Type} [DecidableEq κ] (rk : Rp κ) (kf : κ → Key) : R2 := fun x y H Q => ∃ F xs ys a b ks ls, KeyR rk kf ∧ x = .ref a ∧ y = .ref b ∧ Rd H a (.dK ks) ∧ Rd H b (.dK ls) ∧ Paired (DPair F rk kf rInt) ks xs ∧ Paired (DPair F rk kf rInt) ls ys ∧ Q (.bl (deqI xs ys)) H
theorem op_eqDI (hu : X.A.units < cLine) : OpR X (compareOp .Eq) (rEqDI rk kf) := by
  intro pins s σ H x y v u Q I rx ry h
  obtain ⟨F, xs, ys, a, b, ks, ls, K, rfl, rfl, ea, eb, pa, pb, q⟩ := h
  obtain rfl : v = Value.ref a := rx
  obtain rfl : u = Value.ref b := ry
  obtain ⟨_, ya, va, ra, da⟩ := dk_rd I.hok ea
  obtain ⟨_, yb, vb, rb, db⟩ := dk_rd I.hok eb
  refine PySem.W.keq_eq (knd := mixKind X.prog X.w) (r := dsubI xs ys) ya yb da db hu (fun _ => hitsI rb K pb ra pa) (fin_bl I q ?_)
  unfold deqI
  rw [← pa.length, ← pb.length, ra.length, rb.length]
theorem sem_eqDI (K : KeyR rk kf) : R2T (rEqDI rk kf) (rDct rk kf rInt) (rDct rk kf rInt) rBool (fun x y => ret (deqI x y)) := fun F H v u x y P E Q fh ⟨a1, o1, k1, q1, h1, z1, p1⟩ ⟨a2, o2, k2, q2, h2, z2, p2⟩ hw k =>
  ⟨F, x, y, a1, a2, k1, k2, K, q1, q2, .inr ⟨_, fh _ _ h1⟩, .inr ⟨_, fh _ _ h2⟩, p1, p2, k _ hw _ F H (Grow.refl fh) rfl⟩
/-- d == d -/
theorem e_eqDI (K : KeyR rk kf) (hu : X.A.units < cLine) {w1 : W (List (κ × Int))} {w2 : List (κ × Int) → W (List (κ × Int))} (ha : EE X B env os a (rDct rk kf rInt) w1) (hb : ∀ x, EE X B env os b (rDct rk kf rInt) (w2 x)) :
    EE X B env os (.Compare a [.Eq] [b] pos) rBool (bnd w1 fun x => bnd (w2 x) fun y => ret (deqI x y)) := e_cmp (op_eqDI hu) (sem_eqDI K) (nomark _) ha hb
end
end Mi

namespace Mi
open PySem L2 Evl

/-! ### [*d, *e]: the keys of dicts -/
section
variable {X : Cx} {B : Bs} {env : Env} {os : Os} {pos p : Pos} {κ α β : Type} {rk : Rp κ} {kf : κ → Key} {r : Rp α} {e : Expr} {es : List Expr}
theorem star_dct {pins : List (Addr × Obj)} {σ : L2.St} {H : Hp} {s : Shared} (hcalm : X.calm = true) {a : Addr} {kvs : List (Key × V)} {E : Value → Shared → Prop} {Q : List Value → Shared → Prop} (I : Inv X pins σ H s) (hd : Rd H a (.dK kvs))
    (hQ : ∀ us s', Inv X pins σ H s' → Vals (kvs.map fun kv => kV kv.1) us → Q us s') : PySem.W.StarOf (model X.prog X.w) X.A E (.ref a) Q s := by
  obtain ⟨z, lo, vs, rel, dd⟩ := dk_rd I.hok hd
  have hT : s.TypeIs (.ref a) "dict" := dd.typeIs
  obtain ⟨ep, hat⟩ := dd.dictAt
  have ek : (kvs.map fun kv => kV kv.1) = vs.map fun p => kV p.1 := by
    have e := congrArg (List.map kV) rel.keys
    rw [List.map_map, List.map_map] at e
    exact e
  have z : wpAny (model X.prog X.w) X.A (collect (.ref a)) Q E s := by
    refine PySem.W.kdu_collect (A := X.A) (PySem.W.kdl_dict (knd := mixKind X.prog X.w) (kvs := vs) (ep := ep) lo) (I.ok.hd hcalm) hat (by rw [← rel.length]; exact z) fun h' tk acc hk hacc => ?_
    have hv : Vals (vs.map fun p => kV p.1) acc.toList := keys_at (by rw [Array.length_toList]; exact hacc.1) fun j v e => hacc.2 j v (by rw [← Array.getElem?_toList]; exact e)
    rw [← ek] at hv
    exact hQ _ _ (I.kept hk) hv
  unfold PySem.W.StarOf notIterableAtAll
  exact wpAny_bind (wpAny_specialOf hT PySem.F.slot_dict_iter.lookup (wpAny_pure ⟨rfl, z⟩))
def tStarD (te : TE) (t : TA) : TA := fun σ H Q => te σ H fun x H1 => ∃ p kvs, x = V.ref p ∧ Rd H1 p (.dK kvs) ∧ t σ H1 fun ys H2 => Q ((kvs.map fun kv => kV kv.1) ++ ys) H2
theorem pa_starD {te : TE} {t : TA} (hcalm : X.calm = true) (he : PE X e te) (hr : PA X es t) (hs : starEach (.Starred e p :: es) X.env = (true, eval e X.env) :: starEach es X.env := by rfl) : PA X (.Starred e p :: es) (tStarD te t) := by
  refine ⟨fun pos pins s σ H Q I h => ?_⟩
  refine PySem.W.items_star (thn (he.run pins s σ H _ I h) fun v s1 ⟨y, H1, I1, ry, a, kvs, ey, hx, q⟩ => ?_) hs
  subst ey
  obtain rfl : v = Value.ref a := ry
  refine star_dct hcalm I1 hx fun us s2 I2 rv => ?_
  exact thn (hr.run pos pins s2 σ H1 _ I2 q) fun ws s3 ⟨vs, H3, I3, r3, q3⟩ => ⟨(kvs.map fun kv => kV kv.1) ++ vs, H3, I3, rv.append r3, q3⟩
theorem ls_starD {w1 : W (List (κ × α))} {w2 : W (List κ)} (hc : X.calm = true) (h : EE X B env os e (rDct rk kf r) w1) (ht : LS X B env os es rk w2) (hs : starEach (.Starred e p :: es) X.env = (true, eval e X.env) :: starEach es X.env := by rfl) : LS X B env os (.Starred e p :: es) rk (bnd w1 fun x => bnd w2 fun xs => ret (x.map (·.1) ++ xs)) :=
  PA.imp (pa_starD hc h ht hs) fun σ H Q ⟨F, P, S, hw, k⟩ => ⟨F, _, S, hw, fun x hx v F1 H1 S1 e1 ⟨p1, ob, kvs, q1, h1, z1, ok1⟩ => ⟨p1, kvs, q1, .inr ⟨_, S1.fh _ _ h1⟩, F1, _, S1, hx, fun xs hxs us F2 H2 S2 e2 ok2 => k _ hxs _ F2 H2 S2 (e1.trans e2) (Paired.app (dkeys_list (dpairs_mono e2 ok1)) ok2)⟩⟩
end
end Mi

namespace Mi
open PySem L2 Evl

/-! ### texts walked; text in text -/
def lettersW (x : Str) : List Str := x.cps.toList.map fun c => ⟨#[c]⟩
def hasS (i j : Str) : Bool := !(Builtin.Str.occurrences j i 0 j.length 1).isEmpty
section
variable {X : Cx} {B : Bs} {env : Env} {os : Os} {pos p : Pos} {κ α β : Type} {r : Rp α} {tg e a b : Expr}
theorem letter_ok {F : Hp} {v : V} {x : Str} (h : rStr.ok F v x) {c : Nat} (hc : c ∈ x.cps.toList) : rStr.ok F (.str ⟨#[c]⟩) ⟨#[c]⟩ := by
  obtain ⟨_, h2, h3⟩ := h
  refine ⟨rfl, by show 1 ≤ _; rw [sizeLine_eq]; omega, ?_⟩
  unfold PyData.strOk at h3 ⊢
  rw [Array.all_eq_true'] at h3
  simp only [List.all_toArray, List.all_cons, List.all_nil, Bool.and_true]
  exact h3 c (Array.mem_toList_iff.mp hc)
theorem sem_inS : R2T (fun x y H Q => ∃ i j, x = .str i ∧ y = .str j ∧ Q (.bl (!(Builtin.Str.occurrences j i 0 j.length 1).isEmpty)) H) rStr rStr rBool (fun x y => ret (hasS x y)) := fun F H v u x y P E Q fh ⟨o1, _⟩ ⟨o2, _⟩ hw k =>
  ⟨x, y, o1, o2, k _ hw _ F H (Grow.refl fh) rfl⟩
theorem sem_ninS : R2T (fun x y H Q => ∃ i j, x = .str i ∧ y = .str j ∧ Q (.bl (!(!(Builtin.Str.occurrences j i 0 j.length 1).isEmpty))) H) rStr rStr rBool (fun x y => ret (!hasS x y)) := fun F H v u x y P E Q fh ⟨o1, _⟩ ⟨o2, _⟩ hw k =>
  ⟨x, y, o1, o2, k _ hw _ F H (Grow.refl fh) rfl⟩
theorem e_inS {w1 : W Str} {w2 : Str → W Str} (ha : EE X B env os a rStr w1) (hb : ∀ x, EE X B env os b rStr (w2 x)) (hm : behindInMarks .In b = false := by rfl) : EE X B env os (.Compare a [.In] [b] pos) rBool (bnd w1 fun x => bnd (w2 x) fun y => ret (hasS x y)) := e_cmp op_in_str sem_inS hm ha hb
theorem e_ninS {w1 : W Str} {w2 : Str → W Str} (ha : EE X B env os a rStr w1) (hb : ∀ x, EE X B env os b rStr (w2 x)) (hm : behindInMarks .NotIn b = false := by rfl) : EE X B env os (.Compare a [.NotIn] [b] pos) rBool (bnd w1 fun x => bnd (w2 x) fun y => ret (!hasS x y)) := e_cmp op_notin_str sem_ninS hm ha hb
theorem s_str {w : W Str} (h : EE X B env os e rStr w) : ES X B env os tg e rStr (bnd w fun x => ret (lettersW x)) := PI.imp (pi_str h) fun σ H R ⟨F, P, S, hw, k⟩ => ⟨F, _, S, hw, fun x hx v F' H' S' e' ok => by
  have ll : (lettersW x).length = x.cps.size := by unfold lettersW; rw [List.length_map, Array.length_toList]
  exact ⟨x, ok.1, k _ hx _ F' H' S' e' ⟨fun i F1 H1 x1 x2 hi => by
    rw [ll] at hi
    exact hi, fun i F1 H1 u H2 y x1 x2 q hx => by
    obtain ⟨e2, c, y1, y2⟩ := q
    subst e2 y2
    have hl : x.cps.toList[i]? = some c := by rw [Array.getElem?_toList]; exact y1
    unfold lettersW at hx
    rw [List.getElem?_map, hl] at hx
    cases hx
    exact ⟨F1, Grow.refl x2, letter_ok ok (List.mem_of_getElem? hl)⟩, fun i F1 H1 x1 x2 hi => by
    rw [ll] at hi
    exact hi⟩ (by rw [ll]; exact ok.2.1)⟩⟩
end
end Mi

namespace Mi
open PySem L2 Evl

/-! ### isinstance(e, dict); constants of a module -/
theorem kd_dict {K : PySem.W.Frag} (d : PyData) : PySem.W.kitOne K (.type (tyD d)) (.type "dict") = some (tyD d == "dict") := by
  cases d <;> (dsimp only [tyD]; exact kit_ty (by decide +kernel))
theorem ty_dct {K : PySem.W.Frag} {κ α : Type} {rk : Rp κ} {kf : κ → Key} {r : Rp α} : TyR K (rDct rk kf r) (.type "dict") := fun F H v x ⟨a, ob, kvs, e1, h1, _⟩ q => by
  rw [e1]
  exact .fDict (q _ _ h1)
theorem k_dict {K : PySem.W.Frag} : PySem.W.kitOne K (.type "dict") (.type "dict") = some true := kit_ty (by decide +kernel)
section
variable {X : Cx} {B : Bs} {env : Env} {os : Os} {pos : Pos} {α : Type} {r : Rp α} {a : Expr}
theorem e_gInt {x : Str} {i : Int} {t : Tok} (hm : X.mg x = some (.int i t)) (hg : Gl X x := by rfl) (hd : (x == ("__debug__" : Str)) = false := by decide) : EE X B env os (.Name x pos) rInt (ret i) := e_glob (v := .int i) hg hm ⟨t, rfl⟩ (fun _ => rfl) hd
theorem e_gStr {x z : Str} {t : Tok} (hm : X.mg x = some (.str z t)) (h : z.length ≤ sizeLine := by decide +kernel) (h2 : PyData.strOk z = true := by decide +kernel) (hg : Gl X x := by rfl) (hd : (x == ("__debug__" : Str)) = false := by decide) : EE X B env os (.Name x pos) rStr (ret z) := e_glob (v := .str z) hg hm ⟨t, rfl⟩ (fun _ => ⟨rfl, h, h2⟩) hd
end
end Mi

namespace Mi
open PySem L2 Evl

/-! ### C.m(..), m a staticmethod -/
/-- C.m is a staticmethod: its record at p, its def at g -/
structure SMet (K : PySem.W.Frag) (C : Addr) (mc : Value) (m : Str) (p g : Addr) : Prop where
  at_ : PySem.W.findCls K (.ref C) mc m = some (.get (.builtin "staticmethod.__get__") (.ref p) .none (.ref C))
  rc : ∃ rest, PySem.W.recIn K p "staticmethod" = some (.ref g :: rest)
  hv : PySem.W.handedIn (.ref g) = true
section
variable {X : Cx} {pins : List (Addr × Obj)} {σ : L2.St} {H : Hp} {s : Shared} {C p g : Addr} {mc : Value} {m : Str} {A : Around} {E : Value → Shared → Prop}
theorem getmethsm_ok {pl : Sem Bool} {Q : Value × List Value → Shared → Prop} (I : Inv X pins σ H s) (r : ClX.CRead X.K C mc) (c : SMet X.K C mc m p g)
    (h : ∀ s', Inv X pins σ H s' → Q (.ref g, []) s') : wpAny (model X.prog X.w) A (getMethod (.ref C) m pl) Q E s := by
  obtain ⟨rest, hp⟩ := c.rc
  refine PySem.W.method_cls I.kIn r.ga ?_
  refine PySem.W.cls_bind I.kIn r.rd c.at_ ?_
  exact wpAny_call (PySem.W.sm_get (s := { s with toks := s.toks + 1 }) I.kIn hp (PySem.W.handed_on c.hv (h _ (I.tok _))))
end
section
variable {X : Cx} {CX : CXT} {k : Nat} {C p g : Addr} {mc : Value} {sp : Sp} {E : XK} {o e : Expr} {es : List Expr} {m : Str} {pos apos : Pos} {t : TA} {pl : Sem Bool} {fd : FuncData} {ps : List Str} {ds : List Value} {dvs : List V}
theorem pe_smeth (he : PE X o (tC (.ref C))) (r : ClX.CRead X.K C mc) (c : SMet X.K C mc m p g) (F : FnOk X.prog X.w X.K X.mg X.base CX k g fd ps sp) (hr : Room k X.A) (hk : PySem.W.keepIn X.K (.ref g) = true) (hb : Binds X.K fd ps ds) (hd : Vals dvs ds) (hx : Passes CX X E) (ha : PA X (e :: es) t)
    (hst : starEach (e :: es) X.env = (false, eval e X.env) :: starEach es X.env := by rfl) (hpl : (backTo pos (starEach es X.env)).any (·.1) = false := by rfl)
    (ht : eval (.Call (.Attribute o m apos) (e :: es) [] pos) X.env = (do
      let ov ← eval o X.env
      standAt apos.atName
      let (f, first) ← holding [ov] (getMethod ov m pl)
      callWith pos f first (backTo pos (starEach (e :: es) X.env)) (backToKw pos (keywordEach [] X.env))) := by rfl) :
    PE X (.Call (.Attribute o m apos) (e :: es) [] pos) (tCall sp dvs E t) := by
  refine ⟨fun pins s σ H Q I h => ?_⟩
  refine PySem.W.methodCall_KW (pl := pl) (thn (he.run pins s σ H (fun x H1 => x = .ref C ∧ tCall sp dvs E t σ H1 Q) I ⟨rfl, h⟩) fun u s1 ⟨x, H1, I1, rx, ex, q⟩ => ?_) ht
  subst ex
  obtain rfl : u = Value.ref C := rx
  refine getmethsm_ok I1 r c fun s2 I2 => ?_
  refine PySem.W.callWith_K (h₀ := X.base) I2.ok.mod.kin hk (thn (ha.run pos pins s2 σ H1 _ I2 q) fun us s3 ⟨vs, H2, I3, rv, q2⟩ => ⟨I3.kIn, ?_⟩) hst hpl
  exact run_fn F hr hb hd hx I3 rv q2
end
section
variable {X : Cx} {B : Bs} {env : Env} {os : Os} {tb : ETab} {pos p apos : Pos} {ι ρ : Type} {e o : Expr} {es : List Expr} {args : ι → Env} {osf : ι → Os} {wf : ι → W ρ} {ro : Rp ρ} {k : Nat} {C pa g : Addr} {mc : Value} {fd : FuncData} {ps : List Str} {m x : Str} {pl : Sem Bool}
theorem e_smeth {w : W ι} (G : FnOk X.prog X.w X.K X.mg X.base CX0 k g fd ps (spW args osf wf ro)) (r : ClX.CRead X.K C mc) (c : SMet X.K C mc m pa g) (hr : Room k X.A) (hm : X.mg x = some (.ref C)) (hk : PySem.W.keepIn X.K (.ref g) = true) (hb : Binds X.K fd ps [])
    (ha : AA X B env os (e :: es) args w) (ho : ∀ i, OsLe os (osf i)) (hnd : ∀ i, ((osf i).map (·.1)).Nodup) (hg : Gl X x := by rfl) (hdb : (x == ("__debug__" : Str)) = false := by decide)
    (he : starEach (e :: es) X.env = (false, eval e X.env) :: starEach es X.env := by rfl) (hpl : (backTo pos (starEach es X.env)).any (·.1) = false := by rfl)
    (ht : eval (.Call (.Attribute (.Name x p) m apos) (e :: es) [] pos) X.env = (do
      let ov ← eval (.Name x p) X.env
      standAt apos.atName
      let (f, first) ← holding [ov] (getMethod ov m pl)
      callWith pos f first (backTo pos (starEach (e :: es) X.env)) (backToKw pos (keywordEach [] X.env))) := by rfl) :
    EE X B env os (.Call (.Attribute (.Name x p) m apos) (e :: es) [] pos) ro (bnd w fun i => noX (wf i)) :=
  PE.imp (pe_smeth (pe_glob hg hm rfl hdb) r c G hr hk hb .nil pass0 ha he hpl ht) fun σ H Q h => by
    have q := call_back (args := args) ho hnd h
    obtain ⟨F, P, S, hw, k⟩ := q
    refine ⟨F, P, S, hw, fun i hi vs F' H' S' e' ok => ?_⟩
    show spW args osf wf ro (vs ++ []) H' Q E0
    rw [List.append_nil]
    exact k i hi vs F' H' S' e' ok
theorem e_smethX {w : W ι} (G : FnOk X.prog X.w X.K X.mg X.base (L2.CX X.prog X.w) k g fd ps (spX X.K tb args osf wf ro)) (tk : Takes X (wB X.K tb B)) (r : ClX.CRead X.K C mc) (c : SMet X.K C mc m pa g) (hr : Room k X.A) (hm : X.mg x = some (.ref C)) (hk : PySem.W.keepIn X.K (.ref g) = true) (hb : Binds X.K fd ps [])
    (ha : AA X B env os (e :: es) args w) (ho : ∀ i, OsLe os (osf i)) (hnd : ∀ i, ((osf i).map (·.1)).Nodup) (hg : Gl X x := by rfl) (hdb : (x == ("__debug__" : Str)) = false := by decide)
    (he : starEach (e :: es) X.env = (false, eval e X.env) :: starEach es X.env := by rfl) (hpl : (backTo pos (starEach es X.env)).any (·.1) = false := by rfl)
    (ht : eval (.Call (.Attribute (.Name x p) m apos) (e :: es) [] pos) X.env = (do
      let ov ← eval (.Name x p) X.env
      standAt apos.atName
      let (f, first) ← holding [ov] (getMethod ov m pl)
      callWith pos f first (backTo pos (starEach (e :: es) X.env)) (backToKw pos (keywordEach [] X.env))) := by rfl) :
    EE X B env os (.Call (.Attribute (.Name x p) m apos) (e :: es) [] pos) ro (bnd w fun i => wf i) :=
  PE.imp (pe_smeth (pe_glob hg hm rfl hdb) r c G hr hk hb .nil (passB tk) ha he hpl ht) fun σ H Q h => by
    have q := back_call (X := X) (tb := tb) (args := args) ho hnd h
    obtain ⟨F, P, S, hw, k⟩ := q
    refine ⟨F, P, S, hw, fun i hi vs F' H' S' e' ok => ?_⟩
    show spX X.K tb args osf wf ro (vs ++ []) H' Q (eB X.K tb B)
    rw [List.append_nil]
    exact k i hi vs F' H' S' e' ok
end
end Mi

namespace Mi
open PySem L2 Evl

/-! ### defs called without their last arguments: the written defaults -/
theorem EnvOk.app {F : Hp} : ∀ {e e' : Env} {σ τ : L2.St}, EnvOk F e σ → EnvOk F e' τ → EnvOk F (e ++ e') (σ ++ τ)
  | _, _, _, _, .nil, h' => h'
  | _, _, _, _, .cons h t, h' => .cons h (EnvOk.app t h')
theorem spW_dfl {ι ρ : Type} {args : ι → Env} {os : ι → Os} {w : ι → W ρ} {ro : Rp ρ} {dfl : Env} {dvs vs : List V} {H : Hp} {Q : VK} {E : XK} (hd : ∀ F, EnvOk F dfl (dvs.map some)) (h : spW args os w ro vs H Q E) : spW (fun i => args i ++ dfl) os w ro (vs ++ dvs) H Q E := by
  obtain ⟨i, F, P, h1, h2, h3⟩ := h
  exact ⟨i, F, P, h1, by rw [List.map_append]; exact EnvOk.app h2 (hd F), h3⟩
theorem spX_dfl {K : PySem.W.Frag} {tb : ETab} {ι ρ : Type} {args : ι → Env} {os : ι → Os} {w : ι → W ρ} {ro : Rp ρ} {dfl : Env} {dvs vs : List V} {H : Hp} {Q : VK} {E : XK} (hd : ∀ F, EnvOk F dfl (dvs.map some)) (h : spX K tb args os w ro vs H Q E) : spX K tb (fun i => args i ++ dfl) os w ro (vs ++ dvs) H Q E := by
  obtain ⟨i, F, P, PE, h1, h2, h3⟩ := h
  exact ⟨i, F, P, PE, h1, by rw [List.map_append]; exact EnvOk.app h2 (hd F), h3⟩
section
variable {X : Cx} {B : Bs} {env : Env} {os : Os} {tb : ETab} {pos p : Pos} {ι ρ : Type} {e : Expr} {es : List Expr} {args : ι → Env} {osf : ι → Os} {wf : ι → W ρ} {ro : Rp ρ} {k : Nat} {f : Addr} {fd : FuncData} {ps : List Str} {x : Str} {dfl : Env} {dvs : List V} {ds : List Value}
theorem e_callDf {w : W ι} (G : FnOk X.prog X.w X.K X.mg X.base CX0 k f fd ps (spW (fun i => args i ++ dfl) osf wf ro)) (hr : Room k X.A) (hm : X.mg x = some (.ref f)) (hk : PySem.W.keepIn X.K (.ref f) = true) (hb : Binds X.K fd ps ds) (hd : Vals dvs ds) (hdo : ∀ F, EnvOk F dfl (dvs.map some))
    (ha : AA X B env os (e :: es) args w) (ho : ∀ i, OsLe os (osf i)) (hnd : ∀ i, ((osf i).map (·.1)).Nodup) (hg : Gl X x := by rfl) (hdb : (x == ("__debug__" : Str)) = false := by decide)
    (he : starEach (e :: es) X.env = (false, eval e X.env) :: starEach es X.env := by rfl) (hpl : (backTo pos (starEach es X.env)).any (·.1) = false := by rfl) :
    EE X B env os (.Call (.Name x p) (e :: es) [] pos) ro (bnd w fun i => noX (wf i)) :=
  PE.imp (pe_call G hr hg hm hk hb hd pass0 ha hdb he hpl) fun σ H Q h => by
    have q := call_back (args := args) ho hnd h
    obtain ⟨F, P, S, hw, k⟩ := q
    exact ⟨F, P, S, hw, fun i hi vs F' H' S' e' ok => spW_dfl hdo (k i hi vs F' H' S' e' ok)⟩
theorem e_callXDf {w : W ι} (G : FnOk X.prog X.w X.K X.mg X.base (L2.CX X.prog X.w) k f fd ps (spX X.K tb (fun i => args i ++ dfl) osf wf ro)) (tk : Takes X (wB X.K tb B)) (hr : Room k X.A) (hm : X.mg x = some (.ref f)) (hk : PySem.W.keepIn X.K (.ref f) = true) (hb : Binds X.K fd ps ds) (hd : Vals dvs ds) (hdo : ∀ F, EnvOk F dfl (dvs.map some))
    (ha : AA X B env os (e :: es) args w) (ho : ∀ i, OsLe os (osf i)) (hnd : ∀ i, ((osf i).map (·.1)).Nodup) (hg : Gl X x := by rfl) (hdb : (x == ("__debug__" : Str)) = false := by decide)
    (he : starEach (e :: es) X.env = (false, eval e X.env) :: starEach es X.env := by rfl) (hpl : (backTo pos (starEach es X.env)).any (·.1) = false := by rfl) :
    EE X B env os (.Call (.Name x p) (e :: es) [] pos) ro (bnd w fun i => wf i) :=
  PE.imp (pe_call G hr hg hm hk hb hd (passB tk) ha hdb he hpl) fun σ H Q h => by
    have q := back_call (X := X) (tb := tb) (args := args) ho hnd h
    obtain ⟨F, P, S, hw, k⟩ := q
    exact ⟨F, P, S, hw, fun i hi vs F' H' S' e' ok => spX_dfl hdo (k i hi vs F' H' S' e' ok)⟩
end
end Mi

namespace Mi
open PySem L2 Evl

/-! ### calls of every kind: places, keywords, written defaults -/
def pick {α : Type} (ix : List Nat) (l : List α) : List α := ix.filterMap fun j => l[j]?
theorem Paired.pick {α β : Type} {R : α → β → Prop} {l : List α} {m : List β} (h : Paired R l m) : ∀ ix : List Nat, Paired R (Mi.pick ix l) (Mi.pick ix m)
  | [] => .nil
  | j :: ix => by
    have ih := Paired.pick h ix
    unfold Mi.pick at ih ⊢
    rw [List.filterMap_cons, List.filterMap_cons]
    cases e : m[j]? with
    | none =>
      have e2 : l[j]? = none := by
        rw [List.getElem?_eq_none_iff] at e ⊢
        rw [h.length]
        exact e
      rw [e2]
      exact ih
    | some y =>
      obtain ⟨x, h1, h2⟩ := Paired.get h e
      rw [h1]
      exact .cons h2 ih
theorem pick_map {α β : Type} (f : α → β) (l : List α) : ∀ ix : List Nat, pick ix (l.map f) = (pick ix l).map f
  | [] => rfl
  | j :: ix => by
    have ih := pick_map f l ix
    unfold pick at ih ⊢
    rw [List.filterMap_cons, List.filterMap_cons, List.getElem?_map]
    cases e : l[j]? with
    | none => exact ih
    | some y =>
      rw [Option.map_some, List.map_cons, ih]
/-- how a def binds: f0 values handed in ahead (self), n by place, those of the keywords ks, the written defaults dvs -/
def CB (K : PySem.W.Frag) (fd : FuncData) (ps : List Str) (f0 n : Nat) (ks : List Str) (ix : List Nat) (dvs : List V) : Prop :=
  ∃ ds : List Value, Vals dvs ds ∧ ∀ (s : Shared) (fs us ws : List Value), K.In s.heap → fs.length = f0 → us.length = n → ws.length = ks.length → BindsTo s fd ⟨fs ++ us, ks.zip ws⟩ (ps.zip (fs ++ pick ix (us ++ ws ++ ds)))
theorem CB.kbn {K : PySem.W.Frag} {fd : FuncData} {ps : List Str} {f0 n : Nat} {ks : List Str} {ix : List Nat} {dvs : List V} (h : CB K fd ps f0 n ks ix dvs) :
    ∃ g, KBn K fd ps (f0 + n) ks g fun vs zs => vs.take f0 ++ pick ix (vs.drop f0 ++ zs ++ dvs) := by
  obtain ⟨ds, rd, h⟩ := h
  refine ⟨fun us ws => us.take f0 ++ pick ix (us.drop f0 ++ ws ++ ds), ⟨fun s us ws X l1 l2 => ?_, fun r rz => (r.take f0).append (Paired.pick (((r.drop f0).append rz).append rd) ix)⟩⟩
  have z := h s (us.take f0) (us.drop f0) ws X (by rw [List.length_take]; omega) (by rw [List.length_drop]; omega) l2
  rwa [List.take_append_drop] at z
/-- the handing over -/
structure HA (X : Cx) (es : List Expr) (kws : List Keyword) (pos : Pos) (ks : List Str) (t : L2.St → Hp → (List V → List V → Hp → Prop) → Prop) : Prop where
  run : ∀ (pins : List (Addr × Obj)) (s : Shared) (σ : L2.St) (H : Hp) (Q : List V → List V → Hp → Prop) (f : Value) (first : List Value) (R : Value → Shared → Prop), PySem.W.keepIn X.K f = true → Inv X pins σ H s → t σ H Q →
    (∀ us ws vs zs H1 s1, Inv X pins σ H1 s1 → Vals vs us → Vals zs ws → Q vs zs H1 → wpAny (model X.prog X.w) X.A (call f (first ++ us) (ks.zip ws)) R X.xe s1) →
    wpAny (model X.prog X.w) X.A (callWith pos f first (backTo pos (starEach es X.env)) (backToKw pos (keywordEach kws X.env))) R X.xe s
def tHA (B : Bs) (env : Env) (os : Os) {κ : Type} (n m : Nat) (ar : κ → Env) (w : W κ) : L2.St → Hp → (List V → List V → Hp → Prop) → Prop := fun σ H Q => ∃ F P, Sit B F H σ env os ∧ w P B.E0 ∧ ∀ q, P q → ∀ vs zs F' H', Sit B F' H' σ env os → Ex F F' → vs.length = n → zs.length = m → EnvOk F' (ar q) ((vs ++ zs).map some) → Q vs zs H'
def HH (X : Cx) (B : Bs) (env : Env) (os : Os) (es : List Expr) (kws : List Keyword) (pos : Pos) (n : Nat) (ks : List Str) {κ : Type} (ar : κ → Env) (w : W κ) : Prop := HA X es kws pos ks (tHA B env os n ks.length ar w)
section
variable {X : Cx} {B : Bs} {env : Env} {os : Os} {pos p : Pos} {κ κ2 : Type} {e : Expr} {es : List Expr} {kws : List Keyword} {n : Nat} {ks : List Str} {ar : κ → Env} {ar2 : κ2 → Env}
theorem hh_none : HH X B env os [] [] pos 0 [] (fun _ : Unit => []) (ret ()) :=
  ⟨fun pins s σ H Q f first R hk I ⟨F, P, S, hw, k⟩ hq => PySem.W.callWith_K0 I.kIn hk (hq [] [] [] [] H s I .nil .nil (k () hw [] [] F H S (Ex.refl F) rfl rfl .nil))⟩
theorem hh_pos {w : W κ} (ha : AA X B env os (e :: es) ar w) (hn : ∀ q, (ar q).length = n) (he : starEach (e :: es) X.env = (false, eval e X.env) :: starEach es X.env := by rfl) (hpl : (backTo pos (starEach es X.env)).any (·.1) = false := by rfl) :
    HH X B env os (e :: es) [] pos n [] ar w :=
  ⟨fun pins s σ H Q f first R hk I ⟨F, P, S, hw, k⟩ hq => PySem.W.callWith_K (h₀ := X.base) I.ok.mod.kin hk (thn (ha.run pos pins s σ H (fun vs H1 => Q vs [] H1) I ⟨F, P, S, hw, fun q hq vs F1 H1 S1 e1 ok => by
    have l := ok.len
    rw [List.length_map, hn q] at l
    exact k q hq vs [] F1 H1 S1 e1 l.symm rfl (by rw [List.append_nil]; exact ok)⟩) fun us s1 ⟨vs, H1, I1, r, q⟩ => ⟨I1.kIn, hq us [] vs [] H1 s1 I1 r .nil q⟩) he hpl⟩
theorem hh_kw0 {w : W κ} (hkw : KK X B env os kws ar w) (hn : ∀ q, (ar q).length = ks.length) (hall : (backToKw pos (keywordEach kws X.env)).all (·.1.isSome) = true := by rfl) (hks : (backToKw pos (keywordEach kws X.env)).filterMap (·.1) = ks := by rfl)
    (hpl : ((backTo pos (starEach [] X.env)).any (·.1) || (backToKw pos (keywordEach kws X.env)).any (·.1.isNone)) = false := by rfl) : HH X B env os [] kws pos 0 ks ar w :=
  ⟨fun pins s σ H Q f first R hk I ⟨F, P, S, hw, k⟩ hq => PySem.W.callWith_KW0 (h₀ := X.base) I.ok.mod.kin hk hall (thn (hkw.run pos pins s σ H (fun zs H1 => Q [] zs H1) I ⟨F, P, S, hw, fun q hq zs F1 H1 S1 e1 ok => by
    have l := ok.len
    rw [List.length_map, hn q] at l
    exact k q hq [] zs F1 H1 S1 e1 rfl l.symm ok⟩) fun ws s1 ⟨zs, H1, I1, r, q⟩ => ⟨I1.kIn, by rw [hks]; exact hq [] ws [] zs H1 s1 I1 .nil r q⟩) hpl⟩
theorem hh_both {w : W κ} {w2 : κ → W κ2} (ha : AA X B env os (e :: es) ar w) (hkw : ∀ i, KK X B env os kws ar2 (w2 i)) (hn : ∀ q, (ar q).length = n) (hn2 : ∀ q, (ar2 q).length = ks.length) (hall : (backToKw pos (keywordEach kws X.env)).all (·.1.isSome) = true := by rfl) (hks : (backToKw pos (keywordEach kws X.env)).filterMap (·.1) = ks := by rfl)
    (he : starEach (e :: es) X.env = (false, eval e X.env) :: starEach es X.env := by rfl) (hpl : ((backTo pos (starEach (e :: es) X.env)).any (·.1) || (backToKw pos (keywordEach kws X.env)).any (·.1.isNone)) = false := by rfl) :
    HH X B env os (e :: es) kws pos n ks (fun q : κ × κ2 => ar q.1 ++ ar2 q.2) (bnd w fun i => bnd (w2 i) fun j => ret (i, j)) :=
  ⟨fun pins s σ H Q f first R hk I ⟨F, P, S, hw, k⟩ hq => PySem.W.callWith_KW (h₀ := X.base) I.ok.mod.kin hk hall (thn (ha.run pos pins s σ H (fun vs H1 => ∃ i F1, Sit B F1 H1 σ env os ∧ Ex F F1 ∧ vs.length = n ∧ EnvOk F1 (ar i) (vs.map some) ∧ (bnd (w2 i) fun j => ret (i, j)) P B.E0) I ⟨F, _, S, hw, fun i hi vs F1 H1 S1 e1 ok => by
    have l := ok.len
    rw [List.length_map, hn i] at l
    exact ⟨i, F1, S1, e1, l.symm, ok, hi⟩⟩) fun us s1 ⟨vs, H1, I1, r, i, F1, S1, e1, l1, ok1, hi⟩ =>
    thn ((hkw i).run pos pins s1 σ H1 (fun zs H2 => Q vs zs H2) I1 ⟨F1, _, S1, hi, fun j hj zs F2 H2 S2 e2 ok2 => by
      have l := ok2.len
      rw [List.length_map, hn2 j] at l
      exact k (i, j) hj vs zs F2 H2 S2 (e1.trans e2) l1 l.symm (by rw [List.map_append]; exact EnvOk.app (ok1.mono e2) ok2)⟩) fun ws s2 ⟨zs, H2, I2, rz, q⟩ => ⟨I2.kIn, by rw [hks]; exact hq us ws vs zs H2 s2 I2 r rz q⟩) hpl he⟩
end
/-! ### what is handed back -/
structure Res (ρ : Type) where
  k : ρ → Hp → L2.St → VK → Prop
  mono : ∀ {F F' : Hp} {x : ρ} {σ : L2.St} {Q : VK}, Ex F F' → k x F σ Q → k x F' σ Q
def resV (B : Bs) (env : Env) (os : Os) {ρ : Type} (r : Rp ρ) : Res ρ := ⟨fun x F σ Q => ∀ v F' H', Sit B F' H' σ env os → Ex F F' → r.ok F' v x → Q v H', fun e h v F' H' S e' => h v F' H' S (e.trans e')⟩
def resN (B : Bs) (env : Env) (os : Os) {α : Type} (r : Rp α) : Res (List α) := ⟨fun xs F σ Q => ∀ a F' H', Sit B F' H' σ env ((a, oLst r xs) :: os) → Ex F F' → Q (.ref a) H', fun e h v F' H' S e' => h v F' H' S (e.trans e')⟩
/-- a def's promise, read at a call -/
structure SpF (sp : Sp) (E : XK) (B : Bs) (env : Env) (os : Os) {ι ρ : Type} (args : ι → Env) (wf : ι → W ρ) (R : Res ρ) : Prop where
  ok : ∀ {F H : Hp} {σ : L2.St} {vs : List V} {i : ι} {P : ρ → Prop} {Q : VK}, Sit B F H σ env os → EnvOk F (args i) (vs.map some) → wf i P B.E0 → (∀ z, P z → R.k z F σ Q) → sp vs H Q E
section
variable {X : Cx} {B : Bs} {env : Env} {os : Os} {tb : ETab} {ι ρ α : Type} {args : ι → Env} {osf : ι → Os} {wf : ι → W ρ} {ro : Rp ρ}
theorem spf_W (ho : ∀ i, OsLe os (osf i)) (hnd : ∀ i, ((osf i).map (·.1)).Nodup) : SpF (spW args osf wf ro) E0 B env os args (fun i => noX (wf i)) (resV B env os ro) :=
  ⟨fun {F H σ vs i P Q} S ok hw k => ⟨i, F, P, S.fh, ok, fun p hp => by
    obtain ⟨h1, h2, _⟩ := S.ow p (ho i p hp)
    exact ⟨h1, h2⟩, hnd i, hw, fun y hy v F2 H2 fn ow okv => k y hy v F2 H2 (S.back (ho i) fn ow) fn.bf okv⟩⟩
theorem spf_W0 : SpF (spW args (fun _ => []) wf ro) E0 B env os args (fun i => noX (wf i)) (resV B env os ro) := spf_W (fun _ => OsLe.none) fun _ => List.nodup_nil
theorem spf_X (ho : ∀ i, OsLe os (osf i)) (hnd : ∀ i, ((osf i).map (·.1)).Nodup) : SpF (spX X.K tb args osf wf ro) (eB X.K tb B) B env os args wf (resV B env os ro) :=
  ⟨fun {F H σ vs i P Q} S ok hw k => ⟨i, F, P, B.E0, S.fh, ok, fun p hp => by
    obtain ⟨h1, h2, _⟩ := S.ow p (ho i p hp)
    exact ⟨h1, h2⟩, hnd i, hw, fun y hy v F2 H2 fn ow okv => k y hy v F2 H2 (S.back (ho i) fn ow) fn.bf okv, fun e he cls d F2 H2 fn er => ⟨e, F2, he, S.backE (ho i) fn, er⟩⟩⟩
theorem spf_X0 : SpF (spX X.K tb args (fun _ => []) wf ro) (eB X.K tb B) B env os args wf (resV B env os ro) := spf_X (fun _ => OsLe.none) fun _ => List.nodup_nil
theorem spf_N {r : Rp α} {wl : ι → W (List α)} : SpF (spN args wl r) E0 B env os args (fun i => noX (wl i)) (resN B env os r) :=
  ⟨fun {F H σ vs i P Q} S ok hw k => ⟨i, F, P, S.fh, ok, hw, fun z hz a F' H' fn h1 h2 h3 => k z hz a F' H' (S.gotN fn h1 h2 h3) fn.bf⟩⟩
end
section
variable {X : Cx} {CX : CXT} {B : Bs} {env : Env} {os : Os} {pos p apos : Pos} {ι κ ρ α β : Type} {e o : Expr} {es : List Expr} {kws : List Keyword} {n k : Nat} {ks : List Str} {ix : List Nat} {dvs : List V} {dfl : Env} {ar : κ → Env} {f C pa : Addr} {fd : FuncData} {ps : List Str} {sp : Sp} {E : XK} {x m : Str} {R : Res ρ} {args : ι → Env} {wf : ι → W ρ} {conv : κ → ι} {mc : Value}
def ER (X : Cx) (B : Bs) (env : Env) (os : Os) (e : Expr) {ρ : Type} (R : Res ρ) (w : W ρ) : Prop := PE X e fun σ H Q => ∃ F P, Sit B F H σ env os ∧ w P B.E0 ∧ ∀ x, P x → R.k x F σ Q
theorem er_V {r : Rp ρ} {w : W ρ} (h : ER X B env os e (resV B env os r) w) : EE X B env os e r w := h
theorem er_N {r : Rp α} {w : W (List α)} (h : ER X B env os e (resN B env os r) w) : EN X B env os e r w := h
theorem env_pick {F : Hp} {vs zs : List V} {q : κ} (ok : EnvOk F (ar q) ((vs ++ zs).map some)) (hd : ∀ F, EnvOk F dfl (dvs.map some)) : EnvOk F (pick ix (ar q ++ dfl)) ((pick ix (vs ++ zs ++ dvs)).map some) := by
  rw [← pick_map, List.map_append]
  exact Paired.pick (EnvOk.app ok (hd F)) ix
/-- f(..) -/
theorem e_callZ {w : W κ} (G : FnOk X.prog X.w X.K X.mg X.base CX k f fd ps sp) (hx : Passes CX X E) (hs : SpF sp E B env os args wf R) (hr : Room k X.A) (hm : X.mg x = some (.ref f)) (hk : PySem.W.keepIn X.K (.ref f) = true) (hb : CB X.K fd ps 0 n ks ix dvs) (hd : ∀ F, EnvOk F dfl (dvs.map some))
    (hh : HH X B env os es kws pos n ks ar w) (hc : ∀ q, args (conv q) = pick ix (ar q ++ dfl)) (hg : Gl X x := by rfl) (hdb : (x == ("__debug__" : Str)) = false := by decide) :
    ER X B env os (.Call (.Name x p) es kws pos) R (bnd w fun q => wf (conv q)) := by
  refine ⟨fun pins s σ H Q I ⟨F, P, S, hw, kk⟩ => ?_⟩
  refine wpAny_Call_Name_kw (ld_glob I hg hm ?_ hdb)
  obtain ⟨g, hb⟩ := hb.kbn
  refine hh.run pins s σ H (fun vs zs H1 => vs.length = n ∧ zs.length = ks.length ∧ sp (pick ix (vs ++ zs ++ dvs)) H1 Q E) (.ref f) [] _ hk I ⟨F, _, S, hw, fun q hq vs zs F1 H1 S1 e1 l1 l2 ok => ⟨l1, l2, hs.ok S1 (i := conv q) (by rw [hc q]; exact env_pick ok hd) hq fun z hz => R.mono e1 (kk z hz)⟩⟩ fun us ws vs zs H1 s1 I1 r rz ⟨l1, l2, q⟩ => ?_
  rw [show 0 + n = n from Nat.zero_add n] at hb
  exact run_fnN G hr hb hx I1 r rz l1 l2 q
/-- o.m(..) -/
theorem e_methZ {args : α × ι → Env} {wf : α × ι → W ρ} {fl : α → List (Str × Slot)} {w1 : W α} {w2 : α → W κ} {pl : Sem Bool} (G : FnOk X.prog X.w X.K X.mg X.base CX k f fd ps sp) (hx : Passes CX X E) (hs : SpF sp E B env os args wf R) (hr : Room k X.A) (cl : Cls X.K C) (hm : Meth X.K C m f) (hb : CB X.K fd ps 1 n ks ix dvs) (hd : ∀ F, EnvOk F dfl (dvs.map some))
    (ho : EE X B env os o (rObj C fl) w1) (hh : ∀ x, HH X B env os es kws pos n ks ar (w2 x)) (hc : ∀ x q, args (x, conv q) = sv (rObj C fl) x :: pick ix (ar q ++ dfl)) (hn : ∀ x, (fl x).lookup m = none := by exact fun _ => rfl)
    (ht : eval (.Call (.Attribute o m apos) es kws pos) X.env = (do
      let ov ← eval o X.env
      standAt apos.atName
      let (f, first) ← holding [ov] (getMethod ov m pl)
      callWith pos f first (backTo pos (starEach es X.env)) (backToKw pos (keywordEach kws X.env))) := by rfl) :
    ER X B env os (.Call (.Attribute o m apos) es kws pos) R (bnd w1 fun x => bnd (w2 x) fun q => wf (x, conv q)) := by
  refine ⟨fun pins s σ H Q I ⟨F, P, S, hw, kk⟩ => ?_⟩
  refine PySem.W.methodCall_KW (pl := pl) (thn (ho.run pins s σ H (fun v H1 => ∃ x F1, Sit B F1 H1 σ env os ∧ Ex F F1 ∧ (rObj C fl).ok F1 v x ∧ (bnd (w2 x) fun i => wf (x, conv i)) P B.E0) I ⟨F, _, S, hw, fun x hx v F1 H1 S1 e1 ok => ⟨x, F1, S1, e1, ok, hx⟩⟩) fun u s1 ⟨v, H1, I1, rx, x, F1, S1, e1, ⟨y, dx, fs, ev, hy, hf⟩, hx1⟩ => ?_) ht
  subst ev
  obtain rfl : u = Value.ref y := rx
  refine getmeth_ok I1 (S1.fh _ _ hy) cl hm (hf.none (hn x)) ?_
  obtain ⟨g, hb⟩ := hb.kbn
  refine (hh x).run pins s1 σ H1 (fun vs zs H2 => vs.length = n ∧ zs.length = ks.length ∧ sp (.ref y :: pick ix (vs ++ zs ++ dvs)) H2 Q E) (.ref f) [.ref y] _ hm.kp I1 ⟨F1, _, S1, hx1, fun q hq vs zs F2 H2 S2 e2 l1 l2 ok => ⟨l1, l2, hs.ok S2 (i := (x, conv q)) (by
    rw [hc x q]
    exact .cons ⟨_, rfl, y, dx, fs, rfl, e2 _ _ hy, hf.mono e2⟩ (env_pick ok hd)) hq fun z hz => R.mono (e1.trans e2) (kk z hz)⟩⟩ fun us ws vs zs H2 s2 I2 r rz ⟨l1, l2, q⟩ => ?_
  exact run_fnN (us := .ref y :: us) (vs := .ref y :: vs) G hr hb hx I2 (.cons rfl r) rz (by rw [List.length_cons, l1]; omega) l2 q
/-- C.m(..), m a staticmethod -/
theorem e_smethZ {w : W κ} {pl : Sem Bool} (G : FnOk X.prog X.w X.K X.mg X.base CX k f fd ps sp) (hx : Passes CX X E) (hs : SpF sp E B env os args wf R) (r : ClX.CRead X.K C mc) (c : SMet X.K C mc m pa f) (hr : Room k X.A) (hm : X.mg x = some (.ref C)) (hk : PySem.W.keepIn X.K (.ref f) = true) (hb : CB X.K fd ps 0 n ks ix dvs) (hd : ∀ F, EnvOk F dfl (dvs.map some))
    (hh : HH X B env os es kws pos n ks ar w) (hc : ∀ q, args (conv q) = pick ix (ar q ++ dfl)) (hg : Gl X x := by rfl) (hdb : (x == ("__debug__" : Str)) = false := by decide)
    (ht : eval (.Call (.Attribute (.Name x p) m apos) es kws pos) X.env = (do
      let ov ← eval (.Name x p) X.env
      standAt apos.atName
      let (f, first) ← holding [ov] (getMethod ov m pl)
      callWith pos f first (backTo pos (starEach es X.env)) (backToKw pos (keywordEach kws X.env))) := by rfl) :
    ER X B env os (.Call (.Attribute (.Name x p) m apos) es kws pos) R (bnd w fun q => wf (conv q)) := by
  refine ⟨fun pins s σ H Q I ⟨F, P, S, hw, kk⟩ => ?_⟩
  refine PySem.W.methodCall_KW (pl := pl) (thn ((pe_glob (v := .ref C) hg hm rfl hdb).run pins s σ H (fun v H1 => v = .ref C ∧ H1 = H) I ⟨rfl, rfl⟩) fun u s1 ⟨v, H1, I1, rx, ev, eh⟩ => ?_) ht
  subst ev eh
  obtain rfl : u = Value.ref C := rx
  refine getmethsm_ok I1 r c fun s2 I2 => ?_
  obtain ⟨g, hb⟩ := hb.kbn
  refine hh.run pins s2 σ H1 (fun vs zs H1 => vs.length = n ∧ zs.length = ks.length ∧ sp (pick ix (vs ++ zs ++ dvs)) H1 Q E) (.ref f) [] _ hk I2 ⟨F, _, S, hw, fun q hq vs zs F1 H1 S1 e1 l1 l2 ok => ⟨l1, l2, hs.ok S1 (i := conv q) (by rw [hc q]; exact env_pick ok hd) hq fun z hz => R.mono e1 (kk z hz)⟩⟩ fun us ws vs zs H1 s1 I1 r rz ⟨l1, l2, q⟩ => ?_
  rw [show 0 + n = n from Nat.zero_add n] at hb
  exact run_fnN G hr hb hx I1 r rz l1 l2 q
end
/-! ### making -/
structure SpM (sp : Sp) (E : XK) (B : Bs) (env : Env) (os : Os) (C : Addr) {ι ρ : Type} (args : ι → Env) (wf : ι → W ρ) (fl : ρ → List (Str × Slot)) : Prop where
  ok : ∀ {F H : Hp} {σ : L2.St} {vs : List V} {i : ι} {P : ρ → Prop} {Q : VK}, Sit B F H σ env os → EnvOk F (args i) (vs.map some) → wf i P B.E0 → (∀ z, P z → ∀ v F' H', Sit B F' H' σ env os → Ex F F' → (rObj C fl).ok F' v z → Q v H') →
    ∀ x dx, H x = none → H dx = none → dx ≠ x → sp (.ref x :: vs) (upd (upd H dx (.own x)) x (.ins C dx [])) (fun v H2 => v = .non ∧ Q (.ref x) H2) E
section
variable {X : Cx} {CX : CXT} {B : Bs} {env : Env} {os : Os} {tb : ETab} {pos p : Pos} {ι κ ρ : Type} {es : List Expr} {kws : List Keyword} {n k : Nat} {ks : List Str} {ix : List Nat} {dvs : List V} {dfl : Env} {ar : κ → Env} {f C : Addr} {fd : FuncData} {ps : List Str} {sp : Sp} {E : XK} {x : Str} {args : ι → Env} {wf : ι → W ρ} {conv : κ → ι} {fl : ρ → List (Str × Slot)}
theorem spm_W : SpM (spI C args wf fl) E0 B env os C args (fun i => noX (wf i)) fl := ⟨fun {F H σ vs i P Q} S ok hw k x dx hx hdx hne => by
  have g : Grow F H (upd F dx (.own x)) (upd H dx (.own x)) := Grow.alloc S.fh hdx
  have S1 := S.grow g
  have hx1 : upd H dx (.own x) x = none := by rw [upd_ne (Ne.symm hne)]; exact hx
  have S2 := S1.newOwn (o := .ins C dx []) (ow := oObj C []) hx1 ⟨dx, [], rfl, .nil⟩
  refine ⟨i, upd F dx (.own x), P, x, dx, vs, rfl, S2.fh, ?_, upd_same, ok.mono g.f, hw, fun r hr F' H' fn ow => ⟨rfl, ?_⟩⟩
  · exact (S2.ow (x, oObj C []) List.mem_cons_self).1
  · obtain ⟨F2, o, e2, h1, ⟨dx', vs', h2, h3⟩, S4⟩ := (S2.backI fn ow).freeze
    subst h2
    exact k r hr (.ref x) F2 H' S4 ((g.f.trans fn.bf).trans e2) ⟨x, dx', vs', rfl, h1, h3⟩⟩
theorem spm_X : SpM (spIX X.K tb C args wf fl) (eB X.K tb B) B env os C args wf fl := ⟨fun {F H σ vs i P Q} S ok hw k x dx hx hdx hne => by
  have g : Grow F H (upd F dx (.own x)) (upd H dx (.own x)) := Grow.alloc S.fh hdx
  have S1 := S.grow g
  have hx1 : upd H dx (.own x) x = none := by rw [upd_ne (Ne.symm hne)]; exact hx
  have S2 := S1.newOwn (o := .ins C dx []) (ow := oObj C []) hx1 ⟨dx, [], rfl, .nil⟩
  refine ⟨i, upd F dx (.own x), P, B.E0, x, dx, vs, rfl, S2.fh, ?_, upd_same, ok.mono g.f, hw, fun r hr F' H' fn ow => ⟨rfl, ?_⟩, fun e he cls d F' H' fn er => ⟨e, F', he, S2.backEI (S1.fin.fresh hx1) fn, er⟩⟩
  · exact (S2.ow (x, oObj C []) List.mem_cons_self).1
  · obtain ⟨F2, o, e2, h1, ⟨dx', vs', h2, h3⟩, S4⟩ := (S2.backI fn ow).freeze
    subst h2
    exact k r hr (.ref x) F2 H' S4 ((g.f.trans fn.bf).trans e2) ⟨x, dx', vs', rfl, h1, h3⟩⟩
/-- C(..) -/
theorem e_makeZ {w : W κ} (M : Mk X.K C f) (G : FnOk X.prog X.w X.K X.mg X.base CX k f fd ps sp) (hx : Passes CX X E) (hs : SpM sp E B env os C args wf fl) (hr : Room (k + 1) X.A) (hm : X.mg x = some (.ref C)) (hb : CB X.K fd ps 1 n ks ix dvs) (hd : ∀ F, EnvOk F dfl (dvs.map some))
    (hh : HH X B env os es kws pos n ks ar w) (hc : ∀ q, args (conv q) = pick ix (ar q ++ dfl)) (hg : Gl X x := by rfl) (hdb : (x == ("__debug__" : Str)) = false := by decide) :
    EE X B env os (.Call (.Name x p) es kws pos) (rObj C fl) (bnd w fun q => wf (conv q)) := by
  refine ⟨fun pins s σ H Q I ⟨F, P, S, hw, kk⟩ => ?_⟩
  refine wpAny_Call_Name_kw (ld_glob I hg hm ?_ hdb)
  obtain ⟨g, hb⟩ := hb.kbn
  rw [show 1 + n = n + 1 from Nat.add_comm 1 n] at hb
  refine hh.run pins s σ H (fun vs zs H1 => vs.length = n ∧ zs.length = ks.length ∧ ∀ x dx, H1 x = none → H1 dx = none → dx ≠ x → sp (.ref x :: pick ix (vs ++ zs ++ dvs)) (upd (upd H1 dx (.own x)) x (.ins C dx [])) (fun v H2 => v = .non ∧ Q (.ref x) H2) E) (.ref C) [] _ M.kp I ⟨F, _, S, hw, fun q hq vs zs F1 H1 S1 e1 l1 l2 ok => ⟨l1, l2, hs.ok S1 (i := conv q) (by rw [hc q]; exact env_pick ok hd) hq fun z hz v F' H' S' e' ok' => kk z hz v F' H' S' (e1.trans e') ok'⟩⟩ fun us ws vs zs H1 s1 I1 r rz ⟨l1, l2, q⟩ => ?_
  exact run_makeN M G hr hb hx I1 r rz l1 l2 q
end
/-! ### the facts of binding -/
/-- the words of a def, whatever its defaults -/
structure FunE (K : PySem.W.Frag) (x qual : Str) (st : Stmt) (f : Addr) (fd : FuncData) : Prop where
  ex : ∃ (oc : Value) (od : Option Addr) (dV kV doc pm : Value) (an : Option Addr) (cdv ct : Value) (osl : Array (Option Value)),
    fd = PySem.W.fnOf x qual (defArgs st) (defBody st) (defScope st) dV kV doc pm an cdv ct ∧ K.lookup f = some ⟨oc, od, .func fd, osl⟩ ∧ PySem.W.codeIn K cdv qual = true
  kp : PySem.W.keepIn K (.ref f) = true
theorem cb_of {K : PySem.W.Frag} {fd : FuncData} {ps : List Str} {f0 n : Nat} {ks : List Str} {ix : List Nat} (h : ∀ fs us ws : List Value, fs.length = f0 → us.length = n → ws.length = ks.length → bindArgs fd ⟨fs ++ us, ks.zip ws⟩ = pure (ps.zip (fs ++ pick ix (us ++ ws ++ [])))) : CB K fd ps f0 n ks ix [] :=
  ⟨[], .nil, fun s fs us ws _ h0 h1 h2 => .of_eq (h fs us ws h0 h1 h2)⟩
/-- defaults stand at T -/
theorem cb_dflt {K : PySem.W.Frag} {fd : FuncData} {ps : List Str} {f0 n : Nat} {ks : List Str} {ix : List Nat} {dvs : List V} {T : Addr} {o : Obj} {its : List Value} {m : Nat} (lT : K.lookup T = some o) (oT : o.data = .seq its.toArray m) (rT : Vals dvs its)
    (h : ∀ fs us ws : List Value, fs.length = f0 → us.length = n → ws.length = ks.length → ∃ k, bindArgs fd ⟨fs ++ us, ks.zip ws⟩ = seqItems? (.ref T) >>= k ∧ k (some its.toArray) = pure (ps.zip (fs ++ pick ix (us ++ ws ++ its)))) : CB K fd ps f0 n ks ix dvs :=
  ⟨its, rT, fun s fs us ws X h0 h1 h2 => by
    obtain ⟨k, e1, e2⟩ := h fs us ws h0 h1 h2
    refine BindsTo.of_looks fun M => ?_
    rw [e1]
    exact looks_items X lT oT (.of_pure e2)⟩
end Mi

namespace Mi
open PySem L2 Evl
open PyProof.Rows (envOfC Call_ boot_enumerate)

/-! ### data of at most a depth -/
def rDk (K : PySem.W.Frag) (n : Nat) : Rp PyData := ⟨fun F v d => (rD K).ok F v d ∧ d.depth ≤ n, fun e h => ⟨(rD K).mono e h.1, h.2⟩⟩
abbrev rDs (K : PySem.W.Frag) : Rp PyData := rDk K 12
theorem dd_Dk {K : PySem.W.Frag} {n : Nat} : DD K (rDk K n) id n := ⟨fun h => ⟨h.1.1, h.1.2.1, h.2⟩⟩
theorem pl_Dk {K : PySem.W.Frag} {n : Nat} : PlR (rDk K n) := fun F F' v d e h => ⟨pl_D F F' v d e h.1, h.2⟩
section
variable {X : Cx} {B : Bs} {env : Env} {os : Os} {pos p : Pos} {α β γ : Type} {r : Rp α} {s : Rp β} {f : α → PyData} {n m : Nat} {a b c e tg : Expr} {es : List Expr}
theorem e_upD {w : W PyData} (h : EE X B env os e (rDk X.K n) w) : EE X B env os e (rD X.K) w := PE.imp h fun σ H Q ⟨F, P, S, hw, k⟩ => ⟨F, P, S, hw, fun d hd v F' H' S' e' ok => k d hd v F' H' S' e' ok.1⟩
theorem e_upDk {w : W PyData} (h : EE X B env os e (rDk X.K n) w) (hn : n ≤ m := by decide) : EE X B env os e (rDk X.K m) w := PE.imp h fun σ H Q ⟨F, P, S, hw, k⟩ => ⟨F, P, S, hw, fun d hd v F' H' S' e' ok => k d hd v F' H' S' e' ⟨ok.1, Nat.le_trans ok.2 hn⟩⟩
theorem dk_of (d : DD X.K r f n) (hn : n ≤ m) (h3 : m ≤ 30) {F : Hp} {v : V} {x : α} (ok : r.ok F v x) : (rDk X.K m).ok F v (f x) := ⟨⟨(d.ok ok).1, (d.ok ok).2.1, Nat.le_trans (d.ok ok).2.2 (Nat.le_trans hn h3)⟩, Nat.le_trans (d.ok ok).2.2 hn⟩
theorem e_toDk {w : W α} (d : DD X.K r f n) (h : EE X B env os e r w) (hn : n ≤ m := by decide) (h3 : m ≤ 30 := by decide) : EE X B env os e (rDk X.K m) (bnd w fun x => ret (f x)) := e_map (s := rDk X.K m) (fun ok => dk_of d hn h3 ok) h
/-! a written list, a written tuple of things of several kinds -/
def tDL (B : Bs) (env : Env) (os : Os) (K : PySem.W.Frag) (n l : Nat) (w : W (List PyData)) : TA := fun σ H Q => ∃ F P, Sit B F H σ env os ∧ w P B.E0 ∧ ∀ ds, P ds → ∀ vs F' H', Sit B F' H' σ env os → Ex F F' → Paired ((rDk K n).ok F') vs ds → vs.length = l → Q vs H'
def DL (X : Cx) (B : Bs) (env : Env) (os : Os) (es : List Expr) (n : Nat) (w : W (List PyData)) : Prop := PA X es (tDL B env os X.K n es.length w)
theorem dl_nil : DL X B env os [] n (ret []) := PA.imp pa_nil fun σ H Q ⟨F, P, S, hw, k⟩ => k [] hw [] F H S (Ex.refl F) .nil rfl
theorem dl_cons {w1 : W α} {w2 : W (List PyData)} (d : DD X.K r f n) (h : EE X B env os e r w1) (ht : DL X B env os es m w2) (hn : n ≤ m := by decide) (h3 : m ≤ 30 := by decide) (hs : starEach (e :: es) X.env = (false, eval e X.env) :: starEach es X.env := by rfl) : DL X B env os (e :: es) m (bnd w1 fun x => bnd w2 fun xs => ret (f x :: xs)) :=
  PA.imp (pa_cons h ht hs) fun σ H Q ⟨F, P, S, hw, k⟩ => ⟨F, _, S, hw, fun x hx v F1 H1 S1 e1 ok1 => ⟨F1, _, S1, hx, fun xs hxs vs F2 H2 S2 e2 ok2 hl => k _ hxs (v :: vs) F2 H2 S2 (e1.trans e2) (.cons ((rDk X.K m).mono e2 (dk_of d hn h3 ok1)) ok2) (by rw [List.length_cons, hl, List.length_cons])⟩⟩
theorem dk_all {K : PySem.W.Frag} {F : Hp} {vs : List V} {ds : List PyData} (h : Paired ((rDk K n).ok F) vs ds) : DpAll K F vs ds ∧ PyData.canLayAll0 ds = true ∧ PyData.depthAll ds ≤ n := by
  have z := dd_all (dd_Dk (K := K) (n := n)) h
  rw [List.map_id] at z
  exact z
theorem e_listD {w : W (List PyData)} (h : DL X B env os es n w) (hz : es.length ≤ sizeLine := by decide) (hn : n + 1 ≤ 30 := by decide) : EE X B env os (.List es pos) (rDk X.K (n + 1)) (bnd w fun ds => ret (PyData.list ds)) :=
  PE.imp (pe_lst h) fun σ H Q ⟨F, P, S, hw, k⟩ => ⟨F, _, S, hw, fun ds hd vs F' H' S' e' ok hl => ⟨by rw [hl]; exact hz, fun p hp => by
    have hv : vs.length ≤ sizeLine := by rw [hl]; exact hz
    obtain ⟨F2, o, e2, h1, ⟨vs', h2, h3, h4⟩, S2⟩ := (S'.newOwn (ow := oLst (rDk X.K n) ds) hp ⟨vs, rfl, hv, ok⟩).freeze
    subst h2
    obtain ⟨d1, d2, d3⟩ := dk_all h4
    exact k _ hd (.ref p) F2 _ S2 (e'.trans e2) ⟨⟨.lst (SqL.of h1) d1, by rw [PyData.canLay0]; exact d2, by rw [PyData.depth]; omega⟩, by rw [PyData.depth]; omega⟩⟩⟩
theorem e_tupleD {w : W (List PyData)} {kk : Nat} (h : DL X B env os es n w) (hz : es.length ≤ sizeLine := by decide) (hn : n + 1 ≤ 30 := by decide) : EE X B env os (.Tuple es kk pos) (rDk X.K (n + 1)) (bnd w fun ds => ret (PyData.tuple ds)) :=
  PE.imp (pe_tup h) fun σ H Q ⟨F, P, S, hw, k⟩ => ⟨F, _, S, hw, fun ds hd vs F' H' S' e' ok hl => ⟨by rw [hl]; exact hz, fun p hp => by
    have g : Grow F' H' (upd F' p (.tup vs)) (upd H' p (.tup vs)) := Grow.alloc S'.fh hp
    obtain ⟨d1, d2, d3⟩ := dk_all (Paired.imp (fun _ _ => (rDk X.K n).mono g.f) ok)
    exact k _ hd (.ref p) _ _ (S'.grow g) (e'.trans g.f) ⟨⟨.tup (SqT.of upd_same) d1, by rw [PyData.canLay0]; exact d2, by rw [PyData.depth]; omega⟩, by rw [PyData.depth]; omega⟩⟩⟩
end
/-! ### data seen as what it is -/
section
variable {X : Cx} {B : Bs} {env : Env} {os : Os} {pos p : Pos} {α β γ : Type} {r : Rp α} {s : Rp β} {f : α → PyData} {n : Nat} {a b c e tg : Expr}
theorem e_asInt {w : W PyData} (h : EE X B env os e (rD X.K) w) : EE X B env os e rInt (bnd w asInt) := PE.imp h fun σ H Q ⟨F, P, S, hw, k⟩ => ⟨F, _, S, hw, fun d hd v F' H' S' e' ok => by
  obtain ⟨x, hx, ok2⟩ := nr_int (K := X.K) ok hd
  exact k x hx v F' H' S' e' ok2⟩
theorem e_asStr {w : W PyData} (h : EE X B env os e (rD X.K) w) : EE X B env os e rStr (bnd w asStr) := PE.imp h fun σ H Q ⟨F, P, S, hw, k⟩ => ⟨F, _, S, hw, fun d hd v F' H' S' e' ok => by
  obtain ⟨x, hx, ok2⟩ := nr_str (K := X.K) ok hd
  exact k x hx v F' H' S' e' ok2⟩
theorem lst_map {g : α → β} (hg : ∀ {F v x}, r.ok F v x → s.ok F v (g x)) {F : Hp} {v : V} {xs : List α} (h : (rLst r).ok F v xs) : (rLst s).ok F v (xs.map g) := by
  obtain ⟨p, vs, e1, h1, h2, h3⟩ := h
  refine ⟨p, vs, e1, h1, h2, ?_⟩
  clear e1 h1 h2
  induction h3 with
  | nil => exact .nil
  | cons h t ih => exact .cons (hg h) ih
/-- a list of things as a list of data -/
theorem e_lstD {w : W (List α)} (d : DD X.K r f n) (h : EE X B env os e (rLst r) w) (hn : n ≤ 30 := by decide) : EE X B env os e (rLst (rD X.K)) (bnd w fun xs => ret (xs.map f)) :=
  e_map (s := rLst (rD X.K)) (fun ok => lst_map (s := rD X.K) (fun ok => ⟨(d.ok ok).1, (d.ok ok).2.1, Nat.le_trans (d.ok ok).2.2 hn⟩) ok) h
theorem e_lstDk {w : W (List α)} {m : Nat} (d : DD X.K r f n) (h : EE X B env os e (rLst r) w) (hn : n ≤ m := by decide) (h3 : m ≤ 30 := by decide) : EE X B env os e (rLst (rDk X.K m)) (bnd w fun xs => ret (xs.map f)) :=
  e_map (s := rLst (rDk X.K m)) (fun ok => lst_map (s := rDk X.K m) (fun ok => dk_of d hn h3 ok) ok) h
/-- data is no dict -/
theorem e_noDict {w : W PyData} {p1 p2 : Pos} (ha : EE X B env os a (rD X.K) w) (hm : X.mg "isinstance" = none) (hx : X.mg "dict" = none)
    (hg : Gl X "isinstance" := by rfl) (hgx : Gl X "dict" := by rfl) (hs : starEach [a, .Name "dict" p2] X.env = (false, eval a X.env) :: starEach [.Name "dict" p2] X.env := by rfl) (hs2 : starEach [.Name "dict" p2] X.env = (false, eval (.Name "dict" p2) X.env) :: starEach [] X.env := by rfl) (hpl : (backTo pos (starEach [.Name "dict" p2] X.env)).any (·.1) = false := by rfl) :
    EE X B env os (.Call (.Name "isinstance" p1) [a, .Name "dict" p2] [] pos) rBool (bnd w fun _ => ret false) :=
  PE.imp (pe_callB call_isi hg hm (by decide +kernel) (pa_cons ha (pa_cons (pe_bltn (v := .ty "dict") hgx hx (by decide +kernel) rfl (by decide) (by decide)) pa_nil hs2) hs) (by decide) (by decide) hs hpl) fun σ H Q ⟨F, P, S, hw, kk⟩ => ⟨F, _, S, hw, fun d hd v F1 H1 S1 e1 ok =>
    ⟨v, .ty "dict", _, .type "dict", (tyD d == "dict"), rfl, .ty "dict", ty_D ok S1.fh, kd_dict d, by
      have z : (tyD d == "dict") = false := by
        obtain ⟨ok, _⟩ := ok
        cases ok <;> rfl
      rw [z]
      exact kk _ hd (.bl _) F1 H1 S1 e1 rfl⟩⟩
end
/-! ### a tuple of texts of a module -/
def TupS (K : PySem.W.Frag) (a : Addr) (zs : List Str) : Prop := (∃ (o : Obj) (its : Array Value) (n : Nat), K.lookup a = some o ∧ o.cls = .type "tuple" ∧ o.data = .seq its n ∧ its.size ≤ sizeLine ∧ Vals (zs.map V.str) its.toList) ∧ zs.length ≤ sizeLine ∧ ∀ z ∈ zs, z.length ≤ sizeLine ∧ PyData.strOk z = true
section
variable {X : Cx} {B : Bs} {env : Env} {os : Os} {pos p : Pos} {α β γ : Type} {r : Rp α} {s : Rp β} {a b c e tg : Expr}
theorem e_gTup {x : Str} {A : Addr} {zs : List Str} (hm : X.mg x = some (.ref A)) (ht : TupS X.K A zs) (hg : Gl X x := by rfl) (hd : (x == ("__debug__" : Str)) = false := by decide) : EE X B env os (.Name x pos) (rTup X.K rStr) (ret zs) :=
  e_glob (v := .ref A) hg hm rfl (fun F => ⟨A, zs.map V.str, rfl, .inr ht.1, by rw [List.length_map]; exact ht.2.1, strs_paired fun z hz => ⟨rfl, ht.2.2 z hz⟩⟩) hd
theorem e_gIntE {x : Str} {i : Int} (hm : ∃ t, X.mg x = some (.int i t)) (hg : Gl X x := by rfl) (hd : (x == ("__debug__" : Str)) = false := by decide) : EE X B env os (.Name x pos) rInt (ret i) := let ⟨_, h⟩ := hm; e_gInt h hg hd
theorem e_gStrE {x z : Str} (hm : ∃ t, X.mg x = some (.str z t)) (h : z.length ≤ sizeLine := by decide +kernel) (h2 : PyData.strOk z = true := by decide +kernel) (hg : Gl X x := by rfl) (hd : (x == ("__debug__" : Str)) = false := by decide) : EE X B env os (.Name x pos) rStr (ret z) := let ⟨_, q⟩ := hm; e_gStr q h h2 hg hd
theorem sem_inSL {K : PySem.W.Frag} : R2T (rIn K false) rStr (rLst rStr) rBool (fun x ys => ret (decide (x ∈ ys))) := fun F H v u x ys P E Q fh o1 ⟨p, vs, e1, h1, h2, h3⟩ hw k => by
  have e := strs_map h3
  subst e
  refine ⟨p, _, e1, .inl (SqL.of (fh _ _ h1)), by rw [o1.1]; rfl, by simp [flatV], ?_⟩
  show Q (.bl (inV v (ys.map V.str))) H
  rw [o1.1, inV_str]
  exact k _ hw _ F H (Grow.refl fh) rfl
theorem e_inSL {w1 : W Str} {w2 : Str → W (List Str)} (ha : EE X B env os a rStr w1) (hb : ∀ x, EE X B env os b (rLst rStr) (w2 x)) (hm : behindInMarks .In b = false := by rfl) : EE X B env os (.Compare a [.In] [b] pos) rBool (bnd w1 fun x => bnd (w2 x) fun y => ret (decide (x ∈ y))) := e_cmp op_in_seq sem_inSL hm ha hb
/-! ### texts by their signs -/
def idxS (x : Str) (i : Int) : W Str := match atI x.cps.toList i with
  | some c => ret ⟨#[c]⟩
  | none => fail
theorem e_idxS {w1 : W Str} {w2 : Str → W Int} (ha : EE X B env os a rStr w1) (hb : ∀ x, EE X B env os b rInt (w2 x)) (hs : PlainIx b := by exact fun _ _ => rfl) : EE X B env os (.Subscript a b pos) rStr (bnd w1 fun x => bnd (w2 x) fun i => idxS x i) :=
  e_ix ix_str (fun F H v u x i P E Q fh o1 o2 hw k => by
    have o2 : u = .int i := o2
    have hw : idxS x i P E := hw
    unfold idxS at hw
    cases q : atI x.cps.toList i with
    | none =>
      rw [q] at hw
      exact False.elim hw
    | some c =>
      rw [q] at hw
      exact ⟨x, i, c, o1.1, o2, o1.2.1, q, k _ hw _ F H (Grow.refl fh) (letter_ok o1 (atI_mem q))⟩) hs ha hb
/-! ### data walked -/
def seqD : PyData → W (List PyData)
  | .list ds => chk (ds.length ≤ sizeLine) (ret ds)
  | .tuple ds => chk (ds.length ≤ sizeLine) (ret ds)
  | _ => fail
def iLT (K : PySem.W.Frag) (te : TE) : TI := fun σ H R => te σ H fun x H1 => ∃ a, x = .ref a ∧ (((∃ xs, SqL K H1 a xs) ∧ R (Itl K a) H1) ∨ ((∃ xs, SqT K H1 a xs) ∧ R (Itt K a) H1))
theorem pi_LT {l : Expr} {tl : TE} (hl : PE X l tl) : PI X tg l (iLT X.K tl) := by
  refine ⟨fun pins s σ H R I h => ?_⟩
  refine thn (hl.run pins s σ H _ I h) fun v s1 ⟨x, H1, I1, r1, q1⟩ => ?_
  obtain ⟨a, e, q⟩ := q1
  subst e
  cases r1
  rcases q with ⟨⟨xs, hq⟩, q⟩ | ⟨⟨xs, hq⟩, q⟩
  · obtain ⟨its, rv, p, hz⟩ := I1.list hq
    refine wpAny_pyIter_list p.isList ?_
    refine ⟨s1.heap.objs.size, [s1.heap.objs.size], _, _, H1, rfl, I1.kept (t' := s1.toks) fun b o e => Heap.get?_push_of_some _ e, turn_list a _, ⟨_, Heap.get?_push_size _ rfl, rfl, rfl⟩, fun b hb => ?_, q⟩
    have e : b = s1.heap.objs.size := by simpa using hb
    subst e
    exact I1.fpOk (Nat.le_refl _) (I1.hok.fresh (Nat.le_refl _))
  · obtain ⟨its, rv, p, hz⟩ := I1.tuple hq
    refine wpAny_pyIter_tuple (show s1.heap.IsTuple a its.toArray from p) ?_
    refine ⟨s1.heap.objs.size, [s1.heap.objs.size], _, _, H1, rfl, I1.kept (t' := s1.toks) fun b o e => Heap.get?_push_of_some _ e, turn_tuple a _, ⟨_, Heap.get?_push_size _ rfl, rfl, rfl⟩, fun b hb => ?_, q⟩
    have e : b = s1.heap.objs.size := by simpa using hb
    subst e
    exact I1.fpOk (Nat.le_refl _) (I1.hok.fresh (Nat.le_refl _))
theorem rD_item {K : PySem.W.Frag} {F F' : Hp} {vs : List V} {ds : List PyData} {i : Nat} {v : V} {d : PyData} (e : Ex F F') (h : Paired (Dp K F) vs ds) (hc : PyData.canLayAll0 ds = true) (hp : PyData.depthAll ds ≤ 29) (hv : vs[i]? = some v) (hd : ds[i]? = some d) : (rD K).ok F' v d := by
  have hm := List.mem_of_getElem? hd
  obtain ⟨u, h1, h2⟩ := Paired.get h hd
  rw [h1] at hv
  cases hv
  exact (rD K).mono e ⟨h2, PyData.canLay0_of_mem _ _ hc hm, Nat.le_trans (depthAll_mem hm) (by omega)⟩
theorem walks_L {K : PySem.W.Frag} {F : Hp} {p : Addr} {vs : List V} {ds : List PyData} (h1 : SqL K F p vs) (t : Paired (Dp K F) vs ds) (hc : PyData.canLayAll0 ds = true) (hp : PyData.depthAll ds ≤ 29) : Walks (Itl K p) F (rD K) ds :=
  ⟨fun i F1 H1 x1 x2 hi => ⟨vs, vs[i]'(by rw [t.length]; exact hi), ex_l x2 (ex_l x1 h1), List.getElem?_eq_getElem _⟩, fun i F1 H1 u H2 x x1 x2 y hx => by
    obtain ⟨e2, y⟩ := y
    subst e2
    exact ⟨F1, Grow.refl x2, rD_item x1 t hc hp (y vs (ex_l x2 (ex_l x1 h1))) hx⟩, fun i F1 H1 x1 x2 hi => ⟨vs, ex_l x2 (ex_l x1 h1), by rw [t.length]; exact hi⟩⟩
theorem walks_T {K : PySem.W.Frag} {F : Hp} {p : Addr} {vs : List V} {ds : List PyData} (h1 : SqT K F p vs) (t : Paired (Dp K F) vs ds) (hc : PyData.canLayAll0 ds = true) (hp : PyData.depthAll ds ≤ 29) : Walks (Itt K p) F (rD K) ds :=
  ⟨fun i F1 H1 x1 x2 hi => ⟨vs, vs[i]'(by rw [t.length]; exact hi), ex_t x2 (ex_t x1 h1), List.getElem?_eq_getElem _⟩, fun i F1 H1 u H2 x x1 x2 y hx => by
    obtain ⟨e2, y⟩ := y
    subst e2
    exact ⟨F1, Grow.refl x2, rD_item x1 t hc hp (y vs (ex_t x2 (ex_t x1 h1))) hx⟩, fun i F1 H1 x1 x2 hi => ⟨vs, ex_t x2 (ex_t x1 h1), by rw [t.length]; exact hi⟩⟩
theorem s_seqD {w : W PyData} (h : EE X B env os e (rD X.K) w) : ES X B env os tg e (rD X.K) (bnd w seqD) := PI.imp (pi_LT h) fun σ H R ⟨F, P, S, hw, k⟩ => ⟨F, _, S, hw, fun d hd v F' H' S' e' ⟨ok, c, dp⟩ => by
  have hd : seqD d P B.E0 := hd
  cases ok with
  | non => exact False.elim hd
  | bl b => exact False.elim hd
  | int i => exact False.elim hd
  | str x => exact False.elim hd
  | @lst p vs ds h t =>
    rw [PyData.depth] at dp
    have t := dpAll_paired t
    exact ⟨p, rfl, .inl ⟨⟨vs, ex_l S'.fh h⟩, k ds hd.2 _ F' H' S' e' (walks_L h t (by simpa only [PyData.canLay0] using c) (by omega)) hd.1⟩⟩
  | @tup p vs ds h t =>
    rw [PyData.depth] at dp
    have t := dpAll_paired t
    exact ⟨p, rfl, .inr ⟨⟨vs, ex_t S'.fh h⟩, k ds hd.2 _ F' H' S' e' (walks_T h t (by simpa only [PyData.canLay0] using c) (by omega)) hd.1⟩⟩⟩
def iEnumLT (K : PySem.W.Frag) (ta : TA) : TI := fun σ H R => ta σ H fun vs H1 => ∃ a, vs = [.ref a] ∧ (((∃ xs, SqL K H1 a xs) ∧ R (Ite K a) H1) ∨ ((∃ xs, SqT K H1 a xs) ∧ R (IteT K a) H1))
theorem pi_enumLT {e : Expr} {ta : TA} {p pos tpos : Pos} {elts : List Expr} {kk : Nat} (hg : Gl X "enumerate") (hm : X.mg "enumerate" = none) (ha : PA X [e] ta) (hs : starEach [e] X.env = [(false, eval e X.env)] := by rfl) :
    PI X (.Tuple elts kk tpos) (.Call (.Name "enumerate" p) [e] [] pos) (iEnumLT X.K ta) := by
  refine ⟨fun pins s σ H R I h => ?_⟩
  refine Call_ (ld_blt I hg hm boot_enumerate (PyProof.Rows.callWith_type1 (thn (ha.run pos pins s σ H _ I h) fun us s1 ⟨vs, H1, I1, r1, q1⟩ => ?_) hs rfl))
  obtain ⟨a, ex, q⟩ := q1
  subst ex
  cases r1 with
  | cons r rr =>
    cases rr
    cases r
    rcases q with ⟨⟨xs, hq⟩, q⟩ | ⟨⟨xs, hq⟩, q⟩
    · obtain ⟨its, rv, p', hz⟩ := I1.list hq
      refine call_enumerate_list p'.isList fun h' he hit hsz hk => wpAny_pyIter_enum he ?_
      have I2 : Inv X pins σ H1 { s1 with heap := h' } := I1.kept (t' := s1.toks) hk
      refine ⟨s1.heap.objs.size + 1, [s1.heap.objs.size + 1, s1.heap.objs.size], _, _, H1, rfl, I2, turn_enum a (s1.heap.objs.size + 1) s1.heap.objs.size, ⟨⟨.none, he⟩, hit, Nat.succ_ne_self _⟩, fun b hb => ?_, q⟩
      have e' : b = s1.heap.objs.size + 1 ∨ b = s1.heap.objs.size := by simpa using hb
      have hle : s1.heap.objs.size ≤ b := by
        rcases e' with z | z
        · rw [z]; exact Nat.le_add_right _ _
        · rw [z]; exact Nat.le_refl _
      exact I1.fpOk hle (I1.hok.fresh hle)
    · obtain ⟨its, rv', p', hz⟩ := I1.tuple hq
      refine call_enum1 (begins_tuple a its.toArray) p' fun h' he hi hk => wpAny_pyIter_enum he ?_
      have I2 : Inv X pins σ H1 { s1 with heap := h' } := I1.kept (t' := s1.toks) hk
      refine ⟨_, [s1.heap.objs.size + 1, s1.heap.objs.size], _, _, H1, rfl, I2, turn_enumT a _ _, ⟨⟨.none, he⟩, ⟨_, hi, rfl, rfl⟩, Nat.succ_ne_self _⟩, fun b hb => ?_, q⟩
      have le : s1.heap.objs.size ≤ b := by
        rcases List.mem_cons.mp hb with z | z
        · rw [z]; exact Nat.le_succ _
        · rw [List.mem_singleton.mp z]; exact Nat.le_refl _
      exact I1.fpOk le (I1.hok.fresh le)
theorem enum_at {ds : List α} {i : Nat} {z : Int × α} (h : ((rangeI 0 (ds.length : Int)).zip ds)[i]? = some z) : z.1 = (i : Int) ∧ ds[i]? = some z.2 := by
  obtain ⟨z1, z2⟩ := z
  have hz' := List.getElem?_zip_eq_some.mp h
  refine ⟨?_, hz'.2⟩
  have h := hz'.1
  unfold rangeI at h
  rw [List.getElem?_map] at h
  obtain ⟨m, hm, em⟩ := Option.map_eq_some_iff.mp h
  rw [List.getElem?_range (by have := (List.getElem?_eq_some_iff.mp hm).1; simpa using this)] at hm
  have := Option.some.inj hm
  show z1 = _
  omega
theorem enum_len {ds : List α} : ((rangeI 0 (ds.length : Int)).zip ds).length = ds.length := by
  have lr : (rangeI 0 (ds.length : Int)).length = ds.length := by rw [rangeI_len]; omega
  rw [List.length_zip, lr]
  exact Nat.min_self _
/-- enumerate(d), d a list or a tuple -/
theorem s_enumD {tpos : Pos} {elts : List Expr} {kk : Nat} {w : W PyData} (ha : EE X B env os a (rD X.K) w) (hm : X.mg "enumerate" = none) (hg : Gl X "enumerate" := by rfl) (hs : starEach [a] X.env = [(false, eval a X.env)] := by rfl)
    (he : starEach [a] X.env = (false, eval a X.env) :: starEach [] X.env := by rfl) :
    ES X B env os (.Tuple elts kk tpos) (.Call (.Name "enumerate" p) [a] [] pos) (rT2 X.K rInt (rD X.K)) (bnd w fun d => bnd (seqD d) fun x => ret ((rangeI 0 x.length).zip x)) :=
  PI.imp (pi_enumLT hg hm (pa_cons ha pa_nil he) hs) fun σ H R ⟨F, P, S, hw, k⟩ => ⟨F, _, S, hw, fun d hd v F1 H1 S1 e1 ⟨ok, c, dp⟩ => by
  have hd : seqD d (fun x => P ((rangeI 0 x.length).zip x)) B.E0 := hd
  cases ok with
  | non => exact False.elim hd
  | bl b => exact False.elim hd
  | int i => exact False.elim hd
  | str x => exact False.elim hd
  | @lst p1 vs ds h t =>
    rw [PyData.depth] at dp
    have t := dpAll_paired t
    have hc : PyData.canLayAll0 ds = true := by simpa only [PyData.canLay0] using c
    refine ⟨p1, rfl, .inl ⟨⟨vs, ex_l S1.fh h⟩, k _ hd.2 _ F1 H1 S1 e1 ⟨fun i F3 H3 x1 x2 hi => ?_, fun i F3 H3 u H4 z x1 x2 yy hz => ?_, fun i F3 H3 x1 x2 hi => ?_⟩ (by rw [enum_len]; exact hd.1)⟩⟩
    · rw [enum_len] at hi
      exact ⟨vs, vs[i]'(by rw [t.length]; exact hi), ex_l x2 (ex_l x1 h), List.getElem?_eq_getElem _⟩
    · obtain ⟨T, v2, ev, hT, eH, y1⟩ := yy
      subst ev eH
      obtain ⟨q1, q2⟩ := enum_at hz
      have g : Grow F3 H3 (upd F3 T (.tup [.int (i : Nat), v2])) (upd H3 T (.tup [.int (i : Nat), v2])) := Grow.alloc x2 hT
      exact ⟨_, g, T, _, v2, rfl, SqT.of upd_same, (by show V.int _ = V.int _; rw [q1]), rD_item (x1.trans g.f) t hc (by omega) (y1 vs (ex_l x2 (ex_l x1 h))) q2⟩
    · rw [enum_len] at hi
      exact ⟨vs, ex_l x2 (ex_l x1 h), by rw [t.length]; exact hi⟩
  | @tup p1 vs ds h t =>
    rw [PyData.depth] at dp
    have t := dpAll_paired t
    have hc : PyData.canLayAll0 ds = true := by simpa only [PyData.canLay0] using c
    refine ⟨p1, rfl, .inr ⟨⟨vs, ex_t S1.fh h⟩, k _ hd.2 _ F1 H1 S1 e1 ⟨fun i F3 H3 x1 x2 hi => ?_, fun i F3 H3 u H4 z x1 x2 yy hz => ?_, fun i F3 H3 x1 x2 hi => ?_⟩ (by rw [enum_len]; exact hd.1)⟩⟩
    · rw [enum_len] at hi
      exact ⟨vs, vs[i]'(by rw [t.length]; exact hi), ex_t x2 (ex_t x1 h), List.getElem?_eq_getElem _⟩
    · obtain ⟨T, v2, ev, hT, eH, y1⟩ := yy
      subst ev eH
      obtain ⟨q1, q2⟩ := enum_at hz
      have g : Grow F3 H3 (upd F3 T (.tup [.int (i : Nat), v2])) (upd H3 T (.tup [.int (i : Nat), v2])) := Grow.alloc x2 hT
      exact ⟨_, g, T, _, v2, rfl, SqT.of upd_same, (by show V.int _ = V.int _; rw [q1]), rD_item (x1.trans g.f) t hc (by omega) (y1 vs (ex_t x2 (ex_t x1 h))) q2⟩
    · rw [enum_len] at hi
      exact ⟨vs, ex_t x2 (ex_t x1 h), by rw [t.length]; exact hi⟩⟩
end
/-! ### bodies of defs with defaults -/
section
variable {P : Program} {w : World} {K : PySem.W.Frag} {mg : Str → Option Value} {base : Heap} {tb : ETab} {k : Nat} {f C : Addr} {fd : FuncData} {ps N : List Str} {ι ρ : Type} {args : ι → Env} {os : ι → Os} {wf : ι → W ρ} {ro : Rp ρ} {fl : ρ → List (Str × Slot)}
theorem FunE.ok {CX : CXT} {x qual : Str} {st : Stmt} {sp : Sp} (F : FunE K x qual st f fd) (S : FnScope N ps (defScope st)) (len : ∀ vs H Q E, sp vs H Q E → vs.length = ps.length)
    (hbody : ∀ (cdv : Value) (A : Around) (outer : List PySem.Env) (s : Shared) (H : Hp) (vs : List V) (Q : VK) (E : XK), Room k (A.deeper (envOfC qual (defScope st) s.heap.objs.size f cdv)) → sp vs H Q E →
      ∃ t, PSs (cxOf CX P w K mg base N qual (defScope st) f cdv A outer s H E) (defBody st) t ∧ t { nx := fun _ H' => Q .non H', rt := Q } (L2.start N vs) H) : FnOk P w K mg base CX (k + 1) f fd ps sp := by
  obtain ⟨oc, od, dV, kV, doc, pm, an, cdv, ct, osl, rfl, lk, hcd⟩ := F.ex
  exact fn_of lk hcd S len fun A outer s H vs Q E hr hsp => hbody cdv A outer s H vs Q E hr hsp
theorem initXE {x qual : Str} {st : Stmt} (F : FunE K x qual st f fd) (S : FnScope N ps (defScope st)) (hl : ∀ i, (args i).length + 1 = ps.length)
    (body : ∀ (cdv : Value) (A : Around) (outer : List PySem.Env) (s : Shared) (H : Hp) (E : XK) (B : Bs) (a : Addr) (i : ι), Room k (A.deeper (envOfC qual (defScope st) s.heap.objs.size f cdv)) → Takes (cxOf (L2.CX P w) P w K mg base N qual (defScope st) f cdv A outer s H E) (wB K tb B) →
      BG (cxOf (L2.CX P w) P w K mg base N qual (defScope st) f cdv A outer s H E) B (entry (sv (rAdr a) () :: args i) (N.length - ps.length)) [(a, oObj C [])] (defBody st) (pIn B C a fl) (wf i)) : FnOk P w K mg base (L2.CX P w) (k + 1) f fd ps (spIX K tb C args wf fl) :=
  F.ok S (fun vs H Q E ⟨i, F, P, PE, x, dx, us, ev, _, _, _, he, _⟩ => by
    have := he.len
    rw [List.length_map] at this
    rw [ev, List.length_cons, ← this, hl i]) fun cdv A outer s H vs Q E hr hsp => bodyIX hl hsp fun B a i tk => body cdv A outer s H E B a i hr tk
theorem okXE {x qual : Str} {st : Stmt} (F : FunE K x qual st f fd) (S : FnScope N ps (defScope st)) (hl : ∀ i, (args i).length = ps.length)
    (body : ∀ (cdv : Value) (A : Around) (outer : List PySem.Env) (s : Shared) (H : Hp) (E : XK) (B : Bs) (i : ι), Room k (A.deeper (envOfC qual (defScope st) s.heap.objs.size f cdv)) →
      Takes (cxOf (L2.CX P w) P w K mg base N qual (defScope st) f cdv A outer s H E) (wB K tb B) → PassesOwn (model P w) (A.deeper (envOfC qual (defScope st) s.heap.objs.size f cdv)) (envOfC qual (defScope st) s.heap.objs.size f cdv) (cxOf (L2.CX P w) P w K mg base N qual (defScope st) f cdv A outer s H E).xe →
      BG (cxOf (L2.CX P w) P w K mg base N qual (defScope st) f cdv A outer s H E) B (entry (args i) (N.length - ps.length)) (os i) (defBody st) (pFn B (os i) ro) (wf i)) : FnOk P w K mg base (L2.CX P w) (k + 1) f fd ps (spX K tb args os wf ro) := by
  refine F.ok S (spX_len hl) fun cdv A outer s H vs Q E hr hsp => ?_
  have hvl := spX_len hl vs H Q E hsp
  obtain ⟨i, F0, P0, PE, fh, he, ho, nd, hw, hk, hx⟩ := hsp
  refine ⟨_, body cdv A outer s H E { bs0 F0 H (os i) with E0 := PE } i hr ((takes_of rfl rfl rfl rfl).imp fun cls d σ H' ⟨e, F', h1, h2, h3⟩ => hx e h1 cls d F' H' ⟨h2.fh, h2.bf, h2.mrk, h2.bb, h2.ios, h2.keep⟩ h3) (passes_of rfl),
    F0, P0, ⟨?_, ?_, fun p hp => ?_, nd⟩, hw, fun y hy => ⟨fun v F' H' fn ow ok => hk y hy v F' H' ⟨fn.fh, fn.bf, fn.mrk, fn.bb, fn.ios, fn.keep⟩ ow ok, fun σ F' H' fn ow ok => hk y hy .non F' H' ⟨fn.fh, fn.bf, fn.mrk, fn.bb, fn.ios, fn.keep⟩ ow ok⟩⟩
  · have z := bs0_start fh ho
    exact ⟨z.fh, z.bf, z.mrk, z.bb, z.ios, z.keep⟩
  · rw [← hvl]
    exact entry_ok he
  · obtain ⟨h1, o, h2, h3⟩ := ho p hp
    exact ⟨h1, ⟨o, h2, h3⟩, .inr (List.mem_map_of_mem hp)⟩
end
/-! ### one lambda handed over -/
section
variable {X : Cx} {B : Bs} {env : Env} {os : Os} {ρ : Type} {r : Rp ρ} {K : PySem.W.Frag} {tb : ETab} {k : Nat} {P : Program} {w : World} {mg : Str → Option Value} {base : Heap}
theorem clo1_ok {s : Shared} {F : Hp} {v : V} {u : Unit} {D : LamD} {df : Bool} {wf : W ρ} (hv : (rLam D df).ok F v u) (hz : ∀ v, (rLam D df).ok F v () → (rClo P w K mg base tb k r).ok (addC (cellZ X s.heap) F) v wf) : EnvOk (addC (cellZ X s.heap) F) [sv (rClo P w K mg base tb k r) wf] [some v] := .cons ⟨v, rfl, hz v hv⟩ .nil
end
end Mi

namespace Mi
open PySem L2 Evl

/-! ### small things -/
def anyS (x : Str) : W Str := bnd (noX (drawW (x.length : Int))) fun k => idxS x k
section
variable {X : Cx} {B : Bs} {env : Env} {os : Os} {pos p : Pos} {κ α β : Type} [DecidableEq κ] {rk : Rp κ} {kf : κ → Key} {r : Rp α} {o a b c e : Expr} {rest : List Stmt} {post : Post β}
theorem b_dputB (i j : Nat) {x : Str} {p1 p2 : Pos} {q : Addr} {xs : List (κ × α)} {w : W α} {w1 : α → W κ} {w2 : List (κ × α) → W β} (K : KeyR rk kf) (hu : X.A.units + 100 < cLine) (hi : env[i]? = some (sv (rAdr q) ())) (hj : os[j]? = some (q, oDct rk kf r xs)) (he : EE X B env os e r w) (hk : ∀ y, EE X B env os b rk (w1 y))
    (hr : ∀ ys, BG X B env (os.set j (q, oDct rk kf r ys)) rest post (w2 ys)) (hN : X.N[i]? = some x := by rfl)
    (hv : Vis X.env.scope x := by first | exact Or.inl rfl | exact Or.inr (Or.inl rfl) | exact Or.inr (Or.inr rfl)) (hd : (x == ("__debug__" : Str)) = false := by decide) (hcd : (x == ("__classdict__" : Str)) = false := by decide)
    (hs : swapsWith e (some (.Subscript (.Name x p1) b p2)) pos.line X.env = pure false := by rfl) :
    BG X B env os (.Assign [.Subscript (.Name x p1) b p2] e pos :: rest) post (bnd w fun y => bnd (w1 y) fun k => chk (xs.length < sizeLine) (bnd (ret (dput xs k y)) w2)) :=
  b_dput i j K hu hi hj he hk hr hN hv hd hcd hs
end
end Mi
namespace Mi
open PySem L2 Evl
section
variable {X : Cx} {B : Bs} {env : Env} {os : Os} {tb : ETab} {pos p : Pos} {κ α β ι ρ : Type} [DecidableEq κ] {rk : Rp κ} {kf : κ → Key} {r : Rp α} {o a b c e : Expr} {args : ι → Env} {osf : ι → Os} {wf : ι → W ρ} {ro : Rp ρ} {C : Addr} {fl : ρ → List (Str × Slot)}
/-! a callee that may raise, where nothing may be raised -/
theorem passN : Passes (L2.CX X.prog X.w) X E0 := fun pins σ H s e s' I c => by
  obtain ⟨a, B, H', cls, d, rfl, fl, hokB, ub, na, os, ag, hE0⟩ := c
  exact False.elim hE0
theorem spf_XN (ho : ∀ i, OsLe os (osf i)) (hnd : ∀ i, ((osf i).map (·.1)).Nodup) : SpF (spX X.K tb args osf wf ro) E0 B env os args (fun i => noX (wf i)) (resV B env os ro) :=
  ⟨fun {F H σ vs i P Q} S ok hw k => ⟨i, F, P, fun _ => False, S.fh, ok, fun p hp => by
    obtain ⟨h1, h2, _⟩ := S.ow p (ho i p hp)
    exact ⟨h1, h2⟩, hnd i, hw, fun y hy v F2 H2 fn ow okv => k y hy v F2 H2 (S.back (ho i) fn ow) fn.bf okv, fun e he => False.elim he⟩⟩
theorem spf_XN0 : SpF (spX X.K tb args (fun _ => []) wf ro) E0 B env os args (fun i => noX (wf i)) (resV B env os ro) := spf_XN (fun _ => OsLe.none) fun _ => List.nodup_nil
theorem spm_XN : SpM (spIX X.K tb C args wf fl) E0 B env os C args (fun i => noX (wf i)) fl := ⟨fun {F H σ vs i P Q} S ok hw k x dx hx hdx hne => by
  have g : Grow F H (upd F dx (.own x)) (upd H dx (.own x)) := Grow.alloc S.fh hdx
  have S1 := S.grow g
  have hx1 : upd H dx (.own x) x = none := by rw [upd_ne (Ne.symm hne)]; exact hx
  have S2 := S1.newOwn (o := .ins C dx []) (ow := oObj C []) hx1 ⟨dx, [], rfl, .nil⟩
  refine ⟨i, upd F dx (.own x), P, fun _ => False, x, dx, vs, rfl, S2.fh, ?_, upd_same, ok.mono g.f, hw, fun r hr F' H' fn ow => ⟨rfl, ?_⟩, fun e he => False.elim he⟩
  · exact (S2.ow (x, oObj C []) List.mem_cons_self).1
  · obtain ⟨F2, o, e2, h1, ⟨dx', vs', h2, h3⟩, S4⟩ := (S2.backI fn ow).freeze
    subst h2
    exact k r hr (.ref x) F2 H' S4 ((g.f.trans fn.bf).trans e2) ⟨x, dx', vs', rfl, h1, h3⟩⟩
/-! tests -/
theorem t_inS {w1 : W Str} {w2 : Str → W Str} (ha : EE X B env os a rStr w1) (hb : ∀ x, EE X B env os b rStr (w2 x)) (hm : behindInMarks .In b = false := by rfl) : ET X B env os (.Compare a [.In] [b] pos) (bnd w1 fun x => bnd (w2 x) fun y => ret (hasS x y)) := t_cmp op_in_str sem_inS hm ha hb
theorem t_ninS {w1 : W Str} {w2 : Str → W Str} (ha : EE X B env os a rStr w1) (hb : ∀ x, EE X B env os b rStr (w2 x)) (hm : behindInMarks .NotIn b = false := by rfl) : ET X B env os (.Compare a [.NotIn] [b] pos) (bnd w1 fun x => bnd (w2 x) fun y => ret (!hasS x y)) := t_cmp op_notin_str sem_ninS hm ha hb
theorem t_inSL {w1 : W Str} {w2 : Str → W (List Str)} (ha : EE X B env os a rStr w1) (hb : ∀ x, EE X B env os b (rLst rStr) (w2 x)) (hm : behindInMarks .In b = false := by rfl) : ET X B env os (.Compare a [.In] [b] pos) (bnd w1 fun x => bnd (w2 x) fun y => ret (decide (x ∈ y))) := t_cmp op_in_seq sem_inSL hm ha hb
theorem t_of_pc {op : CmpOp} {w : W Bool} {t : TE} (h : PC X op a b t) (i : ∀ σ H Q, tOf B env os rBool w σ H Q → t σ H Q) (hm : behindInMarks op b = false) : ET X B env os (.Compare a [op] [b] pos) w :=
  PT.imp (pt_cmp h hm) fun σ H Q ⟨F, P, S, hw, k⟩ => i σ H _ ⟨F, P, S, hw, fun z hz v F' H' S' e' ok => ⟨z, ok, k z hz F' H' S' e'⟩⟩
theorem t_din {w1 : W κ} {w2 : κ → W (List (κ × α))} (K : KeyR rk kf) (hu : X.A.units + 100 < cLine) (ha : EE X B env os a rk w1) (hb : ∀ x, EE X B env os b (rDct rk kf r) (w2 x)) (hm : behindInMarks .In b = false := by rfl) : ET X B env os (.Compare a [.In] [b] pos) (bnd w1 fun k => bnd (w2 k) fun xs => ret (dget xs k).isSome) :=
  t_of_pc (pc_din (by omega) ha (PE.ex hb)) (fun σ H Q ⟨F, P, S, hw, kk⟩ => ⟨F, _, S, hw, fun k hk v F1 H1 S1 e1 ok1 => ⟨k, F1, _, S1, hk, fun xs hx u F2 H2 S2 e2 ⟨p1, ob, kvs, q1, h1, z1, ok2⟩ => by
    have eu := K.of ok1
    subst q1 eu
    refine ⟨p1, valV kvs (kf k), rfl, .inl ⟨kvs, kf k, .inr ⟨_, S2.fh _ _ h1⟩, rfl, rfl⟩, ?_⟩
    have : (valV kvs (kf k)).isSome = (dget xs k).isSome := by
      rcases dget_ok K ok2 k with ⟨g1, g2⟩ | ⟨v, x, g1, g2, g3⟩ <;> rw [g1, g2] <;> rfl
    rw [this]
    exact kk _ hx (.bl _) F2 H2 S2 (e1.trans e2) rfl⟩⟩) hm
theorem t_dnin {w1 : W κ} {w2 : κ → W (List (κ × α))} (K : KeyR rk kf) (hu : X.A.units + 100 < cLine) (ha : EE X B env os a rk w1) (hb : ∀ x, EE X B env os b (rDct rk kf r) (w2 x)) (hm : behindInMarks .NotIn b = false := by rfl) : ET X B env os (.Compare a [.NotIn] [b] pos) (bnd w1 fun k => bnd (w2 k) fun xs => ret (!(dget xs k).isSome)) :=
  t_of_pc (pc_dnotin (by omega) ha (PE.ex hb)) (fun σ H Q ⟨F, P, S, hw, kk⟩ => ⟨F, _, S, hw, fun k hk v F1 H1 S1 e1 ok1 => ⟨k, F1, _, S1, hk, fun xs hx u F2 H2 S2 e2 ⟨p1, ob, kvs, q1, h1, z1, ok2⟩ => by
    have eu := K.of ok1
    subst q1 eu
    refine ⟨p1, valV kvs (kf k), rfl, .inl ⟨kvs, kf k, .inr ⟨_, S2.fh _ _ h1⟩, rfl, rfl⟩, ?_⟩
    have : (valV kvs (kf k)).isSome = (dget xs k).isSome := by
      rcases dget_ok K ok2 k with ⟨g1, g2⟩ | ⟨v, x, g1, g2, g3⟩ <;> rw [g1, g2] <;> rfl
    rw [this]
    exact kk _ hx (.bl _) F2 H2 S2 (e1.trans e2) rfl⟩⟩) hm
end
end Mi

namespace Mi
open PySem L2 Evl NdefX
open PyProof.Rows (envOfC)
open PySem.Builtin.ObjectAttr PySem.Builtin

/-! ### own exceptions over any builtin one -/
/-- a builtin exception at the foot: its name, those of its __new__ and __init__, its mro -/
structure Foot (nameB newB initB : String) (tl : List Value) : Prop where
  base : PySem.ExcBaseFacts nameB newB initB tl
  lets : ∀ me : Value, refuseLoop me "__setattr__" tl = pure ()
  objT : tl.contains (Value.type "object") = true
  kxs : PySem.W.KxsFacts nameB initB
  nmW : (nameB == "type") = false
theorem foot_value : Foot "ValueError" "ValueError.__new__" "ValueError.__init__" PySem.HandSPX.veTail := ⟨F.excBase_ValueError, fun me => F.store_ValueError.passes me, by decide +kernel, PySem.W.kxs_ValueError, by decide⟩
abbrev leTail : List Value := [Value.type "LookupError", Value.type "Exception", Value.type "BaseException", Value.type "object"]
abbrev ieTail : List Value := [Value.type "IndexError", Value.type "LookupError", Value.type "Exception", Value.type "BaseException", Value.type "object"]
theorem foot_lookup : Foot "LookupError" "LookupError.__new__" "LookupError.__init__" leTail := ⟨F.excBase_LookupError, fun me => F.store_LookupError.passes me, by decide +kernel, PySem.W.kxs_LookupError, by decide⟩
theorem foot_index : Foot "IndexError" "IndexError.__new__" "IndexError.__init__" ieTail := ⟨F.excBase_IndexError, fun me => F.store_IndexError.passes me, by decide +kernel, PySem.W.kxs_IndexError, by decide⟩
/-- a class's mro behind itself: own classes, then the foot's -/
def Refs (tl l : List Value) : Prop := ∃ cs : List Addr, l = cs.map Value.ref ++ tl
section
variable {tl l : List Value}
theorem Refs.has (h : Refs tl l) (T : String) : l.contains (Value.type T) = tl.contains (Value.type T) := by
  obtain ⟨cs, rfl⟩ := h
  induction cs with
  | nil => rfl
  | cons c cs ih =>
    rw [List.map_cons, List.cons_append, List.contains_cons, ih]
    rfl
theorem Refs.lets (h : Refs tl l) {me : Value} (k : refuseLoop me "__setattr__" tl = pure ()) : refuseLoop me "__setattr__" l = pure () := by
  obtain ⟨cs, rfl⟩ := h
  induction cs with
  | nil => exact k
  | cons c cs ih =>
    rw [List.map_cons, List.cons_append]
    rw [PySem.refuseLoop_ref]
    exact ih
theorem Refs.cons (h : Refs tl l) (c : Addr) : Refs tl (Value.ref c :: l) := by
  obtain ⟨cs, rfl⟩ := h
  exact ⟨c :: cs, rfl⟩
theorem Refs.some (h : Refs tl l) (k : tl.contains (Value.type "object") = true) : l.isEmpty = false := by
  obtain ⟨cs, rfl⟩ := h
  cases cs with
  | cons c cs => rfl
  | nil => cases tl with
    | nil => cases k
    | cons a b => rfl
end
section
variable {prog : Program} {wd : World} {Ar : Around} {Ans : Result → Shared → Prop} {hh : Heap} {gs : Array GenState} {dr : Drawn} {tk0 : Nat} {oss : OsState} {K : PySem.W.Frag} {fld : Str} {tk : Tok} {val : Value} {a C dx : Addr} {fvs : Array Value} {cda : ClassData} {tl : List Value}
theorem exg_first (inK : K.In hh) (at_ : hh.get? a = Option.some { cls := Value.ref C, data := Data.fields fvs }) (cin : PySem.W.clsIn K C = Option.some cda) (rf : Refs tl cda.mro) (ob : tl.contains (Value.type "object") = true)
    (lets : ∀ me : Value, refuseLoop me "__setattr__" tl = pure ()) (hasD : cda.hasDict = true) (free : PySem.W.findIn K (Value.ref C) fld = Option.some none)
    (fin : ∀ h2 tk2 d2, (∀ b o, b ≠ a → hh.get? b = Option.some o → h2.get? b = Option.some o) → hh.objs.size ≤ d2 → d2 ≠ a → h2.get? a = Option.some { cls := Value.ref C, dict := Option.some d2, data := Data.fields fvs } →
      h2.Ns1 d2 (fun y => if y = fld then Option.some val else none) → Ans (.ok (.ret .none)) ⟨h2, gs, dr, tk2, oss⟩) :
    codeAny (model prog wd) Ar (.call (.builtin "object.__setattr__") ⟨[Value.ref a, Value.str fld tk, val], []⟩) Ans ⟨hh, gs, dr, tk0, oss⟩ := by
  have inst : PySem.W.InstAt hh a { cls := Value.ref C, data := Data.fields fvs } C none := ⟨at_, rfl, rfl, trivial⟩
  have fresh : a ≠ hh.objs.size := Nat.ne_of_lt (Heap.lt_size at_)
  have cont : cda.mro.contains (Value.type "object") = true := (rf.has "object").trans ob
  have inM : PySem.W.mroIn K C (Value.type "object") = Option.some true := by
    unfold PySem.W.mroIn
    rw [cin, Option.bind_some]
    rw [if_neg (by rw [rf.some ob]; decide), cont]
  have isO : PySem.W.Looks (model prog wd) hh (isInstance (Value.ref a) (Value.type "object")) true := inst.type.andThen (PySem.W.looks_mroIn inK inM)
  have so := F.store_object
  have lm : PySem.W.Looks (model prog wd) hh (mroOf (Value.ref C)) cda.mro := (PySem.W.looks_clsIn inK cin).andThen .now
  have lt : PySem.W.Looks (model prog wd) hh (storeTaker? none) none := .now
  have lc : PySem.W.Looks (model prog wd) hh (classData C) cda := PySem.W.looks_clsIn inK cin
  have lf := PySem.W.looks_findIn (M := model prog wd) inK free
  refine codeAny_call_builtin so.slot.plain so.entry ?_
  refine @PySem.W.check_slot (model prog wd) _ _ ⟨hh, gs, dr, tk0, oss⟩ "object.__setattr__" "object" "__setattr__" (Value.ref a) [Value.str fld tk, val] [] _ so.kind so.split isO (so.args (Value.ref a) (Value.str fld tk) val) ?_
  rw [PySem.W.osa_eq, PySem.refuse_eq]
  refine wpAny_bind (wpAny_bind (inst.type.at ?_))
  refine wpAny_bind (lm.at ?_)
  rw [rf.lets (lets _)]
  refine wpAny_pure ?_
  refine wpAny_bind (inst.type.at (wpAny_bind (lf.at ?_)))
  refine wpAny_bind (lt.at ?_)
  show wpAny _ _ (storeInOwnDict (Value.ref a) (Value.ref C) (Value.str fld tk) fld val false) _ _ _
  obtain ⟨c1, c2, c3, c4, c5, c6, c7, c8, c9, c10, c11⟩ := cda
  have hasD : c6 = true := hasD
  subst hasD
  unfold storeInOwnDict ownDictForStores
  repeat (first | with_reducible refine PySem.HandSPX.store_in_new ?_ ?_ | with_reducible refine wpAny_loadPart_at at_ ?_ | with_reducible refine lc.at ?_ | wp_step)
  · have e0 := Heap.get?_push_at (h := hh) (o := ({ cls := .type "dict", data := .dict #[] } : Obj)) rfl rfl
    exact ⟨_, #[], _, (Heap.get?_update_ne _ _ _ _ (Ne.symm fresh)).trans e0, rfl, fun e he => absurd he (by simp), fun _ => rfl⟩
  · intro h2 tk2 ns sb
    have at2 : (hh.push { cls := .type "dict", data := .dict #[] }).get? a = Option.some { cls := Value.ref C, data := Data.fields fvs } := Heap.get?_push_of_some _ at_
    refine fin h2 tk2 hh.objs.size (fun b o nb eb => ?_) (Nat.le_refl _) (Ne.symm fresh) ?_ ns
    · have lb : b ≠ hh.objs.size := Nat.ne_of_lt (Heap.lt_size eb)
      rw [sb.2 b lb, Heap.get?_update_ne _ _ _ _ nb]
      exact Heap.get?_push_of_some _ eb
    · rw [sb.2 a fresh]
      exact Heap.get?_update_self _ at2 rfl
theorem exg_more {m0 : Str → Option Value} {nl : List Str} (inK : K.In hh) (at_ : hh.get? a = Option.some { cls := Value.ref C, dict := Option.some dx, data := Data.fields fvs }) (ns0 : hh.Ns1 dx m0) (wi : Within m0 nl) (few : nl.length ≤ 1000)
    (cin : PySem.W.clsIn K C = Option.some cda) (rf : Refs tl cda.mro) (ob : tl.contains (Value.type "object") = true) (lets : ∀ me : Value, refuseLoop me "__setattr__" tl = pure ()) (hasD : cda.hasDict = true) (free : PySem.W.findIn K (Value.ref C) fld = Option.some none)
    (fin : ∀ h2 tk2, (∀ b o, b ≠ dx → hh.get? b = Option.some o → h2.get? b = Option.some o) → h2.Ns1 dx (fun y => if y = fld then Option.some val else m0 y) → Ans (.ok (.ret .none)) ⟨h2, gs, dr, tk2, oss⟩) :
    codeAny (model prog wd) Ar (.call (.builtin "object.__setattr__") ⟨[Value.ref a, Value.str fld tk, val], []⟩) Ans ⟨hh, gs, dr, tk0, oss⟩ := by
  obtain ⟨od, _, _, edx, _, _⟩ := ns0.count wi
  have inst : PySem.W.InstAt hh a { cls := Value.ref C, dict := Option.some dx, data := Data.fields fvs } C (Option.some od) := ⟨at_, rfl, rfl, edx⟩
  have cont : cda.mro.contains (Value.type "object") = true := (rf.has "object").trans ob
  have inM : PySem.W.mroIn K C (Value.type "object") = Option.some true := by
    unfold PySem.W.mroIn
    rw [cin, Option.bind_some]
    rw [if_neg (by rw [rf.some ob]; decide), cont]
  have isO : PySem.W.Looks (model prog wd) hh (isInstance (Value.ref a) (Value.type "object")) true := inst.type.andThen (PySem.W.looks_mroIn inK inM)
  have so := F.store_object
  have lm : PySem.W.Looks (model prog wd) hh (mroOf (Value.ref C)) cda.mro := (PySem.W.looks_clsIn inK cin).andThen .now
  have lt : PySem.W.Looks (model prog wd) hh (storeTaker? none) none := .now
  have lc : PySem.W.Looks (model prog wd) hh (classData C) cda := PySem.W.looks_clsIn inK cin
  have lf := PySem.W.looks_findIn (M := model prog wd) inK free
  refine codeAny_call_builtin so.slot.plain so.entry ?_
  refine @PySem.W.check_slot (model prog wd) _ _ ⟨hh, gs, dr, tk0, oss⟩ "object.__setattr__" "object" "__setattr__" (Value.ref a) [Value.str fld tk, val] [] _ so.kind so.split isO (so.args (Value.ref a) (Value.str fld tk) val) ?_
  rw [PySem.W.osa_eq, PySem.refuse_eq]
  refine wpAny_bind (wpAny_bind (inst.type.at ?_))
  refine wpAny_bind (lm.at ?_)
  rw [rf.lets (lets _)]
  refine wpAny_pure ?_
  refine wpAny_bind (inst.type.at (wpAny_bind (lf.at ?_)))
  refine wpAny_bind (lt.at ?_)
  show wpAny _ _ (storeInOwnDict (Value.ref a) (Value.ref C) (Value.str fld tk) fld val false) _ _ _
  obtain ⟨c1, c2, c3, c4, c5, c6, c7, c8, c9, c10, c11⟩ := cda
  have hasD : c6 = true := hasD
  subst hasD
  unfold storeInOwnDict ownDictForStores
  repeat (first | with_reducible refine PySem.OEX.store_in_old ns0 wi few ?_ | with_reducible refine wpAny_loadPart_at at_ ?_ | with_reducible refine lc.at ?_ | wp_step)
  intro h2 tk2 ns sb
  refine fin h2 tk2 (fun b o nb eb => ?_) ns
  rw [sb.2 b nb]
  exact eb
end
end Mi

namespace Mi
open PySem L2 Evl NdefX
open PyProof.Rows (envOfC)

/-! ### own exceptions over any foot: fields, making -/
/-- what the written part says of such a class -/
structure OexG (K : PySem.W.Frag) (C : Addr) (newB : String) (tl : List Value) : Prop where
  obj : ∃ nm q N bs bm sn sub ab col dd k0 k1 k2 k3 k5, K.lookup C = some (excClassObj nm q C N bs bm true sn sub ab col dd k0 k1 k2 k3 k5 newB) ∧ Refs tl bm
  sets : PySem.W.findIn K (.ref C) "__setattr__" = some (some (.builtin "object.__setattr__"))
  isE : PySem.W.subIn K (.ref C) (.type "BaseException") = some true
  ty : PySem.W.typeIn K (.ref C) = some (.type "type")
  kp : PySem.W.keepIn K (.ref C) = true
section
variable {X : Cx} {pins : List (Addr × Obj)} {σ : L2.St} {H : Hp} {s : Shared} {a C dx : Addr} {fld : Str} {y : V} {u : Value} {fs : List (Str × V)} {Q : Unit → Shared → Prop} {E : Value → Shared → Prop} {A : Around} {nameB newB initB : String} {tl : List Value}
theorem OexG.data (T : OexG X.K C newB tl) : ∃ cda : ClassData, PySem.W.clsIn X.K C = some cda ∧ Refs tl cda.mro ∧ cda.hasDict = true := by
  obtain ⟨nm, q, N, bs, bm, sn, sub, ab, col, dd, k0, k1, k2, k3, k5, look, rf⟩ := T.obj
  refine ⟨{ name := nm, bases := bs, mro := .ref C :: bm, ns := N, qualname := q, hasDict := true, slotNames := sn, subclasses := sub, abstract := ab, collection := col, hasDel := false }, ?_, rf.cons C, rfl⟩
  unfold PySem.W.clsIn
  rw [look] <;> rfl
/-- the first field -/
theorem fld_first (ft : Foot nameB newB initB tl) (T : OexG X.K C newB tl) (I : Inv X pins σ H s) (ea : H a = some (exo a C none)) (free : PySem.W.findIn X.K (.ref C) fld = some none) (ry : RelV y u)
    (fin : ∀ d2 s2, H d2 = none → d2 ≠ a → Inv X pins σ (upd (upd H d2 (exd d2 [(fld, y)])) a (exo a C (some d2))) s2 → Q () s2) : wpAny (model X.prog X.w) A (setAttr (.ref a) fld u) Q E s := by
  obtain ⟨cda, cin, rf, hasD⟩ := T.data
  obtain ⟨tp, there⟩ := exo_at I.hok ea
  obtain ⟨hh, gs, dr, tk0, oss⟩ := s
  refine PySem.W.set_plain (od := none) I.kIn ⟨there, rfl, rfl, trivial⟩ T.sets ?_
  refine exg_first I.kIn there cin rf ft.objT ft.lets hasD free fun h2 tk2 d2 kept ge ne at2 ns2 => ?_
  have nd2 : H d2 = none := I.hok.fresh ge
  have offD : ∀ {b : Addr} {o : Obj}, hh.get? b = some o → b ≠ d2 := fun {b o} z => Nat.ne_of_lt (Nat.lt_of_lt_of_le (Heap.lt_size z) ge)
  have offA : ∀ {b : Addr}, H b = none → b ≠ a := fun {b} z e => by
    rw [e, ea] at z
    cases z
  have same : ∀ {b : Addr}, b ≠ a → b ≠ d2 → upd (upd H d2 (exd d2 [(fld, y)])) a (exo a C (some d2)) b = H b := fun {b} h1 h2 => by rw [upd_ne h1, upd_ne h2]
  have un : Un X.fs [] H (upd (upd H d2 (exd d2 [(fld, y)])) a (exo a C (some d2))) hh h2 := by
    refine ⟨fun b o z n _ _ => kept b o (offA n) z, fun b o z n _ _ => ⟨o.slots, kept b o (offA n) z⟩, fun b o z n _ => (same (offA n) (offD z)).trans n, fun b o z _ => ?_, fun b xs z => ?_, fun b o v z => ?_, fun b ps z => ⟨#[], ?_⟩⟩
    · by_cases e : b = a
      · exact ⟨_, e ▸ at2⟩
      · exact ⟨o, kept b o e z⟩
    · exact (same (at_ne ea z exo_tup) (ne_of_none z nd2)).trans z
    · exact (same (at_ne ea z exo_frz) (ne_of_none z nd2)).trans z
    · rw [same (at_ne ea z exo_tbl) (ne_of_none z nd2), z, Array.append_empty]
  refine fin d2 _ nd2 ne (I.un (t' := tk2) un fun b o z => ?_)
  by_cases e1 : b = a
  · subst e1
    rw [upd_same] at z
    cases z
    exact exo_ok at2
  rw [upd_ne e1] at z
  by_cases e2 : b = d2
  · subst e2
    rw [upd_same] at z
    cases z
    exact exd_ok ns2 (relO_put (fs := []) ry fun _ => trivial)
  rw [upd_ne e2] at z
  refine (I.hok b o z).stay (fun c v hc w => kept c v (fun e => ?_) w) (fun c hc => (same (at_ne ea hc exo_own) (ne_of_none hc nd2)).trans hc) fun c xs hc => (same (at_ne ea hc exo_tup) (ne_of_none hc nd2)).trans hc
  rcases hc with hc | hc
  · exact e1 (hc ▸ e)
  · exact at_ne ea hc exo_own e
/-- a further field -/
theorem fld_more (ft : Foot nameB newB initB tl) (T : OexG X.K C newB tl) (I : Inv X pins σ H s) (ea : H a = some (exo a C (some dx))) (ed : H dx = some (exd dx fs)) (few : fs.length ≤ 900) (free : PySem.W.findIn X.K (.ref C) fld = some none) (ry : RelV y u)
    (fin : ∀ s2, Inv X pins σ (upd H dx (exd dx ((fld, y) :: fs))) s2 → Q () s2) : wpAny (model X.prog X.w) A (setAttr (.ref a) fld u) Q E s := by
  obtain ⟨cda, cin, rf, hasD⟩ := T.data
  obtain ⟨tp, there⟩ := exo_at I.hok ea
  obtain ⟨mA, ns1, rel⟩ := exd_at I.hok ed
  obtain ⟨hh, gs, dr, tk0, oss⟩ := s
  have wi := within_of rel
  obtain ⟨od, _, _, eod, _, _⟩ := ns1.count wi
  refine PySem.W.set_plain (od := some od) I.kIn ⟨there, rfl, rfl, eod⟩ T.sets ?_
  refine exg_more I.kIn there ns1 wi (by rw [List.length_map]; omega) cin rf ft.objT ft.lets hasD free fun h2 tk2 kept ns2 => ?_
  have is2 : ∃ o, h2.get? dx = some o := let ⟨o, _, _, e, _⟩ := ns2; ⟨o, e⟩
  exact fin _ (I.write (t' := tk2) (x := dx) (e := dx) (o := exd dx ((fld, y) :: fs)) (by rw [ed]; trivial) (.inl rfl) kept is2 (exd_ok ns2 (relO_put ry rel)))
end
/-- self.f = e in such an __init__ -/
def tFld (K : PySem.W.Frag) (newB : String) (tl : List Value) (f : Str) (to te : TE) : TS := fun D σ H => te σ H fun y H1 => to σ H1 fun x H2 => ∃ a C : Addr, x = .ref a ∧ OexG K C newB tl ∧ PySem.W.findIn K (.ref C) f = some none ∧
  ((H2 a = some (exo a C none) ∧ ∀ d2, H2 d2 = none → d2 ≠ a → D.nx σ (upd (upd H2 d2 (exd d2 [(f, y)])) a (exo a C (some d2)))) ∨
    ∃ (d2 : Addr) (fs : List (Str × V)), H2 a = some (exo a C (some d2)) ∧ H2 d2 = some (exd d2 fs) ∧ fs.length ≤ 900 ∧ D.nx σ (upd H2 d2 (exd d2 ((f, y) :: fs))))
section
variable {X : Cx} {o e : Expr} {es : List Expr} {to te : TE} {ta : TA} {f : Str} {p p' pos : Pos} {nameB newB initB : String} {tl : List Value}
theorem ps_fld (ft : Foot nameB newB initB tl) (ho : PE X o to) (he : PE X e te) (hs : swapsWith e (some (.Attribute o f p')) pos.line X.env = pure false := by rfl) : PS X (.Assign [.Attribute o f p'] e pos) (tFld X.K newB tl f to te) := by
  refine ⟨fun pins s σ H D I h => ?_⟩
  refine plainObj_wpAny_Assign_Attribute (thn (he.run pins s σ H _ I h) fun v s1 ⟨y, H1, I1, r1, q1⟩ => ?_) hs
  refine thn (ho.run pins s1 σ H1 _ I1 q1) fun u s2 ⟨x, H2, I2, r2, a, C, ex, T, free, q⟩ => ?_
  subst ex
  obtain rfl : u = Value.ref a := r2
  rcases q with ⟨ea, q⟩ | ⟨d2, fs, ea, ed, few, q⟩
  · exact fld_first ft T I2 ea free r1 fun d2 s' n ne J => ⟨σ, _, J, q d2 n ne⟩
  · exact fld_more ft T I2 ea ed few free r1 fun s' J => ⟨σ, _, J, q⟩
theorem mk_oexG {CX : CXT} {C fI : Addr} {k : Nat} {fd : FuncData} {ps : List Str} {sp : Sp} {ds : List Value} {dvs : List V} (ft : Foot nameB newB initB tl) (T : OexG X.K C newB tl) (iC : PySem.W.findIn X.K (.ref C) "__init__" = some (some (.ref fI))) (tI : PySem.W.typeIn X.K (.ref fI) = some (.type "function"))
    (G : FnOk X.prog X.w X.K X.mg X.base CX k fI fd ps sp) (hr : Room (k + 1) X.A) (hb : Binds X.K fd ps ds) (hd : Vals dvs ds) (hx : Passes CX X (fun _ _ _ => False)) {us : List Value} {vs : List V} {pins : List (Addr × Obj)} {σ : L2.St} {H1 : Hp} {Q : XK} {s1 : Shared} (I1 : Inv X pins σ H1 s1) (r1 : Vals vs us) (few : vs.length ≤ 1000)
    (q1 : ∀ a, H1 a = none → sp (.ref a :: (vs ++ dvs)) (upd H1 a (exo a C none)) (fun v H2 => v = .non ∧ ∃ (d : Addr) (fs : List (Str × V)), H2 a = some (exo a C (some d)) ∧ H2 d = some (exd d fs) ∧ H1 d = none ∧ Q (.ref C) (some d) (upd (del H2 a) d (.xd fs))) (fun _ _ _ => False)) :
    wpAny (model X.prog X.w) X.A (call (.ref C) us) (MkP X pins σ Q) X.xe s1 := by
  obtain ⟨nm, q, N, bs, bm, sn, sub, ab, col, dd, k0, k1, k2, k3, k5, look, rf⟩ := T.obj
  obtain ⟨hh, gs, dr, tk0, oss⟩ := s1
  have ge : hh.objs.size ≤ hh.objs.size + 1 := Nat.le_succ _
  have prom := q1 (hh.objs.size + 1) (I1.hok.fresh ge)
  have kept : ∀ b o, hh.get? b = some o → ((hh.push (PySem.W.kdv_tup us)).push (PySem.HandSPX.excO C hh.objs.size)).get? b = some o := fun b o z => Heap.get?_push_of_some _ (Heap.get?_push_of_some _ z)
  have here : ((hh.push (PySem.W.kdv_tup us)).push (PySem.HandSPX.excO C hh.objs.size)).get? (hh.objs.size + 1) = some (PySem.HandSPX.excO C hh.objs.size) := by heap_get
  have I2 := I1.laid (t' := tk0) (a := hh.objs.size + 1) (o := exo (hh.objs.size + 1) C none) (h' := (hh.push (PySem.W.kdv_tup us)).push (PySem.HandSPX.excO C hh.objs.size)) kept ge (exo_ok here)
  have rAll : Vals (V.ref (hh.objs.size + 1) :: (vs ++ dvs)) (Value.ref (hh.objs.size + 1) :: (us ++ ds)) := .cons rfl (r1.append hd)
  have many : (Value.ref (hh.objs.size + 1) :: us ++ ds).length = ps.length := by
    have z := rAll.length
    rw [G.len _ _ _ _ prom] at z
    exact z.symm
  have short : us.length ≤ sizeLine := by
    rw [← Paired.length r1, sizeLine_eq]
    omega
  have runs := G.run _ X.stack _ _ ⟨Value.ref (hh.objs.size + 1) :: us, []⟩ (Value.ref (hh.objs.size + 1) :: (us ++ ds)) _ _ (fun _ _ _ => False) (hr.make C us []) (I2.env0.make C us []) (hb _ (Value.ref (hh.objs.size + 1) :: us) I2.kIn many) rAll prom
  refine wpAny_call (PySem.HandSPX.call_own ft.base (fun Y => rf.has Y) (I1.kIn _ _ look) (PySem.W.looks_findIn I1.kIn iC) (fun self => PySem.W.bind_fn I1.kIn self tI) short (codeAny_mono runs fun r s2 hq => ?_))
  cases r with
  | error er => exact hx pins σ _ _ er s2 I2 hq
  | ok fl =>
    cases fl with
    | next => exact False.elim hq
    | brk => exact False.elim hq
    | cont => exact False.elim hq
    | ret u =>
      obtain ⟨v, H2, os2, bare2, un2, hok2, rv, ev, d, fs, ea, ed, hd1, q2⟩ := hq
      subst ev
      obtain ⟨h2, g2, d2, t2, os'⟩ := s2
      exact ⟨rv, mk_end (raises_own T.isE T.ty) I1 ge kept un2 hok2 os2 bare2 ea ed hd1 q2⟩
theorem pmk_G {CX : CXT} {x : Str} {C fI : Addr} {k : Nat} {fd : FuncData} {ps : List Str} {sp : Sp} {ds : List Value} {dvs : List V} (ft : Foot nameB newB initB tl) (T : OexG X.K C newB tl) (iC : PySem.W.findIn X.K (.ref C) "__init__" = some (some (.ref fI))) (tI : PySem.W.typeIn X.K (.ref fI) = some (.type "function"))
    (G : FnOk X.prog X.w X.K X.mg X.base CX k fI fd ps sp) (hr : Room (k + 1) X.A) (hb : Binds X.K fd ps ds) (hd : Vals dvs ds) (hx : Passes CX X (fun _ _ _ => False)) (hg : Gl X x) (hm : X.mg x = some (.ref C)) (ha : PA X (e :: es) ta)
    (hdb : (x == ("__debug__" : Str)) = false := by decide) (he : starEach (e :: es) X.env = (false, eval e X.env) :: starEach es X.env := by rfl) (hpl : (backTo pos (starEach es X.env)).any (·.1) = false := by rfl) : PMk X (.Call (.Name x p) (e :: es) [] pos) (tMkO C sp dvs ta) := by
  intro pins s σ H Q I h
  refine wpAny_Call_Name_kw (ld_glob I hg hm ?_ hdb)
  exact PySem.W.callWith_K (h₀ := X.base) I.ok.mod.kin T.kp (thn (ha.run pos pins s σ H _ I h) fun us s1 ⟨vs, H1, I1, r1, few, q1⟩ => ⟨I1.kIn, mk_oexG ft T iC tI G hr hb hd hx I1 r1 few q1⟩) he hpl
theorem pmk_G0 {CX : CXT} {x : Str} {C fI : Addr} {k : Nat} {fd : FuncData} {ps : List Str} {sp : Sp} {ds : List Value} {dvs : List V} (ft : Foot nameB newB initB tl) (T : OexG X.K C newB tl) (iC : PySem.W.findIn X.K (.ref C) "__init__" = some (some (.ref fI))) (tI : PySem.W.typeIn X.K (.ref fI) = some (.type "function"))
    (G : FnOk X.prog X.w X.K X.mg X.base CX k fI fd ps sp) (hr : Room (k + 1) X.A) (hb : Binds X.K fd ps ds) (hd : Vals dvs ds) (hx : Passes CX X (fun _ _ _ => False)) (hg : Gl X x) (hm : X.mg x = some (.ref C)) (hdb : (x == ("__debug__" : Str)) = false := by decide) :
    PMk X (.Call (.Name x p) [] [] pos) (tMkO C sp dvs tNil) := by
  intro pins s σ H Q I h
  refine wpAny_Call_Name_kw (ld_glob I hg hm ?_ hdb)
  exact PySem.W.callWith_K0 I.kIn T.kp (mk_oexG ft T iC tI G hr hb hd hx I .nil (Nat.zero_le _) h.2)
end
end Mi

namespace Mi
open PySem L2 Evl NdefX
open PyProof.Rows (envOfC)
/-! ### an own exception over ValueError: super().__init__(text) in its __init__ -/
/-- what the written part says of such a class and of its __init__ at f -/
structure SupG (K : PySem.W.Frag) (prog : Program) (C f : Addr) (F : NF) (fd : FuncData) (cc : Addr) (nameB newB initB : String) (tl : List Value) : Prop where
  ft : Foot nameB newB initB tl
  oex : OexG K C newB tl
  fdE : ∃ kV doc pm ct an, fd = PySem.W.fnX F.name F.qual F.params F.body F.scope [(("__class__" : Str), cc)] .none kV doc pm an (.ref F.c) ct
  look : ∃ oc od osl, K.lookup f = some ⟨oc, od, .func fd, osl⟩
  cl : F.cl = [(("__class__" : Str), cc)]
  cd : PySem.W.codeIn K (.ref F.c) F.qual = true
  cell : ∃ cl cld csl, K.lookup cc = some ⟨cl, cld, .cell (some (.ref C)), csl⟩
  code : ∃ ccl cdd vs ccs file tf, K.lookup F.c = some ⟨ccl, cdd, .fields vs, ccs⟩ ∧ vs[2]? = some (.str file tf) ∧ ((prog.main.file : Str) == file) = true
  opq : PySem.W.nsIn K cStatics "thirdparty.any" = some none
  along : PySem.W.ks_superIn K C C "__init__" = some (some (.builtin initB))
  sub : PySem.W.subIn K (.ref C) (.type nameB) = some true
  mro : PySem.W.mroIn K C (.ref C) = some true
  sup : PySem.W.nsIn K mainGlobals "super" = some none
  top : (prog.main.scope.names.lookup ("super" : Str)).isSome = false
section
variable {P : Program} {w : World} {K : PySem.W.Frag} {mg : Str → Option Value} {base : Heap} {C f cc : Addr} {F : NF} {fd : FuncData} {N ps : List Str} {nameB newB initB : String} {tl : List Value}
theorem super_initG {A : Around} {outer : List PySem.Env} {s0 s : Shared} {H0 H : Hp} {E : XK} {σ : L2.St} {a : Addr} {t : Str} {j : Nat} {p0 p1 p2 p3 p4 pos : Pos} {rest : List Stmt} {Q : Flow → Shared → Prop} {ar : Arg}
    (T : SupG K P C f F fd cc nameB newB initB tl) (hsup : mg "super" = none)
    (I : Inv (ncx CX0 P w K mg base N F f A outer s0 H0 E) [] σ H s) (h0 : N[0]? = some ar.arg) (hs0 : σ[0]? = some (some (.ref a))) (ha : H a = some (exo a C none)) (har : (F.params.posonlyargs ++ F.params.args).head? = some ar)
    (hsc1 : F.scope.names.lookup ("super" : Str) = some .globalImplicit) (hsc2 : F.scope.names.lookup ("__class__" : Str) = some .free) (hsc3 : F.scope.names.lookup ar.arg = some .local)
    {pl : Sem Bool} (he : eval (.Call (.Attribute (.Call (.Name "super" p0) [] [] p1) "__init__" p2) [.Constant (.str t) j p3] [] p4) (envF F f s0.heap.objs.size) = (do
      let ov ← attributeBase (.Call (.Name "super" p0) [] [] p1) "__init__" (envF F f s0.heap.objs.size) (eval (.Call (.Name "super" p0) [] [] p1) (envF F f s0.heap.objs.size))
      standAt p2.atName
      let (f', first) ← holding [ov] (getMethod ov "__init__" pl)
      callWith p4 f' first (backTo p4 (starEach [.Constant (.str t) j p3] (envF F f s0.heap.objs.size))) []))
    (hint : interactive (envF F f s0.heap.objs.size) = false) (hsw : swapsWith (.Call (.Attribute (.Call (.Name "super" p0) [] [] p1) "__init__" p2) [.Constant (.str t) j p3] [] p4) none pos.line (envF F f s0.heap.objs.size) = pure false)
    (hk : ∀ s', Inv (ncx CX0 P w K mg base N F f A outer s0 H0 E) [] σ H s' → wpAny (model P w) (A.deeper (envF F f s0.heap.objs.size)) (execs rest (envF F f s0.heap.objs.size)) Q (ncx CX0 P w K mg base N F f A outer s0 H0 E).xe s') :
    wpAt (model P w) (A.deeper (envF F f s0.heap.objs.size)) (.func F.body (envF F f s0.heap.objs.size))
      (execs (.Expr (.Call (.Attribute (.Call (.Name "super" p0) [] [] p1) "__init__" p2) [.Constant (.str t) j p3] [] p4) pos :: rest) (envF F f s0.heap.objs.size)) Q (ncx CX0 P w K mg base N F f A outer s0 H0 E).xe s := by
  obtain ⟨oc, od, osl, hf⟩ := T.look
  obtain ⟨kV, doc, pm, ct, an, efd⟩ := T.fdE
  obtain ⟨cl, cld, csl, hcell⟩ := T.cell
  obtain ⟨ccl, cdd, vs, ccs, file, tf, hcode, hvs, hfile⟩ := T.code
  obtain ⟨nm, q, NN, bs, bm, sn, sub, ab, col, dd, k0, k1, k2, k3, k5, hC, hbm⟩ := T.oex.obj
  have X := I.kIn
  have hclC : PySem.W.clsIn K C = some { name := nm, bases := bs, mro := .ref C :: bm, ns := NN, qualname := q, hasDict := true, slotNames := sn, subclasses := sub, abstract := ab, collection := col, hasDel := false } := by unfold PySem.W.clsIn; rw [hC] <;> rfl
  refine PySem.ks_wpAt_execs_cons (PySem.ks_wpAt_Expr_any (PySem.ks_wpAt_MethodCall (pl := pl) ?_ he) hint hsw)
  refine PySem.ks_wpAt_super_base (f := f) (cc := F.c) (fd := fd) (ar := ar) (vs := vs) (file := file) (tf := tf) hsc1 hsc2 (by decide) rfl (X _ _ hf) rfl (by rw [efd]; exact har) rfl (X _ _ hcode) rfl hvs hfile T.top ?_
  refine loadName_blt (X := ncx CX0 P w K mg base N F f A outer s0 H0 E) I hsc1 hsup (by decide +kernel) ⟨rfl, ?_⟩
  have hcl : (envF F f s0.heap.objs.size).cells.lookup ("__class__" : Str) = some cc := by
    show F.cl.lookup _ = _
    rw [T.cl]
    rfl
  refine wpAny_loadName_free I.ok.kind hsc2 hcl ⟨_, X _ _ hcell, rfl⟩ ?_
  obtain ⟨m, hns, hl⟩ := I.loc
  obtain ⟨u, ru, lu⟩ := hl 0 ar.arg (.ref a) h0 hs0 (.inl hsc3)
  obtain rfl : u = Value.ref a := ru
  have hma : m ar.arg = some (.ref a) := by
    rcases lu with ⟨_, z⟩ | ⟨z, _⟩
    · exact z
    · rcases z with z | z <;> rw [show (ncx CX0 P w K mg base N F f A outer s0 H0 E).env.kindOf ar.arg = some .local from hsc3] at z <;> cases z
  refine wpAny_loadName_local I.ok.kind hsc3 hns hma ?_
  obtain ⟨t1, ho⟩ := exo_at I.hok ha
  have hD := X _ _ hC
  obtain ⟨hp, g, d, tk, os⟩ := s
  refine PySem.ks_wpAny_isType_cls hD rfl ⟨rfl, ?_⟩
  refine PySem.ks_wpAny_call_super hD rfl ho rfl (fun c e => by cases e) (PySem.W.looks_mroIn X T.mro) fun h1 e1 k1 => ?_
  have I1 := I.kept (t' := tk) (h' := h1) k1
  have X1 := I1.kIn
  have ho1 := k1 _ _ ho
  have hno : PySem.W.Looks (model P w) h1 (opaqueClassAbove (.ref C)) none := PySem.W.looks_opaque X1 T.opq
  have J1 : PySem.W.InstAt h1 a ({ cls := .ref C, dict := none, data := .fields #[.ref t1, .none, .none, .none, .bool false, .none] } : Obj) C none := ⟨ho1, rfl, rfl, trivial⟩
  have hm1 : PySem.W.Looks (model P w) h1 (mroOf (.ref C)) (.ref C :: bm) := fun A Q E s k q => wpAny_bind ((PySem.W.looks_clsIn X1 hclC) A _ E s k (wpAny_pure q))
  have hal := T.along
  unfold PySem.W.ks_superIn at hal
  rw [hclC] at hal
  refine PySem.W.kxs_getMethod T.ft.kxs e1 hno hm1 rfl X1 hal (J1.type.andThen (PySem.W.looks_subIn X1 T.sub)) (PySem.W.ks_ne X1 J1 hclC) (by decide) ?_
  have k2 : ∀ b o, h1.get? b = some o → (h1.push (PySem.W.kxs_mw initB a)).get? b = some o := fun b o e => Heap.get?_push_of_some _ e
  have I2 := I1.kept (t' := tk + 1) k2
  have hu2 : (h1.push (PySem.W.kxs_mw initB a)).get? h1.objs.size = some (PySem.W.kxs_mw initB a) := Heap.get?_push_size _ rfl
  have hst : starEach [Expr.Constant (.str t) j p3] (envF F f s0.heap.objs.size) = (false, eval (Expr.Constant (.str t) j p3) (envF F f s0.heap.objs.size)) :: starEach [] (envF F f s0.heap.objs.size) := rfl
  show wpAny _ _ (callWith p4 (.ref h1.objs.size) [] _ []) _ _ _
  rw [hst]
  refine PySem.W.kxs_callWith (i := initB) (x := a) rfl (Calls.evalArgs_plain ?_)
  have PAc : PA (ncx CX0 P w K mg base N F f A outer s0 H0 E) [Expr.Constant (.str t) j p3] (tCons (tC (.str t)) tNil) := pa_cons pe_str pa_nil
  have hun : H h1.objs.size = none := I1.hok.fresh (Nat.le_refl _)
  have I2p : Inv (ncx CX0 P w K mg base N F f A outer s0 H0 E) [(h1.objs.size, PySem.W.kxs_mw initB a)] σ H ⟨h1.push (PySem.W.kxs_mw initB a), g, d, tk + 1, os⟩ := I2.pins_of fun p hp => by
    rw [List.mem_singleton.mp hp]
    refine ⟨hu2, hun, fun z => ?_, fun z => ?_, fun v => by intro z; cases z⟩
    · exact absurd I1.lt (by rw [← show h1.objs.size = _ from z]; exact Nat.lt_irrefl _)
    · exact I1.nofs (Nat.le_refl _) z
  refine wpAny_mono (PAc.run p4 [(h1.objs.size, PySem.W.kxs_mw initB a)] _ σ H (fun vs H1 => vs = [.str t] ∧ H1 = H) I2p ⟨rfl, rfl⟩) (fun us s3 ⟨vs3, H3, I3, r3, ev3, eH3⟩ => ?_) ?_
  · subst ev3 eH3
    have hu3 := (I3.pin (h1.objs.size, PySem.W.kxs_mw initB a) (List.mem_append_right _ List.mem_cons_self)).1
    obtain ⟨t3, ho3⟩ := exo_at I3.hok ha
    have hC3 := I3.kIn _ _ hC
    have I4 : Inv (ncx CX0 P w K mg base N F f A outer s0 H0 E) [] σ H3 s3 := I3.pins_of fun p hp => by cases hp
    have hlen : us.length ≤ sizeLine := by
      rw [← Paired.length r3]
      show 1 ≤ sizeLine
      rw [sizeLine_eq]
      omega
    obtain ⟨hp3, g3, d3, tk3, os3⟩ := s3
    refine ⟨hu3, ?_⟩
    show wpAny _ _ (call (.ref h1.objs.size) us) _ _ _
    refine wpAny_call (codeAny_of_tree ?_)
    show wpAny _ (A.deeper (envF F f s0.heap.objs.size)).in1 (callAny (.ref h1.objs.size) ⟨us, []⟩) _ _ _
    simp only [callAny]
    refine wpAny_bind (wpAny_load hu3 ?_)
    simp only [PySem.W.kxs_mw, show (Value.type "method-wrapper" == Value.type "method" || Value.type "method-wrapper" == Value.type "builtin_function_or_method" || Value.type "method-wrapper" == Value.type "method-wrapper") = true by decide, if_true]
    refine PySem.W.KFB.if_so (by decide) ?_
    refine wpAny_bind (PySem.W.check_bound_init T.ft.base.toExcCallFacts hC3 ho3 rfl ?_)
    refine wpAny_bind (wpAny_pure (wpAny_pure ?_))
    refine ⟨plainId_quiet T.ft.base.init.plain _, codeAny_builtin T.ft.base.initEntry ?_⟩
    refine PySem.W.exc_init_tree (cls := .ref C) (t0 := t3) (dv := none) (c2 := .none) (c3 := .none) (b4 := .bool false) ho3 hlen fun h' k e' t' => ?_
    have J := I4.write (t' := tk3) (x := a) (e := a) (o := exo a C none) (by rw [ha]; exact True.intro) (.inl rfl) k ⟨_, e'⟩ (exo_ok e')
    have eu : upd H3 a (exo a C none) = H3 := by
      funext b
      by_cases hb : b = a
      · rw [hb, upd_same, ha]
      · rw [upd_ne hb]
    rw [eu] at J
    exact wpAt_of_wpAny (hk _ J)
  · exact fun _ _ x => x
/-- the start of such a def -/
theorem exc_enterG {sp : Sp} {ar : Arg} (T : SupG K P C f F fd cc nameB newB initB tl) (S : NScope N ps ["__class__"] F.scope) (hps : ps[0]? = some ar.arg) (har : (F.params.posonlyargs ++ F.params.args).head? = some ar) (hnil : ∀ y ∈ F.scope.names, y.2 ≠ .cell)
    (len : ∀ vs H Q E, sp vs H Q E → vs.length = ps.length)
    (body : ∀ (A : Around) (outer : List PySem.Env) (s0 : Shared) (H : Hp) (vs : List V) (Q : VK) (E : XK), sp vs H Q E → ∀ s, Inv (ncx CX0 P w K mg base N F f A outer s0 H E) [] (startF N vs [none]) H s →
      wpAt (model P w) (A.deeper (envF F f s0.heap.objs.size)) (.func F.body (envF F f s0.heap.objs.size)) (execs F.body (envF F f s0.heap.objs.size)) (SP (ncx CX0 P w K mg base N F f A outer s0 H E) [] { nx := fun _ H' => Q .non H', rt := Q }) (ncx CX0 P w K mg base N F f A outer s0 H E).xe s) :
    FnOk P w K mg base CX0 1 f fd ps sp := by
  refine ⟨len, fun A outer s H args us vs Q E hr e0 hb r hsp => ?_⟩
  have hl := len _ _ _ _ hsp
  obtain ⟨oc, od, osl, hf⟩ := T.look
  obtain ⟨kV, doc, pm, ct, an, efd⟩ := T.fdE
  obtain ⟨cl, cld, csl, hcell⟩ := T.cell
  have hk0 : ∀ b o, base.get? b = some o → s.heap.get? b = some o := fun b o e => (e0.bs b o e).1
  have KX := e0.mod.kin.keeps hk0
  have hce : callEnv fd s.heap.objs.size f = envF F f s.heap.objs.size := by
    rw [efd]
    show PySem.W.envX _ _ _ _ _ [(("__class__" : Str), cc)] = PySem.W.envX _ _ _ _ _ F.cl
    rw [T.cl]
  refine PySem.ks_codeAny_call_defAt (fd := fd) (body := F.body) (binds := ps.zip us) hr.depth (KX _ _ hf) rfl (e0.mod.nolimit.keeps hk0) (by rw [efd]; exact PySem.W.codeRec_of KX T.cd) (by rw [efd]) hb (by rw [efd]; exact S.nocell)
    (fun ⟨n, _⟩ hy => by rw [efd]; exact S.par n (List.of_mem_zip hy).1) (fun h₁ hns kp => ?_) (by rw [efd]; exact S.co) (by rw [efd]; exact S.gen) (by rw [efd]; exact S.kind)
  rw [hce]
  have hcc : base.get? cc = some ⟨cl, cld, .cell (some (.ref C)), csl⟩ := e0.mod.kin _ _ hcell
  have CA : CellsAt F.cl ["__class__"] [none] s.heap H := by
    rw [T.cl]
    refine ⟨rfl, fun y c e => ?_, fun x y c e1 e2 => ?_, fun i y e => ?_⟩
    · have e' : c = cc := by
        rw [List.lookup_cons] at e
        split at e
        · cases e
          rfl
        · cases e
      subst e'
      exact ⟨(e0.bs _ _ hcc).2, _, _, (e0.bs _ _ hcc).1, rfl⟩
    · rw [List.lookup_cons] at e1 e2
      split at e1
      · split at e2
        · rename_i _ a _ b
          exact (beq_iff_eq.mp a).trans (beq_iff_eq.mp b).symm
        · cases e2
      · cases e1
    · cases i with
      | zero =>
        cases e
        exact ⟨cc, rfl, fun v hv => by cases hv⟩
      | succ i => cases e
  have I : Inv (ncx CX0 P w K mg base N F f A outer s H E) [] (startF N vs [none]) H { s with heap := h₁, toks := s.toks + (ps.zip us).length } := inv_startN S hr.hd e0 hl r CA hns kp
  refine PySem.ks_wpAt_mono (body A outer s H vs Q E hsp _ I) (fun fl s' hs => ?_) fun e s' hs => hs
  have fin : ∀ {σ' : L2.St} {H' : Hp} {v : V} {u : Value}, Inv (ncx CX0 P w K mg base N F f A outer s H E) [] σ' H' s' → L2.RelV v u → Q v H' → CE outer P w H s Q u s' :=
    fun {σ' H' v u} J rv q => ⟨v, H', J.os, J.bare, J.base, J.hok, rv, q⟩
  cases fl with
  | ret u =>
    obtain ⟨v, σ', H', J, rv, q⟩ := hs
    exact fin J rv q
  | next =>
    obtain ⟨σ', H', J, q⟩ := hs
    exact fin (v := V.non) (u := Value.none) J rfl q
  | brk =>
    obtain ⟨_, _, _, q⟩ := hs
    exact False.elim q
  | cont =>
    obtain ⟨_, _, _, q⟩ := hs
    exact False.elim q
end
section
variable {P : Program} {w : World} {K : PySem.W.Frag} {mg : Str → Option Value} {base : Heap} {C f cc : Addr} {F : NF} {fd : FuncData} {N ps : List Str} {nameB newB initB : String} {tl : List Value}
theorem exc_fn1G {f1 code t xn : Str} {e : Expr} {i1 : Nat} {q0 q1 q2 q3 q4 q5 q6 q7 q8 : Pos} {ar : Arg} (T : SupG K P C f F fd cc nameB newB initB tl) (S : NScope N [ar.arg, xn] ["__class__"] F.scope) (hsup : mg "super" = none) (har : (F.params.posonlyargs ++ F.params.args).head? = some ar)
    (hb : F.body = [.Expr e q0, .Assign [.Attribute (.Name ar.arg q1) f1 q2] (.Name xn q3) q4, .Assign [.Attribute (.Name ar.arg q5) "code" q6] (.Constant (.str code) i1 q7) q8]) (he : SupOk F f e t q0)
    (hs1 : F.scope.names.lookup ("super" : Str) = some .globalImplicit) (hs2 : F.scope.names.lookup ("__class__" : Str) = some .free)
    (d1 : (ar.arg == ("__debug__" : Str)) = false) (d2 : (ar.arg == ("__classdict__" : Str)) = false) (d3 : (xn == ("__debug__" : Str)) = false) (d4 : (xn == ("__classdict__" : Str)) = false)
    (n1 : PySem.W.findIn K (.ref C) f1 = some none) (n2 : PySem.W.findIn K (.ref C) "code" = some none)
    (w1 : ∀ L, swapsWith (.Name xn q3) (some (.Attribute (.Name ar.arg q1) f1 q2)) q4.line (envF F f L) = pure false) (w2 : ∀ L, swapsWith (.Constant (.str code) i1 q7) (some (.Attribute (.Name ar.arg q5) "code" q6)) q8.line (envF F f L) = pure false) :
    FnOk P w K mg base CX0 1 f fd [ar.arg, xn] (spE1 C f1 code) := by
  have hpre : N.take 3 = [ar.arg, xn, "__class__"] := S.pre
  have hN0 : N[0]? = some ar.arg := by
    have := congrArg (fun l : List Str => l[0]?) hpre
    simpa [List.getElem?_take] using this
  have hN1 : N[1]? = some xn := by
    have := congrArg (fun l : List Str => l[1]?) hpre
    simpa [List.getElem?_take] using this
  have v1 : F.scope.names.lookup ar.arg = some .local := S.par _ (by simp)
  have v2 : F.scope.names.lookup xn = some .local := S.par _ (by simp)
  refine exc_enterG T S rfl har S.nocell (fun vs H Q E ⟨a, x, e, _⟩ => by rw [e]; rfl) fun A outer s0 H vs Q E ⟨a, x, ev, ha, hq⟩ s I => ?_
  obtain ⟨j, p0, p1, p2, p3, p4, ee, hh⟩ := he.ok
  obtain ⟨⟨pl, h1⟩, h2, h3⟩ := hh s0.heap.objs.size
  subst ee ev
  have hbody : wpAt (model P w) (A.deeper (envF F f s0.heap.objs.size)) (.func F.body (envF F f s0.heap.objs.size))
      (execs (.Expr (.Call (.Attribute (.Call (.Name "super" p0) [] [] p1) "__init__" p2) [.Constant (.str t) j p3] [] p4) q0 :: [.Assign [.Attribute (.Name ar.arg q1) f1 q2] (.Name xn q3) q4, .Assign [.Attribute (.Name ar.arg q5) "code" q6] (.Constant (.str code) i1 q7) q8]) (envF F f s0.heap.objs.size))
      (SP (ncx CX0 P w K mg base N F f A outer s0 H E) [] { nx := fun _ H' => Q .non H', rt := Q }) (ncx CX0 P w K mg base N F f A outer s0 H E).xe s := by
    refine super_initG T hsup I hN0 rfl ha har hs1 hs2 v1 h1 h2 h3 fun s' J => ?_
    have hps : PSs (ncx CX0 P w K mg base N F f A outer s0 H E) [.Assign [.Attribute (.Name ar.arg q1) f1 q2] (.Name xn q3) q4, .Assign [.Attribute (.Name ar.arg q5) "code" q6] (.Constant (.str code) i1 q7) q8] _ :=
      pss_cons (ps_fld T.ft (pe_var (i := 0) hN0 (.inl v1) d1 d2) (pe_var (i := 1) hN1 (.inl v2) d3 d4) (w1 _)) (pss_one (ps_fld T.ft (pe_var (i := 0) hN0 (.inl v1) d1 d2) pe_str (w2 _)))
    refine hps.run [] s' _ H _ J ?_
    refine ⟨x, rfl, .ref a, rfl, a, C, rfl, T.oex, n1, .inl ⟨ha, fun dx hdx hne => ?_⟩⟩
    refine ⟨.ref a, rfl, a, C, rfl, T.oex, n2, .inr ⟨dx, [(f1, x)], upd_same, ?_, by simp, hq dx hdx hne⟩⟩
    rw [upd_ne hne, upd_same]
  rw [← hb] at hbody
  exact hbody
theorem exc_fn0G {code t : Str} {e : Expr} {i1 : Nat} {q0 q5 q6 q7 q8 : Pos} {ar : Arg} (T : SupG K P C f F fd cc nameB newB initB tl) (S : NScope N [ar.arg] ["__class__"] F.scope) (hsup : mg "super" = none) (har : (F.params.posonlyargs ++ F.params.args).head? = some ar)
    (hb : F.body = [.Expr e q0, .Assign [.Attribute (.Name ar.arg q5) "code" q6] (.Constant (.str code) i1 q7) q8]) (he : SupOk F f e t q0)
    (hs1 : F.scope.names.lookup ("super" : Str) = some .globalImplicit) (hs2 : F.scope.names.lookup ("__class__" : Str) = some .free)
    (d1 : (ar.arg == ("__debug__" : Str)) = false) (d2 : (ar.arg == ("__classdict__" : Str)) = false)
    (n2 : PySem.W.findIn K (.ref C) "code" = some none)
    (w2 : ∀ L, swapsWith (.Constant (.str code) i1 q7) (some (.Attribute (.Name ar.arg q5) "code" q6)) q8.line (envF F f L) = pure false) :
    FnOk P w K mg base CX0 1 f fd [ar.arg] (spE0 C code) := by
  have hpre : N.take 2 = [ar.arg, "__class__"] := S.pre
  have hN0 : N[0]? = some ar.arg := by
    have := congrArg (fun l : List Str => l[0]?) hpre
    simpa [List.getElem?_take] using this
  have v1 : F.scope.names.lookup ar.arg = some .local := S.par _ (by simp)
  refine exc_enterG T S rfl har S.nocell (fun vs H Q E ⟨a, e, _⟩ => by rw [e]; rfl) fun A outer s0 H vs Q E ⟨a, ev, ha, hq⟩ s I => ?_
  obtain ⟨j, p0, p1, p2, p3, p4, ee, hh⟩ := he.ok
  obtain ⟨⟨pl, h1⟩, h2, h3⟩ := hh s0.heap.objs.size
  subst ee ev
  have hbody : wpAt (model P w) (A.deeper (envF F f s0.heap.objs.size)) (.func F.body (envF F f s0.heap.objs.size))
      (execs (.Expr (.Call (.Attribute (.Call (.Name "super" p0) [] [] p1) "__init__" p2) [.Constant (.str t) j p3] [] p4) q0 :: [.Assign [.Attribute (.Name ar.arg q5) "code" q6] (.Constant (.str code) i1 q7) q8]) (envF F f s0.heap.objs.size))
      (SP (ncx CX0 P w K mg base N F f A outer s0 H E) [] { nx := fun _ H' => Q .non H', rt := Q }) (ncx CX0 P w K mg base N F f A outer s0 H E).xe s := by
    refine super_initG T hsup I hN0 rfl ha har hs1 hs2 v1 h1 h2 h3 fun s' J => ?_
    have hps : PSs (ncx CX0 P w K mg base N F f A outer s0 H E) [.Assign [.Attribute (.Name ar.arg q5) "code" q6] (.Constant (.str code) i1 q7) q8] _ :=
      pss_one (ps_fld T.ft (pe_var (i := 0) hN0 (.inl v1) d1 d2) pe_str (w2 _))
    refine hps.run [] s' _ H _ J ?_
    exact ⟨.ref a, rfl, a, C, rfl, T.oex, n2, .inl ⟨ha, fun dx hdx hne => hq dx hdx hne⟩⟩
  rw [← hb] at hbody
  exact hbody
end
end Mi

namespace Mi
open PySem L2 Evl NdefX
open PyProof.Rows (envOfC)
def refsB (tl : List Value) : List Value → Bool
  | .ref c :: r => refsB tl r
  | l => l == tl
theorem refs_by {tl : List Value} : ∀ {l : List Value}, refsB tl l = true → Refs tl l := by
  intro l
  induction l with
  | nil =>
    intro h
    exact ⟨[], (beq_iff_eq.mp h).trans rfl⟩
  | cons a r ih =>
    intro h
    cases a with
    | ref c => exact (ih h).cons c
    | _ => exact ⟨[], (beq_iff_eq.mp h).trans rfl⟩
/-! ### raise, over any foot -/
section
variable {X : Cx} {B : Bs} {env : Env} {os : Os} {tb : ETab} {pos p pos2 : Pos} {α β : Type} {r : Rp α} {e : Expr} {rest : List Stmt} {post : Post β} {x : Str} {f C : Addr} {fd : FuncData} {nameB newB initB : String} {tl : List Value}
theorem b_raise1G {w : W α} {g : α → PyData} {n : Nat} {f1 : Str} {code : String} {xn : Str} {sn : Str} (ft : Foot nameB newB initB tl) (tk : Takes X (wB X.K tb B)) (hc : X.calm = true) (hmem : (code, C, some f1) ∈ tb) (hnc : f1 ≠ "code") (T : OexG X.K C newB tl) (iC : PySem.W.findIn X.K (.ref C) "__init__" = some (some (.ref f))) (tI : PySem.W.typeIn X.K (.ref f) = some (.type "function"))
    (G : FnOk X.prog X.w X.K X.mg X.base CX0 1 f fd [sn, xn] (spE1 C f1 (Str.ofString code))) (hr : Room 2 X.A) (hb : Binds X.K fd [sn, xn] []) (hm : X.mg x = some (.ref C)) (d : DD X.K r g n) (hn : n ≤ 30) (he : EE X B env os e r w)
    (hg : Gl X x := by rfl) (hdb : (x == ("__debug__" : Str)) = false := by decide) (hse : starEach [e] X.env = (false, eval e X.env) :: starEach [] X.env := by rfl) (hpl : (backTo pos (starEach [] X.env)).any (·.1) = false := by rfl) :
    BG X B env os (.Raise (some (.Call (.Name x p) [e] [] pos)) none pos2 :: rest) post (bnd w fun v => thr ⟨code, [g v]⟩) :=
  PSs.imp (pss_cons (ps_raise hc tk (pmk_G ft T iC tI G hr hb .nil pass0 hg hm (pa_cons he pa_nil hse) hdb hse hpl)) pss_never) fun D σ H ⟨F, P, S, hw, k⟩ => ⟨F, _, S, hw, fun y hy v F1 H1 S1 e1 ok => ⟨by show 1 ≤ 1000; omega, fun a ha => by
    have hd := d.ok ok
    refine ⟨a, v, rfl, upd_same, fun dx hdx hne => ⟨rfl, dx, [("code", .str (Str.ofString code)), (f1, v)], ?_, upd_same, ?_, ?_⟩⟩
    · rw [upd_ne (Ne.symm hne), upd_same]
    · rwa [upd_ne hne] at hdx
    have hdx1 : H1 dx = none := by rwa [upd_ne hne] at hdx
    have eH : upd (del (upd (upd (upd (upd H1 a (exo a C none)) dx (exd dx [(f1, v)])) a (exo a C (some dx))) dx (exd dx [("code", .str (Str.ofString code)), (f1, v)])) a) dx (.xd [("code", .str (Str.ofString code)), (f1, v)]) = upd H1 dx (.xd [("code", .str (Str.ofString code)), (f1, v)]) := by
      funext b
      by_cases h1 : b = dx
      · rw [h1, upd_same, upd_same]
      · rw [upd_ne h1, upd_ne h1]
        by_cases h2 : b = a
        · rw [h2, del_same, ha]
        · rw [del_ne h2, upd_ne h1, upd_ne h2, upd_ne h1, upd_ne h2]
    rw [eH]
    have gr : Grow F1 H1 (upd F1 dx (.xd [("code", .str (Str.ofString code)), (f1, v)])) (upd H1 dx (.xd [("code", .str (Str.ofString code)), (f1, v)])) := Grow.alloc S1.fh hdx1
    have S2 := S1.grow gr
    refine ⟨⟨code, [g y]⟩, _, hy, S2.fin.low, C, some f1, dx, _, hmem, rfl, rfl, upd_same, rfl, v, g y, rfl, ?_, (rD X.K).mono gr.f ⟨hd.1, hd.2.1, Nat.le_trans hd.2.2 hn⟩⟩
    rw [lookup_put, if_neg hnc, lookup_put, if_pos rfl]⟩⟩
theorem b_raise0G {code : String} {sn : Str} (ft : Foot nameB newB initB tl) (tk : Takes X (wB X.K tb B)) (hc : X.calm = true) (hmem : (code, C, none) ∈ tb) (T : OexG X.K C newB tl) (iC : PySem.W.findIn X.K (.ref C) "__init__" = some (some (.ref f))) (tI : PySem.W.typeIn X.K (.ref f) = some (.type "function"))
    (G : FnOk X.prog X.w X.K X.mg X.base CX0 1 f fd [sn] (spE0 C (Str.ofString code))) (hr : Room 2 X.A) (hb : Binds X.K fd [sn] []) (hm : X.mg x = some (.ref C)) (hg : Gl X x := by rfl) (hdb : (x == ("__debug__" : Str)) = false := by decide) :
    BG X B env os (.Raise (some (.Call (.Name x p) [] [] pos)) none pos2 :: rest) post (thr ⟨code, []⟩) :=
  PSs.imp (pss_cons (ps_raise hc tk (pmk_G0 ft T iC tI G hr hb .nil pass0 hg hm hdb)) pss_never) fun D σ H1 ⟨F1, P, S1, hy, k⟩ => ⟨Nat.zero_le _, fun a ha => by
    refine ⟨a, rfl, upd_same, fun dx hdx hne => ⟨rfl, dx, [("code", .str (Str.ofString code))], upd_same, ?_, ?_, ?_⟩⟩
    · rw [upd_ne hne, upd_same]
    · rwa [upd_ne hne] at hdx
    have hdx1 : H1 dx = none := by rwa [upd_ne hne] at hdx
    have eH : upd (del (upd (upd (upd H1 a (exo a C none)) dx (exd dx [("code", .str (Str.ofString code))])) a (exo a C (some dx))) a) dx (.xd [("code", .str (Str.ofString code))]) = upd H1 dx (.xd [("code", .str (Str.ofString code))]) := by
      funext b
      by_cases h1 : b = dx
      · rw [h1, upd_same, upd_same]
      · rw [upd_ne h1, upd_ne h1]
        by_cases h2 : b = a
        · rw [h2, del_same, ha]
        · rw [del_ne h2, upd_ne h2, upd_ne h1, upd_ne h2]
    rw [eH]
    have gr : Grow F1 H1 (upd F1 dx (.xd [("code", .str (Str.ofString code))])) (upd H1 dx (.xd [("code", .str (Str.ofString code))])) := Grow.alloc S1.fh hdx1
    have S2 := S1.grow gr
    exact ⟨⟨code, []⟩, _, hy, S2.fin.low, C, none, dx, _, hmem, rfl, rfl, upd_same, rfl, rfl⟩⟩
end
end Mi

namespace Mi
open PySem L2 Evl

/-! ### more of dicts: written ones, copies, dict of pairs, pop -/
def mergeD {κ α : Type} [DecidableEq κ] (acc more : List (κ × α)) : List (κ × α) := more.foldl (fun a p => dput a p.1 p.2) acc
def ddrop {κ α : Type} [DecidableEq κ] (xs : List (κ × α)) (k : κ) : List (κ × α) := xs.filter fun p => decide (p.1 ≠ k)
section
variable {X : Cx} {B : Bs} {env : Env} {os : Os} {pos p : Pos} {κ α β : Type} [DecidableEq κ] {rk : Rp κ} {kf : κ → Key} {r : Rp α} {o a b c e : Expr} {rest : List Stmt} {post : Post β}
theorem Sit.dict0 {F H : Hp} {σ : L2.St} {q : Addr} {xs : List (κ × α)} (S : Sit B F H σ env ((q, oDct rk kf r xs) :: os)) : ∃ kvs, H q = some (.dK kvs) ∧ kvs.length ≤ sizeLine ∧ Paired (DPair F rk kf r) kvs xs := by
  obtain ⟨h1, ⟨o, h2, kvs, h3, h4, h5⟩, _⟩ := S.ow _ List.mem_cons_self
  subst h3
  exact ⟨kvs, h2, h4, h5⟩
/-- {k: v} -/
theorem d_disp1 {k v : Expr} {w1 : W κ} {w2 : κ → W α} (K : KeyR rk kf) (hk : ∀ D, EE X B env ((D, oDct rk kf r []) :: os) k rk w1) (hv : ∀ D x, EE X B env ((D, oDct rk kf r []) :: os) v r (w2 x)) :
    ED X B env os (.Dict [some k] [v] pos) rk kf r (bnd w1 fun x => bnd (w2 x) fun y => ret [(x, y)]) :=
  PE.imp (pe_disp (pps_cons (PE.ex hk) (PE.ex fun q : Addr × κ => hv q.1 q.2) pps_nil) rfl rfl (by simp) (by show 1 ≤ 15; omega)) fun σ H Q ⟨F, P, S, hw, kk⟩ => fun q hq =>
    ⟨q, F, _, S.newOwn (ow := oDct rk kf r []) hq ⟨[], rfl, Nat.zero_le _, .nil⟩, hw, fun x hx u F1 H1 S1 e1 ok1 => ⟨(q, x), F1, _, S1, hx, fun y hy t F2 H2 S2 e2 ok2 => by
      have eu := K.of ok1
      subst eu
      obtain ⟨kvs, h1, h2, h3⟩ := S2.dict0
      have h3' : kvs = [] := by cases h3; rfl
      subst h3'
      refine ⟨h1, [(kf x, t)], rfl, by show 1 ≤ 15; omega, ?_⟩
      have S3 := S2.change (j := 0) (ow' := oDct rk kf r [(x, y)]) (o' := .dK [(kf x, t)]) rfl ⟨_, rfl, by show 1 ≤ sizeLine; decide, .cons ⟨rfl, rk.mono e2 ok1, ok2⟩ .nil⟩
      exact kk _ hy q F2 _ S3 (e1.trans e2)⟩⟩
/-- x = {..} of any making -/
theorem b_ownD (i : Nat) {x : Str} {pos' : Pos} {w1 : W (List (κ × α))} {w2 : List (κ × α) → W β} (he : ED X B env os e rk kf r w1) (hr : ∀ a xs, BG X B (env.set i (sv (rAdr a) ())) ((a, oDct rk kf r xs) :: os) rest post (w2 xs)) (hN : X.N.Nodup) (hi : X.N[i]? = some x := by rfl)
    (hx : Loc X.env.scope x := by first | exact Or.inl rfl | exact Or.inr rfl) (hs : swapsWith e (some (.Name x pos')) pos.line X.env = pure false := by rfl) (hf : X.fn x = true ∨ X.env.scope.names.lookup x = some .local := by first | exact .inl rfl | exact .inr rfl | assumption) :
    BG X B env os (.Assign [.Name x pos'] e pos :: rest) post (bnd w1 w2) :=
  PSs.imp (pss_cons (ps_set hN hi hx he hs hf) (PSs.ex fun p : Addr × List (κ × α) => hr p.1 p.2)) fun D σ H ⟨F, P, S, hw, k⟩ => ⟨F, _, S, hw, fun xs hx a F' H' S' _ => ⟨(a, xs), F', P, S'.store ⟨_, rfl, rfl⟩, hx, k⟩⟩
/-- dict(d) -/
theorem call_copyD {X : Cx} : CallR X (.type "dict") (fun xs H Q => ∃ (a : Addr) (kvs : List (Key × V)), xs = [.ref a] ∧ Rd H a (.dK kvs) ∧ ∀ p, H p = none → Q (.ref p) (upd H p (.dK kvs))) := by
  intro pins s σ H xs us Q I r q
  obtain ⟨a, kvs, ex, hd, q⟩ := q
  subst ex
  obtain ⟨u, eu, rx⟩ := vals1 r
  subst eu
  cases rx
  exact d_copyOf I hd fun p s' hp I' => ⟨.ref p, _, I', rfl, q p hp⟩
theorem d_copy {w : W (List (κ × α))} (ha : EE X B env os a (rDct rk kf r) w) (hm : X.mg "dict" = none) (hg : Gl X "dict" := by rfl) (he : starEach [a] X.env = (false, eval a X.env) :: starEach [] X.env := by rfl) (hpl : (backTo pos (starEach [] X.env)).any (·.1) = false := by rfl) :
    ED X B env os (.Call (.Name "dict" p) [a] [] pos) rk kf r w :=
  PE.imp (pe_callTy call_copyD hg hm (by decide +kernel) (pa_cons ha pa_nil he) (by decide) (by decide) he hpl) fun σ H Q ⟨F, P, S, hw, k⟩ => ⟨F, _, S, hw, fun x hx v F1 H1 S1 e1 ⟨p1, ob, kvs, q1, h1, z1, ok1⟩ => by
    refine ⟨p1, kvs, by rw [q1], .inr ⟨_, S1.fh _ _ h1⟩, fun l hl => k _ hx l F1 _ (S1.newOwn hl ⟨kvs, rfl, z1, ok1⟩) e1⟩⟩
/-- dict(pairs) -/
theorem pairs_dict {K : PySem.W.Frag} {F : Hp} (KR : KeyR rk kf) : ∀ {vs : List V} {xs : List (κ × α)}, Paired (fun v x => (rT2 K rk r).ok F v x) vs xs → ∃ (ps : List Addr) (kvs : List (Key × V)), vs = ps.map V.ref ∧ Paired (fun p kv => SqT K F p [kV kv.1, kv.2]) ps kvs ∧ Paired (DPair F rk kf r) kvs xs
  | _, _, .nil => ⟨[], [], rfl, .nil, .nil⟩
  | _, _, .cons (a := v) (b := x) h t => by
    obtain ⟨q, v1, v2, h1, h2, h3, h4⟩ := h
    obtain ⟨ps, kvs, g1, g2, g3⟩ := pairs_dict KR t
    subst h1 g1
    have e1 := KR.of h3
    subst e1
    exact ⟨q :: ps, (kf x.1, v2) :: kvs, rfl, .cons h2 g2, .cons ⟨rfl, h3, h4⟩ g3⟩
theorem merge_ok {F : Hp} (K : KeyR rk kf) {kvs : List (Key × V)} {xs : List (κ × α)} (h : Paired (DPair F rk kf r) kvs xs) : ∀ {acc : List (Key × V)} {ys : List (κ × α)}, Paired (DPair F rk kf r) acc ys → Paired (DPair F rk kf r) (mergeK acc kvs) (mergeD ys xs) := by
  induction h with
  | nil => exact fun h => h
  | @cons u x kvs xs hp t ih =>
    intro acc ys h
    refine ih ?_
    have := dput_ok K h (k := x.1) (v := u.2) (x := x.2) (by rw [← hp.1]; exact hp.2.1) hp.2.2
    rw [← hp.1] at this
    exact this
theorem d_pairs {w : W (List (κ × α))} (K : KeyR rk kf) (hc : X.calm = true) (ha : EE X B env os a (rLst (rT2 X.K rk r)) w) (hm : X.mg "dict" = none) (hg : Gl X "dict" := by rfl) (he : starEach [a] X.env = (false, eval a X.env) :: starEach [] X.env := by rfl) (hpl : (backTo pos (starEach [] X.env)).any (·.1) = false := by rfl) :
    ED X B env os (.Call (.Name "dict" p) [a] [] pos) rk kf r (bnd w fun xs => ret (mergeD [] xs)) :=
  PE.imp (pe_callTy (call_dictP hc) hg hm (by decide +kernel) (pa_cons ha pa_nil he) (by decide) (by decide) he hpl) fun σ H Q ⟨F, P, S, hw, k⟩ => ⟨F, _, S, hw, fun x hx v F1 H1 S1 e1 ⟨p1, vs, q1, h1, z1, ok1⟩ => by
    obtain ⟨ps, kvs, g1, g2, g3⟩ := pairs_dict (K := X.K) K ok1
    subst g1
    refine ⟨p1, ps, kvs, by rw [q1], SqL.of (S1.fh _ _ h1), Paired.imp (fun _ _ h => ex_t S1.fh h) g2, fun l hl => k _ hx l F1 _ (S1.newOwn hl ⟨_, rfl, ?_, merge_ok K g3 .nil⟩) e1⟩
    refine Nat.le_trans (length_mergeK kvs []) ?_
    rw [List.length_nil, Nat.zero_add, ← g2.length]
    rw [List.length_map] at z1
    exact z1⟩
theorem d_conv {w w' : W (List (κ × α))} (h : ED X B env os e rk kf r w) (q : w' = w) : ED X B env os e rk kf r w' := q ▸ h
/-- d.pop(k), d one's own -/
theorem drop_ok {F : Hp} (K : KeyR rk kf) (k : κ) : ∀ {kvs : List (Key × V)} {xs : List (κ × α)}, Paired (DPair F rk kf r) kvs xs → Paired (DPair F rk kf r) (dropK kvs (kf k)) (ddrop xs k)
  | _, _, .nil => .nil
  | _, _, .cons (a := u) (b := x) hp t => by
    have ih := drop_ok K k t
    unfold dropK ddrop at ih ⊢
    rw [List.filter_cons, List.filter_cons]
    by_cases e : x.1 = k
    · rw [if_neg (by simp [hp.1, e]), if_neg (by simp [e])]
      exact ih
    · have e' : ¬ kf x.1 = kf k := fun z => e (K.inj z)
      rw [if_pos (by simp [hp.1, e']), if_pos (by simp [e])]
      exact .cons hp ih
theorem b_dpop (i j : Nat) {x : Str} {p1 p2 p3 : Pos} {q : Addr} {xs : List (κ × α)} {w1 : W κ} {w2 : List (κ × α) → W β} (K : KeyR rk kf) (hi : env[i]? = some (sv (rAdr q) ())) (hj : os[j]? = some (q, oDct rk kf r xs)) (hk : EE X B env os b rk w1)
    (hr : ∀ ys, BG X B env (os.set j (q, oDct rk kf r ys)) rest post (w2 ys)) (hN : X.N[i]? = some x := by rfl)
    (hv : Vis X.env.scope x := by first | exact Or.inl rfl | exact Or.inr (Or.inl rfl) | exact Or.inr (Or.inr rfl)) (hd : (x == ("__debug__" : Str)) = false := by decide) (hcd : (x == ("__classdict__" : Str)) = false := by decide)
    (m : M1 X (.Name x p1) "pop" p2 b p3 := by exact ⟨rfl, rfl, rfl, rfl⟩) (hsw : swapsWith (.Call (.Attribute (.Name x p1) "pop" p2) [b] [] p3) none pos.line X.env = pure false := by rfl) :
    BG X B env os (.Expr (.Call (.Attribute (.Name x p1) "pop" p2) [b] [] p3) pos :: rest) post (bnd w1 fun k => chk ((dget xs k).isSome = true) (bnd (ret (ddrop xs k)) w2)) :=
  PSs.imp (pss_cons (ps_expr (pe_dpop1 (pe_var hN hv hd hcd) hk m) hsw) (PSs.ex hr)) fun D σ H ⟨F, P, S, hw, kk⟩ => by
  obtain ⟨g1, g2, kvs, g3, g4, g5⟩ := S.dct hi hj
  refine ⟨.ref q, g1, q, rfl, .inl ⟨kvs, .inl g3⟩, F, _, S, hw, fun k ⟨hs, hw⟩ u F2 H2 S2 e2 ok2 => ?_⟩
  obtain ⟨_, _, kvs, g3, g4, g5⟩ := S2.dct hi hj
  have eu := K.of ok2
  subst eu
  rcases dget_ok K g5 k with ⟨h1, h2⟩ | ⟨v, x, h1, h2, h3⟩
  · rw [h2] at hs
    exact absurd hs (by simp)
  · exact ⟨kvs, kf k, v, g3, rfl, h1, _, F2, P, S2.change hj ⟨_, rfl, Nat.le_trans (dropK_le kvs (kf k)) g4, drop_ok K k g5⟩, hw, kk⟩
/-- d[k], d one's own -/
theorem e_dgetI (i j : Nat) {x : Str} {p1 : Pos} {q : Addr} {xs : List (κ × α)} {w2 : W κ} (K : KeyR rk kf) (hu : X.A.units + 100 < cLine) (hi : env[i]? = some (sv (rAdr q) ())) (hj : os[j]? = some (q, oDct rk kf r xs)) (hb : EE X B env os b rk w2) (hN : X.N[i]? = some x := by rfl)
    (hv : Vis X.env.scope x := by first | exact Or.inl rfl | exact Or.inr (Or.inl rfl) | exact Or.inr (Or.inr rfl)) (hd : (x == ("__debug__" : Str)) = false := by decide) (hcd : (x == ("__classdict__" : Str)) = false := by decide) (hs : NoSl b := by exact fun _ _ => rfl) :
    EE X B env os (.Subscript (.Name x p1) b pos) r (bnd w2 fun k => optW (dget xs k)) :=
  PE.imp (pe_dget (by omega) (pe_var hN hv hd hcd) hb hs) fun σ H Q ⟨F, P, S, hw, kk⟩ => by
    obtain ⟨g1, g2, kvs, g3, g4, g5⟩ := S.dct hi hj
    refine ⟨.ref q, g1, F, _, S, hw, fun k hk u F2 H2 S2 e2 ok2 => ?_⟩
    obtain ⟨_, _, kvs, g3, g4, g5⟩ := S2.dct hi hj
    have eu := K.of ok2
    subst eu
    have hk : optW (dget xs k) P B.E0 := hk
    rcases dget_ok K g5 k with ⟨h1, h2⟩ | ⟨v, x, h1, h2, h3⟩
    · rw [h2] at hk
      exact False.elim hk
    · rw [h2] at hk
      exact ⟨q, v, rfl, .inl ⟨kvs, kf k, .inl g3, rfl, h1.symm⟩, kk x hk v F2 H2 S2 e2 h3⟩
end
/-! x, y = {}, {} -/
section
variable {X : Cx} {B : Bs} {env : Env} {os : Os} {pos : Pos} {κ κ2 α γ β : Type} [DecidableEq κ] [DecidableEq κ2] {rk : Rp κ} {kf : κ → Key} {r : Rp α} {rk2 : Rp κ2} {kf2 : κ2 → Key} {s : Rp γ} {a b : Expr} {rest : List Stmt} {post : Post β} {i j : Nat} {x y : Str} {px py pt pt2 : Pos} {kt k2 : Nat}
  {w1 : W (List (κ × α))} {w2 : W (List (κ2 × γ))} {w4 : List (κ × α) → List (κ2 × γ) → W β}
abbrev tD2 (B : Bs) (env : Env) (os : Os) (rk : Rp κ) (kf : κ → Key) (r : Rp α) (rk2 : Rp κ2) (kf2 : κ2 → Key) (s : Rp γ) (w1 : W (List (κ × α))) (w2 : W (List (κ2 × γ))) : TA :=
  tCons (tNewD B env os rk kf r w1) (tCons (fun σ H Q => ∃ p : Addr × List (κ × α), tNewD B env ((p.1, oDct rk kf r p.2) :: os) rk2 kf2 s w2 σ H Q) tNil)
theorem paD2 (ha : ED X B env os a rk kf r w1) (hb : ∀ u xs, ED X B env ((u, oDct rk kf r xs) :: os) b rk2 kf2 s w2) (hs : starEach [a, b] X.env = (false, eval a X.env) :: starEach [b] X.env := by rfl) (hs2 : starEach [b] X.env = (false, eval b X.env) :: starEach [] X.env := by rfl) : PA X [a, b] (tD2 B env os rk kf r rk2 kf2 s w1 w2) :=
  pa_cons ha (pa_cons (PE.ex fun p : Addr × List (κ × α) => hb p.1 p.2) pa_nil hs2) hs
theorem b_ownD2 (cc : PS X (.Assign [.Tuple [.Name x px, .Name y py] kt pt] (.Tuple [a, b] k2 pt2) pos) (tPar i j (tD2 B env os rk kf r rk2 kf2 s w1 w2)))
    (hr : ∀ u v xs ys, BG X B ((env.set i (sv (rAdr u) ())).set j (sv (rAdr v) ())) ((v, oDct rk2 kf2 s ys) :: (u, oDct rk kf r xs) :: os) rest post (w4 xs ys)) :
    BG X B env os (.Assign [.Tuple [.Name x px, .Name y py] kt pt] (.Tuple [a, b] k2 pt2) pos :: rest) post (bnd w1 fun u => bnd w2 fun v => w4 u v) :=
  PSs.imp (pss_cons cc (PSs.ex fun p : (Addr × Addr) × List (κ × α) × List (κ2 × γ) => hr p.1.1 p.1.2 p.2.1 p.2.2)) fun D σ H ⟨F, P, S, hw, k⟩ => ⟨F, _, S, hw, fun xs hx u F1 H1 S1 e1 => ⟨(u, xs), F1, _, S1, hx, fun ys hy v F2 H2 S2 e2 =>
    ⟨.ref u, .ref v, rfl, ((u, v), xs, ys), F2, P, (S2.store (sl := sv (rAdr u) ()) ⟨.ref u, rfl, rfl⟩).store (sl := sv (rAdr v) ()) ⟨.ref v, rfl, rfl⟩, hy, k⟩⟩⟩
theorem b_ownD2T (cc : PS X (.Assign [.Tuple [.Name x px, .Name y py] kt pt] (.Tuple [a, b] k2 pt2) pos) (tAsg (tTup (tD2 B env os rk kf r rk2 kf2 s w1 w2)) (gTup X.K 2 (gCons (gName i) (gCons (gName j) gNil)))))
    (hr : ∀ u v xs ys, BG X B ((env.set i (sv (rAdr u) ())).set j (sv (rAdr v) ())) ((v, oDct rk2 kf2 s ys) :: (u, oDct rk kf r xs) :: os) rest post (w4 xs ys)) :
    BG X B env os (.Assign [.Tuple [.Name x px, .Name y py] kt pt] (.Tuple [a, b] k2 pt2) pos :: rest) post (bnd w1 fun u => bnd w2 fun v => w4 u v) :=
  PSs.imp (pss_cons cc (PSs.ex fun p : (Addr × Addr) × List (κ × α) × List (κ2 × γ) => hr p.1.1 p.1.2 p.2.1 p.2.2)) fun D σ H ⟨F, P, S, hw, k⟩ => ⟨F, _, S, hw, fun xs hx u F1 H1 S1 e1 => ⟨(u, xs), F1, _, S1, hx, fun ys hy v F2 H2 S2 e2 =>
    ⟨(by show 2 ≤ sizeLine; decide), fun p hp => by
      have g : Grow F2 H2 (upd F2 p (.tup [V.ref u, V.ref v])) (upd H2 p (.tup [V.ref u, V.ref v])) := Grow.alloc S2.fh hp
      have S3 := S2.grow g
      exact ⟨p, [V.ref u, V.ref v], rfl, SqT.of upd_same, rfl, V.ref u, [V.ref v], rfl, V.ref v, [], rfl, rfl, ((u, v), xs, ys), _, P, (S3.store (sl := sv (rAdr u) ()) ⟨V.ref u, rfl, rfl⟩).store (sl := sv (rAdr v) ()) ⟨V.ref v, rfl, rfl⟩, hy, k⟩⟩⟩⟩
end
/-! x += e of whole numbers -/
section
variable {X : Cx} {B : Bs} {env : Env} {os : Os} {pos : Pos} {β : Type} {e : Expr} {rest : List Stmt} {post : Post β}
theorem b_augI (i : Nat) {x : Str} {pos' : Pos} {z : Int} {w : W Int} {w2 : Int → W β} {op : Operator} {g : Int → Int → Int} (hop : PIp X op (ipI g)) (hz : env[i]? = some (sv rInt z)) (he : EE X B env os e rInt w) (hr : ∀ y, BG X B (env.set i (sv rInt y)) os rest post (w2 y)) (hN : X.N.Nodup) (hi : X.N[i]? = some x := by rfl)
    (hx : Loc X.env.scope x := by first | exact Or.inl rfl | exact Or.inr rfl) (hf : X.fn x = true ∨ X.env.scope.names.lookup x = some .local := by first | exact .inl rfl | exact .inr rfl | assumption) :
    BG X B env os (.AugAssign (.Name x pos') op e pos :: rest) post (bnd w fun y => bnd (ret (g z y)) w2) :=
  PSs.imp (pss_cons (ps_aug hN hi hx he hop hf) (PSs.ex hr)) fun D σ H ⟨F, P, S, hw, k⟩ => by
  obtain ⟨ov, g1, v, g2, g3⟩ := S.env.get hz
  have g3 : v = .int z := g3
  subst g2 g3
  refine ⟨.int z, g1, F, _, S, hw, fun y hy u F' H' S' _ ok => ?_⟩
  have ok : u = .int y := ok
  subst ok
  exact ⟨z, y, rfl, rfl, g z y, F', P, S'.store ⟨_, rfl, rfl⟩, hy, k⟩
end
end Mi

namespace Mi
open PySem L2 Evl

/-! ### name = {k: v for ..} where the name is a plain local of the same line -/
section
variable {X : Cx}
theorem ps_setDc {i : Nat} {y : Str} {py : Pos} {kx vx tg iter : Expr} {ifs : List Expr} {scope : Scope} {own : List (Str × Nat)} {pos spos : Pos} {wi : TI} {g : TG} {tt : TT} {tk tv : TE} (hc : X.calm = true) (hN : X.N.Nodup) (hy : X.N[i]? = some y) (hyl : X.env.scope.names.lookup y = some .local)
    (hsw : swapsWith (.DictComp kx vx [⟨tg, iter, ifs, 0⟩] scope pos) (some (.Name y py)) spos.line X.env = pure true) (hi : PI X tg iter wi) (ok : BlkOk X.N X.env.scope scope own)
    (hg : ∀ (s : Shared) (H : Hp) (C : Addr) (cl : List (Str × Addr)) (fp : List Addr), PG (X.blk s H scope (compEnvC scope cl C X.env) fp) tg g) (ht : ∀ (s : Shared) (H : Hp) (C : Addr) (cl : List (Str × Addr)) (fp : List Addr), PTs (X.blk s H scope (compEnvC scope cl C X.env) fp) ifs tt)
    (hk : ∀ (s : Shared) (H : Hp) (C : Addr) (cl : List (Str × Addr)) (fp : List Addr), PE (X.blk s H scope (compEnvC scope cl C X.env) fp) kx tk)
    (he : ∀ (s : Shared) (H : Hp) (C : Addr) (cl : List (Str × Addr)) (fp : List Addr), PE (X.blk s H scope (compEnvC scope cl C X.env) fp) vx tv) (hs : ∀ x, foldedSetIterable iter X.env x = pure x := by intro _; rfl) :
    PS X (.Assign [.Name y py] (.DictComp kx vx [⟨tg, iter, ifs, 0⟩] scope pos) spos) (tAsg (tDc wi g tt tk tv (own.map (·.2))) (gName i)) := by
  refine ⟨fun pins s σ H D I h => ?_⟩
  rw [exec_Assign_Name_used _ _ _ _ hsw]
  refine wpAny_bind (wpAny_standAt (wpAny_bind ?_))
  show wpAny _ X.A (do let _ ← comprehension (.DictComp kx vx [⟨tg, iter, ifs, 0⟩] scope pos) scope X.env (firstIterPos [⟨tg, iter, ifs, 0⟩] pos) newDict false (eval iter X.env) (some (assign (.Name y py) X.env))) _ _ s
  have h : tDc wi g tt tk tv (own.map (·.2)) σ H (fun x H1 => gName i x σ H1 D.nx) := h
  refine wpAny_bind (thn (dc_core (Qf := fun _ s' => SP X pins D .next s') hc hN I hi ok hg ht hk he hs h fun L C s' m H' I' q hn f => ?_) fun _ s' hq => wpAny_pure (wpAny_pure hq))
  show wpAny _ _ (assign (.Name y py) X.env (.ref L)) _ _ _
  refine wpAny_assign_Name (store_ok2 (v := V.ref L) I' hN hy (.inl hyl) rfl (fun s2 I2 ⟨a, sb, ha⟩ => ?_) (.inr hyl))
  obtain ⟨f0, f1, f2, f3, f4, f5⟩ := f
  have haC : C ≠ a := by
    rcases ha with z | z
    · rw [z]; exact f1
    · exact fun e => f4 y a z e.symm
  refine ⟨m, hn.sameBut sb haC, fun h3 sb3 => ?_⟩
  exact ⟨_, H', I2.turned (t' := s2.toks) (fun b o hb e => (sb3.2 b hb).trans e) f0 f1 f3 f4 f5, q⟩
theorem sw_trueD {kx vx : Expr} {gs : List Comprehension} {scope : Scope} {pos py : Pos} {y : Str} {l : Nat} {env : PySem.Env} (hk : env.scope.kind = .function) (hy : env.scope.names.lookup y = some .local) (hl : (py.line == pos.line) = true)
    (ha : (scope.names.any fun (n, k) => n == y && (k == .local || k == .cell)) = false) : swapsWith (.DictComp kx vx gs scope pos) (some (.Name y py)) l env = pure true := by
  have ky : env.kindOf y = some .local := hy
  have hb : env.blockKind = .function := by unfold Env.blockKind; rw [hk]; rfl
  unfold swapsWith
  simp only [hb, ky, ha, Expr.pos, hl]
  rfl
end
section
variable {X : Cx} {B : Bs} {env : Env} {os : Os} {pos pos' p : Pos} {κ α β δ : Type} [DecidableEq κ] {rk : Rp κ} {kf : κ → Key} {r : Rp α} {s : Rp β} {e a : Expr} {rest : List Stmt} {post : Post δ}
theorem c_convD {i : Nat} {x : Str} {w w' : W (List (κ × β))} (h : PS X (.Assign [.Name x pos'] e pos) (tAsg (tNewD B env os rk kf s w) (gName i))) (q : w' = w) : PS X (.Assign [.Name x pos'] e pos) (tAsg (tNewD B env os rk kf s w') (gName i)) := q ▸ h
theorem b_ownCD (i : Nat) {x : Str} {w1 : W (List (κ × β))} {w2 : List (κ × β) → W δ} (c : PS X (.Assign [.Name x pos'] e pos) (tAsg (tNewD B env os rk kf s w1) (gName i))) (hr : ∀ a xs, BG X B (env.set i (sv (rAdr a) ())) ((a, oDct rk kf s xs) :: os) rest post (w2 xs)) :
    BG X B env os (.Assign [.Name x pos'] e pos :: rest) post (bnd w1 w2) :=
  PSs.imp (pss_cons c (PSs.ex fun p : Addr × List (κ × β) => hr p.1 p.2)) fun D σ H ⟨F, P, S, hw, k⟩ => ⟨F, _, S, hw, fun xs hx a F' H' S' _ => ⟨(a, xs), F', P, S'.store ⟨_, rfl, rfl⟩, hx, k⟩⟩
end
section
variable {X : Cx} {B : Bs} {env : Env} {os : Os} {pos p : Pos} {κ α β : Type} [DecidableEq κ] {rk : Rp κ} {kf : κ → Key} {r : Rp α} {s : Rp β} {kx vx tg iter test : Expr} {scope : Scope}
variable {w : W (List α)} {c : α → W Bool} {fk : α → W κ} {f : α → W β} {own : List (Str × Nat)} {g : TG} {is : List Nat} {envT : Env → α → Env}
variable (K : KeyR rk kf) (hc : X.calm = true) (hN : X.N.Nodup) (src : ES X B env os tg iter r w) (ok : BlkOk X.N X.env.scope scope own) (tgt : TgT g r is envT)
  (hg : ∀ (s : Shared) (H : Hp) (C : Addr) (cl : List (Str × Addr)) (fp : List Addr), PG (X.blk s H scope (compEnvC scope cl C X.env) fp) tg g) (his : ∀ i ∈ is, i ∈ own.map (fun p : Str × Nat => p.2))
  (ht : ∀ (s' : Shared) (H : Hp) (C : Addr) (cl : List (Str × Addr)) (fp : List Addr) (M : Hp) (D : Addr) (ys : List (κ × β)) (x : α), ET (X.blk s' H scope (compEnvC scope cl C X.env) fp) (B.at M) (envI env own envT x) ((D, oDct rk kf s ys) :: os) test (c x))
  (hk : ∀ (s' : Shared) (H : Hp) (C : Addr) (cl : List (Str × Addr)) (fp : List Addr) (M : Hp) (D : Addr) (ys : List (κ × β)) (x : α), EE (X.blk s' H scope (compEnvC scope cl C X.env) fp) (B.at M) (envI env own envT x) ((D, oDct rk kf s ys) :: os) kx rk (fk x))
  (he : ∀ (s' : Shared) (H : Hp) (C : Addr) (cl : List (Str × Addr)) (fp : List Addr) (M : Hp) (D : Addr) (ys : List (κ × β)) (x : α), EE (X.blk s' H scope (compEnvC scope cl C X.env) fp) (B.at M) (envI env own envT x) ((D, oDct rk kf s ys) :: os) vx s (f x))
include hc hN src ok tgt hg his hk he K
theorem c_dcomp {i : Nat} {y : Str} {py spos : Pos} (hy : X.N[i]? = some y) (hyl : X.env.scope.names.lookup y = some .local) (hsw : swapsWith (.DictComp kx vx [⟨tg, iter, [], 0⟩] scope pos) (some (.Name y py)) spos.line X.env = pure true)
    (hs : ∀ x, foldedSetIterable iter X.env x = pure x := by intro _; rfl) : PS X (.Assign [.Name y py] (.DictComp kx vx [⟨tg, iter, [], 0⟩] scope pos) spos) (tAsg (tNewD B env os rk kf s (bnd w fun xs => dcW (fun _ => ret true) fk f xs [])) (gName i)) := by
  have h := ps_setDc (pos := pos) (spos := spos) (py := py) hc hN hy hyl hsw src ok hg (fun _ _ _ _ _ => pts_nil) (fun s' H C cl fp => ex_tkC (hk s' H C cl fp)) (fun s' H C cl fp => ex_tkC (he s' H C cl fp)) hs
  exact ⟨fun pins s σ H D I q => h.run pins s σ H D I (dc_read (own := own) K (fun M D ys x σ H Q ⟨F, P, S, hw, k⟩ => k true hw F H S (Ex.refl F)) (fun M D ys x σ H Q h => ⟨(M, D, ys, x), h⟩) (fun M D ys x σ H Q h => ⟨(M, D, ys, x), h⟩) tgt his q)⟩
include ht
theorem c_dcompF {i : Nat} {y : Str} {py spos : Pos} (hy : X.N[i]? = some y) (hyl : X.env.scope.names.lookup y = some .local) (hsw : swapsWith (.DictComp kx vx [⟨tg, iter, [test], 0⟩] scope pos) (some (.Name y py)) spos.line X.env = pure true)
    (hs : ∀ x, foldedSetIterable iter X.env x = pure x := by intro _; rfl) : PS X (.Assign [.Name y py] (.DictComp kx vx [⟨tg, iter, [test], 0⟩] scope pos) spos) (tAsg (tNewD B env os rk kf s (bnd w fun xs => dcW c fk f xs [])) (gName i)) := by
  have h := ps_setDc (pos := pos) (spos := spos) (py := py) hc hN hy hyl hsw src ok hg (fun s' H C cl fp => pts_one (ex_ttD (ht s' H C cl fp))) (fun s' H C cl fp => ex_tkC (hk s' H C cl fp)) (fun s' H C cl fp => ex_tkC (he s' H C cl fp)) hs
  exact ⟨fun pins s σ H D I q => h.run pins s σ H D I (dc_read (own := own) K (fun M D ys x σ H Q h => ⟨(M, D, ys, x), h⟩) (fun M D ys x σ H Q h => ⟨(M, D, ys, x), h⟩) (fun M D ys x σ H Q h => ⟨(M, D, ys, x), h⟩) tgt his q)⟩
end
end Mi

namespace Mi
open PySem L2 Evl

section
variable {X : Cx} {B : Bs} {env : Env} {os : Os} {pos : Pos} {α β γ : Type} {r : Rp α} {s : Rp γ} {o e b : Expr} {rest : List Stmt} {post : Post β}
theorem pr_take {R : V → α → Prop} : ∀ {vs : List V} {xs : List α}, Paired R vs xs → ∀ n : Nat, Paired R (vs.take n) (xs.take n)
  | _, _, _, 0 => by simpa using .nil
  | _, _, .nil, n + 1 => by simpa using .nil
  | _, _, .cons h t, n + 1 => by rw [List.take_succ_cons, List.take_succ_cons]; exact .cons h (pr_take t n)
theorem pr_drop {R : V → α → Prop} : ∀ {vs : List V} {xs : List α}, Paired R vs xs → ∀ n : Nat, Paired R (vs.drop n) (xs.drop n)
  | _, _, h, 0 => h
  | _, _, .nil, n + 1 => by simpa using .nil
  | _, _, .cons h t, n + 1 => by rw [List.drop_succ_cons, List.drop_succ_cons]; exact pr_drop t n
/-! ### xs.insert(k, e), xs one's own -/
theorem b_insert (i j : Nat) {x : Str} {p1 p2 p3 : Pos} {a : Addr} {xs : List α} {w1 : W Int} {w : W α} {w2 : List α → W β} (hi : env[i]? = some (sv (rAdr a) ())) (hj : os[j]? = some (a, oLst r xs)) (hk : EE X B env os b rInt w1) (he : Int → EE X B env os e r w)
    (hr : ∀ ys, BG X B env (os.set j (a, oLst r ys)) rest post (w2 ys)) (hN : X.N[i]? = some x := by rfl)
    (hv : Vis X.env.scope x := by first | exact Or.inl rfl | exact Or.inr (Or.inl rfl) | exact Or.inr (Or.inr rfl)) (hd : (x == ("__debug__" : Str)) = false := by decide) (hcd : (x == ("__classdict__" : Str)) = false := by decide)
    (hbase : attributeBase (.Name x p1) "insert" X.env (eval (.Name x p1) X.env) = eval (.Name x p1) X.env := by rfl)
    (hfew : ((backTo p3 (starEach [b, e] X.env)).all (fun x => !x.1) && (backToKw p3 (keywordEach [] X.env)).all (fun x => x.1.isSome) && decide (([b, e] : List Expr).length + ([] : List Keyword).length + (if ([] : List Keyword).isEmpty then 0 else 1) < 30)) = true := by rfl)
    (hline : (p2.endLine == p3.line) = true := by rfl) (hs : starEach [b, e] X.env = (false, eval b X.env) :: starEach [e] X.env := by rfl) (hs2 : starEach [e] X.env = (false, eval e X.env) :: starEach [] X.env := by rfl) (hplain : (backTo p3 (starEach [e] X.env)).any (·.1) = false := by rfl)
    (hsw : swapsWith (.Call (.Attribute (.Name x p1) "insert" p2) [b, e] [] p3) none pos.line X.env = pure false := by rfl) :
    BG X B env os (.Expr (.Call (.Attribute (.Name x p1) "insert" p2) [b, e] [] p3) pos :: rest) post (bnd w1 fun k => bnd w fun y => chk (xs.length < sizeLine ∧ 0 ≤ k ∧ k < 2 ^ 63) (bnd (ret (xs.take k.toNat ++ [y] ++ xs.drop k.toNat)) w2)) :=
  PSs.imp (pss_cons (ps_expr (pe_bm PySem.F.plainAttrs_list PySem.F.slot_list_insert PySem.F.type_list_insert mt_insert (pe_var hN hv hd hcd) (pa_cons hk (pa_cons (PE.ex he) pa_nil hs2) hs) hbase hfew hline hs hplain) hsw) (PSs.ex hr)) fun D σ H ⟨F, P, S, hw, k⟩ => by
  obtain ⟨g1, g2, vs, g3, g4, g5⟩ := S.own hi hj
  refine ⟨.ref a, g1, .inl ⟨rfl, vs, SqL.of g3⟩, F, _, S, hw, fun k1 hk1 v1 F1 H1 S1 e1 ok1 => ⟨k1, F1, _, S1, hk1, fun y ⟨⟨hc, h0, h63⟩, hy⟩ v F2 H2 S2 e2 ok => ?_⟩⟩
  obtain ⟨_, g2, vs', g3', g4', g5'⟩ := S2.own hi hj
  have ev : v1 = .int k1 := ok1
  subst ev
  have hl : vs'.length < sizeLine := by rw [g5'.length]; exact hc
  refine ⟨a, vs', k1, v, rfl, rfl, g3', hl, h0, h63, _, F2, P, S2.change hj ⟨_, rfl, ?_, Paired.app (Paired.app (pr_take g5' _) (.cons ok .nil)) (pr_drop g5' _)⟩, hy, k⟩
  rw [List.length_append, List.length_append, List.length_take, List.length_drop, List.length_singleton]
  omega
/-- o.m().append(e): the new list goes -/
theorem b_appX {w1 : W (List α)} {w : W γ} {w2 : W β} {p2 p3 : Pos} (ho : EN X B env os o r w1) (he : ∀ a xs, EE X B env ((a, oLst r xs) :: os) e s w) (hr : BG X B env os rest post w2)
    (hbase : attributeBase o "append" X.env (eval o X.env) = eval o X.env := by rfl)
    (hfew : ((backTo p3 (starEach [e] X.env)).all (fun x => !x.1) && (backToKw p3 (keywordEach [] X.env)).all (fun x => x.1.isSome) && decide (([e] : List Expr).length + ([] : List Keyword).length + (if ([] : List Keyword).isEmpty then 0 else 1) < 30)) = true := by rfl)
    (hline : (p2.endLine == p3.line) = true := by rfl) (hs : starEach [e] X.env = (false, eval e X.env) :: starEach [] X.env := by rfl) (hplain : (backTo p3 (starEach [] X.env)).any (·.1) = false := by rfl)
    (hsw : swapsWith (.Call (.Attribute o "append" p2) [e] [] p3) none pos.line X.env = pure false := by rfl) :
    BG X B env os (.Expr (.Call (.Attribute o "append" p2) [e] [] p3) pos :: rest) post (bnd w1 fun xs => bnd w fun _ => chk (xs.length < sizeLine) w2) :=
  PSs.imp (pss_cons (ps_expr (pe_bm PySem.F.plainAttrs_list PySem.F.slot_list_append PySem.F.type_list_append mt_append ho (PA.ex fun q : Addr × List α => pa_cons (he q.1 q.2) pa_nil hs) hbase hfew hline hs hplain) hsw) hr) fun D σ H ⟨F, P, S, hw, k⟩ =>
  ⟨F, _, S, hw, fun xs hx a F1 H1 S1 e1 => by
    obtain ⟨g1, ⟨u, g2, vs, g3, g4, g5⟩, g6⟩ := S1.ow (a, oLst r xs) List.mem_cons_self
    subst g3
    refine ⟨.inl ⟨rfl, vs, SqL.of g2⟩, (a, xs), F1, _, S1, hx, fun y ⟨hc, hy⟩ v F2 H2 S2 e2 ok => ?_⟩
    obtain ⟨_, ⟨u, g2', vs', g3', g4', g5'⟩, _⟩ := S2.ow (a, oLst r xs) List.mem_cons_self
    subst g3'
    have hl : vs'.length < sizeLine := by rw [g5'.length]; exact hc
    refine ⟨a, vs', v, rfl, rfl, g2', hl, F2, P, ?_, hy, k⟩
    have S3 := S2.change (j := 0) (ow' := ⟨fun F o => o = .lst (vs' ++ [v]), fun _ h => h⟩) (o' := .lst (vs' ++ [v])) rfl rfl
    exact S3.sub (List.sublist_cons_self _ _)⟩
end
/-! ### x, y, z = e, [], {} -/
section
variable {X : Cx} {B : Bs} {env : Env} {os : Os} {pos : Pos} {κ α β γ δ : Type} [DecidableEq κ] {r : Rp α} {s : Rp γ} {rk : Rp κ} {kf : κ → Key} {t : Rp δ} {a b c : Expr} {rest : List Stmt} {post : Post β} {i j l : Nat} {x y z : Str} {px py pz pt pt2 : Pos} {kt k2 : Nat}
  {w1 : W α} {w2 : α → W (List γ)} {w3 : W (List (κ × δ))} {w5 : α → List γ → List (κ × δ) → W β}
abbrev tM3 (B : Bs) (env : Env) (os : Os) (r : Rp α) (s : Rp γ) (rk : Rp κ) (kf : κ → Key) (t : Rp δ) (w1 : W α) (w2 : α → W (List γ)) (w3 : W (List (κ × δ))) : TA :=
  tCons (tOf B env os r w1) (tCons (fun σ H Q => ∃ x, tNew B env os s (w2 x) σ H Q) (tCons (fun σ H Q => ∃ p : Addr × List γ, tNewD B env ((p.1, oLst s p.2) :: os) rk kf t w3 σ H Q) tNil))
theorem paM3 (ha : EE X B env os a r w1) (hb : ∀ x, EN X B env os b s (w2 x)) (hc : ∀ u xs, ED X B env ((u, oLst s xs) :: os) c rk kf t w3) (hs : starEach [a, b, c] X.env = (false, eval a X.env) :: starEach [b, c] X.env := by rfl)
    (hs2 : starEach [b, c] X.env = (false, eval b X.env) :: starEach [c] X.env := by rfl) (hs3 : starEach [c] X.env = (false, eval c X.env) :: starEach [] X.env := by rfl) : PA X [a, b, c] (tM3 B env os r s rk kf t w1 w2 w3) :=
  pa_cons ha (pa_cons (PE.ex hb) (pa_cons (PE.ex fun p : Addr × List γ => hc p.1 p.2) pa_nil hs3) hs2) hs
theorem b_ownM3 (cc : PS X (.Assign [.Tuple [.Name x px, .Name y py, .Name z pz] kt pt] (.Tuple [a, b, c] k2 pt2) pos) (tPar3 i j l (tM3 B env os r s rk kf t w1 w2 w3)))
    (hr : ∀ q u v xs ys, BG X B (((env.set i (sv r q)).set j (sv (rAdr u) ())).set l (sv (rAdr v) ())) ((v, oDct rk kf t ys) :: (u, oLst s xs) :: os) rest post (w5 q xs ys)) :
    BG X B env os (.Assign [.Tuple [.Name x px, .Name y py, .Name z pz] kt pt] (.Tuple [a, b, c] k2 pt2) pos :: rest) post (bnd w1 fun q => bnd (w2 q) fun xs => bnd w3 fun ys => w5 q xs ys) :=
  PSs.imp (pss_cons cc (PSs.ex fun p : α × (Addr × Addr) × List γ × List (κ × δ) => hr p.1 p.2.1.1 p.2.1.2 p.2.2.1 p.2.2.2)) fun D σ H ⟨F, P, S, hw, k⟩ => ⟨F, _, S, hw, fun q hq v1 F1 H1 S1 e1 ok1 => ⟨q, F1, _, S1, hq, fun xs hx u F2 H2 S2 e2 => ⟨(u, xs), F2, _, S2, hx, fun ys hy v F3 H3 S3 e3 =>
    ⟨v1, .ref u, .ref v, rfl, (q, (u, v), xs, ys), F3, P, ((S3.store (sl := sv r q) ⟨v1, rfl, r.mono (e2.trans e3) ok1⟩).store (sl := sv (rAdr u) ()) ⟨.ref u, rfl, rfl⟩).store (sl := sv (rAdr v) ()) ⟨.ref v, rfl, rfl⟩, hy, k⟩⟩⟩⟩
theorem b_ownM3T (cc : PS X (.Assign [.Tuple [.Name x px, .Name y py, .Name z pz] kt pt] (.Tuple [a, b, c] k2 pt2) pos) (tAsg (tTup (tM3 B env os r s rk kf t w1 w2 w3)) (gTup X.K 3 (gCons (gName i) (gCons (gName j) (gCons (gName l) gNil))))))
    (hr : ∀ q u v xs ys, BG X B (((env.set i (sv r q)).set j (sv (rAdr u) ())).set l (sv (rAdr v) ())) ((v, oDct rk kf t ys) :: (u, oLst s xs) :: os) rest post (w5 q xs ys)) :
    BG X B env os (.Assign [.Tuple [.Name x px, .Name y py, .Name z pz] kt pt] (.Tuple [a, b, c] k2 pt2) pos :: rest) post (bnd w1 fun q => bnd (w2 q) fun xs => bnd w3 fun ys => w5 q xs ys) :=
  PSs.imp (pss_cons cc (PSs.ex fun p : α × (Addr × Addr) × List γ × List (κ × δ) => hr p.1 p.2.1.1 p.2.1.2 p.2.2.1 p.2.2.2)) fun D σ H ⟨F, P, S, hw, k⟩ => ⟨F, _, S, hw, fun q hq v1 F1 H1 S1 e1 ok1 => ⟨q, F1, _, S1, hq, fun xs hx u F2 H2 S2 e2 => ⟨(u, xs), F2, _, S2, hx, fun ys hy v F3 H3 S3 e3 =>
    ⟨(by show 3 ≤ sizeLine; decide), fun p hp => by
      have g : Grow F3 H3 (upd F3 p (.tup [v1, V.ref u, V.ref v])) (upd H3 p (.tup [v1, V.ref u, V.ref v])) := Grow.alloc S3.fh hp
      have S4 := S3.grow g
      exact ⟨p, [v1, V.ref u, V.ref v], rfl, SqT.of upd_same, rfl, v1, [V.ref u, V.ref v], rfl, V.ref u, [V.ref v], rfl, V.ref v, [], rfl, rfl, (q, (u, v), xs, ys), _, P, ((S4.store (sl := sv r q) ⟨v1, rfl, r.mono ((e2.trans e3).trans g.f) ok1⟩).store (sl := sv (rAdr u) ()) ⟨.ref u, rfl, rfl⟩).store (sl := sv (rAdr v) ()) ⟨.ref v, rfl, rfl⟩, hy, k⟩⟩⟩⟩⟩
end
/-! ### one's own list handed in to be read only -/
def cutF (F : Hp) (a : Addr) : Hp := fun b => if b = a then none else F b
theorem cutF_ne {F : Hp} {a b : Addr} (h : b ≠ a) : cutF F a b = F b := by
  unfold cutF
  rw [if_neg h]
theorem cutF_same {F : Hp} {a : Addr} : cutF F a a = none := by
  unfold cutF
  rw [if_pos rfl]
/-- what a value is leans on no list -/
def NoL {α : Type} (r : Rp α) : Prop := ∀ {F : Hp} {a : Addr} {vs : List V} {v : V} {x : α}, F a = some (.lst vs) → r.ok F v x → r.ok (cutF F a) v x
def NoLs (s : Slot) : Prop := ∀ {F : Hp} {a : Addr} {vs : List V} {v : Option V}, F a = some (.lst vs) → s.ok F v → s.ok (cutF F a) v
theorem nol_int : NoL rInt := fun _ h => h
theorem nol_bool : NoL rBool := fun _ h => h
theorem nol_str : NoL rStr := fun _ h => h
theorem nol_dct {κ α : Type} {rk : Rp κ} {kf : κ → Key} {r : Rp α} (hk : NoL rk) (hr : NoL r) : NoL (rDct rk kf r) := fun hf ⟨q, ob, kvs, h1, h2, h3, h4⟩ =>
  ⟨q, ob, kvs, h1, by rw [cutF_ne fun z => by rw [z, hf] at h2; cases h2]; exact h2, h3, Paired.imp (fun _ _ ⟨g1, g2, g3⟩ => ⟨g1, hk hf g2, hr hf g3⟩) h4⟩
theorem nols_sv {α : Type} {r : Rp α} {x : α} (h : NoL r) : NoLs (sv r x) := fun hf ⟨v, h1, h2⟩ => ⟨v, h1, h hf h2⟩
theorem flds_cut {F : Hp} {a : Addr} {vs : List V} (hf : F a = some (.lst vs)) : ∀ {fs : List (Str × Slot)} {ws : List (Str × V)}, (∀ p ∈ fs, NoLs p.2) → Flds F fs ws → Flds (cutF F a) fs ws
  | _, _, _, .nil => .nil
  | _, _, h, .cons g t => .cons ⟨g.1, h _ List.mem_cons_self hf g.2⟩ (flds_cut hf (fun p hp => h p (List.mem_cons_of_mem _ hp)) t)
theorem nol_obj {α : Type} {C : Addr} {fl : α → List (Str × Slot)} (h : ∀ x, ∀ p ∈ fl x, NoLs p.2) : NoL (rObj C fl) := fun {F a vs v x} hf ⟨q, dx, ws, h1, h2, h3⟩ =>
  ⟨q, dx, ws, h1, by rw [cutF_ne fun z => by rw [z, hf] at h2; cases h2]; exact h2, flds_cut hf (h x) h3⟩
section
variable {X : Cx} {B : Bs} {env : Env} {os : Os} {α ρ : Type} {r : Rp α} {ro : Rp ρ} {e : Expr}
theorem e_borrow (i j : Nat) {a : Addr} {xs : List α} {w : W ρ} (hi : env[i]? = some (sv (rAdr a) ())) (hj : os[j]? = some (a, oLst r xs)) (h : ∀ (F H M : Hp) (io : List Addr), EE X { F := F, H := H, M := M, io := io, E0 := B.E0 } (env.set i (sv (rLst r) xs)) [] e ro w) (no : NoL ro) : EE X B env os e ro w := by
  have hL := PE.ex (fun q : Hp × Hp × Hp × List Addr => h q.1 q.2.1 q.2.2.1 q.2.2.2)
  refine PE.imp hL fun σ H Q ⟨F, P, S, hw, k⟩ => ?_
  obtain ⟨g1, g2, vs, g3, g4, g5⟩ := S.own hi hj
  have hF' : Ex F (upd F a (.lst vs)) := Ex.new g2
  have hFH : Ex (upd F a (.lst vs)) H := fun b u hb => by
    by_cases e : b = a
    · rw [e, upd_same] at hb
      rw [e, g3]
      exact hb
    · rw [upd_ne e] at hb
      exact S.fin.fh b u hb
  have S0 : Sit ⟨upd F a (.lst vs), H, upd F a (.lst vs), [], B.E0⟩ (upd F a (.lst vs)) H σ env [] := ⟨⟨hFH, Ex.refl _, Ex.refl _, hFH, fun b hb => (nomatch hb), fun b u h1 h2 _ => ⟨h2, h1⟩⟩, S.env.mono hF', fun p hp => (nomatch hp), List.nodup_nil⟩
  have S1 := S0.store (i := i) (sl := sv (rLst r) xs) (v := .ref a) ⟨_, rfl, a, vs, rfl, upd_same, g4, Paired.imp (fun _ _ => r.mono hF') g5⟩
  rw [set_same g1] at S1
  refine ⟨(upd F a (.lst vs), H, upd F a (.lst vs), []), upd F a (.lst vs), P, S1, hw, fun y hy v F2 H2 S2 e2 ok2 => ?_⟩
  have f2 : F2 a = some (.lst vs) := e2 _ _ upd_same
  have h2 : H2 a = some (.lst vs) := S2.fin.fh _ _ f2
  have e3 : Ex F (cutF F2 a) := fun b u hb => by
    have hne : b ≠ a := fun z => by rw [z, g2] at hb; cases hb
    rw [cutF_ne hne]
    exact e2 b u (by rw [upd_ne hne]; exact hb)
  have kp : ∀ b o, F b = none → H b = some o → b ≠ a → H2 b = some o ∧ F2 b = none := fun b o q1 q2 q3 => S2.fin.keep b o (by show upd F a _ b = none; rw [upd_ne q3]; exact q1) q2 (fun z => nomatch z)
  obtain ⟨_, _, hBa⟩ := S.ow _ (List.mem_of_getElem? hj)
  refine k y hy v (cutF F2 a) H2 ⟨⟨fun b u hb => ?_, S.fin.bf.trans e3, S.fin.mrk.trans e3, S.fin.bb, fun b hb => ?_, fun b u q1 q2 q3 => ?_⟩, S.env.mono e3, fun p hp => ?_, S.nd⟩ e3 (no f2 ok2)
  · by_cases z : b = a
    · rw [z, cutF_same] at hb
      cases hb
    · rw [cutF_ne z] at hb
      exact S2.fin.fh b u hb
  · by_cases z : b = a
    · rw [z]
      exact ⟨_, h2⟩
    · obtain ⟨u, hu⟩ := S.fin.ios b hb
      cases q : F b with
      | none => exact ⟨u, (kp b u q hu z).1⟩
      | some t => exact ⟨t, S2.fin.fh _ _ (e2 b t (by rw [upd_ne z]; exact q))⟩
  · obtain ⟨z1, z2⟩ := S.fin.keep b u q1 q2 q3
    have hne : b ≠ a := by
      rintro rfl
      rcases hBa with q | q
      · have q : B.H b = none := q
        rw [q] at q2
        cases q2
      · exact q3 q
    rw [cutF_ne hne]
    exact kp b u z2 z1 hne
  · obtain ⟨n1, ⟨o, n2, n3⟩, n4⟩ := S.ow p hp
    by_cases z : p.1 = a
    · have : o = .lst vs := by rw [z, g3] at n2; exact (Option.some.inj n2).symm
      subst this
      rw [z, cutF_same]
      exact ⟨rfl, ⟨_, h2, p.2.mono e3 n3⟩, z ▸ n4⟩
    · rw [cutF_ne z]
      obtain ⟨m1, m2⟩ := kp _ o n1 n2 z
      exact ⟨m2, ⟨o, m1, p.2.mono e3 n3⟩, n4⟩
end
/-! a name that a loop's turns give a value -/
def so {α : Type} (r : Rp α) : Option α → Slot
  | none => sa
  | some x => sv r x
section
variable {X : Cx} {B : Bs} {env : Env} {os : Os} {α β : Type} {r : Rp α} {blk : List Stmt} {post : Post β}
theorem b_some (i : Nat) {o : Option α} {w : α → W β} (hi : env[i]? = some (so r o)) (h : ∀ x, BG X B (env.set i (sv r x)) os blk post (w x)) : BG X B env os blk post (bnd (optW o) w) := by
  cases o with
  | none => exact b_conv b_never rfl
  | some x =>
    have e : env.set i (sv r x) = env := by
      refine List.ext_getElem? fun j => ?_
      rw [List.getElem?_set]
      split
      · rename_i h1
        subst h1
        have hl : i < env.length := (List.getElem?_eq_some_iff.mp hi).1
        rw [if_pos hl]
        exact hi.symm
      · rfl
    have q := h x
    rw [e] at q
    exact q
end
/-! data of any depth -/
def rDw (K : PySem.W.Frag) (n : Nat) : Rp PyData := ⟨fun F v d => Dp K F v d ∧ d.canLay0 = true ∧ d.depth ≤ n, fun e ⟨h, hc⟩ => ⟨by
  refine (show ∀ {v d}, Dp K _ v d → Dp K _ v d from ?_) h
  intro v d h
  refine Dp.rec (K := K) (H := _) (motive_1 := fun v d _ => Dp K _ v d) (motive_2 := fun vs ds _ => DpAll K _ vs ds) .non .bl .int .str (fun h1 _ ih => .lst (ex_l e h1) ih) (fun h1 _ ih => .tup (ex_t e h1) ih) .nil (fun _ _ i1 i2 => .cons i1 i2) h, hc⟩⟩
theorem dd_Dw {K : PySem.W.Frag} {n : Nat} : DD K (rDw K n) id n := ⟨fun h => h⟩
section
variable {X : Cx} {B : Bs} {env : Env} {os : Os} {pos p : Pos} {α : Type} {r : Rp α} {f : α → PyData} {n m : Nat} {e : Expr} {es : List Expr}
def tDLw (B : Bs) (env : Env) (os : Os) (K : PySem.W.Frag) (n l : Nat) (w : W (List PyData)) : TA := fun σ H Q => ∃ F P, Sit B F H σ env os ∧ w P B.E0 ∧ ∀ ds, P ds → ∀ vs F' H', Sit B F' H' σ env os → Ex F F' → Paired ((rDw K n).ok F') vs ds → vs.length = l → Q vs H'
def DLw (X : Cx) (B : Bs) (env : Env) (os : Os) (es : List Expr) (n : Nat) (w : W (List PyData)) : Prop := PA X es (tDLw B env os X.K n es.length w)
theorem dlw_nil : DLw X B env os [] n (ret []) := PA.imp pa_nil fun σ H Q ⟨F, P, S, hw, k⟩ => k [] hw [] F H S (Ex.refl F) .nil rfl
theorem dlw_cons {w1 : W α} {w2 : W (List PyData)} (d : DD X.K r f n) (h : EE X B env os e r w1) (ht : DLw X B env os es m w2) (hn : n ≤ m := by decide) (hs : starEach (e :: es) X.env = (false, eval e X.env) :: starEach es X.env := by rfl) : DLw X B env os (e :: es) m (bnd w1 fun x => bnd w2 fun xs => ret (f x :: xs)) :=
  PA.imp (pa_cons h ht hs) fun σ H Q ⟨F, P, S, hw, k⟩ => ⟨F, _, S, hw, fun x hx v F1 H1 S1 e1 ok1 => ⟨F1, _, S1, hx, fun xs hxs vs F2 H2 S2 e2 ok2 hl => k _ hxs (v :: vs) F2 H2 S2 (e1.trans e2) (.cons ((rDw X.K m).mono e2 ⟨(d.ok ok1).1, (d.ok ok1).2.1, Nat.le_trans (d.ok ok1).2.2 hn⟩) ok2) (by rw [List.length_cons, hl, List.length_cons])⟩⟩
theorem e_listW {w : W (List PyData)} (h : DLw X B env os es n w) (hz : es.length ≤ sizeLine := by decide) : EE X B env os (.List es pos) (rDw X.K (n + 1)) (bnd w fun ds => ret (PyData.list ds)) :=
  PE.imp (pe_lst h) fun σ H Q ⟨F, P, S, hw, k⟩ => ⟨F, _, S, hw, fun ds hd vs F' H' S' e' ok hl => ⟨by rw [hl]; exact hz, fun p hp => by
    have hv : vs.length ≤ sizeLine := by rw [hl]; exact hz
    obtain ⟨F2, o, e2, h1, ⟨vs', h2, h3, h4⟩, S2⟩ := (S'.newOwn (ow := oLst (rDw X.K n) ds) hp ⟨vs, rfl, hv, ok⟩).freeze
    subst h2
    have z := dd_all (dd_Dw (K := X.K) (n := n)) h4
    rw [List.map_id] at z
    obtain ⟨d1, d2, d3⟩ := z
    exact k _ hd (.ref p) F2 _ S2 (e'.trans e2) ⟨.lst (SqL.of h1) d1, by rw [PyData.canLay0]; exact d2, by rw [PyData.depth]; omega⟩⟩⟩
end
/-! a def without arguments -/
section
variable {X : Cx} {B : Bs} {env : Env} {os : Os} {pos p : Pos} {ρ : Type} {ro : Rp ρ} {k : Nat} {f : Addr} {fd : FuncData} {ps : List Str} {x : Str}
theorem e_callG0 {wf0 : Unit → W ρ} {osf : Unit → Os} (G : FnG X.prog X.w X.K X.mg X.base CX0 k f fd ps (spW (fun _ : Unit => []) osf wf0 ro)) (hgu : X.A.guards = some []) (hr : Room k X.A) (hm : X.mg x = some (.ref f)) (hk : PySem.W.keepIn X.K (.ref f) = true) (hb : Binds X.K fd ps [])
    (ho : ∀ i, OsLe os (osf i)) (hnd : ∀ i, ((osf i).map (·.1)).Nodup) (hg : Gl X x := by rfl) (hdb : (x == ("__debug__" : Str)) = false := by decide) : EE X B env os (.Call (.Name x p) [] [] pos) ro (noX (wf0 ())) := by
  refine ⟨fun pins s σ H Q I ⟨F, P, S, hw, k⟩ => ?_⟩
  refine wpAny_Call_Name_kw (ld_glob I hg hm ?_ hdb)
  refine PySem.W.callWith_K0 I.kIn hk (run_fnG (us := []) G hgu hr hb I .nil ?_)
  exact ⟨(), F, P, S.fh, .nil, fun p hp => by
    obtain ⟨h1, h2, _⟩ := S.ow p (ho () p hp)
    exact ⟨h1, h2⟩, hnd (), hw, fun y hy v F2 H2 fn ow okv => k y hy v F2 H2 (S.back (ho ()) fn ow) fn.bf okv⟩
end
end Mi

set_option exponentiation.threshold 2000
namespace Mi
open PySem L2 Evl

/-! ### plain reasoning: what is raised -/
def Thr {α : Type} (w : W α) (e : Er) : Prop := ∀ (P : α → Prop) (E : Er → Prop), E e → w P E
theorem Thr.bnd {α β : Type} {m : W α} {f : α → W β} {e : Er} (h : Thr m e) : Thr (Mi.bnd m f) e := fun P E he => h _ E he
theorem Thr.afterP {α β : Type} {m : W α} {f : α → W β} {e : Er} {J : α → Prop} (h : Ok m J) (k : ∀ x, J x → Thr (f x) e) : Thr (Mi.bnd m f) e := fun P E he => h _ E fun y hy => k y hy P E he
theorem Thr.after {α β : Type} {m : W α} {f : α → W β} {e : Er} {x : α} (h : Ok m (· = x)) (k : Thr (f x) e) : Thr (Mi.bnd m f) e := Thr.afterP h fun y hy => by rw [hy]; exact k
theorem Thr.thr {α : Type} {e : Er} : Thr (Mi.thr e : W α) e := fun P E he => he
theorem Thr.retB {α β : Type} {f : α → W β} {e : Er} {x : α} (k : Thr (f x) e) : Thr (Mi.bnd (Mi.ret x) f) e := k
theorem Thr.chk {c : Prop} {α : Type} {w : W α} {e : Er} (hc : c) (k : Thr w e) : Thr (Mi.chk c w) e := fun P E he => ⟨hc, k P E he⟩
/-- a loop: good turns, then one that raises -/
theorem Thr.forW {α S : Type} {f : S → α → W S} {e : Er} : ∀ {xs ys : List α} {y : α} {s0 : S} (inv : Nat → S → Prop), inv 0 s0 → (∀ k (hk : k < xs.length) s, inv k s → Ok (f s xs[k]) (inv (k + 1))) → (∀ s, inv xs.length s → Thr (f s y) e) → Thr (Mi.forW f s0 (xs ++ y :: ys)) e
  | [], ys, y, s0, inv, h0, h1, h2 => Thr.bnd (h2 _ h0)
  | x :: xs, ys, y, s0, inv, h0, h1, h2 => Thr.afterP (h1 0 (by simp) s0 h0) fun s hs => Thr.forW (fun k => inv (k + 1)) hs (fun k hk s hs => h1 (k + 1) (by simpa using hk) s hs) fun s hs => h2 s hs
theorem zip_at {α : Type} {ds : List α} {k : Nat} (hk : k < ds.length) : ((rangeI 0 (ds.length : Int)).zip ds)[k]'(by rw [enum_len]; exact hk) = ((k : Int), ds[k]) := by
  have h := enum_at (ds := ds) (i := k) (List.getElem?_eq_getElem (l := (rangeI 0 (ds.length : Int)).zip ds) (by rw [enum_len]; exact hk))
  obtain ⟨h1, h2⟩ := h
  rw [List.getElem?_eq_getElem hk] at h2
  exact Prod.ext h1 (Option.some.inj h2).symm
/-- for at, x in enumerate(ds) -/
theorem Ok.enum {α S : Type} {f : S → Int × α → W S} {J : S → Prop} {ds : List α} {s0 : S} (inv : Nat → S → Prop) (h0 : inv 0 s0) (h1 : ∀ k (hk : k < ds.length) s, inv k s → Ok (f s ((k : Int), ds[k])) (inv (k + 1))) (h2 : ∀ s, inv ds.length s → J s) : Ok (Mi.forW f s0 ((rangeI 0 (ds.length : Int)).zip ds)) J :=
  Ok.forW inv h0 (fun k hk s hs => by
    have hk' : k < ds.length := by rw [enum_len] at hk; exact hk
    rw [zip_at hk']
    exact h1 k hk' s hs) fun s hs => h2 s (by rw [enum_len] at hs; exact hs)
theorem Thr.enum {α S : Type} {f : S → Int × α → W S} {e : Er} {ds : List α} {s0 : S} {i : Nat} (hi : i < ds.length) (inv : Nat → S → Prop) (h0 : inv 0 s0) (h1 : ∀ k (hk : k < i) s, inv k s → Ok (f s ((k : Int), ds[k]'(by omega))) (inv (k + 1))) (h2 : ∀ s, inv i s → Thr (f s ((i : Int), ds[i])) e) :
    Thr (Mi.forW f s0 ((rangeI 0 (ds.length : Int)).zip ds)) e := by
  have hx : i < ((rangeI 0 (ds.length : Int)).zip ds).length := by rw [enum_len]; exact hi
  have e1 : (rangeI 0 (ds.length : Int)).zip ds = ((rangeI 0 (ds.length : Int)).zip ds).take i ++ ((i : Int), ds[i]) :: ((rangeI 0 (ds.length : Int)).zip ds).drop (i + 1) := by
    rw [← zip_at hi, ← List.drop_eq_getElem_cons hx, List.take_append_drop]
  have hl : (((rangeI 0 (ds.length : Int)).zip ds).take i).length = i := by rw [List.length_take]; omega
  rw [e1]
  refine Thr.forW inv h0 (fun k hk s hs => ?_) fun s hs => h2 s (by rw [hl] at hs; exact hs)
  have hk' : k < i := by rw [hl] at hk; exact hk
  rw [List.getElem_take, zip_at (by omega)]
  exact h1 k hk' s hs
theorem app_len (x y : Str) : (x ++ y).length = x.length + y.length := strLen_append x y
theorem line_ok {n : Nat} (h : n ≤ 100000) : n ≤ sizeLine := Nat.le_trans h (by decide)
/-! ### what can be shown -/
theorem join_okS (sep : Str) (hs : PyData.strOk sep = true) : ∀ (ys : List Str), (∀ y ∈ ys, PyData.strOk y = true) → PyData.strOk (Txt.join sep ys) = true := by
  have key : ∀ (ys : List Str) (acc : Array Nat), acc.all (· < 0x110000) = true → (∀ y ∈ ys, PyData.strOk y = true) → (ys.foldl (fun acc p => acc ++ sep.cps ++ p.cps) acc).all (· < 0x110000) = true := by
    intro ys
    induction ys with
    | nil => intro acc h _; exact h
    | cons y ys ih =>
      intro acc h hy
      refine ih _ ?_ fun z hz => hy z (List.mem_cons_of_mem _ hz)
      have h1 : y.cps.all (· < 0x110000) = true := hy y List.mem_cons_self
      have h2 : sep.cps.all (· < 0x110000) = true := hs
      rw [Array.all_append, Array.all_append, h, h1, h2]
      rfl
  intro ys h
  cases ys with
  | nil => exact key [] _ (by show Array.all #[] _ = true; simp) (fun _ z => by cases z)
  | cons y ys => exact key ys _ (h y List.mem_cons_self) fun z hz => h z (List.mem_cons_of_mem _ hz)
theorem shownAll_eq (ds : List PyData) : PyData.shownAll ds = ds.map PyData.shown := by
  induction ds with
  | nil => rfl
  | cons d ds ih => rw [PyData.shownAll, ih, List.map_cons]
theorem showableAll_of (ds : List PyData) (h : ∀ d ∈ ds, d.showable = true) : PyData.showableAll ds = true := by
  induction ds with
  | nil => rfl
  | cons d ds ih =>
    rw [PyData.showableAll, h d List.mem_cons_self, ih fun u hu => h u (List.mem_cons_of_mem _ hu)]
    rfl
theorem Shw.tup {ds : List PyData} {m n : Nat} (h : ∀ d ∈ ds, Shw d m) (hn : ds.length ≤ n) (h0 : ds ≠ []) : Shw (.tuple ds) (n * (m + 2) + 4) := by
  have l1 : (("(" : Str)).length = 1 := rfl
  refine ⟨by rw [PyData.showable]; exact showableAll_of ds fun d hd => (h d hd).s, ?_, ?_⟩
  · rw [PyData.shown, shownAll_eq]
    unfold tupleText
    rw [strLen_append, strLen_append]
    have j := join_length_add (ds.map PyData.shown) (by simpa using h0)
    have p := piled_le (ts := ds.map PyData.shown) (m := m) fun t ht => by
      obtain ⟨d, hd, rfl⟩ := List.mem_map.mp ht
      exact (h d hd).l
    rw [List.length_map] at p
    have q := Nat.mul_le_mul_right (m + 2) hn
    have lz : (Str.ofString (if (ds.map PyData.shown).length == 1 then ",)" else ")")).length ≤ 2 := by split <;> decide
    omega
  · rw [PyData.shown, shownAll_eq]
    unfold tupleText
    refine strOk_app (strOk_app (strOk_str _) ?_) (strOk_str _)
    rw [← StrLaws.glued_eq_join]
    exact join_okS _ (strOk_str _) _ fun t ht => by
      obtain ⟨d, hd, rfl⟩ := List.mem_map.mp ht
      exact (h d hd).o
theorem Shw.bool (b : Bool) : Shw (.bool b) 10 := by
  cases b <;> exact ⟨by decide +kernel, by decide +kernel, by decide +kernel⟩
theorem Shw.none : Shw .none 10 := ⟨by decide +kernel, by decide +kernel, by decide +kernel⟩
theorem Shw.pair {a b : PyData} {m : Nat} (h1 : Shw a m) (h2 : Shw b m) : Shw (.tuple [a, b]) (2 * (m + 2) + 4) := Shw.tup (fun d hd => by
  simp only [List.mem_cons, List.not_mem_nil, or_false] at hd
  rcases hd with rfl | rfl
  · exact h1
  · exact h2) (by simp) (by simp)
theorem Shw.nat {n : Nat} (h : n < 2 ^ 64) : Shw (.int (n : Int)) 1921 := Shw.int (Nat.lt_trans (show (n : Int).natAbs < 2 ^ 64 by omega) (Nat.pow_lt_pow_right (by decide) (by decide)))
/-! ### dicts in plain -/
section
variable {κ α : Type} [DecidableEq κ]
theorem len_nodup : ∀ {xs ys : List κ}, xs.Nodup → (∀ x ∈ xs, x ∈ ys) → xs.length ≤ ys.length
  | [], _, _, _ => Nat.zero_le _
  | x :: xs, ys, nd, h => by
    obtain ⟨n1, n2⟩ := List.nodup_cons.mp nd
    have hx := h x List.mem_cons_self
    have ih := len_nodup (xs := xs) (ys := ys.erase x) n2 fun y hy => (List.mem_erase_of_ne (show y ≠ x from fun e => n1 (by rw [← e]; exact hy))).mpr (h y (List.mem_cons_of_mem _ hy))
    have := List.length_erase_of_mem hx
    have := List.length_pos_of_mem hx
    rw [List.length_cons]
    omega
theorem any_keys (xs : List (κ × α)) (k : κ) : (xs.any fun p => decide (p.1 = k)) = decide (k ∈ xs.map (·.1)) := by
  rw [Bool.eq_iff_iff, List.any_eq_true, decide_eq_true_eq, List.mem_map]
  exact ⟨fun ⟨p, h1, h2⟩ => ⟨p, h1, of_decide_eq_true h2⟩, fun ⟨p, h1, h2⟩ => ⟨p, h1, decide_eq_true h2⟩⟩
theorem dput_new {xs : List (κ × α)} {k : κ} {v : α} (h : k ∉ xs.map (·.1)) : dput xs k v = xs ++ [(k, v)] := by
  unfold dput
  rw [any_keys, if_neg (by simpa using h)]
theorem dput_keys (xs : List (κ × α)) (k : κ) (v : α) : (dput xs k v).map (·.1) = if k ∈ xs.map (·.1) then xs.map (·.1) else xs.map (·.1) ++ [k] := by
  unfold dput
  rw [any_keys]
  by_cases h : k ∈ xs.map (·.1)
  · rw [if_pos (decide_eq_true h), if_pos h, List.map_map]
    refine List.map_congr_left fun p hp => ?_
    show (if p.1 = k then (p.1, v) else p).1 = p.1
    split <;> rfl
  · rw [if_neg (by simpa using h), if_neg h, List.map_append]
    rfl
theorem dput_nodup {xs : List (κ × α)} {k : κ} {v : α} (h : (xs.map (·.1)).Nodup) : ((dput xs k v).map (·.1)).Nodup := by
  rw [dput_keys]
  split
  · exact h
  · rename_i hk
    exact List.nodup_append.mpr ⟨h, by simp, fun a ha b hb => by
      rw [List.mem_singleton.mp hb]
      exact fun e => hk (e ▸ ha)⟩
theorem dget_dput (xs : List (κ × α)) (k j : κ) (v : α) : dget (dput xs k v) j = if j = k then some v else dget xs j := by
  unfold dput
  rw [any_keys]
  by_cases h : k ∈ xs.map (·.1)
  · rw [if_pos (decide_eq_true h)]
    induction xs with
    | nil => simp at h
    | cons p xs ih =>
      unfold dget at ih ⊢
      rw [List.map_cons, List.find?_cons, List.find?_cons]
      by_cases e : p.1 = k
      · rw [if_pos e]
        by_cases ej : j = k
        · subst ej
          simp [e]
        · rw [if_neg ej]
          have e1 : ¬ p.1 = j := fun z => ej (z.symm.trans e)
          simp only [e1, decide_false]
          have nomem : ∀ ys : List (κ × α), ((ys.map fun p => if p.1 = k then (p.1, v) else p).find? fun p => decide (p.1 = j)).map (·.2) = (ys.find? fun p => decide (p.1 = j)).map (·.2) := by
            intro ys
            induction ys with
            | nil => rfl
            | cons q ys ih2 =>
              rw [List.map_cons, List.find?_cons, List.find?_cons]
              by_cases eq : q.1 = k
              · rw [if_pos eq]
                have e2 : ¬ q.1 = j := fun z => ej (z.symm.trans eq)
                simp only [e2, decide_false]
                exact ih2
              · rw [if_neg eq]
                by_cases e2 : q.1 = j
                · simp [e2]
                · simp only [e2, decide_false]
                  exact ih2
          exact nomem xs
      · rw [if_neg e]
        have hm : k ∈ xs.map (·.1) := by
          rcases List.mem_map.mp h with ⟨q, hq, eq⟩
          rcases List.mem_cons.mp hq with z | z
          · subst z
            exact absurd eq e
          · exact List.mem_map.mpr ⟨q, z, eq⟩
        by_cases e2 : p.1 = j
        · have : ¬ j = k := fun z => e (e2.trans z)
          simp [e2, this]
        · simp only [e2, decide_false]
          exact ih hm
  · rw [if_neg (by simpa using h)]
    unfold dget
    rw [List.find?_append]
    by_cases e : j = k
    · subst e
      have : xs.find? (fun p => decide (p.1 = j)) = none := by
        rw [List.find?_eq_none]
        intro p hp
        simp only [decide_eq_true_eq]
        exact fun z => h (List.mem_map.mpr ⟨p, hp, z⟩)
      rw [this]
      simp
    · rw [if_neg e]
      have : ([(k, v)] : List (κ × α)).find? (fun p => decide (p.1 = j)) = none := by
        rw [List.find?_eq_none]
        intro p hp
        rw [List.mem_singleton.mp hp]
        simp only [decide_eq_true_eq]
        exact fun z => e z.symm
      rw [this]
      simp
theorem dget_mem {xs : List (κ × α)} {k : κ} (h : k ∈ xs.map (·.1)) : ∃ v, dget xs k = some v ∧ (k, v) ∈ xs := by
  unfold dget
  cases e : xs.find? (fun p => decide (p.1 = k)) with
  | none =>
    rw [List.find?_eq_none] at e
    obtain ⟨p, hp, ep⟩ := List.mem_map.mp h
    exact absurd (decide_eq_true ep) (by simpa using e p hp)
  | some p =>
    have h1 := List.find?_some e
    have h2 := List.mem_of_find?_eq_some e
    have h1 : p.1 = k := of_decide_eq_true h1
    exact ⟨p.2, rfl, by rw [← h1]; exact h2⟩
theorem dget_none {xs : List (κ × α)} {k : κ} (h : k ∉ xs.map (·.1)) : dget xs k = none := by
  unfold dget
  have : xs.find? (fun p => decide (p.1 = k)) = none := by
    rw [List.find?_eq_none]
    intro p hp
    simp only [decide_eq_true_eq]
    exact fun z => h (List.mem_map.mpr ⟨p, hp, z⟩)
  rw [this]
  rfl
/-- a dict comprehension over keys that are all different -/
theorem Ok.dcW {β γ : Type} [DecidableEq γ] {c : γ → W Bool} {fv : γ → W β} {p : γ → Bool} {g : γ → β} : ∀ {ks : List γ} {ys : List (γ × β)}, (ks.Nodup) → (∀ k ∈ ks, k ∉ ys.map (·.1)) → (∀ k ∈ ks, Ok (c k) (· = p k)) → (∀ k ∈ ks, p k = true → Ok (fv k) (· = g k)) →
    Ok (Mi.dcW c (fun k => Mi.ret k) fv ks ys) (· = ys ++ (ks.filter p).map fun k => (k, g k))
  | [], ys, _, _, _, _ => Ok.ret (by simp)
  | k :: ks, ys, nd, hn, hc, hf => by
    obtain ⟨n1, n2⟩ := List.nodup_cons.mp nd
    refine Ok.bndE (hc k List.mem_cons_self) ?_
    by_cases q : p k = true
    · rw [if_pos q, List.filter_cons_of_pos q]
      rw [bnd_ret]
      refine Ok.bndE (hf k List.mem_cons_self q) ?_
      rw [dput_new (hn k List.mem_cons_self)]
      refine (Ok.dcW (ks := ks) n2 (fun j hj => ?_) (fun j hj => hc j (List.mem_cons_of_mem _ hj)) fun j hj => hf j (List.mem_cons_of_mem _ hj)).mono fun x hx => ?_
      · rw [List.map_append]
        intro hm
        rcases List.mem_append.mp hm with z | z
        · exact hn j (List.mem_cons_of_mem _ hj) z
        · have : j = k := by simpa using z
          exact n1 (this ▸ hj)
      · rw [hx, List.map_cons, List.append_assoc]
        rfl
    · rw [if_neg q, List.filter_cons_of_neg q]
      exact Ok.dcW n2 (fun j hj => hn j (List.mem_cons_of_mem _ hj)) (fun j hj => hc j (List.mem_cons_of_mem _ hj)) fun j hj => hf j (List.mem_cons_of_mem _ hj)
theorem Ok.sortS {xs : List Str} {I : List Str → Prop} (h : xs.length < 64) (k : ∀ ys, ys.Perm xs → PyProof.Rows.sortedS ys = true → I ys) : Ok (Mi.sortS xs) I := fun P E hp => ⟨h, fun ys h1 h2 => hp ys (k ys h1 h2)⟩
end
/-! ### defs that many laws have -/
def whole (d : PyData) : Bool := tyInt (tyD d) && !(tyD d == "bool")
def wholeW (a_value : PyData) : W Bool :=
  bnd (bnd (ret (tyInt (tyD a_value))) fun c1 => if c1 = true then (ret (!(tyD a_value == "bool"))) else ret false) fun z => ret z
theorem whole_ok (d : PyData) : Ok (wholeW d) (· = whole d) := by
  unfold wholeW whole
  refine Ok.bndE ?_ Ok.eq
  rw [bnd_ret]
  cases tyInt (tyD d) with
  | true => rw [if_pos rfl]; exact Ok.eq
  | false => rw [if_neg (by decide)]; exact Ok.eq
def fieldW (ftb : FTab) (a_law_e : Er) : W PyData :=
  bnd (ret (decide (Str.ofString a_law_e.cls ∈ ([("InvalidForm" : Str), ("InvalidRows" : Str), ("InvalidPoly" : Str), ("InvalidTable" : Str), ("InvalidSingles" : Str), ("InvalidDeed" : Str)])))) fun b1 => if b1 = true then (bnd (excF ftb a_law_e "at") fun z => ret z) else (bnd (ret (decide (Str.ofString a_law_e.cls ∈ ([("DuplicateName" : Str), ("UnknownName" : Str), ("TooMany" : Str), ("TooDeep" : Str)])))) fun b3 => if b3 = true then (bnd (bnd (ret (decide (Str.ofString a_law_e.cls ∈ ([("DuplicateName" : Str), ("UnknownName" : Str)])))) fun c => if c = true then excF ftb a_law_e "name" else excF ftb a_law_e "most") fun z => ret z) else (bnd (ret (decide (Str.ofString a_law_e.cls ∈ ([("InvalidText" : Str), ("OtherParameters" : Str), ("NothingLeft" : Str)])))) fun b7 => if b7 = true then (bnd (ret ((fun _ => .none) (()))) fun z => ret z) else (bnd (ret (decide (Str.ofString a_law_e.cls ∈ ([("InvalidPage" : Str), ("InUse" : Str)])))) fun b8 => if b8 = true then (bnd (bnd (ret (decide (Str.ofString a_law_e.cls = ("InvalidPage" : Str)))) fun c => if c = true then excF ftb a_law_e "line" else excF ftb a_law_e "user") fun z => ret z) else (bnd (ret (decide (Str.ofString a_law_e.cls ∈ ([("Full" : Str), ("NotEnough" : Str)])))) fun b12 => if b12 = true then (bnd (bnd (ret (decide (Str.ofString a_law_e.cls = ("Full" : Str)))) fun c => if c = true then excF ftb a_law_e "limit" else excF ftb a_law_e "number") fun z => ret z) else (bnd (excF ftb a_law_e "given") fun z => ret z)))))
def gotW (ftb : FTab) (ask : W PyData) : W (Str × PyData) := tryW (bnd ask fun x => ret (("" : Str), x)) fun e => bnd (noX (fieldW ftb e)) fun x => ret (Str.ofString e.cls, x)
theorem got_thr {ftb : FTab} {w : W PyData} {e : Er} {x : PyData} (h : Thr w e) (hf : Ok (fieldW ftb e) (· = x)) : Ok (noX (gotW ftb w)) (· = (Str.ofString e.cls, x)) := by
  refine Ok.noX fun P E hp => ?_
  show Mi.bnd w (fun x => ret (("" : Str), x)) P fun e => (bnd (noX (fieldW ftb e)) fun x => ret (Str.ofString e.cls, x)) P E
  refine (Thr.bnd h) P _ ?_
  exact (Ok.bndE (Ok.noX hf) Ok.eq : Ok (bnd (noX (fieldW ftb e)) fun x => ret (Str.ofString e.cls, x)) (· = (Str.ofString e.cls, x))) P E hp
theorem got_ret {ftb : FTab} {w : W PyData} {I : PyData → Prop} (h : Ok w I) : Ok (noX (gotW ftb w)) (fun z => z.1 = ("" : Str) ∧ I z.2) := by
  refine Ok.noX fun P E hp => ?_
  show Mi.bnd w (fun x => ret (("" : Str), x)) P _
  exact h _ _ fun x hx => hp _ ⟨rfl, hx⟩
theorem got_retE {ftb : FTab} {w : W PyData} {x : PyData} (h : Ok w (· = x)) : Ok (noX (gotW ftb w)) (· = (("" : Str), x)) := (got_ret h).mono fun z ⟨h1, h2⟩ => by
  obtain ⟨z1, z2⟩ := z
  have h1 : z1 = _ := h1
  have h2 : z2 = _ := h2
  rw [h1, h2]
section
variable {ftb : FTab} {x : PyData}
theorem field_form (h : ftb.lookup "InvalidForm" = some (some ("at" : Str))) : Ok (fieldW ftb ⟨"InvalidForm", [x]⟩) (· = x) := by
  unfold fieldW
  dsimp only
  rw [bnd_ret, if_pos (decide_eq_true (by decide +kernel))]
  exact Ok.bndE (Ok.chk h Ok.eq) Ok.eq
theorem field_rows (h : ftb.lookup "InvalidRows" = some (some ("at" : Str))) : Ok (fieldW ftb ⟨"InvalidRows", [x]⟩) (· = x) := by
  unfold fieldW
  dsimp only
  rw [bnd_ret, if_pos (decide_eq_true (by decide +kernel))]
  exact Ok.bndE (Ok.chk h Ok.eq) Ok.eq
theorem field_table (h : ftb.lookup "InvalidTable" = some (some ("at" : Str))) : Ok (fieldW ftb ⟨"InvalidTable", [x]⟩) (· = x) := by
  unfold fieldW
  dsimp only
  rw [bnd_ret, if_pos (decide_eq_true (by decide +kernel))]
  exact Ok.bndE (Ok.chk h Ok.eq) Ok.eq
theorem field_singles (h : ftb.lookup "InvalidSingles" = some (some ("at" : Str))) : Ok (fieldW ftb ⟨"InvalidSingles", [x]⟩) (· = x) := by
  unfold fieldW
  dsimp only
  rw [bnd_ret, if_pos (decide_eq_true (by decide +kernel))]
  exact Ok.bndE (Ok.chk h Ok.eq) Ok.eq
theorem field_number (h : ftb.lookup "InvalidNumber" = some (some ("given" : Str))) : Ok (fieldW ftb ⟨"InvalidNumber", [x]⟩) (· = x) := by
  unfold fieldW
  dsimp only
  rw [bnd_ret, if_neg (fun z => absurd (of_decide_eq_true z) (by decide +kernel)), bnd_ret, if_neg (fun z => absurd (of_decide_eq_true z) (by decide +kernel)), bnd_ret, if_neg (fun z => absurd (of_decide_eq_true z) (by decide +kernel)), bnd_ret, if_neg (fun z => absurd (of_decide_eq_true z) (by decide +kernel)), bnd_ret, if_neg (fun z => absurd (of_decide_eq_true z) (by decide +kernel))]
  exact Ok.bndE (Ok.chk h Ok.eq) Ok.eq
theorem field_unknown (h : ftb.lookup "UnknownName" = some (some ("name" : Str))) : Ok (fieldW ftb ⟨"UnknownName", [x]⟩) (· = x) := by
  unfold fieldW
  dsimp only
  rw [bnd_ret, if_neg (fun z => absurd (of_decide_eq_true z) (by decide +kernel)), bnd_ret, if_pos (decide_eq_true (by decide +kernel)), bnd_ret, if_pos (decide_eq_true (by decide +kernel))]
  exact Ok.bndE (Ok.chk h Ok.eq) Ok.eq
theorem field_enough (h : ftb.lookup "NotEnough" = some (some ("number" : Str))) : Ok (fieldW ftb ⟨"NotEnough", [x]⟩) (· = x) := by
  unfold fieldW
  dsimp only
  rw [bnd_ret, if_neg (fun z => absurd (of_decide_eq_true z) (by decide +kernel)), bnd_ret, if_neg (fun z => absurd (of_decide_eq_true z) (by decide +kernel)), bnd_ret, if_neg (fun z => absurd (of_decide_eq_true z) (by decide +kernel)), bnd_ret, if_neg (fun z => absurd (of_decide_eq_true z) (by decide +kernel)), bnd_ret, if_pos (decide_eq_true (by decide +kernel)), bnd_ret, if_neg (fun z => absurd (of_decide_eq_true z) (by decide +kernel))]
  exact Ok.bndE (Ok.chk h Ok.eq) Ok.eq
end
/-! names -/
abbrev smallS : Str := "abcdefghijklmnopqrstuvwxyz"
def nameS (s : Str) : Bool := decide (1 ≤ s.length) && decide (s.length ≤ 6) && !decide (s ∈ (["n", "sum"] : List Str)) && s.cps.toList.all fun c => decide (c ∈ smallS.cps.toList)
def nameB : PyData → Bool
  | .str s => nameS s
  | _ => false
def nameW (a_value : PyData) : W Bool :=
  bnd (bnd (ret (!(tyD a_value == "str"))) fun c6 => if c6 = true then ret true else (bnd (bnd (bnd (lenD a_value) fun t1 => if (fun x y => decide (x ≤ y)) ((1 : Int)) t1 = true then (ret ((fun x y => decide (x ≤ y)) t1 ((6 : Int)))) else ret false) fun c3 => ret (!c3)) fun c5 => if c5 = true then ret true else (bnd (asStr a_value) fun t4 => ret (decide (t4 ∈ ((["n", "sum"] : List Str))))))) fun b8 => if b8 = true then (bnd (ret (false)) fun z => ret z) else (bnd (bnd (asStr a_value) fun t9 => bnd (mapW (fun (x10 : Str) => ret (hasS x10 (("abcdefghijklmnopqrstuvwxyz" : Str)))) (lettersW t9)) fun ys11 => ret (ys11.all id)) fun z => ret z)
theorem hasS_letter (c : Nat) (z : Str) : hasS ⟨#[c]⟩ z = decide (c ∈ z.cps.toList) := StrLaws.found_one z c
theorem name_ok {d : PyData} (h : ∀ s, d = .str s → s.length ≤ sizeLine) : Ok (nameW d) (· = nameB d) := by
  cases d with
  | str s =>
    have hs := h s rfl
    unfold nameW
    have e0 : (!(tyD (.str s) == "str")) = false := rfl
    rw [e0]
    have b : (Ok (bnd (ret false) fun c6 => if c6 = true then ret true else (bnd (bnd (bnd (lenD (.str s)) fun t1 => if (fun x y => decide (x ≤ y)) ((1 : Int)) t1 = true then (ret ((fun x y => decide (x ≤ y)) t1 ((6 : Int)))) else ret false) fun c3 => ret (!c3)) fun c5 => if c5 = true then ret true else (bnd (asStr (.str s)) fun t4 => ret (decide (t4 ∈ ((["n", "sum"] : List Str))))))) (· = !(decide (1 ≤ s.length) && decide (s.length ≤ 6) && !decide (s ∈ (["n", "sum"] : List Str))))) := by
      rw [bnd_ret, if_neg (by decide)]
      refine Ok.bndE (x := !(decide (1 ≤ s.length) && decide (s.length ≤ 6))) ?_ ?_
      · refine Ok.bndE (x := decide (1 ≤ s.length) && decide (s.length ≤ 6)) ?_ Ok.eq
        refine Ok.bndE (x := (s.length : Int)) (Ok.chk hs Ok.eq) ?_
        by_cases h1 : 1 ≤ s.length
        · have : (1 : Int) ≤ (s.length : Int) := by omega
          simp only [this, decide_true, if_true, h1, Bool.true_and]
          refine Ok.ret ?_
          rw [Bool.eq_iff_iff, decide_eq_true_eq, decide_eq_true_eq]
          omega
        · have : ¬ (1 : Int) ≤ (s.length : Int) := by omega
          simp only [this, decide_false, h1, Bool.false_and, Bool.false_eq_true, if_false]
          exact Ok.eq
      · by_cases hb : (decide (1 ≤ s.length) && decide (s.length ≤ 6)) = true
        · rw [hb]
          rw [if_neg (by decide)]
          refine Ok.bndE (x := s) (Ok.chk hs Ok.eq) (Ok.ret ?_)
          simp
        · rw [Bool.not_eq_true] at hb
          rw [hb]
          rw [if_pos (by decide)]
          exact Ok.ret (by simp)
    refine Ok.bndE b ?_
    show Ok _ (· = nameS s)
    unfold nameS
    by_cases hb : (decide (1 ≤ s.length) && decide (s.length ≤ 6) && !decide (s ∈ (["n", "sum"] : List Str))) = true
    · rw [hb]
      rw [if_neg (by decide)]
      refine Ok.bndE ?_ Ok.eq
      refine Ok.bndE (x := s) (Ok.chk hs Ok.eq) ?_
      refine Ok.bndE (Ok.map (g := fun y : Str => hasS y smallS) fun y _ => Ok.eq) (Ok.ret ?_)
      rw [Bool.true_and]
      unfold lettersW
      rw [List.map_map, List.all_map]
      refine List.all_congr rfl ?_
      intro c
      show id (hasS ⟨#[c]⟩ smallS) = _
      rw [hasS_letter]
      rfl
    · rw [Bool.not_eq_true] at hb
      rw [hb]
      rw [if_pos (by decide)]
      exact Ok.ret (by simp)
  | _ =>
    unfold nameW
    dsimp only [tyD]
    rw [bnd_ret, if_pos (by decide), bnd_ret, if_pos rfl]
    exact Ok.eq
/-! drawn names -/
abbrev lettersS : Str := "abcdefghijklmopqrstuvwxyz"
structure GName (s : Str) : Prop where
  l : s.length = 1 ∨ s.length = 2 ∨ s.length = 4 ∨ s.length = 6
  c : ∀ c ∈ s.cps.toList, c ∈ lettersS.cps.toList
theorem GName.name {s : Str} (h : GName s) : nameS s = true := by
  have hl := h.l
  unfold nameS
  have h1 : decide (1 ≤ s.length) = true := decide_eq_true (by omega)
  have h2 : decide (s.length ≤ 6) = true := decide_eq_true (by omega)
  have h3 : decide (s ∈ (["n", "sum"] : List Str)) = false := decide_eq_false fun hm => by
    simp only [List.mem_cons, List.not_mem_nil, or_false] at hm
    rcases hm with rfl | rfl
    · exact absurd (h.c 110 (by decide +kernel)) (by decide +kernel)
    · exact absurd hl (by decide +kernel)
  rw [h1, h2, h3]
  simp only [Bool.not_false, Bool.and_true, Bool.true_and, List.all_eq_true, decide_eq_true_eq]
  intro c hc
  have : ∀ c ∈ lettersS.cps.toList, c ∈ smallS.cps.toList := by decide +kernel
  exact this c (h.c c hc)
theorem GName.ok {s : Str} (h : GName s) : PyData.strOk s = true := by
  unfold PyData.strOk
  rw [← Array.all_toList, List.all_eq_true]
  intro c hc
  have : ∀ c ∈ lettersS.cps.toList, c < 0x110000 := by decide +kernel
  exact decide_eq_true (this c (h.c c hc))
theorem GName.len {s : Str} (h : GName s) : s.length ≤ 6 := by
  have := h.l
  omega
theorem GName.line {s : Str} (h : GName s) : s.length ≤ sizeLine := Nat.le_trans h.len (by decide)
def namesW_l1 (letters_1 : Str) (s6 : Str) (x5 : Int) : W Str :=
  bnd (bnd (noX (anyS letters_1)) fun r8 => catS s6 r8) fun stem_7 => ret (stem_7)
def namesW (a_law_many : Int) : W (List Str) :=
  bnd (ret (("abcdefghijklmopqrstuvwxyz" : Str))) fun letters_1 => bnd (ret (("" : Str))) fun stem_2 => bnd (bnd (noX (anyW ([(0 : Int), (0 : Int), (1 : Int), (3 : Int), (5 : Int)]))) fun r3 => rng1 r3) fun xs10 => bnd (forW (namesW_l1 letters_1) (stem_2) xs10) fun (s11 : Str) => bnd (noX (drawW (((s11.length : Int)) + ((1 : Int))))) fun at_12 => bnd (noX (drawW ((25 : Int)))) fun first_13 => bnd (bnd (rng1 a_law_many) fun l17 => mapW (fun (x18 : Int) => bnd (mulI ((7 : Int)) x18) fun t19 => bnd (modI (first_13 + t19) ((25 : Int))) fun t20 => bnd (idxS letters_1 t20) fun t21 => bnd (catS (cutS s11 none (some at_12)) t21) fun t22 => catS t22 (cutS s11 (some at_12) none)) l17) fun z => ret z
/-- a text of some length, its signs among some -/
def Of (s : Str) (n : Nat) (l : List Nat) : Prop := s.length = n ∧ ∀ c ∈ s.cps.toList, c ∈ l
theorem Of.app {s t : Str} {n m : Nat} {l : List Nat} (h : Of s n l) (k : Of t m l) : Of (s ++ t) (n + m) l := ⟨by rw [app_len, h.1, k.1], fun c hc => by
  have e : (s ++ t).cps.toList = s.cps.toList ++ t.cps.toList := by show (s.cps ++ t.cps).toList = _; simp
  rw [e] at hc
  rcases List.mem_append.mp hc with q | q
  · exact h.2 c q
  · exact k.2 c q⟩
theorem idxS_ok {x : Str} {n : Nat} (h : n < x.length) : Ok (idxS x (n : Int)) fun z => ∃ c, x.cps.toList[n]? = some c ∧ z = ⟨#[c]⟩ := by
  have hl : x.cps.toList.length = x.length := by simp [Str.length]
  obtain ⟨c, hc⟩ : ∃ c, x.cps.toList[n]? = some c := ⟨_, List.getElem?_eq_getElem (by omega)⟩
  unfold idxS
  rw [atI_nat hc]
  exact Ok.ret ⟨c, hc, rfl⟩
theorem idxS_of {x : Str} {n : Nat} (h : n < x.length) : Ok (idxS x (n : Int)) fun z => Of z 1 x.cps.toList := (idxS_ok h).mono fun z ⟨c, h1, h2⟩ => by
  subst h2
  refine ⟨rfl, fun d hd => ?_⟩
  have : d = c := by simpa using hd
  subst this
  exact List.mem_of_getElem? h1
theorem anyS_of {x : Str} (h0 : 0 < x.length) (h1 : x.length < 2 ^ 64) : Ok (anyS x) fun z => Of z 1 x.cps.toList := by
  refine Ok.bnd (Ok.noX (Ok.draw (by omega) ?_)) fun r ⟨r0, r1⟩ => ?_
  · exact Nat.lt_of_lt_of_le (log2_lt (m := 64) (show (x.length : Int).natAbs < 2 ^ 64 by omega) (by decide)) (by decide)
  · obtain ⟨n, rfl⟩ := Int.eq_ofNat_of_zero_le r0
    exact idxS_of (by omega)
theorem cut_split {s : Str} {n : Nat} {l : List Nat} (hs : Of s n l) {k : Nat} (hk : k ≤ n) (hn : n ≤ 100000) : Of (cutS s none (some (k : Int))) k l ∧ Of (cutS s (some (k : Int)) none) (n - k) l := by
  obtain ⟨h1, h2⟩ := hs
  have hl : s.cps.toList.length = n := by rw [← h1]; simp [Str.length]
  have e1 : (cutS s none (some (k : Int))).cps.toList = s.cps.toList.take k := by
    have z : ¬ ((k : Int) < 0) := by omega
    have q : min k n = k := by omega
    unfold cutS
    simp [HT.sIx, h1, hl, z, q]
  have e2 : (cutS s (some (k : Int)) none).cps.toList = s.cps.toList.drop k := by
    have z : ¬ ((k : Int) < 0) := by omega
    have q : min k n = k := by omega
    unfold cutS
    simp [HT.sIx, h1, hl, z, q]
    exact List.take_of_length_le (by rw [List.length_drop, hl]; exact Nat.le_refl _)
  refine ⟨⟨?_, fun c hc => h2 c ?_⟩, ⟨?_, fun c hc => h2 c ?_⟩⟩
  · have : (cutS s none (some (k : Int))).length = (s.cps.toList.take k).length := by rw [← e1]; simp [Str.length]
    rw [this, List.length_take, hl]
    omega
  · rw [e1] at hc
    exact List.mem_of_mem_take hc
  · have : (cutS s (some (k : Int)) none).length = (s.cps.toList.drop k).length := by rw [← e2]; simp [Str.length]
    rw [this, List.length_drop, hl]
  · rw [e2] at hc
    exact List.mem_of_mem_drop hc
theorem names_ok {k : Nat} (hk : k ≤ 100) : Ok (namesW (k : Int)) fun ns => ns.length = k ∧ ∀ n ∈ ns, GName n := by
  unfold namesW
  rw [bnd_ret, bnd_ret]
  refine Ok.bnd (J := fun xs : List Int => xs.length = 0 ∨ xs.length = 1 ∨ xs.length = 3 ∨ xs.length = 5) ?_ fun xs hxs => ?_
  · refine Ok.bnd (Ok.noX (Ok.any (I := fun r : Int => r = 0 ∨ r = 1 ∨ r = 3 ∨ r = 5) (by decide) (by decide) fun r hr => ?_)) fun r hr => ?_
    · simp only [List.mem_cons, List.not_mem_nil, or_false] at hr
      rcases hr with rfl | rfl | rfl | rfl | rfl <;> simp
    · rcases hr with rfl | rfl | rfl | rfl
      · exact (Ok.rng1 (n := 0) (by decide)).mono fun xs e => by rw [e]; simp
      · exact (Ok.rng1 (n := 1) (by decide)).mono fun xs e => by rw [e]; simp
      · exact (Ok.rng1 (n := 3) (by decide)).mono fun xs e => by rw [e]; simp
      · exact (Ok.rng1 (n := 5) (by decide)).mono fun xs e => by rw [e]; simp
  refine Ok.bnd (J := fun s : Str => Of s xs.length lettersS.cps.toList) ?_ fun s hs => ?_
  · refine Ok.forW (fun k s => Of s k lettersS.cps.toList) ⟨rfl, fun c hc => by cases (show c ∈ ([] : List Nat) from hc)⟩ (fun k hk s hs => ?_) fun s hs => hs
    unfold namesW_l1
    refine Ok.bnd (J := fun z => Of z (k + 1) lettersS.cps.toList) ?_ fun z hz => Ok.ret hz
    refine Ok.bnd (Ok.noX (anyS_of (by decide +kernel) (by decide +kernel))) fun z hz => ?_
    refine (Ok.catS (line_ok ?_)).mono fun y hy => by rw [hy]; exact hs.app hz
    have := hs.1
    have := hz.1
    omega
  have hl : s.length = xs.length := hs.1
  refine Ok.bnd (Ok.noX (Ok.draw (by omega) ?_)) fun at_ ⟨a0, a1⟩ => ?_
  · exact Nat.lt_of_lt_of_le (log2_lt (m := 64) (show ((s.length : Int) + 1).natAbs < 2 ^ 64 by omega) (by decide)) (by decide)
  obtain ⟨a, rfl⟩ := Int.eq_ofNat_of_zero_le a0
  refine Ok.bnd (Ok.noX (Ok.draw (by decide) (by decide))) fun first ⟨f0, f1⟩ => ?_
  refine Ok.bnd (J := fun ns : List Str => ns.length = k ∧ ∀ n ∈ ns, GName n) ?_ fun ns h => Ok.ret h
  refine Ok.bndE (Ok.rng1 (n := k) (by omega)) ?_
  refine (Ok.mapP (I := GName) fun x hx => ?_).mono fun ys ⟨h1, h2⟩ => ⟨by rw [h1, List.length_map, List.length_range], h2⟩
  refine Ok.bndE (Ok.mulL (by decide)) ?_
  refine Ok.bndE (Ok.mod (by decide)) ?_
  obtain ⟨q, _, rfl⟩ := List.mem_map.mp hx
  have m0 : 0 ≤ (first + 7 * (q : Int)).fmod 25 := Int.fmod_nonneg_of_pos _ (by decide)
  have m1 : (first + 7 * (q : Int)).fmod 25 < 25 := Int.fmod_lt_of_pos _ (by decide)
  obtain ⟨r, hr⟩ := Int.eq_ofNat_of_zero_le m0
  rw [hr] at m1 ⊢
  have lz : lettersS.length = 25 := by decide +kernel
  refine Ok.bnd (idxS_of (x := lettersS) (by omega)) fun z hz => ?_
  obtain ⟨c1, c2⟩ := cut_split hs (k := a) (by omega) (by omega)
  have ha : a ≤ xs.length := by omega
  refine Ok.bndE (Ok.catS (line_ok ?_)) ?_
  · rw [c1.1, hz.1]
    omega
  have c3 := c1.app hz
  refine (Ok.catS (line_ok ?_)).mono fun y hy => ?_
  · rw [c3.1, c2.1]
    omega
  · rw [hy]
    have c4 := c3.app c2
    refine ⟨?_, c4.2⟩
    rw [c4.1]
    omega
end Mi

namespace Mi
open PySem L2 Evl PyProof.Rows

/-! ### texts in order: there is one way -/
def leS (a b : Str) : Prop := a.cps.toList ≤ b.cps.toList
def leB (a b : Str) : Bool := decide (a.cps.toList ≤ b.cps.toList)
theorem leS_refl (a : Str) : leS a a := List.le_refl _
theorem leS_trans {a b c : Str} (h : leS a b) (k : leS b c) : leS a c := List.le_trans h k
theorem leS_anti {a b : Str} (h : leS a b) (k : leS b a) : a = b := by
  have e := List.le_antisymm h k
  obtain ⟨⟨a⟩⟩ := a
  obtain ⟨⟨b⟩⟩ := b
  simp only at e
  rw [e]
theorem leS_of {a b : Str} (h : (!Spec.ltCps b.cps.toList a.cps.toList) = true) : leS a b := by
  rw [ltCps_eq, Bool.not_eq_true', decide_eq_false_iff_not] at h
  exact List.not_lt.mp h
theorem rising_pw : ∀ {l : List Str} {p : Str}, risingS p l = true → (p :: l).Pairwise leS
  | [], _, _ => by simp
  | x :: r, p, h => by
    unfold risingS at h
    obtain ⟨h1, h2⟩ := Bool.and_eq_true_iff.mp h
    have ih := rising_pw h2
    have h1 := leS_of h1
    refine List.pairwise_cons.mpr ⟨fun y hy => ?_, ih⟩
    rcases List.mem_cons.mp hy with rfl | hy
    · exact h1
    · exact leS_trans h1 ((List.pairwise_cons.mp ih).1 y hy)
theorem sorted_pw {l : List Str} (h : sortedS l = true) : l.Pairwise leS := by
  cases l with
  | nil => exact List.Pairwise.nil
  | cons x r => exact rising_pw h
theorem pw_uniq {l m : List Str} (h1 : l.Pairwise leS) (h2 : m.Pairwise leS) (h : l.Perm m) : l = m := List.Perm.eq_of_pairwise (fun _ _ _ _ h k => leS_anti h k) h1 h2 h
def srt (xs : List Str) : List Str := xs.mergeSort leB
theorem srt_perm (xs : List Str) : (srt xs).Perm xs := List.mergeSort_perm xs leB
theorem srt_pw (xs : List Str) : (srt xs).Pairwise leS := by
  have := List.pairwise_mergeSort (le := leB) (fun a b c h k => by
    unfold leB at *
    exact decide_eq_true (List.le_trans (of_decide_eq_true h) (of_decide_eq_true k))) (fun a b => by
    unfold leB
    rcases List.le_total a.cps.toList b.cps.toList with h | h
    · rw [decide_eq_true h]; rfl
    · rw [decide_eq_true h, Bool.or_true]) xs
  exact this.imp fun h => of_decide_eq_true h
theorem srt_of {xs ys : List Str} (h : ys.Perm xs) (hs : sortedS ys = true) : ys = srt xs := pw_uniq (sorted_pw hs) (srt_pw xs) (h.trans (srt_perm xs).symm)
theorem srt_sorted {xs : List Str} (hs : sortedS xs = true) : srt xs = xs := (srt_of (List.Perm.refl _) hs).symm
theorem Ok.sortE {xs : List Str} (h : xs.length < 64) : Ok (Mi.sortS xs) (· = srt xs) := Ok.sortS h fun ys h1 h2 => srt_of h1 h2
theorem srt_mem {xs : List Str} {x : Str} : x ∈ srt xs ↔ x ∈ xs := (srt_perm xs).mem_iff
theorem srt_nodup {xs : List Str} (h : xs.Nodup) : (srt xs).Nodup := (srt_perm xs).nodup_iff.mpr h
/-- the names whose number is not 0, in order -/
def nzk (φ : Str → Int) (ks : List Str) : List Str := (srt ks).filter fun n => !decide (φ n = 0)
theorem nzk_mem {φ : Str → Int} {ks : List Str} {x : Str} : x ∈ nzk φ ks ↔ x ∈ ks ∧ φ x ≠ 0 := by
  unfold nzk
  rw [List.mem_filter, srt_mem]
  simp
theorem nzk_nodup {φ : Str → Int} {ks : List Str} (h : ks.Nodup) : (nzk φ ks).Nodup := (srt_nodup h).filter _
theorem nzk_eq {φ : Str → Int} {ks js : List Str} (h1 : ks.Nodup) (h2 : js.Nodup) (h : ∀ n, φ n ≠ 0 → (n ∈ ks ↔ n ∈ js)) : nzk φ ks = nzk φ js := by
  refine pw_uniq ((srt_pw ks).filter _) ((srt_pw js).filter _) ((List.perm_ext_iff_of_nodup (nzk_nodup h1) (nzk_nodup h2)).mpr fun n => ?_)
  show n ∈ nzk φ ks ↔ n ∈ nzk φ js
  rw [nzk_mem, nzk_mem]
  exact ⟨fun ⟨a, b⟩ => ⟨(h n b).mp a, b⟩, fun ⟨a, b⟩ => ⟨(h n b).mpr a, b⟩⟩
theorem nzk_len {φ : Str → Int} {ks : List Str} : (nzk φ ks).length ≤ ks.length := by
  unfold nzk
  refine Nat.le_trans (List.length_filter_le _ _) ?_
  rw [(srt_perm ks).length_eq]
  exact Nat.le_refl _
theorem nzk_congr {φ ψ : Str → Int} {ks : List Str} (h : ∀ n, φ n = ψ n) : nzk φ ks = nzk ψ ks := by rw [funext h]
/-! ### sums -/
theorem perm_sum {l m : List Int} (h : l.Perm m) : l.sum = m.sum := by
  induction h with
  | nil => rfl
  | cons x _ ih => rw [List.sum_cons, List.sum_cons, ih]
  | swap x y l => simp only [List.sum_cons]; omega
  | trans _ _ ih1 ih2 => exact ih1.trans ih2
section
variable {α : Type}
theorem sum_filter {p : α → Bool} {f : α → Int} : ∀ {l : List α}, (∀ x ∈ l, p x = false → f x = 0) → ((l.filter p).map f).sum = (l.map f).sum
  | [], _ => rfl
  | x :: l, h => by
    have ih := sum_filter (l := l) fun y hy => h y (List.mem_cons_of_mem _ hy)
    cases q : p x with
    | true => rw [List.filter_cons_of_pos q, List.map_cons, List.map_cons, List.sum_cons, List.sum_cons, ih]
    | false =>
      rw [List.filter_cons_of_neg (by rw [q]; decide), List.map_cons, List.sum_cons, ih, h x List.mem_cons_self q]
      omega
theorem sum_add {f g : α → Int} : ∀ {l : List α}, (l.map fun x => f x + g x).sum = (l.map f).sum + (l.map g).sum
  | [] => rfl
  | x :: l => by
    simp only [List.map_cons, List.sum_cons]
    rw [sum_add (l := l)]
    omega
theorem sum_mul {f : α → Int} {k : Int} : ∀ {l : List α}, (l.map fun x => f x * k).sum = (l.map f).sum * k
  | [] => by simp
  | x :: l => by
    simp only [List.map_cons, List.sum_cons]
    rw [sum_mul (l := l), Int.add_mul]
theorem sum_congr {f g : α → Int} {l : List α} (h : ∀ x ∈ l, f x = g x) : (l.map f).sum = (l.map g).sum := by rw [List.map_congr_left h]
theorem sum_zero {f : α → Int} : ∀ {l : List α}, (∀ x ∈ l, f x = 0) → (l.map f).sum = 0
  | [], _ => rfl
  | x :: l, h => by
    rw [List.map_cons, List.sum_cons, h x List.mem_cons_self, sum_zero fun y hy => h y (List.mem_cons_of_mem _ hy)]
    rfl
theorem sum_bound {f : α → Int} {b : Nat} : ∀ {l : List α}, (∀ x ∈ l, (f x).natAbs ≤ b) → (l.map f).sum.natAbs ≤ l.length * b
  | [], _ => by simp
  | x :: l, h => by
    have h1 := h x List.mem_cons_self
    have h2 := sum_bound (l := l) fun y hy => h y (List.mem_cons_of_mem _ hy)
    rw [List.map_cons, List.sum_cons, List.length_cons, Nat.succ_mul]
    have := Int.natAbs_add_le (f x) (l.map f).sum
    omega
/-- only one name's number counts -/
theorem sum_one [DecidableEq α] {f : α → Int} {a : α} : ∀ {l : List α}, l.Nodup → a ∈ l → (l.map fun x => if x = a then f x else 0).sum = f a
  | x :: l, nd, h => by
    obtain ⟨n1, n2⟩ := List.nodup_cons.mp nd
    rw [List.map_cons, List.sum_cons]
    by_cases e : x = a
    · rw [if_pos e, sum_zero fun y hy => if_neg fun z => n1 (by rw [e, ← z]; exact hy), e]
      omega
    · rw [if_neg e, sum_one n2 ((List.mem_cons.mp h).resolve_left fun z => e z.symm)]
      omega
end
theorem nzk_sum {φ g : Str → Int} {ks js : List Str} (h1 : ks.Nodup) (h2 : js.Nodup) (h : ∀ n, φ n ≠ 0 → (n ∈ ks ↔ n ∈ js)) : ((nzk φ ks).map fun n => φ n * g n).sum = (js.map fun n => φ n * g n).sum := by
  rw [nzk_eq h1 h2 h]
  unfold nzk
  rw [sum_filter fun n _ q => ?_]
  · exact perm_sum ((srt_perm js).map _)
  · have : φ n = 0 := by simpa using q
    rw [this, Int.zero_mul]
/-! ### a dict of numbers as a function -/
def cf (d : List (Str × Int)) (n : Str) : Int := (dget d n).getD 0
theorem cf_in {d : List (Str × Int)} {n : Str} (h : n ∈ d.map (·.1)) : dget d n = some (cf d n) := by
  obtain ⟨v, h1, _⟩ := dget_mem h
  unfold cf
  rw [h1]
  rfl
theorem cf_out {d : List (Str × Int)} {n : Str} (h : n ∉ d.map (·.1)) : cf d n = 0 := by
  unfold cf
  rw [dget_none h]
  rfl
theorem cf_sup {d : List (Str × Int)} {n : Str} (h : cf d n ≠ 0) : n ∈ d.map (·.1) := Decidable.byContradiction fun q => h (cf_out q)
theorem cf_put {d : List (Str × Int)} {n m : Str} {v : Int} : cf (dput d n v) m = if m = n then v else cf d m := by
  unfold cf
  rw [dget_dput]
  split <;> rfl
theorem dget_map {φ : Str → Int} {ks : List Str} {n : Str} : dget (ks.map fun k => (k, φ k)) n = if n ∈ ks then some (φ n) else none := by
  induction ks with
  | nil => rfl
  | cons k ks ih =>
    rw [List.map_cons]
    unfold dget at ih ⊢
    rw [List.find?_cons]
    by_cases e : k = n
    · subst e
      simp
    · rw [decide_eq_false e]
      simp only
      rw [ih]
      have : (n ∈ k :: ks) ↔ n ∈ ks := ⟨fun h => (List.mem_cons.mp h).resolve_left fun z => e z.symm, List.mem_cons_of_mem _⟩
      simp only [this]
theorem keys_map {φ : Str → Int} {ks : List Str} : (ks.map fun k => (k, φ k)).map (·.1) = ks := by
  rw [List.map_map]
  exact List.map_id' _
theorem cf_map {φ : Str → Int} {ks : List Str} {n : Str} : cf (ks.map fun k => (k, φ k)) n = if n ∈ ks then φ n else 0 := by
  unfold cf
  rw [dget_map]
  split <;> rfl
def canT (U : List Str) (φ : Str → Int) : List (Str × Int) := (nzk φ U).map fun n => (n, φ n)
theorem cf_can {U : List Str} {φ : Str → Int} (sp : ∀ n, φ n ≠ 0 → n ∈ U) (n : Str) : cf (canT U φ) n = φ n := by
  unfold canT
  rw [cf_map]
  split
  · rfl
  · rename_i h
    by_cases q : φ n = 0
    · exact q.symm
    · exact absurd (nzk_mem.mpr ⟨sp n q, q⟩) h
/-- a dict comprehension over a dict's numbers -/
theorem can_ok {U : List Str} {φ : Str → Int} {d : List (Str × Int)} (ndU : U.Nodup) (nd : (d.map (·.1)).Nodup) (hl : d.length < 64) (hcf : ∀ n, cf d n = φ n) (sp : ∀ n, φ n ≠ 0 → n ∈ U) :
    Ok (bnd (sortS (d.map (·.1))) fun t5 => dcW (fun (x6 : Str) => bnd (optW (dget d x6)) fun t9 => ret (!decide (t9 = (0 : Int)))) (fun (x6 : Str) => ret (x6)) (fun (x6 : Str) => optW (dget d x6)) t5 []) (· = canT U φ) := by
  refine Ok.bndE (Ok.sortE (by rw [List.length_map]; exact hl)) ?_
  have hm : ∀ k ∈ srt (d.map (·.1)), dget d k = some (φ k) := fun k hk => by rw [cf_in (srt_mem.mp hk), hcf]
  refine (Ok.dcW (p := fun n => !decide (φ n = 0)) (g := φ) (srt_nodup nd) (fun k hk => by simp) (fun k hk => ?_) fun k hk _ => ?_).mono fun x hx => ?_
  · rw [hm k hk]
    exact Ok.bndE (x := φ k) Ok.eq Ok.eq
  · rw [hm k hk]
    exact Ok.eq
  · rw [hx, List.nil_append]
    show (nzk φ (d.map (·.1))).map _ = canT U φ
    unfold canT
    rw [nzk_eq nd ndU fun n hn => ⟨fun _ => sp n hn, fun _ => cf_sup (by rw [hcf]; exact hn)⟩]
end Mi

local macro_rules | `(tactic| walk_at "wn") => `(tactic| first | with_reducible rfl | simp only [Mi.wn_bb, Mi.wn_br, Mi.wn_rb])
local macro_rules | `(tactic| walk_at "lev") => `(tactic| first | decide | exact Nat.le_refl _ | exact Nat.le_trans (by decide) (Nat.le_add_right _ _))
local macro_rules | `(tactic| walk_at "loc") => `(tactic| first | exact Or.inl rfl | exact Or.inr rfl)
namespace K03
open PySem L2 Evl Mi
def topS (i : Nat) : Stmt := PySem.Challenge.pw_anydial_k03_forms_told.main.body.getD i (.Pass ⟨0, 0, 0, 0⟩)
abbrev s_is_whole : Stmt := topS 12
abbrev N_is_whole : List Str := ["value"]
theorem sc_is_whole : FnScope N_is_whole ["value"] (defScope s_is_whole) := ⟨rfl, rfl, rfl, by decide +kernel, rfl, by decide +kernel, by decide +kernel⟩
abbrev s_is_name : Stmt := topS 13
abbrev N_is_name : List Str := ["value", "sign"]
theorem sc_is_name : FnScope N_is_name ["value"] (defScope s_is_name) := ⟨rfl, rfl, rfl, by decide +kernel, rfl, by decide +kernel, by decide +kernel⟩
abbrev s_is_term : Stmt := topS 15
abbrev N_is_term : List Str := ["value"]
theorem sc_is_term : FnScope N_is_term ["value"] (defScope s_is_term) := ⟨rfl, rfl, rfl, by decide +kernel, rfl, by decide +kernel, by decide +kernel⟩
abbrev s_gathered_terms : Stmt := topS 17
abbrev N_gathered_terms : List Str := ["terms", "found", "at", "term"]
theorem sc_gathered_terms : FnScope N_gathered_terms ["terms"] (defScope s_gathered_terms) := ⟨rfl, rfl, rfl, by decide +kernel, rfl, by decide +kernel, by decide +kernel⟩
abbrev s_Form_init : Stmt := inClass (topS 16) 0
abbrev N_Form_init : List Str := ["self", "terms", "constant", "known", "name"]
theorem sc_Form_init : FnScope N_Form_init ["self", "terms", "constant"] (defScope s_Form_init) := ⟨rfl, rfl, rfl, by decide +kernel, rfl, by decide +kernel, by decide +kernel⟩
abbrev s_Form_of : Stmt := inClass (topS 16) 1
abbrev N_Form_of : List Str := ["name"]
theorem sc_Form_of : FnScope N_Form_of ["name"] (defScope s_Form_of) := ⟨rfl, rfl, rfl, by decide +kernel, rfl, by decide +kernel, by decide +kernel⟩
abbrev s_Form_constant : Stmt := inClass (topS 16) 2
abbrev N_Form_constant : List Str := ["self"]
theorem sc_Form_constant : FnScope N_Form_constant ["self"] (defScope s_Form_constant) := ⟨rfl, rfl, rfl, by decide +kernel, rfl, by decide +kernel, by decide +kernel⟩
abbrev s_Form_terms : Stmt := inClass (topS 16) 3
abbrev N_Form_terms : List Str := ["self", "name"]
theorem sc_Form_terms : FnScope N_Form_terms ["self"] (defScope s_Form_terms) := ⟨rfl, rfl, rfl, by decide +kernel, rfl, by decide +kernel, by decide +kernel⟩
abbrev s_Form_names : Stmt := inClass (topS 16) 4
abbrev N_Form_names : List Str := ["self"]
theorem sc_Form_names : FnScope N_Form_names ["self"] (defScope s_Form_names) := ⟨rfl, rfl, rfl, by decide +kernel, rfl, by decide +kernel, by decide +kernel⟩
abbrev s_Form_coef : Stmt := inClass (topS 16) 5
abbrev N_Form_coef : List Str := ["self", "name"]
theorem sc_Form_coef : FnScope N_Form_coef ["self", "name"] (defScope s_Form_coef) := ⟨rfl, rfl, rfl, by decide +kernel, rfl, by decide +kernel, by decide +kernel⟩
abbrev s_Form_value : Stmt := inClass (topS 16) 6
abbrev N_Form_value : List Str := ["self", "places", "found", "name"]
theorem sc_Form_value : FnScope N_Form_value ["self", "places"] (defScope s_Form_value) := ⟨rfl, rfl, rfl, by decide +kernel, rfl, by decide +kernel, by decide +kernel⟩
abbrev s_joined : Stmt := topS 18
abbrev N_joined : List Str := ["text", "coef", "word"]
theorem sc_joined : FnScope N_joined ["text", "coef", "word"] (defScope s_joined) := ⟨rfl, rfl, rfl, by decide +kernel, rfl, by decide +kernel, by decide +kernel⟩
abbrev s_Form_text : Stmt := inClass (topS 16) 8
abbrev N_Form_text : List Str := ["self", "found", "name", "coef", "word"]
theorem sc_Form_text : FnScope N_Form_text ["self"] (defScope s_Form_text) := ⟨rfl, rfl, rfl, by decide +kernel, rfl, by decide +kernel, by decide +kernel⟩
abbrev s_Form_eq : Stmt := inClass (topS 16) 14
abbrev N_Form_eq : List Str := ["self", "other"]
theorem sc_Form_eq : FnScope N_Form_eq ["self", "other"] (defScope s_Form_eq) := ⟨rfl, rfl, rfl, by decide +kernel, rfl, by decide +kernel, by decide +kernel⟩
abbrev s_Form_repr : Stmt := inClass (topS 16) 15
abbrev N_Form_repr : List Str := ["self"]
theorem sc_Form_repr : FnScope N_Form_repr ["self"] (defScope s_Form_repr) := ⟨rfl, rfl, rfl, by decide +kernel, rfl, by decide +kernel, by decide +kernel⟩
abbrev s_law_bag : Stmt := topS 20
abbrev N_law_bag : List Str := ["_law_script", "_law_mark", "_law_cell"]
theorem sc_law_bag : FnScope N_law_bag ["_law_script"] (defScope s_law_bag) := ⟨rfl, rfl, rfl, by decide +kernel, rfl, by decide +kernel, by decide +kernel⟩
abbrev s_law_draw : Stmt := topS 21
abbrev N_law_draw : List Str := ["_law_bag_here", "_law_most", "_law_cell", "_law_digit", "_law_base", "_law_late"]
theorem sc_law_draw : FnScope N_law_draw ["_law_bag_here", "_law_most"] (defScope s_law_draw) := ⟨rfl, rfl, rfl, by decide +kernel, rfl, by decide +kernel, by decide +kernel⟩
abbrev s_law_any : Stmt := topS 22
abbrev N_law_any : List Str := ["_law_bag_here", "_law_some"]
theorem sc_law_any : FnScope N_law_any ["_law_bag_here", "_law_some"] (defScope s_law_any) := ⟨rfl, rfl, rfl, by decide +kernel, rfl, by decide +kernel, by decide +kernel⟩
abbrev s_law_mixed : Stmt := topS 23
abbrev N_law_mixed : List Str := ["_law_bag_here", "_law_things", "_law_found", "_law_thing"]
theorem sc_law_mixed : FnScope N_law_mixed ["_law_bag_here", "_law_things"] (defScope s_law_mixed) := ⟨rfl, rfl, rfl, by decide +kernel, rfl, by decide +kernel, by decide +kernel⟩
abbrev s_law_same : Stmt := topS 24
abbrev N_law_same : List Str := ["_law_found", "_law_due"]
theorem sc_law_same : FnScope N_law_same ["_law_found", "_law_due"] (defScope s_law_same) := ⟨rfl, rfl, rfl, by decide +kernel, rfl, by decide +kernel, by decide +kernel⟩
abbrev s_law_field : Stmt := topS 25
abbrev N_law_field : List Str := ["_law_e"]
theorem sc_law_field : FnScope N_law_field ["_law_e"] (defScope s_law_field) := ⟨rfl, rfl, rfl, by decide +kernel, rfl, by decide +kernel, by decide +kernel⟩
abbrev s_law_got : Stmt := topS 26
abbrev N_law_got : List Str := ["_law_ask", "_law_e"]
theorem sc_law_got : FnScope N_law_got ["_law_ask"] (defScope s_law_got) := ⟨rfl, rfl, rfl, by decide +kernel, rfl, by decide +kernel, by decide +kernel⟩
abbrev s_law_odd : Stmt := topS 27
abbrev N_law_odd : List Str := ["_law_bag_here", "_law_more"]
theorem sc_law_odd : FnScope N_law_odd ["_law_bag_here", "_law_more"] (defScope s_law_odd) := ⟨rfl, rfl, rfl, by decide +kernel, rfl, by decide +kernel, by decide +kernel⟩
abbrev s_law_names : Stmt := topS 28
abbrev N_law_names : List Str := ["_law_bag_here", "_law_many", "_law_letters", "_law_stem", "_law_k", "_law_at", "_law_first"]
theorem sc_law_names : FnScope N_law_names ["_law_bag_here", "_law_many"] (defScope s_law_names) := ⟨rfl, rfl, rfl, by decide +kernel, rfl, by decide +kernel, by decide +kernel⟩
abbrev s_law_made_form : Stmt := topS 29
abbrev N_law_made_form : List Str := ["_law_form", "_law_name"]
theorem sc_law_made_form : FnScope N_law_made_form ["_law_form"] (defScope s_law_made_form) := ⟨rfl, rfl, rfl, by decide +kernel, rfl, by decide +kernel, by decide +kernel⟩
abbrev s_law_terms : Stmt := topS 30
abbrev N_law_terms : List Str := ["_law_form", "_law_name"]
theorem sc_law_terms : FnScope N_law_terms ["_law_form"] (defScope s_law_terms) := ⟨rfl, rfl, rfl, by decide +kernel, rfl, by decide +kernel, by decide +kernel⟩
abbrev s_law_told_form : Stmt := topS 31
abbrev N_law_told_form : List Str := ["_law_made"]
theorem sc_law_told_form : FnScope N_law_told_form ["_law_made"] (defScope s_law_told_form) := ⟨rfl, rfl, rfl, by decide +kernel, rfl, by decide +kernel, by decide +kernel⟩
abbrev s_law_plain_form : Stmt := topS 32
abbrev N_law_plain_form : List Str := ["_law_form"]
theorem sc_law_plain_form : FnScope N_law_plain_form ["_law_form"] (defScope s_law_plain_form) := ⟨rfl, rfl, rfl, by decide +kernel, rfl, by decide +kernel, by decide +kernel⟩
abbrev s_law_form_text : Stmt := topS 33
abbrev N_law_form_text : List Str := ["_law_form", "_law_found", "_law_coef", "_law_name", "_law_word"]
theorem sc_law_form_text : FnScope N_law_form_text ["_law_form"] (defScope s_law_form_text) := ⟨rfl, rfl, rfl, by decide +kernel, rfl, by decide +kernel, by decide +kernel⟩
abbrev s_law_lengths_so : Stmt := topS 34
abbrev N_law_lengths_so : List Str := ["_law_made", "_law_found"]
theorem sc_law_lengths_so : FnScope N_law_lengths_so [] (defScope s_law_lengths_so) := ⟨rfl, rfl, rfl, by decide +kernel, rfl, by decide +kernel, by decide +kernel⟩
abbrev s_law : Stmt := topS 35
abbrev N_law : List Str := ["_law_script", "_law_bag_here", "_law_turn", "_law_names_here", "_law_rows", "_law_due", "_law_k", "_law_name", "_law_coef", "_law_constant_z", "_law_handed", "_law_made", "_law_form", "_law_again", "_law_late", "_law_told", "_law_terms_z", "_law_text_z", "_law_odd_here", "_law_other"]
theorem sc_law : FnScope N_law ["_law_script"] (defScope s_law) := ⟨rfl, rfl, rfl, by decide +kernel, rfl, by decide +kernel, by decide +kernel⟩
/-- where the defs stand -/
structure Ad where
  f_is_whole : Addr
  d_is_whole : FuncData
  f_is_name : Addr
  d_is_name : FuncData
  f_is_term : Addr
  d_is_term : FuncData
  f_gathered_terms : Addr
  d_gathered_terms : FuncData
  f_Form_init : Addr
  d_Form_init : FuncData
  f_Form_of : Addr
  d_Form_of : FuncData
  f_Form_constant : Addr
  d_Form_constant : FuncData
  f_Form_terms : Addr
  d_Form_terms : FuncData
  f_Form_names : Addr
  d_Form_names : FuncData
  f_Form_coef : Addr
  d_Form_coef : FuncData
  f_Form_value : Addr
  d_Form_value : FuncData
  f_joined : Addr
  d_joined : FuncData
  f_Form_text : Addr
  d_Form_text : FuncData
  f_Form_eq : Addr
  d_Form_eq : FuncData
  f_Form_repr : Addr
  d_Form_repr : FuncData
  f_law_bag : Addr
  d_law_bag : FuncData
  f_law_draw : Addr
  d_law_draw : FuncData
  f_law_any : Addr
  d_law_any : FuncData
  f_law_mixed : Addr
  d_law_mixed : FuncData
  f_law_same : Addr
  d_law_same : FuncData
  f_law_field : Addr
  d_law_field : FuncData
  f_law_got : Addr
  d_law_got : FuncData
  f_law_odd : Addr
  d_law_odd : FuncData
  f_law_names : Addr
  d_law_names : FuncData
  f_law_made_form : Addr
  d_law_made_form : FuncData
  f_law_terms : Addr
  d_law_terms : FuncData
  f_law_told_form : Addr
  d_law_told_form : FuncData
  f_law_plain_form : Addr
  d_law_plain_form : FuncData
  f_law_form_text : Addr
  d_law_form_text : FuncData
  f_law_lengths_so : Addr
  d_law_lengths_so : FuncData
  f_law : Addr
  d_law : FuncData
  c_Form : Addr
  p_Form_constant : Addr
  c_DialError : Addr
  c_InvalidForm : Addr
  c_InvalidNumber : Addr
  c_Missing : Addr
  c_UnknownName : Addr
  fx_InvalidForm : Addr
  cc_InvalidForm : Addr
  kx_InvalidForm : Addr
  d_xInvalidForm : FuncData
  fx_InvalidNumber : Addr
  cc_InvalidNumber : Addr
  kx_InvalidNumber : Addr
  d_xInvalidNumber : FuncData
  fx_UnknownName : Addr
  cc_UnknownName : Addr
  kx_UnknownName : Addr
  d_xUnknownName : FuncData
  p_Form_of : Addr
  g_WORDS : Addr
  e_Form_init_0 : Addr
abbrev tbl (ad : Ad) : ETab := [("InvalidForm", ad.c_InvalidForm, some "at"), ("InvalidNumber", ad.c_InvalidNumber, some "given"), ("UnknownName", ad.c_UnknownName, some "name")]
abbrev ftb : FTab := [("InvalidForm", some "at"), ("InvalidNumber", some "given"), ("UnknownName", some "name")]
abbrev sx_InvalidForm : Stmt := inClass (topS 5) 0
abbrev nf_InvalidForm (ad : Ad) : NdefX.NF := { name := "__init__", qual := "InvalidForm.__init__", params := defArgs sx_InvalidForm, body := defBody sx_InvalidForm, scope := defScope sx_InvalidForm, cl := [("__class__", ad.cc_InvalidForm)], c := ad.kx_InvalidForm }
theorem ns_InvalidForm : NdefX.NScope ["self", "at", "__class__"] ["self", "at"] ["__class__"] (defScope sx_InvalidForm) := NdefX.nscope_by (by decide +kernel)
theorem sa_InvalidForm : (defScope sx_InvalidForm).names.lookup ("super" : Str) = some .globalImplicit := by decide +kernel
theorem sb_InvalidForm : (defScope sx_InvalidForm).names.lookup ("__class__" : Str) = some .free := by decide +kernel
abbrev sx_InvalidNumber : Stmt := inClass (topS 4) 0
abbrev nf_InvalidNumber (ad : Ad) : NdefX.NF := { name := "__init__", qual := "InvalidNumber.__init__", params := defArgs sx_InvalidNumber, body := defBody sx_InvalidNumber, scope := defScope sx_InvalidNumber, cl := [("__class__", ad.cc_InvalidNumber)], c := ad.kx_InvalidNumber }
theorem ns_InvalidNumber : NdefX.NScope ["self", "given", "__class__"] ["self", "given"] ["__class__"] (defScope sx_InvalidNumber) := NdefX.nscope_by (by decide +kernel)
theorem sa_InvalidNumber : (defScope sx_InvalidNumber).names.lookup ("super" : Str) = some .globalImplicit := by decide +kernel
theorem sb_InvalidNumber : (defScope sx_InvalidNumber).names.lookup ("__class__" : Str) = some .free := by decide +kernel
abbrev sx_UnknownName : Stmt := inClass (topS 6) 0
abbrev nf_UnknownName (ad : Ad) : NdefX.NF := { name := "__init__", qual := "UnknownName.__init__", params := defArgs sx_UnknownName, body := defBody sx_UnknownName, scope := defScope sx_UnknownName, cl := [("__class__", ad.cc_UnknownName)], c := ad.kx_UnknownName }
theorem ns_UnknownName : NdefX.NScope ["self", "name", "__class__"] ["self", "name"] ["__class__"] (defScope sx_UnknownName) := NdefX.nscope_by (by decide +kernel)
theorem sa_UnknownName : (defScope sx_UnknownName).names.lookup ("super" : Str) = some .globalImplicit := by decide +kernel
theorem sb_UnknownName : (defScope sx_UnknownName).names.lookup ("__class__" : Str) = some .free := by decide +kernel
structure Form_ where
  own_terms : (List (Str × Int))
  own_constant : Int
abbrev fl_Form (K : PySem.W.Frag) (ad : Ad) (x : Form_) : List (Str × Slot) := [("own_terms", sv (rDct rStr Sum.inr rInt) x.own_terms), ("own_constant", sv rInt x.own_constant)]
structure Txt (P : Program) (K : PySem.W.Frag) (mg : Str → Option Value) (ad : Ad) : Prop where
  b_abs : mg "abs" = none
  b_all : mg "all" = none
  b_bool : mg "bool" = none
  b_dict : mg "dict" = none
  b_enumerate : mg "enumerate" = none
  b_int : mg "int" = none
  b_isinstance : mg "isinstance" = none
  b_len : mg "len" = none
  b_list : mg "list" = none
  b_range : mg "range" = none
  b_repr : mg "repr" = none
  b_sorted : mg "sorted" = none
  b_str : mg "str" = none
  b_super : mg "super" = none
  b_tuple : mg "tuple" = none
  m_is_whole : mg "is_whole" = some (.ref ad.f_is_whole)
  F_is_whole : Fun K "is_whole" "is_whole" s_is_whole ad.f_is_whole ad.d_is_whole
  bd_is_whole : Binds K ad.d_is_whole ["value"] []
  m_is_name : mg "is_name" = some (.ref ad.f_is_name)
  F_is_name : Fun K "is_name" "is_name" s_is_name ad.f_is_name ad.d_is_name
  bd_is_name : Binds K ad.d_is_name ["value"] []
  m_is_term : mg "is_term" = some (.ref ad.f_is_term)
  F_is_term : Fun K "is_term" "is_term" s_is_term ad.f_is_term ad.d_is_term
  bd_is_term : Binds K ad.d_is_term ["value"] []
  m_gathered_terms : mg "gathered_terms" = some (.ref ad.f_gathered_terms)
  F_gathered_terms : Fun K "gathered_terms" "gathered_terms" s_gathered_terms ad.f_gathered_terms ad.d_gathered_terms
  bd_gathered_terms : Binds K ad.d_gathered_terms ["terms"] []
  F_Form_init : FunE K "__init__" "Form.__init__" s_Form_init ad.f_Form_init ad.d_Form_init
  F_Form_of : Fun K "of" "Form.of" s_Form_of ad.f_Form_of ad.d_Form_of
  bd_Form_of : Binds K ad.d_Form_of ["name"] []
  F_Form_constant : Fun K "constant" "Form.constant" s_Form_constant ad.f_Form_constant ad.d_Form_constant
  bd_Form_constant : Binds K ad.d_Form_constant ["self"] []
  F_Form_terms : Fun K "terms" "Form.terms" s_Form_terms ad.f_Form_terms ad.d_Form_terms
  bd_Form_terms : Binds K ad.d_Form_terms ["self"] []
  F_Form_names : Fun K "names" "Form.names" s_Form_names ad.f_Form_names ad.d_Form_names
  bd_Form_names : Binds K ad.d_Form_names ["self"] []
  F_Form_coef : Fun K "coef" "Form.coef" s_Form_coef ad.f_Form_coef ad.d_Form_coef
  bd_Form_coef : Binds K ad.d_Form_coef ["self", "name"] []
  F_Form_value : Fun K "value" "Form.value" s_Form_value ad.f_Form_value ad.d_Form_value
  bd_Form_value : Binds K ad.d_Form_value ["self", "places"] []
  m_joined : mg "joined" = some (.ref ad.f_joined)
  F_joined : Fun K "joined" "joined" s_joined ad.f_joined ad.d_joined
  bd_joined : Binds K ad.d_joined ["text", "coef", "word"] []
  F_Form_text : Fun K "text" "Form.text" s_Form_text ad.f_Form_text ad.d_Form_text
  bd_Form_text : Binds K ad.d_Form_text ["self"] []
  F_Form_eq : Fun K "__eq__" "Form.__eq__" s_Form_eq ad.f_Form_eq ad.d_Form_eq
  bd_Form_eq : Binds K ad.d_Form_eq ["self", "other"] []
  F_Form_repr : Fun K "__repr__" "Form.__repr__" s_Form_repr ad.f_Form_repr ad.d_Form_repr
  bd_Form_repr : Binds K ad.d_Form_repr ["self"] []
  m_law_bag : mg "_law_bag" = some (.ref ad.f_law_bag)
  F_law_bag : Fun K "_law_bag" "_law_bag" s_law_bag ad.f_law_bag ad.d_law_bag
  bd_law_bag : Binds K ad.d_law_bag ["_law_script"] []
  m_law_draw : mg "_law_draw" = some (.ref ad.f_law_draw)
  F_law_draw : Fun K "_law_draw" "_law_draw" s_law_draw ad.f_law_draw ad.d_law_draw
  bd_law_draw : Binds K ad.d_law_draw ["_law_bag_here", "_law_most"] []
  m_law_any : mg "_law_any" = some (.ref ad.f_law_any)
  F_law_any : Fun K "_law_any" "_law_any" s_law_any ad.f_law_any ad.d_law_any
  bd_law_any : Binds K ad.d_law_any ["_law_bag_here", "_law_some"] []
  m_law_mixed : mg "_law_mixed" = some (.ref ad.f_law_mixed)
  F_law_mixed : Fun K "_law_mixed" "_law_mixed" s_law_mixed ad.f_law_mixed ad.d_law_mixed
  bd_law_mixed : Binds K ad.d_law_mixed ["_law_bag_here", "_law_things"] []
  m_law_same : mg "_law_same" = some (.ref ad.f_law_same)
  F_law_same : Fun K "_law_same" "_law_same" s_law_same ad.f_law_same ad.d_law_same
  bd_law_same : Binds K ad.d_law_same ["_law_found", "_law_due"] []
  m_law_field : mg "_law_field" = some (.ref ad.f_law_field)
  F_law_field : Fun K "_law_field" "_law_field" s_law_field ad.f_law_field ad.d_law_field
  bd_law_field : Binds K ad.d_law_field ["_law_e"] []
  m_law_got : mg "_law_got" = some (.ref ad.f_law_got)
  F_law_got : Fun K "_law_got" "_law_got" s_law_got ad.f_law_got ad.d_law_got
  bd_law_got : Binds K ad.d_law_got ["_law_ask"] []
  m_law_odd : mg "_law_odd" = some (.ref ad.f_law_odd)
  F_law_odd : Fun K "_law_odd" "_law_odd" s_law_odd ad.f_law_odd ad.d_law_odd
  bd_law_odd : Binds K ad.d_law_odd ["_law_bag_here", "_law_more"] []
  m_law_names : mg "_law_names" = some (.ref ad.f_law_names)
  F_law_names : Fun K "_law_names" "_law_names" s_law_names ad.f_law_names ad.d_law_names
  bd_law_names : Binds K ad.d_law_names ["_law_bag_here", "_law_many"] []
  m_law_made_form : mg "_law_made_form" = some (.ref ad.f_law_made_form)
  F_law_made_form : Fun K "_law_made_form" "_law_made_form" s_law_made_form ad.f_law_made_form ad.d_law_made_form
  bd_law_made_form : Binds K ad.d_law_made_form ["_law_form"] []
  m_law_terms : mg "_law_terms" = some (.ref ad.f_law_terms)
  F_law_terms : Fun K "_law_terms" "_law_terms" s_law_terms ad.f_law_terms ad.d_law_terms
  bd_law_terms : Binds K ad.d_law_terms ["_law_form"] []
  m_law_told_form : mg "_law_told_form" = some (.ref ad.f_law_told_form)
  F_law_told_form : Fun K "_law_told_form" "_law_told_form" s_law_told_form ad.f_law_told_form ad.d_law_told_form
  bd_law_told_form : Binds K ad.d_law_told_form ["_law_made"] []
  m_law_plain_form : mg "_law_plain_form" = some (.ref ad.f_law_plain_form)
  F_law_plain_form : Fun K "_law_plain_form" "_law_plain_form" s_law_plain_form ad.f_law_plain_form ad.d_law_plain_form
  bd_law_plain_form : Binds K ad.d_law_plain_form ["_law_form"] []
  m_law_form_text : mg "_law_form_text" = some (.ref ad.f_law_form_text)
  F_law_form_text : Fun K "_law_form_text" "_law_form_text" s_law_form_text ad.f_law_form_text ad.d_law_form_text
  bd_law_form_text : Binds K ad.d_law_form_text ["_law_form"] []
  m_law_lengths_so : mg "_law_lengths_so" = some (.ref ad.f_law_lengths_so)
  F_law_lengths_so : Fun K "_law_lengths_so" "_law_lengths_so" s_law_lengths_so ad.f_law_lengths_so ad.d_law_lengths_so
  bd_law_lengths_so : Binds K ad.d_law_lengths_so [] []
  m_law : mg "law" = some (.ref ad.f_law)
  F_law : Fun K "law" "law" s_law ad.f_law ad.d_law
  bd_law : Binds K ad.d_law ["_law_script"] []
  gc_MOST_NAME : ∃ t, mg "MOST_NAME" = some (.int (6) t)
  gc_SMALL : ∃ t, mg "SMALL" = some (.str "abcdefghijklmnopqrstuvwxyz" t)
  gc_WORDS : mg "WORDS" = some (.ref ad.g_WORDS)
  gt_WORDS : TupS K ad.g_WORDS ["n", "sum"]
  et_Form_init_0 : ∃ (o : Obj) (its : Array Value) (n : Nat), K.lookup ad.e_Form_init_0 = some o ∧ o.cls = .type "tuple" ∧ o.data = .seq its n ∧ its.size ≤ sizeLine ∧ Vals [] its.toList
  cb_Form_coef_1 : CB K ad.d_Form_coef ["self", "name"] 1 1 [] [0] []
  cb_Form_init_0 : CB K ad.d_Form_init ["self", "terms", "constant"] 1 0 [] [0, 1] [.ref ad.e_Form_init_0, .int 0]
  cb_Form_init_0_constant_terms : CB K ad.d_Form_init ["self", "terms", "constant"] 1 0 ["constant", "terms"] [1, 0] [.ref ad.e_Form_init_0, .int 0]
  cb_Form_init_1 : CB K ad.d_Form_init ["self", "terms", "constant"] 1 1 [] [0, 2] [.ref ad.e_Form_init_0, .int 0]
  cb_Form_init_2 : CB K ad.d_Form_init ["self", "terms", "constant"] 1 2 [] [0, 1] [.ref ad.e_Form_init_0, .int 0]
  cb_Form_names_0 : CB K ad.d_Form_names ["self"] 1 0 [] [] []
  cb_Form_of_1 : CB K ad.d_Form_of ["name"] 0 1 [] [0] []
  cb_Form_terms_0 : CB K ad.d_Form_terms ["self"] 1 0 [] [] []
  cb_Form_text_0 : CB K ad.d_Form_text ["self"] 1 0 [] [] []
  cb_Form_value_1 : CB K ad.d_Form_value ["self", "places"] 1 1 [] [0] []
  cb_gathered_terms_1 : CB K ad.d_gathered_terms ["terms"] 0 1 [] [0] []
  cr_Form : ClX.CRead K ad.c_Form (.type "type")
  sm_Form_of : SMet K ad.c_Form (.type "type") "of" ad.p_Form_of ad.f_Form_of
  n_Form : mg "Form" = some (.ref ad.c_Form)
  cl_Form : Cls K ad.c_Form
  mk_Form : Mk K ad.c_Form ad.f_Form_init
  na_Form_own_constant : NoAttr K ad.c_Form "own_constant"
  na_Form_own_terms : NoAttr K ad.c_Form "own_terms"
  mt_Form_coef : Meth K ad.c_Form "coef" ad.f_Form_coef
  mt_Form_names : Meth K ad.c_Form "names" ad.f_Form_names
  mt_Form_terms : Meth K ad.c_Form "terms" ad.f_Form_terms
  mt_Form_text : Meth K ad.c_Form "text" ad.f_Form_text
  mt_Form_value : Meth K ad.c_Form "value" ad.f_Form_value
  pr_Form_constant : PropOf K ad.c_Form "constant" ad.p_Form_constant ad.f_Form_constant
  ic_Form : C8.InsC K ad.c_Form
  k_Form_Form : PySem.W.kitOne K (.ref ad.c_Form) (.ref ad.c_Form) = some true
  k_int_Form : PySem.W.kitOne K (.type "int") (.ref ad.c_Form) = some false
  k_str_Form : PySem.W.kitOne K (.type "str") (.ref ad.c_Form) = some false
  eq_Form : PySem.W.findIn K (.ref ad.c_Form) "__eq__" = some (some (.ref ad.f_Form_eq))
  fe_Form : PySem.W.isFn K (.ref ad.f_Form_eq) = true
  ne_Form : PySem.W.findIn K (.ref ad.c_Form) "__ne__" = some (some (.builtin "object.__ne__"))
  mo_Form : PySem.W.mroIn K ad.c_Form (.type "object") = some true
  rp_Form : PySem.W.findIn K (.ref ad.c_Form) "__repr__" = some (some (.ref ad.f_Form_repr))
  fr_Form : PySem.W.isFn K (.ref ad.f_Form_repr) = true
  nf_Form_Form : PySem.W.notFirst K ad.c_Form (.ref ad.c_Form) = true
  nf_Form_int : PySem.W.notFirst K ad.c_Form (.type "int") = true
  nf_Form_str : PySem.W.notFirst K ad.c_Form (.type "str") = true
  n_DialError : mg "DialError" = some (.ref ad.c_DialError)
  n_InvalidForm : mg "InvalidForm" = some (.ref ad.c_InvalidForm)
  n_InvalidNumber : mg "InvalidNumber" = some (.ref ad.c_InvalidNumber)
  n_Missing : mg "Missing" = some (.ref ad.c_Missing)
  n_UnknownName : mg "UnknownName" = some (.ref ad.c_UnknownName)
  ox_InvalidForm : OexG K ad.c_InvalidForm "ValueError.__new__" PySem.HandSPX.veTail
  ai_InvalidForm : PySem.W.findIn K (.ref ad.c_InvalidForm) "__init__" = some (some (.ref ad.fx_InvalidForm))
  ti_InvalidForm : PySem.W.typeIn K (.ref ad.fx_InvalidForm) = some (.type "function")
  su_InvalidForm : SupG K P ad.c_InvalidForm ad.fx_InvalidForm (nf_InvalidForm ad) ad.d_xInvalidForm ad.cc_InvalidForm "ValueError" "ValueError.__new__" "ValueError.__init__" PySem.HandSPX.veTail
  xb_InvalidForm : Binds K ad.d_xInvalidForm ["self", "at"] []
  xc_InvalidForm : PySem.W.findIn K (.ref ad.c_InvalidForm) "code" = some none
  xn_InvalidForm : PySem.W.findIn K (.ref ad.c_InvalidForm) "at" = some none
  ox_InvalidNumber : OexG K ad.c_InvalidNumber "ValueError.__new__" PySem.HandSPX.veTail
  ai_InvalidNumber : PySem.W.findIn K (.ref ad.c_InvalidNumber) "__init__" = some (some (.ref ad.fx_InvalidNumber))
  ti_InvalidNumber : PySem.W.typeIn K (.ref ad.fx_InvalidNumber) = some (.type "function")
  su_InvalidNumber : SupG K P ad.c_InvalidNumber ad.fx_InvalidNumber (nf_InvalidNumber ad) ad.d_xInvalidNumber ad.cc_InvalidNumber "ValueError" "ValueError.__new__" "ValueError.__init__" PySem.HandSPX.veTail
  xb_InvalidNumber : Binds K ad.d_xInvalidNumber ["self", "given"] []
  xc_InvalidNumber : PySem.W.findIn K (.ref ad.c_InvalidNumber) "code" = some none
  xn_InvalidNumber : PySem.W.findIn K (.ref ad.c_InvalidNumber) "given" = some none
  ox_UnknownName : OexG K ad.c_UnknownName "LookupError.__new__" leTail
  ai_UnknownName : PySem.W.findIn K (.ref ad.c_UnknownName) "__init__" = some (some (.ref ad.fx_UnknownName))
  ti_UnknownName : PySem.W.typeIn K (.ref ad.fx_UnknownName) = some (.type "function")
  su_UnknownName : SupG K P ad.c_UnknownName ad.fx_UnknownName (nf_UnknownName ad) ad.d_xUnknownName ad.cc_UnknownName "LookupError" "LookupError.__new__" "LookupError.__init__" leTail
  xb_UnknownName : Binds K ad.d_xUnknownName ["self", "name"] []
  xc_UnknownName : PySem.W.findIn K (.ref ad.c_UnknownName) "code" = some none
  xn_UnknownName : PySem.W.findIn K (.ref ad.c_UnknownName) "name" = some none
  tbok : TbOk K (tbl ad) ftb
  xall : ∀ t ∈ tbl ad, PySem.W.exmAny K (.ref t.2.1) [.ref ad.c_DialError, .ref ad.c_Missing] = some true
section
variable {P : Program} {w : World} {K : PySem.W.Frag} {mg : Str → Option Value} {base : Heap} {ad : Ad}
theorem ex_InvalidForm (T : Txt P K mg ad) : FnOk P w K mg base CX0 1 ad.fx_InvalidForm ad.d_xInvalidForm ["self", "at"] (spE1 ad.c_InvalidForm "at" "InvalidForm") :=
  exc_fn1G (N := ["self", "at", "__class__"]) T.su_InvalidForm ns_InvalidForm T.b_super rfl rfl ⟨_, _, _, _, _, _, rfl, fun L => ⟨⟨_, rfl⟩, rfl, rfl⟩⟩ sa_InvalidForm sb_InvalidForm (by decide) (by decide) (by decide) (by decide) T.xn_InvalidForm T.xc_InvalidForm (fun _ => rfl) (fun _ => rfl)
theorem ex_InvalidNumber (T : Txt P K mg ad) : FnOk P w K mg base CX0 1 ad.fx_InvalidNumber ad.d_xInvalidNumber ["self", "given"] (spE1 ad.c_InvalidNumber "given" "InvalidNumber") :=
  exc_fn1G (N := ["self", "given", "__class__"]) T.su_InvalidNumber ns_InvalidNumber T.b_super rfl rfl ⟨_, _, _, _, _, _, rfl, fun L => ⟨⟨_, rfl⟩, rfl, rfl⟩⟩ sa_InvalidNumber sb_InvalidNumber (by decide) (by decide) (by decide) (by decide) T.xn_InvalidNumber T.xc_InvalidNumber (fun _ => rfl) (fun _ => rfl)
theorem ex_UnknownName (T : Txt P K mg ad) : FnOk P w K mg base CX0 1 ad.fx_UnknownName ad.d_xUnknownName ["self", "name"] (spE1 ad.c_UnknownName "name" "UnknownName") :=
  exc_fn1G (N := ["self", "name", "__class__"]) T.su_UnknownName ns_UnknownName T.b_super rfl rfl ⟨_, _, _, _, _, _, rfl, fun L => ⟨⟨_, rfl⟩, rfl, rfl⟩⟩ sa_UnknownName sb_UnknownName (by decide) (by decide) (by decide) (by decide) T.xn_UnknownName T.xc_UnknownName (fun _ => rfl) (fun _ => rfl)
def m_is_whole_v0 (a_value : Int) : W Bool :=
  bnd (bnd (ret (true)) fun c1 => if c1 = true then (ret (!false)) else ret false) fun z => ret z
theorem ok_is_whole_v0 (T : Txt P K mg ad) : FnOk P w K mg base CX0 1 ad.f_is_whole ad.d_is_whole ["value"] (spW (fun i : Int × Unit => [sv rInt i.1]) (fun _ => []) (fun i => m_is_whole_v0 i.1) rBool) := by
  refine okW T.F_is_whole sc_is_whole (fun _ => rfl) fun cdv A outer s0 H0 E0 B i hr => ?_
  obtain ⟨a_value, _⟩ := i
  have hu := hr.units
  have hu2 := room100 hr
  show BG _ _ _ _ _ _ (m_is_whole_v0 a_value)
  unfold m_is_whole_v0
  exact b_ret RtOk.fn OsW.nil (e_conv (e_and (e_isB (T := "int") (k := true) ty_int (kit_ty (by decide +kernel)) (e_name 0) T.b_isinstance T.b_int) (e_one (e_not (e_isB (T := "bool") (k := false) ty_int (kit_ty (by decide +kernel)) (e_name 0) T.b_isinstance T.b_bool)))) (by walk_at "wn"))
def m_is_whole_v1 (a_value : PyData) : W Bool :=
  bnd (bnd (ret (tyInt (tyD a_value))) fun c1 => if c1 = true then (ret (!(tyD a_value == "bool"))) else ret false) fun z => ret z
theorem ok_is_whole_v1 (T : Txt P K mg ad) : FnOk P w K mg base CX0 1 ad.f_is_whole ad.d_is_whole ["value"] (spW (fun i : PyData × Unit => [sv (rD K) i.1]) (fun _ => []) (fun i => m_is_whole_v1 i.1) rBool) := by
  refine okW T.F_is_whole sc_is_whole (fun _ => rfl) fun cdv A outer s0 H0 E0 B i hr => ?_
  obtain ⟨a_value, _⟩ := i
  have hu := hr.units
  have hu2 := room100 hr
  show BG _ _ _ _ _ _ (m_is_whole_v1 a_value)
  unfold m_is_whole_v1
  exact b_ret RtOk.fn OsW.nil (e_conv (e_and (e_isBD (T := "int") (k := tyInt) kd_int (e_name 0) T.b_isinstance T.b_int) (e_one (e_not (e_isBD (T := "bool") (k := fun t => t == "bool") kd_bool (e_name 0) T.b_isinstance T.b_bool)))) (by walk_at "wn"))
def m_is_name (a_value : PyData) : W Bool :=
  bnd (bnd (ret (!(tyD a_value == "str"))) fun c6 => if c6 = true then ret true else (bnd (bnd (bnd (lenD a_value) fun t1 => if (fun x y => decide (x ≤ y)) ((1 : Int)) t1 = true then (ret ((fun x y => decide (x ≤ y)) t1 ((6 : Int)))) else ret false) fun c3 => ret (!c3)) fun c5 => if c5 = true then ret true else (bnd (asStr a_value) fun t4 => ret (decide (t4 ∈ ((["n", "sum"] : List Str))))))) fun b8 => if b8 = true then (bnd (ret (false)) fun z => ret z) else (bnd (bnd (asStr a_value) fun t9 => bnd (mapW (fun (x10 : Str) => ret (hasS x10 (("abcdefghijklmnopqrstuvwxyz" : Str)))) (lettersW t9)) fun ys11 => ret (ys11.all id)) fun z => ret z)
theorem ok_is_name (T : Txt P K mg ad) : FnOk P w K mg base CX0 1 ad.f_is_name ad.d_is_name ["value"] (spW (fun i : PyData × Unit => [sv (rD K) i.1]) (fun _ => []) (fun i => m_is_name i.1) rBool) := by
  refine okW T.F_is_name sc_is_name (fun _ => rfl) fun cdv A outer s0 H0 E0 B i hr => ?_
  obtain ⟨a_value, _⟩ := i
  have hu := hr.units
  have hu2 := room100 hr
  show BG _ _ _ _ _ _ (m_is_name a_value)
  unfold m_is_name
  refine b_ifA (t_conv (t_pw (w_or (t_not (t_val (e_isBD (T := "str") (k := fun t => t == "str") kd_str (e_name 0) T.b_isinstance T.b_str))) (w_or (t_not (t_chain (f := (fun x y => decide (x ≤ y))) (g := (fun x y => decide (x ≤ y))) op_le op_le (r2i fun _ _ _ => rfl) (r2i fun _ _ _ => rfl) e_int (fun _ => (e_lenD (e_name 0) T.b_len)) fun _ => (e_gIntE T.gc_MOST_NAME))) (w_or1 (t_inST (e_asStr (e_name 0)) fun _ => (e_gTup T.gc_WORDS T.gt_WORDS)))))) (by walk_at "wn")) ?_ ?_
  · exact b_ret (RtOk.x RtOk.fn) OsW.nil (e_conv e_bl (by walk_at "wn"))
  · exact b_ret RtOk.fn OsW.nil (e_conv (e_all rfl (e_new (n_comp (s := rBool) rfl sc_is_name.nd (s_str (e_asStr (e_name 0))) (blkOk_by (own := [("sign", 1)]) rfl) (tg_name (i := 1)) (fun _ _ _ _ _ => (pg_name (i := 1) sc_is_name.nd rfl (by walk_at "loc"))) (by decide) (fun _ _ _ _ _ _ _ _ _ => (e_inS (e_name 1) fun _ => (e_gStrE T.gc_SMALL))))) T.b_all) (by walk_at "wn"))
def m_is_term (a_value : PyData) : W Bool :=
  bnd (bnd (ret (tyD a_value == "tuple")) fun c9 => if c9 = true then (bnd (bnd (lenD a_value) fun t1 => ret (decide (t1 = (2 : Int)))) fun c8 => if c8 = true then (bnd (bnd (idxD a_value ((0 : Int))) fun t3 => noX (m_is_whole_v1 t3)) fun c7 => if c7 = true then (bnd (idxD a_value ((1 : Int))) fun t5 => noX (m_is_name t5)) else ret false) else ret false) else ret false) fun z => ret z
theorem ok_is_term (T : Txt P K mg ad) : FnOk P w K mg base CX0 2 ad.f_is_term ad.d_is_term ["value"] (spW (fun i : PyData × Unit => [sv (rD K) i.1]) (fun _ => []) (fun i => m_is_term i.1) rBool) := by
  refine okW T.F_is_term sc_is_term (fun _ => rfl) fun cdv A outer s0 H0 E0 B i hr => ?_
  obtain ⟨a_value, _⟩ := i
  have hu := hr.units
  have hu2 := room100 hr
  show BG _ _ _ _ _ _ (m_is_term a_value)
  unfold m_is_term
  exact b_ret RtOk.fn OsW.nil (e_conv (e_and (e_isBD (T := "tuple") (k := fun t => t == "tuple") kd_tuple (e_name 0) T.b_isinstance T.b_tuple) (e_and (e_eqI (e_lenD (e_name 0) T.b_len) fun _ => e_int) (e_and (e_call (ok_is_whole_v1 T) (hr.mono (by walk_at "lev")) T.m_is_whole T.F_is_whole.kp T.bd_is_whole (aa_cons (e_idxD (e_name 0) fun _ => e_int) fun _ => aa_nil) (fun _ => OsLe.none) (fun _ => List.nodup_nil)) (e_one (e_call (ok_is_name T) (hr.mono (by walk_at "lev")) T.m_is_name T.F_is_name.kp T.bd_is_name (aa_cons (e_idxD (e_name 0) fun _ => e_int) fun _ => aa_nil) (fun _ => OsLe.none) (fun _ => List.nodup_nil)))))) (by walk_at "wn"))
def m_gathered_terms_l1 (s6 : (List (Str × Int))) (x5 : (Int × PyData)) : W (List (Str × Int)) :=
  bnd (bnd (noX (m_is_term x5.2)) fun r7 => ret (!r7)) fun b8 => if b8 = true then (bnd (ret (x5.1)) fun v => thr ⟨"InvalidForm", [.int v]⟩) else (bnd (bnd (idxD x5.2 ((1 : Int))) fun t9 => bnd (asStr t9) fun t10 => bnd (idxD x5.2 ((0 : Int))) fun t11 => bnd (asInt t11) fun t12 => ret (((dget s6 t10).getD ((0 : Int))) + t12)) fun y16 => bnd (bnd (idxD x5.2 ((1 : Int))) fun t13 => asStr t13) fun k17 => chk (s6.length < sizeLine) (bnd (ret (dput s6 k17 y16)) fun found_15 => ret (found_15)))
def m_gathered_terms (a_terms : PyData) : W (List (Str × Int)) :=
  bnd (ret (!((tyD a_terms == "list" || tyD a_terms == "tuple")))) fun b1 => if b1 = true then (bnd (ret (-((1 : Int)))) fun v => thr ⟨"InvalidForm", [.int v]⟩) else (bnd (bnd (seqD a_terms) fun l4 => ret ((rangeI 0 l4.length).zip l4)) fun xs18 => bnd (forW m_gathered_terms_l1 (([] : (List (Str × Int)))) xs18) fun (s19 : (List (Str × Int))) => bnd (ret (s19)) fun z => ret z)
theorem ok_gathered_terms (T : Txt P K mg ad) : FnOk P w K mg base (L2.CX P w) 3 ad.f_gathered_terms ad.d_gathered_terms ["terms"] (spX K (tbl ad) (fun i : PyData × Unit => [sv (rD K) i.1]) (fun _ => []) (fun i => m_gathered_terms i.1) (rDct rStr Sum.inr rInt)) := by
  refine okX T.F_gathered_terms sc_gathered_terms (fun _ => rfl) fun cdv A outer s0 H0 E0 B i hr tk hpo => ?_
  obtain ⟨a_terms, _⟩ := i
  have hu := hr.units
  have hu2 := room100 hr
  show BG _ _ _ _ _ _ (m_gathered_terms a_terms)
  unfold m_gathered_terms
  refine b_ifA (t_conv (t_not (t_val (e_isTD (k := fun t => t == "list" || t == "tuple") kt_lt (e_name 0) T.b_isinstance T.b_list T.b_tuple))) (by walk_at "wn")) ?_ ?_
  · exact b_conv (b_raise1G foot_value tk rfl (List.Mem.head _) (by decide) T.ox_InvalidForm T.ai_InvalidForm T.ti_InvalidForm (ex_InvalidForm T) (hr.mono (by walk_at "lev")) T.xb_InvalidForm T.n_InvalidForm dd_int (by decide) (e_conv (e_neg e_int) (by walk_at "wn"))) rfl
  · refine b_dnew 1 rStr Sum.inr rInt (fun p3 => ?_) sc_gathered_terms.nd
    refine b_for (S := (List (Str × Int))) (fun s => [sv (rD K) a_terms, sv (rAdr p3) (), sa, sa]) (fun s => [(p3, oDct rStr Sum.inr rInt s)]) (([] : (List (Str × Int))) : (List (Str × Int))) rfl (passes_of rfl) (s_conv (s_enumD (e_name 0) T.b_enumerate) (by walk_at "wn")) (tg_pair (i := 2) (j := 3)) (pg_tup rfl (pgs_cons (pg_name (i := 2) sc_gathered_terms.nd rfl (by walk_at "loc")) (pgs_cons (pg_name (i := 3) sc_gathered_terms.nd rfl (by walk_at "loc")) pgs_nil))) (fun M s6 x5 => ?_) (fun s19 => ?_) ⟨.inl rfl, .inl rfl, .inr rfl, .inr rfl, trivial⟩ rfl
    · unfold m_gathered_terms_l1
      refine b_ifA (t_conv (t_not (t_val (e_call (ok_is_term T) (hr.mono (by walk_at "lev")) T.m_is_term T.F_is_term.kp T.bd_is_term (aa_cons (e_name 3) fun _ => aa_nil) (fun _ => OsLe.none) (fun _ => List.nodup_nil)))) (by walk_at "wn")) ?_ ?_
      · exact b_conv (b_raise1G foot_value tk rfl (List.Mem.head _) (by decide) T.ox_InvalidForm T.ai_InvalidForm T.ti_InvalidForm (ex_InvalidForm T) (hr.mono (by walk_at "lev")) T.xb_InvalidForm T.n_InvalidForm dd_int (by decide) (e_conv (e_name 2) (by walk_at "wn"))) rfl
      · refine b_dputB 1 0 key_str hu2 rfl rfl (e_conv (e_add (e_dgetO 1 0 key_str hu2 rfl rfl (e_asStr (e_idxD (e_name 3) fun _ => e_int)) fun _ => e_int) fun _ => (e_asInt (e_idxD (e_name 3) fun _ => e_int))) (by walk_at "wn")) (fun _ => e_conv (e_asStr (e_idxD (e_name 3) fun _ => e_int)) (by walk_at "wn")) (fun found_15 => ?_)
        exact b_end (NxOk.nxS (s := (found_15 : (List (Str × Int)))) ⟨.inl rfl, .inl rfl, .inr rfl, .inr rfl, trivial⟩ (.cons_cons _ .slnil))
    · refine b_dfreeze 1 0 rfl rfl ?_
      exact b_ret RtOk.fn OsW.nil (e_conv (e_name 1) (by walk_at "wn"))
def m_Form_init (a_terms : PyData) (a_constant : PyData) : W Form_ :=
  bnd (bnd (ret (false)) fun c => if c = true then fail else m_gathered_terms a_terms) fun known_1 => bnd (bnd (noX (m_is_whole_v1 a_constant)) fun r4 => ret (!r4)) fun b5 => if b5 = true then (bnd (ret (a_constant)) fun v => thr ⟨"InvalidNumber", [id v]⟩) else (bnd (bnd (sortS (known_1.map (·.1))) fun t6 => dcW (fun (x7 : Str) => bnd (optW (dget known_1 x7)) fun t10 => ret (!decide (t10 = (0 : Int)))) (fun (x7 : Str) => ret (x7)) (fun (x7 : Str) => optW (dget known_1 x7)) t6 []) fun own_terms_11 => bnd (asInt a_constant) fun own_constant_13 => ret (⟨own_terms_11, own_constant_13⟩ : Form_))
theorem ok_Form_init (T : Txt P K mg ad) : FnOk P w K mg base (L2.CX P w) 4 ad.f_Form_init ad.d_Form_init ["self", "terms", "constant"] (spIX K (tbl ad) ad.c_Form (fun i : PyData × PyData × Unit => [sv (rD K) i.1, sv (rD K) i.2.1]) (fun i => m_Form_init i.1 i.2.1) (fl_Form K ad)) := by
  refine initXE T.F_Form_init sc_Form_init (fun _ => rfl) fun cdv A outer s0 H0 E0 B self0 i hr tk => ?_
  obtain ⟨a_terms, a_constant, _⟩ := i
  have hu := hr.units
  have hu2 := room100 hr
  show BG _ _ _ _ _ _ (m_Form_init a_terms a_constant)
  unfold m_Form_init
  refine b_set 3 (e_conv (e_if (t_val (e_noDict (e_name 1) T.b_isinstance T.b_dict)) e_fail (er_V (e_callZ (conv := fun q : PyData × Unit => (q.1, ())) (dfl := []) (dvs := []) (ok_gathered_terms T) (passB tk) spf_X0 (hr.mono (by walk_at "lev")) T.m_gathered_terms T.F_gathered_terms.kp T.cb_gathered_terms_1 (fun _ => .nil) (hh_pos (aa_cons (e_name 1) fun _ => aa_nil) (fun _ => rfl)) (fun _ => rfl)))) (by walk_at "wn")) (fun known_1 => ?_) sc_Form_init.nd
  refine b_ifA (t_conv (t_not (t_val (e_call (ok_is_whole_v1 T) (hr.mono (by walk_at "lev")) T.m_is_whole T.F_is_whole.kp T.bd_is_whole (aa_cons (e_name 2) fun _ => aa_nil) (fun _ => OsLe.none) (fun _ => List.nodup_nil)))) (by walk_at "wn")) ?_ ?_
  · exact b_conv (b_raise1G foot_value tk rfl (List.Mem.tail _ (List.Mem.head _)) (by decide) T.ox_InvalidNumber T.ai_InvalidNumber T.ti_InvalidNumber (ex_InvalidNumber T) (hr.mono (by walk_at "lev")) T.xb_InvalidNumber T.n_InvalidNumber dd_D (by decide) (e_conv (e_name 2) (by walk_at "wn"))) rfl
  · refine b_fldO 0 0 T.cl_Form T.na_Form_own_terms rfl rfl (e_conv (e_newD (d_compF key_str rfl sc_Form_init.nd (s_list (e_new (n_sortedS (e_new (n_listD rfl (e_name 3) T.b_list)) T.b_sorted))) (blkOk_by (own := [("name", 4)]) rfl) (tg_name (i := 4)) (fun _ _ _ _ _ => (pg_name (i := 4) sc_Form_init.nd rfl (by walk_at "loc"))) (by decide) (fun _ _ _ _ _ _ _ _ _ => (t_neI (e_dget key_str hu2 (e_name 3) fun _ => (e_name 4)) fun _ => e_int)) (fun _ _ _ _ _ _ _ _ _ => (e_name 4)) (fun _ _ _ _ _ _ _ _ _ => (e_dget key_str hu2 (e_name 3) fun _ => (e_name 4))))) (by walk_at "wn")) (fun own_terms_11 => ?_)
    refine b_fldO 0 0 T.cl_Form T.na_Form_own_constant rfl rfl (e_conv (e_asInt (e_name 2)) (by walk_at "wn")) (fun own_constant_13 => ?_)
    exact b_end (NxOk.init (r := (⟨own_terms_11, own_constant_13⟩ : Form_)) (OsW.one fun _ _ h => h))
def m_Form_of (a_name : Str) : W Form_ :=
  bnd (noX (m_Form_init ((fun xs => PyData.list (xs.map (fun x => PyData.tuple [.int x.1, .str x.2]))) ([((1 : Int), a_name)])) (PyData.int 0))) fun z => ret z
theorem ok_Form_of (T : Txt P K mg ad) : FnOk P w K mg base CX0 6 ad.f_Form_of ad.d_Form_of ["name"] (spW (fun i : Str × Unit => [sv rStr i.1]) (fun _ => []) (fun i => m_Form_of i.1) (rObj ad.c_Form (fl_Form K ad))) := by
  refine okW T.F_Form_of sc_Form_of (fun _ => rfl) fun cdv A outer s0 H0 E0 B i hr => ?_
  obtain ⟨a_name, _⟩ := i
  have hu := hr.units
  have hu2 := room100 hr
  show BG _ _ _ _ _ _ (m_Form_of a_name)
  unfold m_Form_of
  exact b_ret RtOk.fn OsW.nil (e_conv (e_makeZ (conv := fun q : PyData × Unit => (q.1, PyData.int 0, ())) (dfl := [sa, sv (rD K) (PyData.int 0)]) (dvs := [.ref ad.e_Form_init_0, .int 0]) T.mk_Form (ok_Form_init T) passN spm_XN (hr.mono (by walk_at "lev")) T.n_Form T.cb_Form_init_1 (fun _ => (.cons trivial (.cons ⟨_, rfl, ⟨.int _, rfl, by decide⟩⟩ .nil))) (hh_pos (aa_cons (e_toD (dd_lst (dd_t2 dd_int dd_str)) (e_new (n_list (al_cons (e_tup2 e_int fun _ => (e_name 0)) al_nil)))) fun _ => aa_nil) (fun _ => rfl)) (fun _ => rfl)) (by walk_at "wn"))
def m_Form_constant (a_self : Form_) : W Int :=
  bnd (ret (a_self.own_constant)) fun z => ret z
theorem ok_Form_constant (T : Txt P K mg ad) : FnOk P w K mg base CX0 1 ad.f_Form_constant ad.d_Form_constant ["self"] (spW (fun i : Form_ × Unit => [sv (rObj ad.c_Form (fl_Form K ad)) i.1]) (fun _ => []) (fun i => m_Form_constant i.1) rInt) := by
  refine okW T.F_Form_constant sc_Form_constant (fun _ => rfl) fun cdv A outer s0 H0 E0 B i hr => ?_
  obtain ⟨a_self, _⟩ := i
  have hu := hr.units
  have hu2 := room100 hr
  show BG _ _ _ _ _ _ (m_Form_constant a_self)
  unfold m_Form_constant
  exact b_ret RtOk.fn OsW.nil (e_conv (e_fld (g := fun q : Form_ => q.own_constant) T.cl_Form T.na_Form_own_constant (e_name 0)) (by walk_at "wn"))
def m_Form_terms (a_self : Form_) : W (List (Int × Str)) :=
  mapW (fun (x1 : Str) => bnd (optW (dget a_self.own_terms x1)) fun t2 => ret ((t2, x1))) (a_self.own_terms.map (·.1))
theorem ok_Form_terms (T : Txt P K mg ad) : FnOk P w K mg base CX0 1 ad.f_Form_terms ad.d_Form_terms ["self"] (spN (fun i : Form_ × Unit => [sv (rObj ad.c_Form (fl_Form K ad)) i.1]) (fun i => m_Form_terms i.1) (rT2 K rInt rStr)) := by
  refine okN T.F_Form_terms sc_Form_terms (fun _ => rfl) fun cdv A outer s0 H0 E0 B i hr hio => ?_
  obtain ⟨a_self, _⟩ := i
  have hu := hr.units
  have hu2 := room100 hr
  show BG _ _ _ _ _ _ (m_Form_terms a_self)
  unfold m_Form_terms
  exact b_retN hio (n_conv (n_comp (s := (rT2 K rInt rStr)) rfl sc_Form_terms.nd (s_keys (e_fld (g := fun q : Form_ => q.own_terms) T.cl_Form T.na_Form_own_terms (e_name 0))) (blkOk_by (own := [("name", 1)]) rfl) (tg_name (i := 1)) (fun _ _ _ _ _ => (pg_name (i := 1) sc_Form_terms.nd rfl (by walk_at "loc"))) (by decide) (fun _ _ _ _ _ _ _ _ _ => (e_tup2 (e_dget key_str hu2 (e_fld (g := fun q : Form_ => q.own_terms) T.cl_Form T.na_Form_own_terms (e_name 0)) fun _ => (e_name 1)) fun _ => (e_name 1)))) (by walk_at "wn"))
def m_Form_names (a_self : Form_) : W (List Str) :=
  ret (a_self.own_terms.map (·.1))
theorem ok_Form_names (T : Txt P K mg ad) : FnOk P w K mg base CX0 1 ad.f_Form_names ad.d_Form_names ["self"] (spN (fun i : Form_ × Unit => [sv (rObj ad.c_Form (fl_Form K ad)) i.1]) (fun i => m_Form_names i.1) rStr) := by
  refine okN T.F_Form_names sc_Form_names (fun _ => rfl) fun cdv A outer s0 H0 E0 B i hr hio => ?_
  obtain ⟨a_self, _⟩ := i
  have hu := hr.units
  have hu2 := room100 hr
  show BG _ _ _ _ _ _ (m_Form_names a_self)
  unfold m_Form_names
  exact b_retN hio (n_conv (n_listD rfl (e_fld (g := fun q : Form_ => q.own_terms) T.cl_Form T.na_Form_own_terms (e_name 0)) T.b_list) (by walk_at "wn"))
def m_Form_coef (a_self : Form_) (a_name : PyData) : W Int :=
  bnd (bnd (ret (tyD a_name == "str")) fun c => if c = true then bnd (asStr a_name) fun t1 => ret ((dget a_self.own_terms t1).getD ((0 : Int))) else ret ((0 : Int))) fun z => ret z
theorem ok_Form_coef (T : Txt P K mg ad) : FnOk P w K mg base CX0 1 ad.f_Form_coef ad.d_Form_coef ["self", "name"] (spW (fun i : Form_ × PyData × Unit => [sv (rObj ad.c_Form (fl_Form K ad)) i.1, sv (rDk K 12) i.2.1]) (fun _ => []) (fun i => m_Form_coef i.1 i.2.1) rInt) := by
  refine okW T.F_Form_coef sc_Form_coef (fun _ => rfl) fun cdv A outer s0 H0 E0 B i hr => ?_
  obtain ⟨a_self, a_name, _⟩ := i
  have hu := hr.units
  have hu2 := room100 hr
  show BG _ _ _ _ _ _ (m_Form_coef a_self a_name)
  unfold m_Form_coef
  exact b_ret RtOk.fn OsW.nil (e_conv (e_if (t_val (e_isBD (T := "str") (k := fun t => t == "str") kd_str (e_upD (e_name 1)) T.b_isinstance T.b_str)) (e_dgetD key_str hu2 (e_fld (g := fun q : Form_ => q.own_terms) T.cl_Form T.na_Form_own_terms (e_name 0)) (fun _ => (e_asStr (e_upD (e_name 1)))) fun _ _ => e_int) e_int) (by walk_at "wn"))
def m_Form_value_l1 (a_self : Form_) (a_places : (List (Str × Int))) (s3 : Int) (x2 : Str) : W Int :=
  bnd (ret (!(dget a_places x2).isSome)) fun b4 => if b4 = true then (bnd (ret (x2)) fun v => thr ⟨"UnknownName", [.str v]⟩) else (bnd (bnd (optW (dget a_self.own_terms x2)) fun t5 => bnd (optW (dget a_places x2)) fun t6 => mulI t5 t6) fun y9 => bnd (ret (s3 + y9)) fun found_8 => ret (found_8))
def m_Form_value (a_self : Form_) (a_places : (List (Str × Int))) : W Int :=
  bnd (ret (a_self.own_constant)) fun found_1 => bnd (ret (a_self.own_terms.map (·.1))) fun xs10 => bnd (forW (m_Form_value_l1 a_self a_places) (found_1) xs10) fun (s11 : Int) => bnd (ret (s11)) fun z => ret z
theorem ok_Form_value (T : Txt P K mg ad) : FnOk P w K mg base (L2.CX P w) 3 ad.f_Form_value ad.d_Form_value ["self", "places"] (spX K (tbl ad) (fun i : Form_ × (List (Str × Int)) × Unit => [sv (rObj ad.c_Form (fl_Form K ad)) i.1, sv (rDct rStr Sum.inr rInt) i.2.1]) (fun _ => []) (fun i => m_Form_value i.1 i.2.1) rInt) := by
  refine okX T.F_Form_value sc_Form_value (fun _ => rfl) fun cdv A outer s0 H0 E0 B i hr tk hpo => ?_
  obtain ⟨a_self, a_places, _⟩ := i
  have hu := hr.units
  have hu2 := room100 hr
  show BG _ _ _ _ _ _ (m_Form_value a_self a_places)
  unfold m_Form_value
  refine b_set 2 (e_conv (e_fld (g := fun q : Form_ => q.own_constant) T.cl_Form T.na_Form_own_constant (e_name 0)) (by walk_at "wn")) (fun found_1 => ?_) sc_Form_value.nd
  refine b_for (S := Int) (fun s => [sv (rObj ad.c_Form (fl_Form K ad)) a_self, sv (rDct rStr Sum.inr rInt) a_places, sv rInt s, sa]) (fun s => []) (found_1 : Int) rfl (passes_of rfl) (s_conv (s_keys (e_fld (g := fun q : Form_ => q.own_terms) T.cl_Form T.na_Form_own_terms (e_name 0))) (by walk_at "wn")) (tg_name (i := 3)) (pg_name (i := 3) sc_Form_value.nd rfl (by walk_at "loc")) (fun M s3 x2 => ?_) (fun s11 => ?_) ⟨.inl rfl, .inl rfl, .inl rfl, .inr rfl, trivial⟩ rfl
  · unfold m_Form_value_l1
    refine b_ifA (t_conv (t_dnin key_str hu2 (e_name 3) fun _ => (e_name 1)) (by walk_at "wn")) ?_ ?_
    · exact b_conv (b_raise1G foot_lookup tk rfl (List.Mem.tail _ (List.Mem.tail _ (List.Mem.head _))) (by decide) T.ox_UnknownName T.ai_UnknownName T.ti_UnknownName (ex_UnknownName T) (hr.mono (by walk_at "lev")) T.xb_UnknownName T.n_UnknownName dd_str (by decide) (e_conv (e_name 3) (by walk_at "wn"))) rfl
    · refine b_augI 2 ip_add rfl (e_conv (e_mul (e_dget key_str hu2 (e_fld (g := fun q : Form_ => q.own_terms) T.cl_Form T.na_Form_own_terms (e_name 0)) fun _ => (e_name 3)) fun _ => (e_dget key_str hu2 (e_name 1) fun _ => (e_name 3))) (by walk_at "wn")) (fun found_8 => ?_) sc_Form_value.nd
      exact b_end (NxOk.nxS (s := (found_8 : Int)) ⟨.inl rfl, .inl rfl, .inl rfl, .inr rfl, trivial⟩ .slnil)
  · exact b_ret RtOk.fn OsW.nil (e_conv (e_name 2) (by walk_at "wn"))
def m_joined (a_text : Str) (a_coef : Int) (a_word : Str) : W Str :=
  bnd (ret (decide (a_text = ("" : Str)))) fun b1 => if b1 = true then (bnd (bnd (ret (decide (a_coef < ((0 : Int))))) fun c => if c = true then bnd (joinS Str.empty (("-" : Str))) fun u2 => joinS u2 a_word else ret (a_word)) fun z => ret z) else (bnd (bnd (ret (decide (a_coef < ((0 : Int))))) fun c => if c = true then bnd (joinS Str.empty a_text) fun u5 => bnd (joinS u5 ((" - " : Str))) fun u6 => joinS u6 a_word else bnd (joinS Str.empty a_text) fun u8 => bnd (joinS u8 ((" + " : Str))) fun u9 => joinS u9 a_word) fun z => ret z)
theorem ok_joined (T : Txt P K mg ad) : FnOk P w K mg base CX0 1 ad.f_joined ad.d_joined ["text", "coef", "word"] (spW (fun i : Str × Int × Str × Unit => [sv rStr i.1, sv rInt i.2.1, sv rStr i.2.2.1]) (fun _ => []) (fun i => m_joined i.1 i.2.1 i.2.2.1) rStr) := by
  refine okW T.F_joined sc_joined (fun _ => rfl) fun cdv A outer s0 H0 E0 B i hr => ?_
  obtain ⟨a_text, a_coef, a_word, _⟩ := i
  have hu := hr.units
  have hu2 := room100 hr
  show BG _ _ _ _ _ _ (m_joined a_text a_coef a_word)
  unfold m_joined
  refine b_ifA (t_conv (t_eqS (e_name 0) fun _ => e_str) (by walk_at "wn")) ?_ ?_
  · exact b_ret (RtOk.x RtOk.fn) OsW.nil (e_conv (e_if (t_lt (e_name 1) fun _ => e_int) (e_fstr (j_cons e_str (j_cons (e_fmtS (e_name 2)) j_nil))) (e_name 2)) (by walk_at "wn"))
  · exact b_ret RtOk.fn OsW.nil (e_conv (e_if (t_lt (e_name 1) fun _ => e_int) (e_fstr (j_cons (e_fmtS (e_name 0)) (j_cons e_str (j_cons (e_fmtS (e_name 2)) j_nil)))) (e_fstr (j_cons (e_fmtS (e_name 0)) (j_cons e_str (j_cons (e_fmtS (e_name 2)) j_nil))))) (by walk_at "wn"))
def m_Form_text_l1 (a_self : Form_) (s3 : Str) (x2 : Str) : W Str :=
  bnd (optW (dget a_self.own_terms x2)) fun coef_4 => bnd (bnd (ret (decide ((coef_4.natAbs : Int) = (1 : Int)))) fun c => if c = true then ret (x2) else bnd (intS ((coef_4.natAbs : Int))) fun t7 => bnd (joinS Str.empty t7) fun u8 => bnd (joinS u8 (("*" : Str))) fun u9 => joinS u9 x2) fun word_6 => bnd (noX (m_joined s3 coef_4 word_6)) fun found_12 => ret (found_12)
def m_Form_text (a_self : Form_) : W Str :=
  bnd (ret (("" : Str))) fun found_1 => bnd (ret (a_self.own_terms.map (·.1))) fun xs14 => bnd (forW (m_Form_text_l1 a_self) (found_1) xs14) fun (s15 : Str) => bnd (bnd (ret (!decide (a_self.own_constant = (0 : Int)))) fun c16 => if c16 = true then ret true else (ret (decide (s15 = ("" : Str))))) fun b18 => bnd (if b18 = true then (bnd (bnd (intS ((a_self.own_constant.natAbs : Int))) fun t20 => noX (m_joined s15 a_self.own_constant t20)) fun found_19 => ret (found_19)) else (ret (s15))) fun (s22 : Str) => bnd (ret (s22)) fun z => ret z
theorem ok_Form_text (T : Txt P K mg ad) : FnOk P w K mg base CX0 2 ad.f_Form_text ad.d_Form_text ["self"] (spW (fun i : Form_ × Unit => [sv (rObj ad.c_Form (fl_Form K ad)) i.1]) (fun _ => []) (fun i => m_Form_text i.1) rStr) := by
  refine okW T.F_Form_text sc_Form_text (fun _ => rfl) fun cdv A outer s0 H0 E0 B i hr => ?_
  obtain ⟨a_self, _⟩ := i
  have hu := hr.units
  have hu2 := room100 hr
  show BG _ _ _ _ _ _ (m_Form_text a_self)
  unfold m_Form_text
  refine b_set 1 (e_conv e_str (by walk_at "wn")) (fun found_1 => ?_) sc_Form_text.nd
  refine b_for (S := Str) (fun s => [sv (rObj ad.c_Form (fl_Form K ad)) a_self, sv rStr s, sa, sa, sa]) (fun s => []) (found_1 : Str) rfl PassesOwn.never (s_conv (s_keys (e_fld (g := fun q : Form_ => q.own_terms) T.cl_Form T.na_Form_own_terms (e_name 0))) (by walk_at "wn")) (tg_name (i := 2)) (pg_name (i := 2) sc_Form_text.nd rfl (by walk_at "loc")) (fun M s3 x2 => ?_) (fun s15 => ?_) ⟨.inl rfl, .inl rfl, .inr rfl, .inr rfl, .inr rfl, trivial⟩ rfl
  · unfold m_Form_text_l1
    refine b_set 3 (e_conv (e_dget key_str hu2 (e_fld (g := fun q : Form_ => q.own_terms) T.cl_Form T.na_Form_own_terms (e_name 0)) fun _ => (e_name 2)) (by walk_at "wn")) (fun coef_4 => ?_) sc_Form_text.nd
    refine b_set 4 (e_conv (e_if (t_eqI (e_abs (e_name 3) T.b_abs) fun _ => e_int) (e_name 2) (e_fstr (j_cons (e_fmtI (e_abs (e_name 3) T.b_abs)) (j_cons e_str (j_cons (e_fmtS (e_name 2)) j_nil))))) (by walk_at "wn")) (fun word_6 => ?_) sc_Form_text.nd
    refine b_set 1 (e_conv (e_call (ok_joined T) (hr.mono (by walk_at "lev")) T.m_joined T.F_joined.kp T.bd_joined (aa_cons (e_name 1) fun _ => (aa_cons (e_name 3) fun _ => (aa_cons (e_name 4) fun _ => aa_nil))) (fun _ => OsLe.none) (fun _ => List.nodup_nil)) (by walk_at "wn")) (fun found_12 => ?_) sc_Form_text.nd
    exact b_end (NxOk.nxS (s := (found_12 : Str)) ⟨.inl rfl, .inl rfl, .inr rfl, .inr rfl, .inr rfl, trivial⟩ .slnil)
  · refine b_ifJ (S := Str) (fun s => [sv (rObj ad.c_Form (fl_Form K ad)) a_self, sv rStr s, sa, sa, sa]) (fun s => []) (t_conv (t_pw (w_or (t_neI (e_fld (g := fun q : Form_ => q.own_constant) T.cl_Form T.na_Form_own_constant (e_name 0)) fun _ => e_int) (w_or1 (t_eqS (e_name 1) fun _ => e_str)))) (by walk_at "wn")) ?_ ?_ (fun s22 => ?_)
    · refine b_set 1 (e_conv (e_call (ok_joined T) (hr.mono (by walk_at "lev")) T.m_joined T.F_joined.kp T.bd_joined (aa_cons (e_name 1) fun _ => (aa_cons (e_fld (g := fun q : Form_ => q.own_constant) T.cl_Form T.na_Form_own_constant (e_name 0)) fun _ => (aa_cons (e_strI (e_abs (e_fld (g := fun q : Form_ => q.own_constant) T.cl_Form T.na_Form_own_constant (e_name 0)) T.b_abs) T.b_str) fun _ => aa_nil))) (fun _ => OsLe.none) (fun _ => List.nodup_nil)) (by walk_at "wn")) (fun found_19 => ?_) sc_Form_text.nd
      exact b_end (NxOk.nxS (s := (found_19 : Str)) ⟨.inl rfl, .inl rfl, .inr rfl, .inr rfl, .inr rfl, trivial⟩ .slnil)
    · exact b_end (NxOk.nxS (s := (s15 : Str)) ⟨.inl rfl, .inl rfl, .inr rfl, .inr rfl, .inr rfl, trivial⟩ .slnil)
    · exact b_ret RtOk.fn OsW.nil (e_conv (e_name 1) (by walk_at "wn"))
def m_Form_eq_v0 (a_self : Form_) (a_other : Form_) : W Bool :=
  bnd (ret (!true)) fun b1 => if b1 = true then (fail) else (bnd (bnd (ret (deqI a_self.own_terms a_other.own_terms)) fun c2 => if c2 = true then (ret (decide (a_self.own_constant = a_other.own_constant))) else ret false) fun z => ret z)
theorem ok_Form_eq_v0 (T : Txt P K mg ad) : FnOk P w K mg base CX0 1 ad.f_Form_eq ad.d_Form_eq ["self", "other"] (spW (fun i : Form_ × Form_ × Unit => [sv (rObj ad.c_Form (fl_Form K ad)) i.1, sv (rObj ad.c_Form (fl_Form K ad)) i.2.1]) (fun _ => []) (fun i => m_Form_eq_v0 i.1 i.2.1) rBool) := by
  refine okW T.F_Form_eq sc_Form_eq (fun _ => rfl) fun cdv A outer s0 H0 E0 B i hr => ?_
  obtain ⟨a_self, a_other, _⟩ := i
  have hu := hr.units
  have hu2 := room100 hr
  show BG _ _ _ _ _ _ (m_Form_eq_v0 a_self a_other)
  unfold m_Form_eq_v0
  refine b_ifA (t_conv (t_not (t_val (e_isC (k := true) (ty_obj T.ic_Form) T.k_Form_Form (e_name 1) T.b_isinstance T.n_Form))) (by walk_at "wn")) ?_ ?_
  · exact b_never
  · exact b_ret RtOk.fn OsW.nil (e_conv (e_and (e_eqDI key_str (Nat.lt_of_le_of_lt (Nat.le_add_right _ 64) hu) (e_fld (g := fun q : Form_ => q.own_terms) T.cl_Form T.na_Form_own_terms (e_name 0)) fun _ => (e_fld (g := fun q : Form_ => q.own_terms) T.cl_Form T.na_Form_own_terms (e_name 1))) (e_one (e_eqI (e_fld (g := fun q : Form_ => q.own_constant) T.cl_Form T.na_Form_own_constant (e_name 0)) fun _ => (e_fld (g := fun q : Form_ => q.own_constant) T.cl_Form T.na_Form_own_constant (e_name 1))))) (by walk_at "wn"))
def m_Form_eq_v1 (a_self : Form_) (a_other : Str) : W Bool :=
  bnd (ret (!false)) fun b1 => if b1 = true then (bnd (ret (false)) fun z => ret z) else (fail)
theorem ok_Form_eq_v1 (T : Txt P K mg ad) : FnOk P w K mg base CX0 1 ad.f_Form_eq ad.d_Form_eq ["self", "other"] (spW (fun i : Form_ × Str × Unit => [sv (rObj ad.c_Form (fl_Form K ad)) i.1, sv rStr i.2.1]) (fun _ => []) (fun i => m_Form_eq_v1 i.1 i.2.1) rBool) := by
  refine okW T.F_Form_eq sc_Form_eq (fun _ => rfl) fun cdv A outer s0 H0 E0 B i hr => ?_
  obtain ⟨a_self, a_other, _⟩ := i
  have hu := hr.units
  have hu2 := room100 hr
  show BG _ _ _ _ _ _ (m_Form_eq_v1 a_self a_other)
  unfold m_Form_eq_v1
  refine b_ifA (t_conv (t_not (t_val (e_isC (k := false) ty_str T.k_str_Form (e_name 1) T.b_isinstance T.n_Form))) (by walk_at "wn")) ?_ ?_
  · exact b_ret (RtOk.x RtOk.fn) OsW.nil (e_conv e_bl (by walk_at "wn"))
  · exact b_never
def m_Form_eq_v2 (a_self : Form_) (a_other : Int) : W Bool :=
  bnd (ret (!false)) fun b1 => if b1 = true then (bnd (ret (false)) fun z => ret z) else (fail)
theorem ok_Form_eq_v2 (T : Txt P K mg ad) : FnOk P w K mg base CX0 1 ad.f_Form_eq ad.d_Form_eq ["self", "other"] (spW (fun i : Form_ × Int × Unit => [sv (rObj ad.c_Form (fl_Form K ad)) i.1, sv rInt i.2.1]) (fun _ => []) (fun i => m_Form_eq_v2 i.1 i.2.1) rBool) := by
  refine okW T.F_Form_eq sc_Form_eq (fun _ => rfl) fun cdv A outer s0 H0 E0 B i hr => ?_
  obtain ⟨a_self, a_other, _⟩ := i
  have hu := hr.units
  have hu2 := room100 hr
  show BG _ _ _ _ _ _ (m_Form_eq_v2 a_self a_other)
  unfold m_Form_eq_v2
  refine b_ifA (t_conv (t_not (t_val (e_isC (k := false) ty_int T.k_int_Form (e_name 1) T.b_isinstance T.n_Form))) (by walk_at "wn")) ?_ ?_
  · exact b_ret (RtOk.x RtOk.fn) OsW.nil (e_conv e_bl (by walk_at "wn"))
  · exact b_never
def m_Form_repr (a_self : Form_) : W Str :=
  bnd (bnd (joinS Str.empty (("Form(" : Str))) fun u2 => bnd (noX (m_Form_text a_self)) fun r1 => bnd (joinS u2 r1) fun u3 => joinS u3 ((")" : Str))) fun z => ret z
theorem ok_Form_repr (T : Txt P K mg ad) : FnOk P w K mg base CX0 3 ad.f_Form_repr ad.d_Form_repr ["self"] (spW (fun i : Form_ × Unit => [sv (rObj ad.c_Form (fl_Form K ad)) i.1]) (fun _ => []) (fun i => m_Form_repr i.1) rStr) := by
  refine okW T.F_Form_repr sc_Form_repr (fun _ => rfl) fun cdv A outer s0 H0 E0 B i hr => ?_
  obtain ⟨a_self, _⟩ := i
  have hu := hr.units
  have hu2 := room100 hr
  show BG _ _ _ _ _ _ (m_Form_repr a_self)
  unfold m_Form_repr
  exact b_ret RtOk.fn OsW.nil (e_conv (e_fstr (j_cons e_str (j_cons (e_fmtS (er_V (e_methZ (conv := fun q : Unit => (())) (dfl := []) (dvs := []) (fl := fl_Form K ad) (ok_Form_text T) pass0 spf_W0 (hr.mono (by walk_at "lev")) T.cl_Form T.mt_Form_text T.cb_Form_text_0 (fun _ => .nil) (e_name 0) (fun _ => hh_none) (fun _ _ => rfl)))) (j_cons e_str j_nil)))) (by walk_at "wn"))
def m_law_bag_l1 (s : Int) (x : Int) : W Int :=
  bnd (bnd (mulI s 50147) fun t1 => bnd (modI x 2147483543) fun t2 => bnd (modI (t1 + t2 + 31) 2147483563) fun t3 => ret t3) fun m => ret m
def m_law_bag (ns : List Int) : W (List Int × Int) :=
  bnd (ret 12021) fun m => bnd (ret (cutL ns none (some 63))) fun xs => bnd (forW m_law_bag_l1 m xs) fun s : Int => bnd (ret (cutL ns none (some 63))) fun c => bnd (ret s) fun y => ret (c, y)
theorem ok_law_bag (T : Txt P K mg ad) : FnOk P w K mg base CX0 1 ad.f_law_bag ad.d_law_bag ["_law_script"] (spBag K) := by
  refine T.F_law_bag.ok sc_law_bag (fun vs H Q E ⟨a, ns, e, _⟩ => by rw [e]; rfl) fun cdv A outer s H vs Q E hr hsp => ?_
  obtain ⟨a, ns, rfl, hsq, hlen, hk⟩ := hsp
  refine ⟨_, (?_ : BG _ (bs0 H H []) [sv (rScr K) ns, sa, sa] [] _ (pBag (bs0 H H [])) (m_law_bag ns)), H, fun _ => True, ⟨bs0_start (Ex.refl H) (fun p hp => nomatch hp), .cons ⟨_, rfl, a, rfl, hsq, hlen⟩ (.cons trivial (.cons trivial .nil)), (fun p hp => nomatch hp), List.nodup_nil⟩, ?_, fun y hy b c H' h1 h2 h3 h4 h5 h6 h7 => hk b c _ _ H' h1 h2 h3 h4 h5 h6 h7⟩
  · unfold m_law_bag
    refine b_set 1 e_int (fun m => ?_) sc_law_bag.nd
    refine b_for (S := Int) (fun s => [sv (rScr K) ns, sv rInt s, sa]) (fun _ => []) (m : Int) rfl PassesOwn.never (s_conv (s_list (e_new (n_sliceScr (e_name 0) o_none (o_some e_int)))) (by walk_at "wn")) (tg_name (i := 2)) (pg_name (i := 2) sc_law_bag.nd rfl (by walk_at "loc")) (fun M s x => ?_) (fun s => ?_) ⟨.inl rfl, .inl rfl, .inr rfl, trivial⟩ rfl
    · unfold m_law_bag_l1
      refine b_set 1 (e_conv (e_mod (e_intI (e_add (e_add (e_mul (e_name 1) fun _ => e_int) fun _ => e_mod (e_intI (e_name 2) T.b_int) fun _ => e_int) fun _ => e_int) T.b_int) fun _ => e_int) (by walk_at "wn")) (fun m => ?_) sc_law_bag.nd
      exact b_end (NxOk.nxS (s := m) ⟨.inl rfl, .inl rfl, .inr rfl, trivial⟩ .slnil)
    · exact b_bagR (w1 := ret (cutL ns none (some 63))) (w2 := fun _ => ret s) (fun _ h => nomatch h) (n_conv (n_listL (e_new (n_sliceScr (e_name 0) o_none (o_some e_int))) T.b_list) (by walk_at "wn")) (fun _ _ => e_name 1)
  · unfold m_law_bag
    show forW m_law_bag_l1 12021 _ (fun _ => True) (fun _ => False)
    refine forW_of (I := fun _ => True) (fun s x Q _ h => ?_) trivial (fun _ _ => trivial)
    unfold m_law_bag_l1
    refine mulI_of (mul_small (by decide)) ?_
    refine modI_of (by decide) fun _ _ _ => ?_
    exact modI_of (by decide) fun _ _ _ => h _ trivial
theorem ok_law_draw (T : Txt P K mg ad) (b : Addr) (cells : List Int) : FnOk P w K mg base CX0 1 ad.f_law_draw ad.d_law_draw ["_law_bag_here", "_law_most"] (spW (fun i : Unit × Int × Unit => [sv (rAdr b) i.1, sv rInt i.2.1]) (fun _ => [(b, oBag cells)]) (fun i => drawW i.2.1) rInt) := by
  refine okW T.F_law_draw sc_law_draw (fun _ => rfl) fun cdv A outer s H E B i hr => ?_
  obtain ⟨_, most, _⟩ := i
  refine b_open 0 rfl bag_in fun p => ?_
  obtain ⟨n, d, m, k⟩ := p
  refine BG.imp (w := bnd (drC cells n d most) fun b => bnd (if b = true then drA cells n m else ret ()) fun _ : Unit => drawW most) ?_ ?_
  · unfold drC
    refine b_ifJ (S := Unit) (fun _ => [sv (rAdr b) (), sv rInt most, sa, sa, sa, sa]) (fun _ => [(b, oBag cells)])
      (t_conv (t_pw (w_and (t_lt (e_hidx 0 0 2 rfl rfl rfl) fun _ => e_name 1) (w_and1 (t_lt (e_hidx 0 0 1 rfl rfl rfl) fun _ => e_len (e_hidx 0 0 0 rfl rfl rfl) T.b_len)))) (by walk_at "wn")) ?_ ?_ (fun _ => ?_)
    · unfold drA
      refine b_set 2 (e_conv (e_idx (e_hidx 0 0 0 rfl rfl rfl) fun _ => e_hidx 0 0 1 rfl rfl rfl) (by walk_at "wn")) (fun cell => ?_) sc_law_draw.nd
      refine b_hput 0 0 1 rfl rfl (by show (1 : Nat) < 5; decide) (e_conv (e_add (e_hidx 0 0 1 rfl rfl rfl) fun _ => e_int) (by walk_at "wn")) (fun i1 => ?_)
      refine b_chk fun hi1 => ?_
      refine b_hput 0 0 3 rfl rfl (by show (3 : Nat) < 5; decide) (e_conv (e_mod (e_intI (e_add (e_add (e_mul (e_hidx 0 0 3 rfl rfl rfl) fun _ => e_int) fun _ => e_mod (e_intI (e_name 2) T.b_int) fun _ => e_int) fun _ => e_int) T.b_int) fun _ => e_int) (by walk_at "wn")) (fun m1 => ?_)
      refine b_hput 0 0 2 rfl rfl (by show (2 : Nat) < 5; decide) (e_conv (e_if (t_ge (e_name 2) fun _ => e_pow e_int fun _ => e_int) (e_name 2) e_int) (by walk_at "wn")) (fun d1 => ?_)
      exact b_end (NxOk.one rfl ⟨.inl rfl, .inl rfl, .inr rfl, .inr rfl, .inr rfl, .inr rfl, trivial⟩ (bag_out (n := n + 1) (by omega)))
    · exact b_end (NxOk.one rfl ⟨.inl rfl, .inl rfl, .inr rfl, .inr rfl, .inr rfl, .inr rfl, trivial⟩ (bag_out rfl))
    · refine b_open 0 rfl bag_in fun p => ?_
      obtain ⟨n, d, m, k⟩ := p
      refine BG.imp (w := bnd (ret (decide (most ≤ d))) fun b => if b = true then drB d most else drR m k most) ?_ ?_
      · refine b_ifA (t_conv (t_ge (e_hidx 0 0 2 rfl rfl rfl) fun _ => e_name 1) (by walk_at "wn")) ?_ ?_
        · unfold drB
          refine b_set 3 (e_conv (e_mod (e_intI (e_hidx 0 0 2 rfl rfl rfl) T.b_int) fun _ => e_name 1) (by walk_at "wn")) (fun digit => ?_) sc_law_draw.nd
          refine b_hput 0 0 2 rfl rfl (by show (2 : Nat) < 5; decide) (e_conv (e_div (e_hidx 0 0 2 rfl rfl rfl) fun _ => e_name 1) (by walk_at "wn")) (fun d1 => ?_)
          exact b_ret (RtOk.x RtOk.fn) (OsW.one (bag_out rfl)) (e_name 3)
        · unfold drR
          refine b_hput 0 0 4 rfl rfl (by show (4 : Nat) < 5; decide) (e_conv (e_add (e_hidx 0 0 4 rfl rfl rfl) fun _ => e_int) (by walk_at "wn")) (fun k1 => ?_)
          refine b_set 4 (e_conv (e_mod (e_intI (e_add (e_hidx 0 0 3 rfl rfl rfl) fun _ => e_mul (e_hidx 0 0 4 rfl rfl rfl) fun _ => e_int) T.b_int) fun _ => e_int) (by walk_at "wn")) (fun base => ?_) sc_law_draw.nd
          refine b_set 5 (e_conv (e_mul (e_mod (e_intI (e_mul (e_name 4) fun _ => e_name 4) T.b_int) fun _ => e_int) fun _ => e_add (e_mod (e_intI (e_name 4) T.b_int) fun _ => e_int) fun _ => e_int) (by walk_at "wn")) (fun late => ?_) sc_law_draw.nd
          refine b_hput 0 0 3 rfl rfl (by show (3 : Nat) < 5; decide) (e_conv (e_mod (e_intI (e_add (e_add (e_name 5) fun _ => e_mul e_int fun _ => e_name 4) fun _ => e_int) T.b_int) fun _ => e_int) (by walk_at "wn")) (fun m1 => ?_)
          exact b_ret RtOk.fn (OsW.one (bag_out rfl)) (e_conv (e_mod (e_intI (e_add (e_div (e_hidx 0 0 3 rfl rfl rfl) fun _ => e_int) fun _ => e_mul (e_mod (e_intI (e_hidx 0 0 3 rfl rfl rfl) T.b_int) fun _ => e_int) fun _ => e_int) T.b_int) fun _ => e_name 1) (by walk_at "wn"))
      · rintro P E ⟨h1, h2, h3⟩
        show (if decide (most ≤ d) = true then drB d most else drR m k most) P E
        split
        · exact drB_of h1 h2 h3
        · exact drR_of h1 h2 h3
  · intro P E h
    refine drC_of (fun hn => drA_of hn ?_) ?_
    · exact h
    · exact h
theorem ok_law_any {α : Type} (T : Txt P K mg ad) (b : Addr) (cells : List Int) (r : Rp α) : FnOk P w K mg base CX0 2 ad.f_law_any ad.d_law_any ["_law_bag_here", "_law_some"] (spW (fun i : Unit × List α × Unit => [sv (rAdr b) i.1, sv (rLst r) i.2.1]) (fun _ => [(b, oBag cells)]) (fun i => anyW i.2.1) r) := by
  refine okW T.F_law_any sc_law_any (fun _ => rfl) fun cdv A outer s H E B i hr => ?_
  obtain ⟨_, xs, _⟩ := i
  show BG _ _ _ _ _ _ (anyW xs)
  refine b_conv (b_ret RtOk.fn (OsW.of (OsLe.mem (List.Mem.head _))) (e_idx (e_name 1) fun _ => e_call (ok_law_draw T b cells) (hr.mono (by walk_at "lev")) T.m_law_draw T.F_law_draw.kp T.bd_law_draw (aa_cons (e_name 0) fun _ => aa_cons (e_len (e_name 1) T.b_len) fun _ => aa_nil) (fun _ => OsLe.mem (List.Mem.head _)) (fun _ => by simp))) ?_
  unfold anyW
  simp only [Mi.wn_bb, Mi.wn_br, Mi.wn_rb]
theorem ok_law_any_s (T : Txt P K mg ad) (b : Addr) (cells : List Int) : FnOk P w K mg base CX0 2 ad.f_law_any ad.d_law_any ["_law_bag_here", "_law_some"] (spW (fun i : Unit × Str × Unit => [sv (rAdr b) i.1, sv rStr i.2.1]) (fun _ => [(b, oBag cells)]) (fun i => anyS i.2.1) rStr) := by
  refine okW T.F_law_any sc_law_any (fun _ => rfl) fun cdv A outer s H E B i hr => ?_
  obtain ⟨_, xs, _⟩ := i
  show BG _ _ _ _ _ _ (anyS xs)
  refine b_conv (b_ret RtOk.fn (OsW.of (OsLe.mem (List.Mem.head _))) (e_idxS (e_name 1) fun _ => e_call (ok_law_draw T b cells) (hr.mono (by walk_at "lev")) T.m_law_draw T.F_law_draw.kp T.bd_law_draw (aa_cons (e_name 0) fun _ => aa_cons (e_lenS (e_name 1) T.b_len) fun _ => aa_nil) (fun _ => OsLe.mem (List.Mem.head _)) (fun _ => by simp))) ?_
  unfold anyS
  simp only [Mi.wn_bb, Mi.wn_br, Mi.wn_rb]
def m_law_mixed_l1 (s4 : (List (Int × Str))) (x3 : (Int × Str)) : W (List (Int × Str)) :=
  bnd (noX (drawW (((s4.length : Int)) + ((1 : Int))))) fun k8 => bnd (ret (x3)) fun y7 => chk (s4.length < sizeLine ∧ 0 ≤ k8 ∧ k8 < 2 ^ 63) (bnd (ret (s4.take k8.toNat ++ [y7] ++ s4.drop k8.toNat)) fun found_6 => ret (found_6))
def m_law_mixed (a_law_things : (List (Int × Str))) : W (List (Int × Str)) :=
  bnd (ret (([] : (List (Int × Str))))) fun found_1 => bnd (ret (a_law_things)) fun xs9 => bnd (forW m_law_mixed_l1 (found_1) xs9) fun (s10 : (List (Int × Str))) => bnd (ret (s10)) fun z => ret z
theorem ok_law_mixed (T : Txt P K mg ad) (b : Addr) (cells : List Int) : FnOk P w K mg base CX0 2 ad.f_law_mixed ad.d_law_mixed ["_law_bag_here", "_law_things"] (spW (fun i : Unit × (List (Int × Str)) × Unit => [sv (rAdr b) i.1, sv (rLst (rT2 K rInt rStr)) i.2.1]) (fun _ => [(b, oBag cells)]) (fun i => m_law_mixed i.2.1) (rLst (rT2 K rInt rStr))) := by
  refine okW T.F_law_mixed sc_law_mixed (fun _ => rfl) fun cdv A outer s0 H0 E0 B i hr => ?_
  obtain ⟨_, a_law_things, _⟩ := i
  have hu := hr.units
  have hu2 := room100 hr
  show BG _ _ _ _ _ _ (m_law_mixed a_law_things)
  unfold m_law_mixed
  refine b_own 2 (n_conv (n_list (r := (rT2 K rInt rStr)) al_nil) (by walk_at "wn")) (fun p2 found_1 => ?_) sc_law_mixed.nd
  refine b_for (S := (List (Int × Str))) (fun s => [sv (rAdr b) (()), sv (rLst (rT2 K rInt rStr)) a_law_things, sv (rAdr p2) (), sa]) (fun s => [(p2, oLst (rT2 K rInt rStr) s), (b, oBag cells)]) (found_1 : (List (Int × Str))) rfl PassesOwn.never (s_conv (s_list (e_name 1)) (by walk_at "wn")) (tg_name (i := 3)) (pg_name (i := 3) sc_law_mixed.nd rfl (by walk_at "loc")) (fun M s4 x3 => ?_) (fun s10 => ?_) ⟨.inl rfl, .inl rfl, .inl rfl, .inr rfl, trivial⟩ rfl
  · unfold m_law_mixed_l1
    refine b_insert 2 0 rfl rfl (e_conv (e_call (ok_law_draw T b cells) (hr.mono (by walk_at "lev")) T.m_law_draw T.F_law_draw.kp T.bd_law_draw (aa_cons (e_name 0) fun _ => (aa_cons (e_add (e_lenO 2 0 rfl rfl T.b_len) fun _ => e_int) fun _ => aa_nil)) (fun _ => OsLe.mem (List.Mem.tail _ (List.Mem.head _))) (fun _ => by simp)) (by walk_at "wn")) (fun _ => e_conv (e_name 3) (by walk_at "wn")) (fun found_6 => ?_)
    exact b_end (NxOk.nxS (s := (found_6 : (List (Int × Str)))) ⟨.inl rfl, .inl rfl, .inl rfl, .inr rfl, trivial⟩ (.cons_cons _ (.cons_cons _ .slnil)))
  · refine b_freeze 2 0 rfl rfl ?_
    exact b_ret RtOk.fn (OsW.of (OsLe.mem (List.Mem.head _))) (e_conv (e_name 2) (by walk_at "wn"))
theorem ok_law_same {α β : Type} {r : Rp α} {s : Rp β} {f : α → PyData} {g : β → PyData} {n m : Nat} (T : Txt P K mg ad) (d : DD K r f n) (e : DD K s g m) (hn : n ≤ 64 := by decide) (hm : m ≤ 64 := by decide) :
    FnG P w K mg base CX0 1 ad.f_law_same ad.d_law_same ["_law_found", "_law_due"] (spW (fun i : α × β × Unit => [sv r i.1, sv s i.2.1]) (fun _ => []) (fun i => sameW f g i.1 i.2.1) rBool) := by
  refine fnW T.F_law_same sc_law_same (fun _ => rfl) fun cdv A outer s0 H E B i hr hgu0 => ?_
  obtain ⟨x, y, _⟩ := i
  have hu2 := room100 hr
  have hgu := guards_deeper (q := "_law_same") (sc := defScope s_law_same) (n := s0.heap.objs.size) (f := ad.f_law_same) (c := cdv) hgu0
  show BG _ _ _ _ _ _ (sameW f g x y)
  refine b_conv (b_ret RtOk.fn OsW.nil (e_eqS (e_repr hu2 hgu d (e_name 0) T.b_repr hn) fun _ => e_repr hu2 hgu e (e_name 1) T.b_repr hm)) ?_
  unfold sameW
  simp only [Mi.wn_bb, Mi.wn_br, Mi.wn_rb]
def m_law_field (a_law_e : Er) : W PyData :=
  bnd (ret (decide (Str.ofString a_law_e.cls ∈ ([("InvalidForm" : Str), ("InvalidRows" : Str), ("InvalidPoly" : Str), ("InvalidTable" : Str), ("InvalidSingles" : Str), ("InvalidDeed" : Str)])))) fun b1 => if b1 = true then (bnd (excF ftb a_law_e "at") fun z => ret z) else (bnd (ret (decide (Str.ofString a_law_e.cls ∈ ([("DuplicateName" : Str), ("UnknownName" : Str), ("TooMany" : Str), ("TooDeep" : Str)])))) fun b3 => if b3 = true then (bnd (bnd (ret (decide (Str.ofString a_law_e.cls ∈ ([("DuplicateName" : Str), ("UnknownName" : Str)])))) fun c => if c = true then excF ftb a_law_e "name" else excF ftb a_law_e "most") fun z => ret z) else (bnd (ret (decide (Str.ofString a_law_e.cls ∈ ([("InvalidText" : Str), ("OtherParameters" : Str), ("NothingLeft" : Str)])))) fun b7 => if b7 = true then (bnd (ret ((fun _ => .none) (()))) fun z => ret z) else (bnd (ret (decide (Str.ofString a_law_e.cls ∈ ([("InvalidPage" : Str), ("InUse" : Str)])))) fun b8 => if b8 = true then (bnd (bnd (ret (decide (Str.ofString a_law_e.cls = ("InvalidPage" : Str)))) fun c => if c = true then excF ftb a_law_e "line" else excF ftb a_law_e "user") fun z => ret z) else (bnd (ret (decide (Str.ofString a_law_e.cls ∈ ([("Full" : Str), ("NotEnough" : Str)])))) fun b12 => if b12 = true then (bnd (bnd (ret (decide (Str.ofString a_law_e.cls = ("Full" : Str)))) fun c => if c = true then excF ftb a_law_e "limit" else excF ftb a_law_e "number") fun z => ret z) else (bnd (excF ftb a_law_e "given") fun z => ret z)))))
theorem ok_law_field (T : Txt P K mg ad) : FnS P w K mg base 1 ad.f_law_field ad.d_law_field ["_law_e"] (fun p => spW (fun i : Er × Unit => [sv (rExc K (tbl ad) p) i.1]) (fun _ => []) (fun i => m_law_field i.1) (rD K)) := by
  refine okS T.F_law_field sc_law_field (fun _ _ => rfl) fun cdv A outer s0 H0 B p i => ?_
  obtain ⟨a_law_e, _⟩ := i
  show BG _ _ _ _ _ _ (m_law_field a_law_e)
  unfold m_law_field
  refine b_ifA (t_conv (t_inST (e_excCode 0 (List.Mem.head _) T.tbok) fun _ => (e_tupL (al_cons e_str (al_cons e_str (al_cons e_str (al_cons e_str (al_cons e_str (al_cons e_str al_nil)))))))) (by walk_at "wn")) ?_ ?_
  · exact b_ret (RtOk.x RtOk.fn) OsW.nil (e_conv (e_excFld 0 (List.Mem.head _) T.tbok) (by walk_at "wn"))
  · refine b_ifA (t_conv (t_inST (e_excCode 0 (List.Mem.head _) T.tbok) fun _ => (e_tupL (al_cons e_str (al_cons e_str (al_cons e_str (al_cons e_str al_nil)))))) (by walk_at "wn")) ?_ ?_
    · exact b_ret (RtOk.x RtOk.fn) OsW.nil (e_conv (e_if (t_inST (e_excCode 0 (List.Mem.head _) T.tbok) fun _ => (e_tupL (al_cons e_str (al_cons e_str al_nil)))) (e_excFld 0 (List.Mem.head _) T.tbok) (e_excFld 0 (List.Mem.head _) T.tbok)) (by walk_at "wn"))
    · refine b_ifA (t_conv (t_inST (e_excCode 0 (List.Mem.head _) T.tbok) fun _ => (e_tupL (al_cons e_str (al_cons e_str (al_cons e_str al_nil))))) (by walk_at "wn")) ?_ ?_
      · exact b_ret (RtOk.x RtOk.fn) OsW.nil (e_conv (e_toD dd_non e_non) (by walk_at "wn"))
      · refine b_ifA (t_conv (t_inST (e_excCode 0 (List.Mem.head _) T.tbok) fun _ => (e_tupL (al_cons e_str (al_cons e_str al_nil)))) (by walk_at "wn")) ?_ ?_
        · exact b_ret (RtOk.x RtOk.fn) OsW.nil (e_conv (e_if (t_eqS (e_excCode 0 (List.Mem.head _) T.tbok) fun _ => e_str) (e_excFld 0 (List.Mem.head _) T.tbok) (e_excFld 0 (List.Mem.head _) T.tbok)) (by walk_at "wn"))
        · refine b_ifA (t_conv (t_inST (e_excCode 0 (List.Mem.head _) T.tbok) fun _ => (e_tupL (al_cons e_str (al_cons e_str al_nil)))) (by walk_at "wn")) ?_ ?_
          · exact b_ret (RtOk.x RtOk.fn) OsW.nil (e_conv (e_if (t_eqS (e_excCode 0 (List.Mem.head _) T.tbok) fun _ => e_str) (e_excFld 0 (List.Mem.head _) T.tbok) (e_excFld 0 (List.Mem.head _) T.tbok)) (by walk_at "wn"))
          · exact b_ret RtOk.fn OsW.nil (e_conv (e_excFld 0 (List.Mem.head _) T.tbok) (by walk_at "wn"))
def m_law_got (ask : W PyData) : W (Str × PyData) := tryW (bnd ask fun x => ret (("" : Str), x)) fun e => bnd (noX (m_law_field e)) fun x => ret (Str.ofString e.cls, x)
theorem ok_law_got (T : Txt P K mg ad) : FnOk P w K mg base CX0 9 ad.f_law_got ad.d_law_got ["_law_ask"] (spW (fun i : (W PyData) × Unit => [sv (rClo P w K mg base (tbl ad) 8 (rD K)) i.1]) (fun _ => []) (fun i => m_law_got i.1) (rT2 K rStr (rD K))) := by
  refine tryFn (x1 := "DialError") (x2 := "Missing") (n := "_law_e") (i := 1) (w1 := fun i : (W PyData) × Unit => bnd i.1 fun x => ret (("" : Str), x)) (w2 := fun e => bnd (noX (m_law_field e)) fun x => ret (Str.ofString e.cls, x)) T.F_law_got sc_law_got (fun _ => rfl) rfl rfl rfl rfl rfl (by decide) (by decide) T.n_DialError T.n_Missing T.xall ?_ ?_
  · intro cdv A outer s0 H0 E0 pn xe B i0 hr tk
    obtain ⟨ask, _⟩ := i0
    exact (b_conv (b_ret RtOk.fn OsW.nil (e_tup2 e_str fun _ => e_callClo 0 tk (hr.mono (by walk_at "lev")))) (by walk_at "wn"))
  · intro cdv A outer s0 H0 E0 a oe pn B e hr
    exact (b_conv (b_ret RtOk.fn OsW.nil (e_tup2 (e_excCode 1 (List.Mem.head _) T.tbok) fun _ => e_callS (ok_law_field T) (List.Mem.head _) (L2H.RoomH.mono (k := 8) ⟨hr.dp, hr.un⟩ (by walk_at "lev")) T.m_law_field T.F_law_field.kp T.bd_law_field (aa_cons (e_name 1) fun _ => aa_nil))) (by walk_at "wn"))
def m_law_odd (a_law_more : (List PyData)) : W PyData :=
  bnd (bnd (catL ([(fun _ => .none) (()), .bool true, .bool false, .str (("" : Str)), .str (("1" : Str)), .str (("A b" : Str)), (fun xs => PyData.tuple (xs.map .int)) (([] : List Int)), (fun xs => PyData.list (xs.map .int)) (([] : (List Int))), (fun xs => PyData.list (xs.map .int)) ([(1 : Int)]), (fun x => PyData.tuple [.int x.1, .str x.2]) (((2 : Int), ("A" : Str))), (fun xs => PyData.tuple (xs.map .str)) ([("x" : Str)])]) a_law_more) fun t1 => noX (anyW t1)) fun z => ret z
theorem ok_law_odd (T : Txt P K mg ad) (b : Addr) (cells : List Int) : FnOk P w K mg base CX0 3 ad.f_law_odd ad.d_law_odd ["_law_bag_here", "_law_more"] (spW (fun i : Unit × (List PyData) × Unit => [sv (rAdr b) i.1, sv (rLst (rDk K 12)) i.2.1]) (fun _ => [(b, oBag cells)]) (fun i => m_law_odd i.2.1) (rDk K 12)) := by
  refine okW T.F_law_odd sc_law_odd (fun _ => rfl) fun cdv A outer s0 H0 E0 B i hr => ?_
  obtain ⟨_, a_law_more, _⟩ := i
  have hu := hr.units
  have hu2 := room100 hr
  show BG _ _ _ _ _ _ (m_law_odd a_law_more)
  unfold m_law_odd
  exact b_ret RtOk.fn (OsW.of (OsLe.mem (List.Mem.head _))) (e_conv (e_call (ok_law_any T b cells (rDk K 12)) (hr.mono (by walk_at "lev")) T.m_law_any T.F_law_any.kp T.bd_law_any (aa_cons (e_name 0) fun _ => (aa_cons (e_new (n_cat (e_new (n_list (al_cons (e_toDk (m := 12) dd_non e_non) (al_cons (e_toDk (m := 12) dd_bool e_bl) (al_cons (e_toDk (m := 12) dd_bool e_bl) (al_cons (e_toDk (m := 12) dd_str e_str) (al_cons (e_toDk (m := 12) dd_str e_str) (al_cons (e_toDk (m := 12) dd_str e_str) (al_cons (e_toDk (m := 12) (dd_tup dd_int) (e_tupL al_nil)) (al_cons (e_toDk (m := 12) (dd_lst dd_int) (e_new (n_list (r := rInt) al_nil))) (al_cons (e_toDk (m := 12) (dd_lst dd_int) (e_new (n_list (al_cons e_int al_nil)))) (al_cons (e_toDk (m := 12) (dd_t2 dd_int dd_str) (e_tup2 e_int fun _ => e_str)) (al_cons (e_toDk (m := 12) (dd_tup dd_str) (e_tupL (al_cons e_str al_nil))) al_nil))))))))))))) fun _ => (e_name 1))) fun _ => aa_nil)) (fun _ => OsLe.mem (List.Mem.head _)) (fun _ => by simp)) (by walk_at "wn"))
def m_law_names_l1 (letters_1 : Str) (s6 : Str) (x5 : Int) : W Str :=
  bnd (bnd (noX (anyS letters_1)) fun r8 => catS s6 r8) fun stem_7 => ret (stem_7)
def m_law_names (a_law_many : Int) : W (List Str) :=
  bnd (ret (("abcdefghijklmopqrstuvwxyz" : Str))) fun letters_1 => bnd (ret (("" : Str))) fun stem_2 => bnd (bnd (noX (anyW ([(0 : Int), (0 : Int), (1 : Int), (3 : Int), (5 : Int)]))) fun r3 => rng1 r3) fun xs10 => bnd (forW (m_law_names_l1 letters_1) (stem_2) xs10) fun (s11 : Str) => bnd (noX (drawW (((s11.length : Int)) + ((1 : Int))))) fun at_12 => bnd (noX (drawW ((25 : Int)))) fun first_13 => bnd (bnd (rng1 a_law_many) fun l17 => mapW (fun (x18 : Int) => bnd (mulI ((7 : Int)) x18) fun t19 => bnd (modI (first_13 + t19) ((25 : Int))) fun t20 => bnd (idxS letters_1 t20) fun t21 => bnd (catS (cutS s11 none (some at_12)) t21) fun t22 => catS t22 (cutS s11 (some at_12) none)) l17) fun z => ret z
theorem ok_law_names (T : Txt P K mg ad) (b : Addr) (cells : List Int) : FnOk P w K mg base CX0 3 ad.f_law_names ad.d_law_names ["_law_bag_here", "_law_many"] (spW (fun i : Unit × Int × Unit => [sv (rAdr b) i.1, sv rInt i.2.1]) (fun _ => [(b, oBag cells)]) (fun i => m_law_names i.2.1) (rLst rStr)) := by
  refine okW T.F_law_names sc_law_names (fun _ => rfl) fun cdv A outer s0 H0 E0 B i hr => ?_
  obtain ⟨_, a_law_many, _⟩ := i
  have hu := hr.units
  have hu2 := room100 hr
  show BG _ _ _ _ _ _ (m_law_names a_law_many)
  unfold m_law_names
  first | refine b_par2 (ps_par (i := 2) (j := 3) rfl sc_law_names.nd rfl rfl (by decide) rfl rfl (pa2 (e_conv e_str (by walk_at "wn")) (fun _ => e_conv e_str rfl)) rfl) (fun letters_1 stem_2 => ?_) | refine b_par2T (ps_asg (pe_tup (pa2 (e_conv e_str (by walk_at "wn")) (fun _ => e_conv e_str rfl))) (pg_tup rfl (pgs_cons (pg_name (i := 2) sc_law_names.nd rfl (by walk_at "loc")) (pgs_cons (pg_name (i := 3) sc_law_names.nd rfl (by walk_at "loc")) pgs_nil)))) (fun letters_1 stem_2 => ?_)
  refine b_for (S := Str) (fun s => [sv (rAdr b) (()), sv rInt a_law_many, sv rStr letters_1, sv rStr s, sa, sa, sa]) (fun s => [(b, oBag cells)]) (stem_2 : Str) rfl PassesOwn.never (s_conv (s_rng1 (e_call (ok_law_any T b cells rInt) (hr.mono (by walk_at "lev")) T.m_law_any T.F_law_any.kp T.bd_law_any (aa_cons (e_name 0) fun _ => (aa_cons (e_new (n_list (al_cons e_int (al_cons e_int (al_cons e_int (al_cons e_int (al_cons e_int al_nil))))))) fun _ => aa_nil)) (fun _ => OsLe.mem (List.Mem.head _)) (fun _ => by simp)) T.b_range) (by walk_at "wn")) (tg_name (i := 4)) (pg_name (i := 4) sc_law_names.nd rfl (by walk_at "loc")) (fun M s6 x5 => ?_) (fun s11 => ?_) ⟨.inl rfl, .inl rfl, .inl rfl, .inl rfl, .inr rfl, .inr rfl, .inr rfl, trivial⟩ rfl
  · unfold m_law_names_l1
    refine b_set 3 (e_conv (e_catS (e_name 3) fun _ => (e_call (ok_law_any_s T b cells) (hr.mono (by walk_at "lev")) T.m_law_any T.F_law_any.kp T.bd_law_any (aa_cons (e_name 0) fun _ => (aa_cons (e_name 2) fun _ => aa_nil)) (fun _ => OsLe.mem (List.Mem.head _)) (fun _ => by simp))) (by walk_at "wn")) (fun stem_7 => ?_) sc_law_names.nd
    exact b_end (NxOk.nxS (s := (stem_7 : Str)) ⟨.inl rfl, .inl rfl, .inl rfl, .inl rfl, .inr rfl, .inr rfl, .inr rfl, trivial⟩ (.cons_cons _ .slnil))
  · first | refine b_par2 (ps_par (i := 5) (j := 6) rfl sc_law_names.nd rfl rfl (by decide) rfl rfl (pa2 (e_conv (e_call (ok_law_draw T b cells) (hr.mono (by walk_at "lev")) T.m_law_draw T.F_law_draw.kp T.bd_law_draw (aa_cons (e_name 0) fun _ => (aa_cons (e_add (e_lenS (e_name 3) T.b_len) fun _ => e_int) fun _ => aa_nil)) (fun _ => OsLe.mem (List.Mem.head _)) (fun _ => by simp)) (by walk_at "wn")) (fun _ => e_conv (e_call (ok_law_draw T b cells) (hr.mono (by walk_at "lev")) T.m_law_draw T.F_law_draw.kp T.bd_law_draw (aa_cons (e_name 0) fun _ => (aa_cons e_int fun _ => aa_nil)) (fun _ => OsLe.mem (List.Mem.head _)) (fun _ => by simp)) rfl)) rfl) (fun at_12 first_13 => ?_) | refine b_par2T (ps_asg (pe_tup (pa2 (e_conv (e_call (ok_law_draw T b cells) (hr.mono (by walk_at "lev")) T.m_law_draw T.F_law_draw.kp T.bd_law_draw (aa_cons (e_name 0) fun _ => (aa_cons (e_add (e_lenS (e_name 3) T.b_len) fun _ => e_int) fun _ => aa_nil)) (fun _ => OsLe.mem (List.Mem.head _)) (fun _ => by simp)) (by walk_at "wn")) (fun _ => e_conv (e_call (ok_law_draw T b cells) (hr.mono (by walk_at "lev")) T.m_law_draw T.F_law_draw.kp T.bd_law_draw (aa_cons (e_name 0) fun _ => (aa_cons e_int fun _ => aa_nil)) (fun _ => OsLe.mem (List.Mem.head _)) (fun _ => by simp)) rfl))) (pg_tup rfl (pgs_cons (pg_name (i := 5) sc_law_names.nd rfl (by walk_at "loc")) (pgs_cons (pg_name (i := 6) sc_law_names.nd rfl (by walk_at "loc")) pgs_nil)))) (fun at_12 first_13 => ?_)
    exact b_ret RtOk.fn (OsW.of (OsLe.mem (List.Mem.head _))) (e_conv (e_new (n_comp (s := rStr) rfl sc_law_names.nd (s_rng1 (e_name 1) T.b_range) (blkOk_by (own := [("_law_k", 4)]) rfl) (tg_name (i := 4)) (fun _ _ _ _ _ => (pg_name (i := 4) sc_law_names.nd rfl (by walk_at "loc"))) (by decide) (fun _ _ _ _ _ _ _ _ _ => (e_catS (e_catS (e_sliceS (e_name 3) o_none (o_some (e_name 5))) fun _ => (e_idxS (e_name 2) fun _ => (e_mod (e_intI (e_add (e_name 6) fun _ => (e_mul e_int fun _ => (e_name 4))) T.b_int) fun _ => e_int))) fun _ => (e_sliceS (e_name 3) (o_some (e_name 5)) o_none))))) (by walk_at "wn"))
def m_law_made_form (a_law_form : ((List (Str × Int)) × Int)) : W Form_ :=
  bnd (bnd (mapW (fun (x1 : Str) => bnd (optW (dget a_law_form.1 x1)) fun t2 => ret ((t2, x1))) (a_law_form.1.map (·.1))) fun ys3 => noX (m_Form_init ((fun xs => PyData.list (xs.map (fun x => PyData.tuple [.int x.1, .str x.2]))) ys3) (.int a_law_form.2))) fun z => ret z
theorem ok_law_made_form (T : Txt P K mg ad) : FnOk P w K mg base CX0 6 ad.f_law_made_form ad.d_law_made_form ["_law_form"] (spW (fun i : ((List (Str × Int)) × Int) × Unit => [sv (rT2 K (rDct rStr Sum.inr rInt) rInt) i.1]) (fun _ => []) (fun i => m_law_made_form i.1) (rObj ad.c_Form (fl_Form K ad))) := by
  refine okW T.F_law_made_form sc_law_made_form (fun _ => rfl) fun cdv A outer s0 H0 E0 B i hr => ?_
  obtain ⟨a_law_form, _⟩ := i
  have hu := hr.units
  have hu2 := room100 hr
  show BG _ _ _ _ _ _ (m_law_made_form a_law_form)
  unfold m_law_made_form
  exact b_ret RtOk.fn OsW.nil (e_conv (e_makeZ (conv := fun q : PyData × PyData × Unit => (q.1, q.2.1, ())) (dfl := [sa, sa]) (dvs := [.ref ad.e_Form_init_0, .int 0]) T.mk_Form (ok_Form_init T) passN spm_XN (hr.mono (by walk_at "lev")) T.n_Form T.cb_Form_init_2 (fun _ => (.cons trivial (.cons trivial .nil))) (hh_pos (aa_cons (e_toD (dd_lst (dd_t2 dd_int dd_str)) (e_new (n_comp (s := (rT2 K rInt rStr)) rfl sc_law_made_form.nd (s_list (e_new (n_listD rfl (e_fst (e_name 0)) T.b_list))) (blkOk_by (own := [("_law_name", 1)]) rfl) (tg_name (i := 1)) (fun _ _ _ _ _ => (pg_name (i := 1) sc_law_made_form.nd rfl (by walk_at "loc"))) (by decide) (fun _ _ _ _ _ _ _ _ _ => (e_tup2 (e_dget key_str hu2 (e_fst (e_name 0)) fun _ => (e_name 1)) fun _ => (e_name 1)))))) fun _ => (aa_cons (e_toD dd_int (e_snd (e_name 0))) fun _ => aa_nil)) (fun _ => rfl)) (fun _ => rfl)) (by walk_at "wn"))
def m_law_terms (a_law_form : ((List (Str × Int)) × Int)) : W (List (Int × Str)) :=
  bnd (bnd (sortS (a_law_form.1.map (·.1))) fun t1 => filtW (fun (x2 : Str) => bnd (optW (dget a_law_form.1 x2)) fun t5 => ret (!decide (t5 = (0 : Int)))) (fun (x2 : Str) => bnd (optW (dget a_law_form.1 x2)) fun t3 => ret ((t3, x2))) t1) fun z => ret z
theorem ok_law_terms (T : Txt P K mg ad) : FnOk P w K mg base CX0 1 ad.f_law_terms ad.d_law_terms ["_law_form"] (spW (fun i : ((List (Str × Int)) × Int) × Unit => [sv (rT2 K (rDct rStr Sum.inr rInt) rInt) i.1]) (fun _ => []) (fun i => m_law_terms i.1) (rLst (rT2 K rInt rStr))) := by
  refine okW T.F_law_terms sc_law_terms (fun _ => rfl) fun cdv A outer s0 H0 E0 B i hr => ?_
  obtain ⟨a_law_form, _⟩ := i
  have hu := hr.units
  have hu2 := room100 hr
  show BG _ _ _ _ _ _ (m_law_terms a_law_form)
  unfold m_law_terms
  exact b_ret RtOk.fn OsW.nil (e_conv (e_new (n_compF (s := (rT2 K rInt rStr)) rfl sc_law_terms.nd (s_list (e_new (n_sortedS (e_new (n_listD rfl (e_fst (e_name 0)) T.b_list)) T.b_sorted))) (blkOk_by (own := [("_law_name", 1)]) rfl) (tg_name (i := 1)) (fun _ _ _ _ _ => (pg_name (i := 1) sc_law_terms.nd rfl (by walk_at "loc"))) (by decide) (fun _ _ _ _ _ _ _ _ _ => (t_neI (e_dget key_str hu2 (e_fst (e_name 0)) fun _ => (e_name 1)) fun _ => e_int)) (fun _ _ _ _ _ _ _ _ _ => (e_tup2 (e_dget key_str hu2 (e_fst (e_name 0)) fun _ => (e_name 1)) fun _ => (e_name 1))))) (by walk_at "wn"))
def m_law_told_form (a_law_made : Form_) : W ((List (Int × Str)) × Int) :=
  bnd (bnd (noX (m_Form_terms a_law_made)) fun r1 => bnd (noX (m_Form_constant a_law_made)) fun r2 => ret ((r1, r2))) fun z => ret z
theorem ok_law_told_form (T : Txt P K mg ad) : FnOk P w K mg base CX0 3 ad.f_law_told_form ad.d_law_told_form ["_law_made"] (spW (fun i : Form_ × Unit => [sv (rObj ad.c_Form (fl_Form K ad)) i.1]) (fun _ => []) (fun i => m_law_told_form i.1) (rT2 K (rLst (rT2 K rInt rStr)) rInt)) := by
  refine okW T.F_law_told_form sc_law_told_form (fun _ => rfl) fun cdv A outer s0 H0 E0 B i hr => ?_
  obtain ⟨a_law_made, _⟩ := i
  have hu := hr.units
  have hu2 := room100 hr
  show BG _ _ _ _ _ _ (m_law_told_form a_law_made)
  unfold m_law_told_form
  exact b_ret RtOk.fn OsW.nil (e_conv (e_tup2 (e_new (er_N (e_methZ (conv := fun q : Unit => (())) (dfl := []) (dvs := []) (fl := fl_Form K ad) (ok_Form_terms T) pass0 spf_N (hr.mono (by walk_at "lev")) T.cl_Form T.mt_Form_terms T.cb_Form_terms_0 (fun _ => .nil) (e_name 0) (fun _ => hh_none) (fun _ _ => rfl)))) fun _ => (e_prop (ok_Form_constant T) (hr.mono (by walk_at "lev")) T.cl_Form T.pr_Form_constant T.bd_Form_constant (e_name 0))) (by walk_at "wn"))
def m_law_plain_form (a_law_form : ((List (Str × Int)) × Int)) : W ((List (Int × Str)) × Int) :=
  bnd (bnd (noX (m_law_terms a_law_form)) fun r1 => ret ((r1, a_law_form.2))) fun z => ret z
theorem ok_law_plain_form (T : Txt P K mg ad) : FnOk P w K mg base CX0 2 ad.f_law_plain_form ad.d_law_plain_form ["_law_form"] (spW (fun i : ((List (Str × Int)) × Int) × Unit => [sv (rT2 K (rDct rStr Sum.inr rInt) rInt) i.1]) (fun _ => []) (fun i => m_law_plain_form i.1) (rT2 K (rLst (rT2 K rInt rStr)) rInt)) := by
  refine okW T.F_law_plain_form sc_law_plain_form (fun _ => rfl) fun cdv A outer s0 H0 E0 B i hr => ?_
  obtain ⟨a_law_form, _⟩ := i
  have hu := hr.units
  have hu2 := room100 hr
  show BG _ _ _ _ _ _ (m_law_plain_form a_law_form)
  unfold m_law_plain_form
  exact b_ret RtOk.fn OsW.nil (e_conv (e_tup2 (e_call (ok_law_terms T) (hr.mono (by walk_at "lev")) T.m_law_terms T.F_law_terms.kp T.bd_law_terms (aa_cons (e_name 0) fun _ => aa_nil) (fun _ => OsLe.none) (fun _ => List.nodup_nil)) fun _ => (e_snd (e_name 0))) (by walk_at "wn"))
def m_law_form_text_l1 (s9 : Str) (x8 : (Int × Str)) : W Str :=
  bnd (bnd (ret (decide (x8.2 = ("" : Str)))) fun c => if c = true then intS ((x8.1.natAbs : Int)) else bnd (ret (decide ((x8.1.natAbs : Int) = (1 : Int)))) fun c => if c = true then ret (x8.2) else bnd (intS ((x8.1.natAbs : Int))) fun t12 => bnd (catS t12 (("*" : Str))) fun t13 => catS t13 x8.2) fun word_10 => bnd (ret (decide (s9 = ("" : Str)))) fun b17 => bnd (if b17 = true then (bnd (bnd (ret (decide (x8.1 < ((0 : Int))))) fun c => if c = true then catS (("-" : Str)) word_10 else ret (word_10)) fun found_18 => ret (found_18)) else (bnd (bnd (bnd (ret (decide (x8.1 < ((0 : Int))))) fun c => if c = true then ret ((" - " : Str)) else ret ((" + " : Str))) fun t22 => bnd (catS s9 t22) fun t23 => catS t23 word_10) fun found_21 => ret (found_21))) fun (s25 : Str) => ret (s25)
def m_law_form_text (a_law_form : ((List (Str × Int)) × Int)) : W Str :=
  bnd (ret (("" : Str))) fun found_1 => bnd (bnd (noX (m_law_terms a_law_form)) fun r2 => bnd (bnd (bnd (ret (!decide (a_law_form.2 = (0 : Int)))) fun c4 => if c4 = true then ret true else (bnd (noX (m_law_terms a_law_form)) fun r3 => ret (PyData.eqv ((fun xs => PyData.list (xs.map (fun x => PyData.tuple [.int x.1, .str x.2]))) r3) ((fun xs => PyData.list (xs.map (fun x => PyData.tuple [.int x.1, .str x.2]))) (([] : (List (Int × Str)))))))) fun c => if c = true then ret ([(a_law_form.2, ("" : Str))]) else ret (([] : (List (Int × Str))))) fun t6 => catL r2 t6) fun xs26 => bnd (forW m_law_form_text_l1 (found_1) xs26) fun (s27 : Str) => bnd (ret (s27)) fun z => ret z
theorem ok_law_form_text (T : Txt P K mg ad) : FnOk P w K mg base CX0 2 ad.f_law_form_text ad.d_law_form_text ["_law_form"] (spW (fun i : ((List (Str × Int)) × Int) × Unit => [sv (rT2 K (rDct rStr Sum.inr rInt) rInt) i.1]) (fun _ => []) (fun i => m_law_form_text i.1) rStr) := by
  refine okW T.F_law_form_text sc_law_form_text (fun _ => rfl) fun cdv A outer s0 H0 E0 B i hr => ?_
  obtain ⟨a_law_form, _⟩ := i
  have hu := hr.units
  have hu2 := room100 hr
  show BG _ _ _ _ _ _ (m_law_form_text a_law_form)
  unfold m_law_form_text
  refine b_set 1 (e_conv e_str (by walk_at "wn")) (fun found_1 => ?_) sc_law_form_text.nd
  refine b_for (S := Str) (fun s => [sv (rT2 K (rDct rStr Sum.inr rInt) rInt) a_law_form, sv rStr s, sa, sa, sa]) (fun s => []) (found_1 : Str) rfl PassesOwn.never (s_conv (s_list (e_new (n_cat (e_call (ok_law_terms T) (hr.mono (by walk_at "lev")) T.m_law_terms T.F_law_terms.kp T.bd_law_terms (aa_cons (e_name 0) fun _ => aa_nil) (fun _ => OsLe.none) (fun _ => List.nodup_nil)) fun _ => (e_if (t_pw (w_or (t_neI (e_snd (e_name 0)) fun _ => e_int) (w_or1 (t_eqD hu (dd_lst (dd_t2 dd_int dd_str)) (dd_lst (dd_t2 dd_int dd_str)) (e_call (ok_law_terms T) (hr.mono (by walk_at "lev")) T.m_law_terms T.F_law_terms.kp T.bd_law_terms (aa_cons (e_name 0) fun _ => aa_nil) (fun _ => OsLe.none) (fun _ => List.nodup_nil)) fun _ => (e_new (n_list (r := (rT2 K rInt rStr)) al_nil)))))) (e_new (n_list (al_cons (e_tup2 (e_snd (e_name 0)) fun _ => e_str) al_nil))) (e_new (n_list (r := (rT2 K rInt rStr)) al_nil)))))) (by walk_at "wn")) (tg_pair (i := 2) (j := 3)) (pg_tup rfl (pgs_cons (pg_name (i := 2) sc_law_form_text.nd rfl (by walk_at "loc")) (pgs_cons (pg_name (i := 3) sc_law_form_text.nd rfl (by walk_at "loc")) pgs_nil))) (fun M s9 x8 => ?_) (fun s27 => ?_) ⟨.inl rfl, .inl rfl, .inr rfl, .inr rfl, .inr rfl, trivial⟩ rfl
  · unfold m_law_form_text_l1
    refine b_set 4 (e_conv (e_if (t_eqS (e_name 3) fun _ => e_str) (e_strI (e_abs (e_name 2) T.b_abs) T.b_str) (e_if (t_eqI (e_abs (e_name 2) T.b_abs) fun _ => e_int) (e_name 3) (e_catS (e_catS (e_strI (e_abs (e_name 2) T.b_abs) T.b_str) fun _ => e_str) fun _ => (e_name 3)))) (by walk_at "wn")) (fun word_10 => ?_) sc_law_form_text.nd
    refine b_ifJ (S := Str) (fun s => [sv (rT2 K (rDct rStr Sum.inr rInt) rInt) a_law_form, sv rStr s, sv rInt x8.1, sv rStr x8.2, sv rStr word_10]) (fun s => []) (t_conv (t_eqS (e_name 1) fun _ => e_str) (by walk_at "wn")) ?_ ?_ (fun s25 => ?_)
    · refine b_set 1 (e_conv (e_if (t_lt (e_name 2) fun _ => e_int) (e_catS e_str fun _ => (e_name 4)) (e_name 4)) (by walk_at "wn")) (fun found_18 => ?_) sc_law_form_text.nd
      exact b_end (NxOk.nxS (s := (found_18 : Str)) ⟨.inl rfl, .inl rfl, .inl rfl, .inl rfl, .inl rfl, trivial⟩ .slnil)
    · refine b_set 1 (e_conv (e_catS (e_catS (e_name 1) fun _ => (e_if (t_lt (e_name 2) fun _ => e_int) e_str e_str)) fun _ => (e_name 4)) (by walk_at "wn")) (fun found_21 => ?_) sc_law_form_text.nd
      exact b_end (NxOk.nxS (s := (found_21 : Str)) ⟨.inl rfl, .inl rfl, .inl rfl, .inl rfl, .inl rfl, trivial⟩ .slnil)
    · exact b_end (NxOk.nxS (s := (s25 : Str)) ⟨.inl rfl, .inl rfl, .inr rfl, .inr rfl, .inr rfl, trivial⟩ .slnil)
  · exact b_ret RtOk.fn OsW.nil (e_conv (e_name 1) (by walk_at "wn"))
def m_law_lengths_so : W Bool :=
  bnd (noX (m_Form_init ((fun xs => PyData.list (xs.map (fun x => PyData.tuple [.int x.1, .str x.2]))) ([((1 : Int), ("b" : Str)), ((2 : Int), ("ab" : Str)), ((3 : Int), ("nn" : Str)), ((1 : Int), ("abc" : Str))])) (.int ((4 : Int))))) fun made_1 => bnd (bnd (noX (m_Form_text made_1)) fun r4 => bnd (noX (m_Form_names made_1)) fun r5 => bnd (noX (m_law_got (bnd (m_Form_value made_1 (([] : (List (Str × Int))))) fun r6 => ret (.int r6)))) fun r7 => ret (PyData.list [.str r4, (fun xs => PyData.list (xs.map .str)) r5, (fun x => PyData.tuple [.str x.1, id x.2]) r7])) fun found_3 => bnd (noX (sameW id (fun xs => PyData.list (xs.map id)) found_3 ([.str (("2*ab + abc + b + 3*nn + 4" : Str)), (fun xs => PyData.list (xs.map .str)) ([("ab" : Str), ("abc" : Str), ("b" : Str), ("nn" : Str)]), (fun x => PyData.tuple [.str x.1, .str x.2]) ((("UnknownName" : Str), ("ab" : Str)))]))) fun z => ret z
theorem ok_law_lengths_so (T : Txt P K mg ad) {cL Tb : Addr} (hfd : ad.d_law_lengths_so.code = .ref cL) (hTB : LamX.TabB base mg cL Tb) : FnG P w K mg base CX0 10 ad.f_law_lengths_so ad.d_law_lengths_so [] (spW (fun i : Unit => []) (fun _ => [(Tb, oTab (("_law_lengths_so" : Str) ++ (".<locals>." : Str) ++ ("<lambda>" : Str)))]) (fun i => m_law_lengths_so) rBool) := by
  refine fnWc T.F_law_lengths_so hfd sc_law_lengths_so (fun _ => rfl) fun A outer s0 H0 E0 B i hr hgu0 => ?_
  cases i
  have hu := hr.units
  have hu2 := room100 hr
  have hgu := guards_deeper (q := "_law_lengths_so") (sc := defScope s_law_lengths_so) (n := s0.heap.objs.size) (f := ad.f_law_lengths_so) (c := .ref cL) hgu0
  show BG _ _ _ _ _ _ (m_law_lengths_so)
  unfold m_law_lengths_so
  refine b_set 0 (e_conv (e_makeZ (conv := fun q : PyData × PyData × Unit => (q.1, q.2.1, ())) (dfl := [sa, sa]) (dvs := [.ref ad.e_Form_init_0, .int 0]) T.mk_Form (ok_Form_init T) passN spm_XN (hr.mono (by walk_at "lev")) T.n_Form T.cb_Form_init_2 (fun _ => (.cons trivial (.cons trivial .nil))) (hh_pos (aa_cons (e_toD (dd_lst (dd_t2 dd_int dd_str)) (e_new (n_list (al_cons (e_tup2 e_int fun _ => e_str) (al_cons (e_tup2 e_int fun _ => e_str) (al_cons (e_tup2 e_int fun _ => e_str) (al_cons (e_tup2 e_int fun _ => e_str) al_nil))))))) fun _ => (aa_cons (e_toD dd_int e_int) fun _ => aa_nil)) (fun _ => rfl)) (fun _ => rfl)) (by walk_at "wn")) (fun made_1 => ?_) sc_law_lengths_so.nd
  refine b_set 1 (e_conv (e_listW (dlw_cons (m := 31) dd_str (er_V (e_methZ (conv := fun q : Unit => (())) (dfl := []) (dvs := []) (fl := fl_Form K ad) (ok_Form_text T) pass0 spf_W0 (hr.mono (by walk_at "lev")) T.cl_Form T.mt_Form_text T.cb_Form_text_0 (fun _ => .nil) (e_name 0) (fun _ => hh_none) (fun _ _ => rfl))) (dlw_cons (m := 31) (dd_lst dd_str) (e_new (er_N (e_methZ (conv := fun q : Unit => (())) (dfl := []) (dvs := []) (fl := fl_Form K ad) (ok_Form_names T) pass0 spf_N (hr.mono (by walk_at "lev")) T.cl_Form T.mt_Form_names T.cb_Form_names_0 (fun _ => .nil) (e_name 0) (fun _ => hh_none) (fun _ _ => rfl)))) (dlw_cons (m := 31) (dd_t2 dd_str dd_D) (e_conv (e_callC (X := (cxOf CX0 P w K mg base N_law_lengths_so "_law_lengths_so" (defScope s_law_lengths_so) ad.f_law_lengths_so (Value.ref cL) A outer s0 H0 E0).nox) ((bnd (m_Form_value made_1 (([] : (List (Str × Int))))) fun r6 => ret (.int r6)), ()) (ok_law_got T) (hr.mono (by walk_at "lev")) T.m_law_got T.F_law_got.kp T.bd_law_got (e_la0 0 hTB rfl rfl (lamS2_by (sc := defScope s_law_lengths_so) (ps := []) (by decide +kernel)).free) rfl rfl (fun _ => rfl) (pl_t2 pl_str pl_D) (fun pins σ F H s v y I S ok => clo1_ok ok (fun v hv => clo_of (vs := []) I S hv (lamS2_by (sc := defScope s_law_lengths_so) (ps := []) (by decide +kernel)) (lamBind0 rfl fun _ _ _ => rfl) (hvs_by (N := N_law_lengths_so) (by decide +kernel)) (fun A1 outer1 s1 H1 E1 f1 c1 B1 hr tk => by have hu := hr.units; have hu2 := room100 hr; exact e_conv (e_toD dd_int (er_V (e_methZ (conv := fun q : (List (Str × Int)) × Unit => (q.1, ())) (dfl := []) (dvs := []) (fl := fl_Form K ad) (ok_Form_value T) (passB tk) spf_X0 (hr.mono (by walk_at "lev")) T.cl_Form T.mt_Form_value T.cb_Form_value_1 (fun _ => .nil) (e_name 0) (fun _ => (hh_pos (aa_cons (e_newD (d_empty (rk := rStr) (kf := Sum.inr) (r := rInt))) fun _ => aa_nil) (fun _ => rfl))) (fun _ _ => rfl)))) (by walk_at "wn"))))) rfl) dlw_nil)))) (by walk_at "wn")) (fun found_3 => ?_) sc_law_lengths_so.nd
  exact b_ret RtOk.fn (OsW.of (OsLe.mem (List.Mem.head _))) (e_conv (e_callG (ok_law_same T (dd_Dw (n := 32)) (dd_lst (dd_Dk (n := 12)))) hgu (hr.mono (by walk_at "lev")) T.m_law_same T.F_law_same.kp T.bd_law_same (aa_cons (e_name 1) fun _ => (aa_cons (e_new (n_list (al_cons (e_toDk (m := 12) dd_str e_str) (al_cons (e_toDk (m := 12) (dd_lst dd_str) (e_new (n_list (al_cons e_str (al_cons e_str (al_cons e_str (al_cons e_str al_nil))))))) (al_cons (e_toDk (m := 12) (dd_t2 dd_str dd_str) (e_tup2 e_str fun _ => e_str)) al_nil))))) fun _ => aa_nil)) (fun _ => OsLe.none) (fun _ => List.nodup_nil)) (by walk_at "wn"))
def m_law_l3 (names_here_5 : (List Str)) (s27 : ((List (Int × Str)) × (List (Str × Int)))) (constant_z_28 : Int) (form_41 : ((List (Str × Int)) × Int)) (s50 : (Option Str)) (x49 : Form_) : W (Fl (Option Str) Bool) :=
  bnd (bnd (noX (m_Form_terms x49)) fun r52 => bnd (noX (m_Form_constant x49)) fun r53 => bnd (noX (m_Form_names x49)) fun r54 => bnd (noX (m_Form_text x49)) fun r55 => bnd (noX (m_Form_repr x49)) fun t56 => ret ([(fun xs => PyData.list (xs.map (fun x => PyData.tuple [.int x.1, .str x.2]))) r52, .int r53, (fun xs => PyData.list (xs.map .str)) r54, .str r55, .str t56])) fun told_51 => bnd (noX (m_law_terms form_41)) fun terms_z_57 => bnd (noX (m_law_form_text form_41)) fun text_z_59 => bnd (bnd (mapW (fun (x61 : (Int × Str)) => ret (x61.2)) terms_z_57) fun ys62 => bnd (catS (("Form(" : Str)) text_z_59) fun t63 => bnd (catS t63 ((")" : Str))) fun t64 => bnd (noX (sameW (fun xs => PyData.list (xs.map id)) (fun xs => PyData.list (xs.map id)) told_51 ([(fun xs => PyData.list (xs.map (fun x => PyData.tuple [.int x.1, .str x.2]))) terms_z_57, .int constant_z_28, (fun xs => PyData.list (xs.map .str)) ys62, .str text_z_59, .str t64]))) fun r65 => ret (!r65)) fun b66 => if b66 = true then (bnd (ret (false)) fun z => ret (.rt z)) else (bnd (bnd (mapW (fun (x67 : Str) => noX (m_Form_coef x49 (.str x67))) names_here_5) fun ys69 => bnd (mapW (fun (x70 : Str) => ret ((dget s27.2 x70).getD ((0 : Int)))) names_here_5) fun ys71 => bnd (noX (sameW (fun xs => PyData.list (xs.map .int)) (fun xs => PyData.list (xs.map .int)) ys69 ys71)) fun r72 => ret (!r72)) fun b73 => if b73 = true then (bnd (ret (false)) fun z => ret (.rt z)) else (bnd (noX (m_Form_terms x49)) fun xs75 => bnd (ret ((3 : Int))) fun _ => chk (xs75.length < sizeLine) (bnd (noX (m_Form_names x49)) fun xs77 => bnd (ret (("more" : Str))) fun _ => chk (xs77.length < sizeLine) (ret (.nx ((some text_z_59)))))))
def m_law_l2 (names_here_5 : (List Str)) (s14 : ((List (Int × Str)) × (List (Str × Int)))) (x13 : Int) : W ((List (Int × Str)) × (List (Str × Int))) :=
  bnd (noX (anyW names_here_5)) fun name_15 => bnd (bnd (noX (drawW ((19 : Int)))) fun r18 => bnd (powI ((10 : Int)) ((20 : Int))) fun t19 => bnd (noX (drawW t19)) fun r20 => noX (anyW ([(0 : Int), (1 : Int), -((1 : Int)), r18 - ((9 : Int)), r20, ((0 : Int)) - ((dget s14.2 name_15).getD ((0 : Int)))]))) fun coef_17 => bnd (ret ((coef_17, name_15))) fun y22 => chk (s14.1.length < sizeLine) (bnd (ret (((dget s14.2 name_15).getD ((0 : Int))) + coef_17)) fun y24 => bnd (ret (name_15)) fun k25 => chk (s14.2.length < sizeLine) (bnd (ret (dput s14.2 k25 y24)) fun due_23 => ret (((s14.1 ++ [y22]), due_23))))
def m_law_l1 (s4 : Unit) (x3 : Int) : W (Fl Unit Bool) :=
  bnd (noX (m_law_names ((5 : Int)))) fun names_here_5 => bnd (ret ([] : (List (Int × Str)))) fun rows_6 => bnd (ret ([] : (List (Str × Int)))) fun due_7 => bnd (bnd (noX (drawW ((9 : Int)))) fun r11 => rng1 r11) fun xs26 => bnd (forW (m_law_l2 names_here_5) ((rows_6, due_7)) xs26) fun (s27 : ((List (Int × Str)) × (List (Str × Int)))) => bnd (bnd (noX (drawW ((19 : Int)))) fun r29 => bnd (powI ((10 : Int)) ((20 : Int))) fun t30 => bnd (noX (drawW t30)) fun r31 => noX (anyW ([(0 : Int), (0 : Int), (1 : Int), -((1 : Int)), r29 - ((9 : Int)), ((0 : Int)) - r31]))) fun constant_z_28 => bnd (ret (s27.1)) fun handed_34 => bnd (noX (m_Form_init ((fun xs => PyData.list (xs.map (fun x => PyData.tuple [.int x.1, .str x.2]))) handed_34) (.int constant_z_28))) fun made_40 => bnd (ret ((s27.2, constant_z_28))) fun form_41 => bnd (bnd (idx names_here_5 ((0 : Int))) fun t44 => ret (((5 : Int), t44))) fun y45 => chk (handed_34.length < sizeLine) (bnd (bnd (noX (m_law_mixed s27.1)) fun r47 => noX (m_Form_init ((fun xs => PyData.tuple (xs.map (fun x => PyData.tuple [.int x.1, .str x.2]))) r47) (.int constant_z_28))) fun again_46 => bnd (ret ([made_40, again_46])) fun xs78 => bnd (forF (m_law_l3 names_here_5 s27 constant_z_28 form_41) (none) xs78) (flEnd Fl.rt fun (s79 : (Option Str)) => bnd (noX (m_law_odd ([(fun xs => PyData.list (xs.map .str)) ([("x" : Str)]), .int ((3 : Int))]))) fun odd_here_80 => bnd (bnd (idx names_here_5 ((0 : Int))) fun t83 => bnd (noX (anyW ([s27.2, [(t83, (1 : Int))]]))) fun r84 => bnd (noX (anyW ([constant_z_28, (2 : Int)]))) fun r85 => ret ((r84, r85))) fun other_82 => bnd (optW s79) fun text_z_91 => bnd (bnd (bnd (noX (m_Form_coef made_40 odd_here_80)) fun r92 => ret (!decide (r92 = (0 : Int)))) fun c99 => if c99 = true then ret true else (bnd (bnd (noX (m_law_made_form other_82)) fun r93 => bnd (noX (m_Form_eq_v0 made_40 r93)) fun r94 => bnd (noX (m_law_plain_form form_41)) fun r95 => bnd (noX (m_law_plain_form other_82)) fun r96 => ret (!(PyData.eqv (.bool r94) (.bool (PyData.eqv ((fun x => PyData.tuple [(fun xs => PyData.list (xs.map (fun x => PyData.tuple [.int x.1, .str x.2]))) x.1, .int x.2]) r95) ((fun x => PyData.tuple [(fun xs => PyData.list (xs.map (fun x => PyData.tuple [.int x.1, .str x.2]))) x.1, .int x.2]) r96)))))) fun c98 => if c98 = true then ret true else (noX (m_Form_eq_v1 made_40 text_z_91)))) fun b101 => if b101 = true then (bnd (ret (false)) fun z => ret (.rt z)) else (bnd (bnd (bnd (noX (m_Form_eq_v0 made_40 again_46)) fun r102 => ret (!r102)) fun c112 => if c112 = true then ret true else (bnd (bnd (idx names_here_5 ((0 : Int))) fun t103 => bnd (noX (m_Form_of t103)) fun r104 => bnd (noX (m_law_told_form r104)) fun r105 => bnd (idx names_here_5 ((0 : Int))) fun t106 => bnd (noX (sameW (fun x => PyData.tuple [(fun xs => PyData.list (xs.map (fun x => PyData.tuple [.int x.1, .str x.2]))) x.1, .int x.2]) (fun x => PyData.tuple [(fun xs => PyData.list (xs.map (fun x => PyData.tuple [.int x.1, .str x.2]))) x.1, .int x.2]) r105 (([((1 : Int), t106)], (0 : Int))))) fun r107 => ret (!r107)) fun c111 => if c111 = true then ret true else (bnd (noX (m_Form_init ((fun xs => PyData.list (xs.map (fun x => PyData.tuple [.int x.1, .str x.2]))) s27.1) (PyData.int 0))) fun r108 => bnd (noX (m_Form_init ((fun xs => PyData.list (xs.map (fun x => PyData.tuple [.int x.1, .str x.2]))) s27.1) (.int ((0 : Int))))) fun r109 => bnd (noX (m_Form_eq_v0 r108 r109)) fun r110 => ret (!r110)))) fun b114 => if b114 = true then (bnd (ret (false)) fun z => ret (.rt z)) else (ret (.nx (()))))))
def m_law (a_law_script : (List Int)) : W Bool :=
  bnd (rng1 ((5 : Int))) fun xs115 => bnd (forF m_law_l1 (()) xs115) (flEnd (fun z => z) fun (s116 : Unit) => bnd (bnd (bnd (noX (m_Form_init ((fun xs => PyData.list (xs.map .int)) (([] : List Int))) (.int ((4 : Int))))) fun r117 => noX (m_Form_eq_v2 r117 ((4 : Int)))) fun c124 => if c124 = true then ret true else (bnd (bnd (noX (m_Form_init (PyData.tuple []) (PyData.int 0))) fun r119 => noX (m_Form_eq_v2 r119 ((0 : Int)))) fun c123 => if c123 = true then ret true else (bnd (noX (m_Form_of (("x" : Str)))) fun r121 => noX (m_Form_eq_v1 r121 (("x" : Str)))))) fun b126 => if b126 = true then (bnd (ret (false)) fun z => ret z) else (bnd (bnd (noX (m_law_lengths_so)) fun r127 => ret (!r127)) fun b128 => if b128 = true then (bnd (ret (false)) fun z => ret z) else (bnd (bnd (noX (m_Form_init (PyData.tuple []) (PyData.int 0))) fun r129 => bnd (noX (m_Form_text r129)) fun r130 => bnd (noX (m_Form_init ((fun xs => PyData.list (xs.map (fun x => PyData.tuple [.int x.1, .str x.2]))) ([(-((1 : Int)), ("x" : Str))])) (PyData.int 0))) fun r131 => bnd (noX (m_Form_text r131)) fun r132 => bnd (noX (m_Form_init ((fun xs => PyData.list (xs.map (fun x => PyData.tuple [.int x.1, .str x.2]))) ([((2 : Int), ("x" : Str)), (-((1 : Int)), ("y" : Str))])) (.int ((3 : Int))))) fun r133 => bnd (noX (m_Form_text r133)) fun r134 => bnd (noX (m_Form_init ((fun xs => PyData.list (xs.map .int)) (([] : List Int))) (.int (-((4 : Int)))))) fun r135 => bnd (noX (m_Form_text r135)) fun r136 => noX (sameW (fun xs => PyData.list (xs.map .str)) (fun xs => PyData.list (xs.map .str)) ([r130, r132, r134, r136]) ([("0" : Str), ("-x" : Str), ("2*x - y + 3" : Str), ("-4" : Str)]))) fun z => ret z)))
theorem ok_law (T : Txt P K mg ad) {cL Tb : Addr} (hfd : ad.d_law_lengths_so.code = .ref cL) (hTB : LamX.TabB base mg cL Tb) : FnG P w K mg base CX0 11 ad.f_law ad.d_law ["_law_script"] (spW (fun i : (List Int) × Unit => [sv (rScr K) i.1]) (fun _ => [(Tb, oTab (("_law_lengths_so" : Str) ++ (".<locals>." : Str) ++ ("<lambda>" : Str)))]) (fun i => m_law i.1) rBool) := by
  refine fnW T.F_law sc_law (fun _ => rfl) fun cdv A outer s0 H0 E0 B i hr hgu0 => ?_
  obtain ⟨a_law_script, _⟩ := i
  have hu := hr.units
  have hu2 := room100 hr
  have hgu := guards_deeper (q := "law") (sc := defScope s_law) (n := s0.heap.objs.size) (f := ad.f_law) (c := cdv) hgu0
  show BG _ _ _ _ _ _ (m_law a_law_script)
  unfold m_law
  refine b_bag 1 (ok_law_bag T) (hr.mono (by walk_at "lev")) T.m_law_bag T.F_law_bag.kp T.bd_law_bag (e_name 0) (fun b cells => ?_) sc_law.nd
  refine b_forG (S := Unit) (osR := [(Tb, oTab (("_law_lengths_so" : Str) ++ (".<locals>." : Str) ++ ("<lambda>" : Str)))]) (ro := rBool) (fun z => z) (fun s => [sv (rScr K) a_law_script, sv (rAdr b) (()), sa, sa, sa, sa, sa, sa, sa, sa, sa, sa, sa, sa, sa, sa, sa, sa, sa, sa]) (fun s => [(b, oBag cells), (Tb, oTab (("_law_lengths_so" : Str) ++ (".<locals>." : Str) ++ ("<lambda>" : Str)))]) (() : Unit) rfl PassesOwn.never (s_conv (s_rng1 e_int T.b_range) (by walk_at "wn")) (tg_name (i := 2)) (pg_name (i := 2) sc_law.nd rfl (by walk_at "loc")) (fun M s4 x3 => ?_) (fun s116 => ?_) (fun _ => rfl) RtOk.fn ⟨.inl rfl, .inl rfl, .inr rfl, .inr rfl, .inr rfl, .inr rfl, .inr rfl, .inr rfl, .inr rfl, .inr rfl, .inr rfl, .inr rfl, .inr rfl, .inr rfl, .inr rfl, .inr rfl, .inr rfl, .inr rfl, .inr rfl, .inr rfl, trivial⟩ rfl
  · unfold m_law_l1
    first | refine b_ownM3 (ps_par3 (i := 3) (j := 4) (l := 5) rfl sc_law.nd rfl rfl rfl (by decide) (by decide) (by decide) rfl rfl rfl (paM3 (e_conv (e_call (ok_law_names T b cells) (hr.mono (by walk_at "lev")) T.m_law_names T.F_law_names.kp T.bd_law_names (aa_cons (e_name 1) fun _ => (aa_cons e_int fun _ => aa_nil)) (fun _ => OsLe.mem (List.Mem.head _)) (fun _ => by simp)) (by walk_at "wn")) (fun _ => (n_list (r := (rT2 K rInt rStr)) al_nil)) (fun _ _ => (d_empty (rk := rStr) (kf := Sum.inr) (r := rInt)))) rfl) (fun names_here_5 p9 p10 rows_6 due_7 => ?_) | refine b_ownM3T (ps_asg (pe_tup (paM3 (e_conv (e_call (ok_law_names T b cells) (hr.mono (by walk_at "lev")) T.m_law_names T.F_law_names.kp T.bd_law_names (aa_cons (e_name 1) fun _ => (aa_cons e_int fun _ => aa_nil)) (fun _ => OsLe.mem (List.Mem.head _)) (fun _ => by simp)) (by walk_at "wn")) (fun _ => (n_list (r := (rT2 K rInt rStr)) al_nil)) (fun _ _ => (d_empty (rk := rStr) (kf := Sum.inr) (r := rInt))))) (pg_tup rfl (pgs_cons (pg_name (i := 3) sc_law.nd rfl (by walk_at "loc")) (pgs_cons (pg_name (i := 4) sc_law.nd rfl (by walk_at "loc")) (pgs_cons (pg_name (i := 5) sc_law.nd rfl (by walk_at "loc")) pgs_nil))))) (fun names_here_5 p9 p10 rows_6 due_7 => ?_)
    refine b_for (S := ((List (Int × Str)) × (List (Str × Int)))) (fun s => [sv (rScr K) a_law_script, sv (rAdr b) (()), sv rInt x3, sv (rLst rStr) names_here_5, sv (rAdr p9) (), sv (rAdr p10) (), sa, sa, sa, sa, sa, sa, sa, sa, sa, sa, sa, sa, sa, sa]) (fun s => [(p10, oDct rStr Sum.inr rInt s.2), (p9, oLst (rT2 K rInt rStr) s.1), (b, oBag cells), (Tb, oTab (("_law_lengths_so" : Str) ++ (".<locals>." : Str) ++ ("<lambda>" : Str)))]) ((rows_6, due_7) : ((List (Int × Str)) × (List (Str × Int)))) rfl PassesOwn.never (s_conv (s_rng1 (e_call (ok_law_draw T b cells) (hr.mono (by walk_at "lev")) T.m_law_draw T.F_law_draw.kp T.bd_law_draw (aa_cons (e_name 1) fun _ => (aa_cons e_int fun _ => aa_nil)) (fun _ => OsLe.mem (List.Mem.tail _ (List.Mem.tail _ (List.Mem.head _)))) (fun _ => by simp)) T.b_range) (by walk_at "wn")) (tg_name (i := 6)) (pg_name (i := 6) sc_law.nd rfl (by walk_at "loc")) (fun M s14 x13 => ?_) (fun s27 => ?_) ⟨.inl rfl, .inl rfl, .inl rfl, .inl rfl, .inl rfl, .inl rfl, .inr rfl, .inr rfl, .inr rfl, .inr rfl, .inr rfl, .inr rfl, .inr rfl, .inr rfl, .inr rfl, .inr rfl, .inr rfl, .inr rfl, .inr rfl, .inr rfl, trivial⟩ rfl
    · unfold m_law_l2
      refine b_set 7 (e_conv (e_call (ok_law_any T b cells rStr) (hr.mono (by walk_at "lev")) T.m_law_any T.F_law_any.kp T.bd_law_any (aa_cons (e_name 1) fun _ => (aa_cons (e_name 3) fun _ => aa_nil)) (fun _ => OsLe.mem (List.Mem.tail _ (List.Mem.tail _ (List.Mem.head _)))) (fun _ => by simp)) (by walk_at "wn")) (fun name_15 => ?_) sc_law.nd
      refine b_set 8 (e_conv (e_call (ok_law_any T b cells rInt) (hr.mono (by walk_at "lev")) T.m_law_any T.F_law_any.kp T.bd_law_any (aa_cons (e_name 1) fun _ => (aa_cons (e_new (n_list (al_cons e_int (al_cons e_int (al_cons (e_neg e_int) (al_cons (e_sub (e_call (ok_law_draw T b cells) (hr.mono (by walk_at "lev")) T.m_law_draw T.F_law_draw.kp T.bd_law_draw (aa_cons (e_name 1) fun _ => (aa_cons e_int fun _ => aa_nil)) (fun _ => OsLe.mem (List.Mem.tail _ (List.Mem.tail _ (List.Mem.head _)))) (fun _ => by simp)) fun _ => e_int) (al_cons (e_call (ok_law_draw T b cells) (hr.mono (by walk_at "lev")) T.m_law_draw T.F_law_draw.kp T.bd_law_draw (aa_cons (e_name 1) fun _ => (aa_cons (e_pow e_int fun _ => e_int) fun _ => aa_nil)) (fun _ => OsLe.mem (List.Mem.tail _ (List.Mem.tail _ (List.Mem.head _)))) (fun _ => by simp)) (al_cons (e_sub e_int fun _ => (e_dgetO 5 0 key_str hu2 rfl rfl (e_name 7) fun _ => e_int)) al_nil)))))))) fun _ => aa_nil)) (fun _ => OsLe.mem (List.Mem.tail _ (List.Mem.tail _ (List.Mem.head _)))) (fun _ => by simp)) (by walk_at "wn")) (fun coef_17 => ?_) sc_law.nd
      refine b_append 4 1 rfl rfl (e_conv (e_tup2 (e_name 8) fun _ => (e_name 7)) (by walk_at "wn")) (fun y22 => ?_)
      refine b_dputB 5 0 key_str hu2 rfl rfl (e_conv (e_add (e_dgetO 5 0 key_str hu2 rfl rfl (e_name 7) fun _ => e_int) fun _ => (e_name 8)) (by walk_at "wn")) (fun _ => e_conv (e_name 7) (by walk_at "wn")) (fun due_23 => ?_)
      exact b_end (NxOk.nxS (s := (((s14.1 ++ [y22]), due_23) : ((List (Int × Str)) × (List (Str × Int))))) ⟨.inl rfl, .inl rfl, .inl rfl, .inl rfl, .inl rfl, .inl rfl, .inr rfl, .inr rfl, .inr rfl, .inr rfl, .inr rfl, .inr rfl, .inr rfl, .inr rfl, .inr rfl, .inr rfl, .inr rfl, .inr rfl, .inr rfl, .inr rfl, trivial⟩ (.cons_cons _ (.cons_cons _ (.cons_cons _ (.cons_cons _ .slnil)))))
    · refine b_set 9 (e_conv (e_call (ok_law_any T b cells rInt) (hr.mono (by walk_at "lev")) T.m_law_any T.F_law_any.kp T.bd_law_any (aa_cons (e_name 1) fun _ => (aa_cons (e_new (n_list (al_cons e_int (al_cons e_int (al_cons e_int (al_cons (e_neg e_int) (al_cons (e_sub (e_call (ok_law_draw T b cells) (hr.mono (by walk_at "lev")) T.m_law_draw T.F_law_draw.kp T.bd_law_draw (aa_cons (e_name 1) fun _ => (aa_cons e_int fun _ => aa_nil)) (fun _ => OsLe.mem (List.Mem.tail _ (List.Mem.tail _ (List.Mem.head _)))) (fun _ => by simp)) fun _ => e_int) (al_cons (e_sub e_int fun _ => (e_call (ok_law_draw T b cells) (hr.mono (by walk_at "lev")) T.m_law_draw T.F_law_draw.kp T.bd_law_draw (aa_cons (e_name 1) fun _ => (aa_cons (e_pow e_int fun _ => e_int) fun _ => aa_nil)) (fun _ => OsLe.mem (List.Mem.tail _ (List.Mem.tail _ (List.Mem.head _)))) (fun _ => by simp))) al_nil)))))))) fun _ => aa_nil)) (fun _ => OsLe.mem (List.Mem.tail _ (List.Mem.tail _ (List.Mem.head _)))) (fun _ => by simp)) (by walk_at "wn")) (fun constant_z_28 => ?_) sc_law.nd
      refine b_freeze 4 1 rfl rfl ?_
      refine b_own 10 (n_conv (n_listL (e_name 4) T.b_list) (by walk_at "wn")) (fun p35 handed_34 => ?_) sc_law.nd
      refine b_dfreeze 5 1 rfl rfl ?_
      first | refine b_par2 (ps_par (i := 11) (j := 12) rfl sc_law.nd rfl rfl (by decide) rfl rfl (pa2 (e_conv (e_borrow 10 0 rfl rfl (fun _ _ _ _ => (e_makeZ (conv := fun q : PyData × PyData × Unit => (q.1, q.2.1, ())) (dfl := [sa, sa]) (dvs := [.ref ad.e_Form_init_0, .int 0]) T.mk_Form (ok_Form_init T) passN spm_XN (hr.mono (by walk_at "lev")) T.n_Form T.cb_Form_init_2 (fun _ => (.cons trivial (.cons trivial .nil))) (hh_pos (aa_cons (e_toD (dd_lst (dd_t2 dd_int dd_str)) (e_name 10)) fun _ => (aa_cons (e_toD dd_int (e_name 9)) fun _ => aa_nil)) (fun _ => rfl)) (fun _ => rfl))) (nol_obj fun _ => (List.forall_mem_cons.mpr ⟨nols_sv (nol_dct nol_str nol_int), (List.forall_mem_cons.mpr ⟨nols_sv nol_int, List.forall_mem_nil _⟩)⟩))) (by walk_at "wn")) (fun _ => e_conv (e_tup2 (e_name 5) fun _ => (e_name 9)) rfl)) rfl) (fun made_40 form_41 => ?_) | refine b_par2T (ps_asg (pe_tup (pa2 (e_conv (e_borrow 10 0 rfl rfl (fun _ _ _ _ => (e_makeZ (conv := fun q : PyData × PyData × Unit => (q.1, q.2.1, ())) (dfl := [sa, sa]) (dvs := [.ref ad.e_Form_init_0, .int 0]) T.mk_Form (ok_Form_init T) passN spm_XN (hr.mono (by walk_at "lev")) T.n_Form T.cb_Form_init_2 (fun _ => (.cons trivial (.cons trivial .nil))) (hh_pos (aa_cons (e_toD (dd_lst (dd_t2 dd_int dd_str)) (e_name 10)) fun _ => (aa_cons (e_toD dd_int (e_name 9)) fun _ => aa_nil)) (fun _ => rfl)) (fun _ => rfl))) (nol_obj fun _ => (List.forall_mem_cons.mpr ⟨nols_sv (nol_dct nol_str nol_int), (List.forall_mem_cons.mpr ⟨nols_sv nol_int, List.forall_mem_nil _⟩)⟩))) (by walk_at "wn")) (fun _ => e_conv (e_tup2 (e_name 5) fun _ => (e_name 9)) rfl))) (pg_tup rfl (pgs_cons (pg_name (i := 11) sc_law.nd rfl (by walk_at "loc")) (pgs_cons (pg_name (i := 12) sc_law.nd rfl (by walk_at "loc")) pgs_nil)))) (fun made_40 form_41 => ?_)
      refine b_append 10 0 rfl rfl (e_conv (e_tup2 e_int fun _ => (e_idx (e_name 3) fun _ => e_int)) (by walk_at "wn")) (fun y45 => ?_)
      refine b_set 13 (e_conv (e_makeZ (conv := fun q : PyData × PyData × Unit => (q.2.1, q.1, ())) (dfl := [sa, sa]) (dvs := [.ref ad.e_Form_init_0, .int 0]) T.mk_Form (ok_Form_init T) passN spm_XN (hr.mono (by walk_at "lev")) T.n_Form T.cb_Form_init_0_constant_terms (fun _ => (.cons trivial (.cons trivial .nil))) (hh_kw0 (kk_cons (e_toD dd_int (e_name 9)) fun _ => (kk_cons (e_toD (dd_tup (dd_t2 dd_int dd_str)) (e_tupleL (e_call (ok_law_mixed T b cells) (hr.mono (by walk_at "lev")) T.m_law_mixed T.F_law_mixed.kp T.bd_law_mixed (aa_cons (e_name 1) fun _ => (aa_cons (e_name 4) fun _ => aa_nil)) (fun _ => OsLe.mem (List.Mem.tail _ (List.Mem.head _))) (fun _ => by simp)) T.b_tuple)) fun _ => kk_nil)) (fun _ => rfl)) (fun _ => rfl)) (by walk_at "wn")) (fun again_46 => ?_) sc_law.nd
      refine b_forG (S := (Option Str)) (osR := [(Tb, oTab (("_law_lengths_so" : Str) ++ (".<locals>." : Str) ++ ("<lambda>" : Str)))]) (ro := rBool) Fl.rt (fun s => [sv (rScr K) a_law_script, sv (rAdr b) (()), sv rInt x3, sv (rLst rStr) names_here_5, sv (rLst (rT2 K rInt rStr)) s27.1, sv (rDct rStr Sum.inr rInt) s27.2, sa, sa, sa, sv rInt constant_z_28, sv (rAdr p35) (), sv (rObj ad.c_Form (fl_Form K ad)) made_40, sv (rT2 K (rDct rStr Sum.inr rInt) rInt) form_41, sv (rObj ad.c_Form (fl_Form K ad)) again_46, sa, sa, sa, so rStr s, sa, sa]) (fun s => [(p35, oLst (rT2 K rInt rStr) ((handed_34 ++ [y45]))), (b, oBag cells), (Tb, oTab (("_law_lengths_so" : Str) ++ (".<locals>." : Str) ++ ("<lambda>" : Str)))]) (none : (Option Str)) rfl PassesOwn.never (s_conv (s_list (e_new (n_list (al_cons (e_name 11) (al_cons (e_name 13) al_nil))))) (by walk_at "wn")) (tg_name (i := 14)) (pg_name (i := 14) sc_law.nd rfl (by walk_at "loc")) (fun M s50 x49 => ?_) (fun s79 => ?_) (fun _ => rfl) RtOk.fl ⟨.inl rfl, .inl rfl, .inl rfl, .inl rfl, .inl rfl, .inl rfl, .inr rfl, .inr rfl, .inr rfl, .inl rfl, .inl rfl, .inl rfl, .inl rfl, .inl rfl, .inr rfl, .inr rfl, .inr rfl, .inl rfl, .inr rfl, .inr rfl, trivial⟩ rfl
      · unfold m_law_l3
        refine b_set 15 (e_conv (e_new (n_list (al_cons (e_toDk (m := 12) (dd_lst (dd_t2 dd_int dd_str)) (e_new (er_N (e_methZ (conv := fun q : Unit => (())) (dfl := []) (dvs := []) (fl := fl_Form K ad) (ok_Form_terms T) pass0 spf_N (hr.mono (by walk_at "lev")) T.cl_Form T.mt_Form_terms T.cb_Form_terms_0 (fun _ => .nil) (e_name 14) (fun _ => hh_none) (fun _ _ => rfl))))) (al_cons (e_toDk (m := 12) dd_int (e_prop (ok_Form_constant T) (hr.mono (by walk_at "lev")) T.cl_Form T.pr_Form_constant T.bd_Form_constant (e_name 14))) (al_cons (e_toDk (m := 12) (dd_lst dd_str) (e_new (er_N (e_methZ (conv := fun q : Unit => (())) (dfl := []) (dvs := []) (fl := fl_Form K ad) (ok_Form_names T) pass0 spf_N (hr.mono (by walk_at "lev")) T.cl_Form T.mt_Form_names T.cb_Form_names_0 (fun _ => .nil) (e_name 14) (fun _ => hh_none) (fun _ _ => rfl))))) (al_cons (e_toDk (m := 12) dd_str (er_V (e_methZ (conv := fun q : Unit => (())) (dfl := []) (dvs := []) (fl := fl_Form K ad) (ok_Form_text T) pass0 spf_W0 (hr.mono (by walk_at "lev")) T.cl_Form T.mt_Form_text T.cb_Form_text_0 (fun _ => .nil) (e_name 14) (fun _ => hh_none) (fun _ _ => rfl)))) (al_cons (e_toDk (m := 12) dd_str (e_reprO hu2 (ok_Form_repr T) (hr.mono (by walk_at "lev")) T.bd_Form_repr T.rp_Form T.fr_Form (e_name 14) T.b_repr)) al_nil))))))) (by walk_at "wn")) (fun told_51 => ?_) sc_law.nd
        refine b_set 16 (e_conv (e_call (ok_law_terms T) (hr.mono (by walk_at "lev")) T.m_law_terms T.F_law_terms.kp T.bd_law_terms (aa_cons (e_name 12) fun _ => aa_nil) (fun _ => OsLe.none) (fun _ => List.nodup_nil)) (by walk_at "wn")) (fun terms_z_57 => ?_) sc_law.nd
        refine b_set 17 (e_conv (e_call (ok_law_form_text T) (hr.mono (by walk_at "lev")) T.m_law_form_text T.F_law_form_text.kp T.bd_law_form_text (aa_cons (e_name 12) fun _ => aa_nil) (fun _ => OsLe.none) (fun _ => List.nodup_nil)) (by walk_at "wn")) (fun text_z_59 => ?_) sc_law.nd
        refine b_ifA (t_conv (t_not (t_val (e_callG (ok_law_same T (dd_lst (dd_Dk (n := 12))) (dd_lst (dd_Dk (n := 12)))) hgu (hr.mono (by walk_at "lev")) T.m_law_same T.F_law_same.kp T.bd_law_same (aa_cons (e_name 15) fun _ => (aa_cons (e_new (n_list (al_cons (e_toDk (m := 12) (dd_lst (dd_t2 dd_int dd_str)) (e_name 16)) (al_cons (e_toDk (m := 12) dd_int (e_name 9)) (al_cons (e_toDk (m := 12) (dd_lst dd_str) (e_new (n_comp (s := rStr) rfl sc_law.nd (s_list (e_name 16)) (blkOk_by (own := [("_law_name", 7), ("_law_coef", 8)]) rfl) (tg_pair (i := 8) (j := 7)) (fun _ _ _ _ _ => (pg_tup rfl (pgs_cons (pg_name (i := 8) sc_law.nd rfl (by walk_at "loc")) (pgs_cons (pg_name (i := 7) sc_law.nd rfl (by walk_at "loc")) pgs_nil)))) (by decide) (fun _ _ _ _ _ _ _ _ _ => (e_name 7))))) (al_cons (e_toDk (m := 12) dd_str (e_name 17)) (al_cons (e_toDk (m := 12) dd_str (e_catS (e_catS e_str fun _ => (e_name 17)) fun _ => e_str)) al_nil))))))) fun _ => aa_nil)) (fun _ => OsLe.none) (fun _ => List.nodup_nil)))) (by walk_at "wn")) ?_ ?_
        · exact b_ret (RtOk.x RtOk.fl) (OsW.of (OsLe.mem (List.Mem.tail _ (List.Mem.tail _ (List.Mem.head _))))) (e_conv e_bl (by walk_at "wn"))
        · refine b_ifA (t_conv (t_not (t_val (e_callG (ok_law_same T (dd_lst dd_int) (dd_lst dd_int)) hgu (hr.mono (by walk_at "lev")) T.m_law_same T.F_law_same.kp T.bd_law_same (aa_cons (e_new (n_comp (s := rInt) rfl sc_law.nd (s_list (e_name 3)) (blkOk_by (own := [("_law_name", 7)]) rfl) (tg_name (i := 7)) (fun _ _ _ _ _ => (pg_name (i := 7) sc_law.nd rfl (by walk_at "loc"))) (by decide) (fun _ _ _ _ _ _ _ _ _ => (er_V (e_methZ (conv := fun q : PyData × Unit => (q.1, ())) (dfl := []) (dvs := []) (fl := fl_Form K ad) (ok_Form_coef T) pass0 spf_W0 (hr.mono (by walk_at "lev")) T.cl_Form T.mt_Form_coef T.cb_Form_coef_1 (fun _ => .nil) (e_name 14) (fun _ => (hh_pos (aa_cons (e_toDk (m := 12) dd_str (e_name 7)) fun _ => aa_nil) (fun _ => rfl))) (fun _ _ => rfl)))))) fun _ => (aa_cons (e_new (n_comp (s := rInt) rfl sc_law.nd (s_list (e_name 3)) (blkOk_by (own := [("_law_name", 7)]) rfl) (tg_name (i := 7)) (fun _ _ _ _ _ => (pg_name (i := 7) sc_law.nd rfl (by walk_at "loc"))) (by decide) (fun _ _ _ _ _ _ _ _ _ => (e_dgetD key_str hu2 (e_name 5) (fun _ => (e_name 7)) fun _ _ => e_int)))) fun _ => aa_nil)) (fun _ => OsLe.none) (fun _ => List.nodup_nil)))) (by walk_at "wn")) ?_ ?_
          · exact b_ret (RtOk.x RtOk.fl) (OsW.of (OsLe.mem (List.Mem.tail _ (List.Mem.tail _ (List.Mem.head _))))) (e_conv e_bl (by walk_at "wn"))
          · refine b_appX (n_conv (er_N (e_methZ (conv := fun q : Unit => (())) (dfl := []) (dvs := []) (fl := fl_Form K ad) (ok_Form_terms T) pass0 spf_N (hr.mono (by walk_at "lev")) T.cl_Form T.mt_Form_terms T.cb_Form_terms_0 (fun _ => .nil) (e_name 14) (fun _ => hh_none) (fun _ _ => rfl))) (by walk_at "wn")) (fun _ _ => e_conv e_int (by walk_at "wn")) ?_
            refine b_appN (n_conv (er_N (e_methZ (conv := fun q : Unit => (())) (dfl := []) (dvs := []) (fl := fl_Form K ad) (ok_Form_names T) pass0 spf_N (hr.mono (by walk_at "lev")) T.cl_Form T.mt_Form_names T.cb_Form_names_0 (fun _ => .nil) (e_name 14) (fun _ => hh_none) (fun _ _ => rfl))) (by walk_at "wn")) (fun _ _ => e_conv e_str (by walk_at "wn")) ?_
            exact b_end (NxOk.flS (s := ((some text_z_59) : (Option Str))) ⟨.inl rfl, .inl rfl, .inl rfl, .inl rfl, .inl rfl, .inl rfl, .inr rfl, .inr rfl, .inr rfl, .inl rfl, .inl rfl, .inl rfl, .inl rfl, .inl rfl, .inr rfl, .inr rfl, .inr rfl, .inl rfl, .inr rfl, .inr rfl, trivial⟩ (.cons_cons _ (.cons_cons _ (.cons_cons _ .slnil))))
      · refine bg_nx ?_
        refine b_set 18 (e_conv (e_call (ok_law_odd T b cells) (hr.mono (by walk_at "lev")) T.m_law_odd T.F_law_odd.kp T.bd_law_odd (aa_cons (e_name 1) fun _ => (aa_cons (e_new (n_list (al_cons (e_toDk (m := 12) (dd_lst dd_str) (e_new (n_list (al_cons e_str al_nil)))) (al_cons (e_toDk (m := 12) dd_int e_int) al_nil)))) fun _ => aa_nil)) (fun _ => OsLe.mem (List.Mem.tail _ (List.Mem.head _))) (fun _ => by simp)) (by walk_at "wn")) (fun odd_here_80 => ?_) sc_law.nd
        refine b_set 19 (e_conv (e_tup2 (e_call (ok_law_any T b cells (rDct rStr Sum.inr rInt)) (hr.mono (by walk_at "lev")) T.m_law_any T.F_law_any.kp T.bd_law_any (aa_cons (e_name 1) fun _ => (aa_cons (e_new (n_list (al_cons (e_name 5) (al_cons (e_newD (d_disp1 key_str (fun _ => (e_idx (e_name 3) fun _ => e_int)) fun _ _ => e_int)) al_nil)))) fun _ => aa_nil)) (fun _ => OsLe.mem (List.Mem.tail _ (List.Mem.head _))) (fun _ => by simp)) fun _ => (e_call (ok_law_any T b cells rInt) (hr.mono (by walk_at "lev")) T.m_law_any T.F_law_any.kp T.bd_law_any (aa_cons (e_name 1) fun _ => (aa_cons (e_new (n_list (al_cons (e_name 9) (al_cons e_int al_nil)))) fun _ => aa_nil)) (fun _ => OsLe.mem (List.Mem.tail _ (List.Mem.head _))) (fun _ => by simp))) (by walk_at "wn")) (fun other_82 => ?_) sc_law.nd
        refine b_some 17 rfl (fun text_z_91 => ?_)
        refine b_ifA (t_conv (t_pw (w_or (t_neI (er_V (e_methZ (conv := fun q : PyData × Unit => (q.1, ())) (dfl := []) (dvs := []) (fl := fl_Form K ad) (ok_Form_coef T) pass0 spf_W0 (hr.mono (by walk_at "lev")) T.cl_Form T.mt_Form_coef T.cb_Form_coef_1 (fun _ => .nil) (e_name 11) (fun _ => (hh_pos (aa_cons (e_name 18) fun _ => aa_nil) (fun _ => rfl))) (fun _ _ => rfl))) fun _ => e_int) (w_or (t_neD hu dd_bool dd_bool (e_eqO hu2 (ok_Form_eq_v0 T) (hr.mono (by walk_at "lev")) T.bd_Form_eq T.eq_Form T.fe_Form (ty_obj T.ic_Form) T.nf_Form_Form (e_name 11) fun _ => (e_call (ok_law_made_form T) (hr.mono (by walk_at "lev")) T.m_law_made_form T.F_law_made_form.kp T.bd_law_made_form (aa_cons (e_name 19) fun _ => aa_nil) (fun _ => OsLe.none) (fun _ => List.nodup_nil))) fun _ => (e_eqD hu (dd_t2 (dd_lst (dd_t2 dd_int dd_str)) dd_int) (dd_t2 (dd_lst (dd_t2 dd_int dd_str)) dd_int) (e_call (ok_law_plain_form T) (hr.mono (by walk_at "lev")) T.m_law_plain_form T.F_law_plain_form.kp T.bd_law_plain_form (aa_cons (e_name 12) fun _ => aa_nil) (fun _ => OsLe.none) (fun _ => List.nodup_nil)) fun _ => (e_call (ok_law_plain_form T) (hr.mono (by walk_at "lev")) T.m_law_plain_form T.F_law_plain_form.kp T.bd_law_plain_form (aa_cons (e_name 19) fun _ => aa_nil) (fun _ => OsLe.none) (fun _ => List.nodup_nil)))) (w_or1 (t_eqO hu2 (ok_Form_eq_v1 T) (hr.mono (by walk_at "lev")) T.bd_Form_eq T.eq_Form T.fe_Form ty_str T.nf_Form_str (e_name 11) fun _ => (e_name 17)))))) (by walk_at "wn")) ?_ ?_
        · exact b_ret (RtOk.x RtOk.fl) (OsW.of (OsLe.mem (List.Mem.tail _ (List.Mem.tail _ (List.Mem.head _))))) (e_conv e_bl (by walk_at "wn"))
        · refine b_ifA (t_conv (t_pw (w_or (t_neO hu2 (ok_Form_eq_v0 T) (hr.mono (by walk_at "lev")) T.bd_Form_eq T.eq_Form T.fe_Form T.ne_Form T.mo_Form (ty_obj T.ic_Form) T.nf_Form_Form (e_name 11) fun _ => (e_name 13)) (w_or (t_not (t_val (e_callG (ok_law_same T (dd_t2 (dd_lst (dd_t2 dd_int dd_str)) dd_int) (dd_t2 (dd_lst (dd_t2 dd_int dd_str)) dd_int)) hgu (hr.mono (by walk_at "lev")) T.m_law_same T.F_law_same.kp T.bd_law_same (aa_cons (e_call (ok_law_told_form T) (hr.mono (by walk_at "lev")) T.m_law_told_form T.F_law_told_form.kp T.bd_law_told_form (aa_cons (er_V (e_smethZ (conv := fun q : Str × Unit => (q.1, ())) (dfl := []) (dvs := []) (ok_Form_of T) pass0 spf_W0 T.cr_Form T.sm_Form_of (hr.mono (by walk_at "lev")) T.n_Form T.F_Form_of.kp T.cb_Form_of_1 (fun _ => .nil) (hh_pos (aa_cons (e_idx (e_name 3) fun _ => e_int) fun _ => aa_nil) (fun _ => rfl)) (fun _ => rfl))) fun _ => aa_nil) (fun _ => OsLe.none) (fun _ => List.nodup_nil)) fun _ => (aa_cons (e_tup2 (e_new (n_list (al_cons (e_tup2 e_int fun _ => (e_idx (e_name 3) fun _ => e_int)) al_nil))) fun _ => e_int) fun _ => aa_nil)) (fun _ => OsLe.none) (fun _ => List.nodup_nil)))) (w_or1 (t_neO hu2 (ok_Form_eq_v0 T) (hr.mono (by walk_at "lev")) T.bd_Form_eq T.eq_Form T.fe_Form T.ne_Form T.mo_Form (ty_obj T.ic_Form) T.nf_Form_Form (e_makeZ (conv := fun q : PyData × Unit => (q.1, PyData.int 0, ())) (dfl := [sa, sv (rD K) (PyData.int 0)]) (dvs := [.ref ad.e_Form_init_0, .int 0]) T.mk_Form (ok_Form_init T) passN spm_XN (hr.mono (by walk_at "lev")) T.n_Form T.cb_Form_init_1 (fun _ => (.cons trivial (.cons ⟨_, rfl, ⟨.int _, rfl, by decide⟩⟩ .nil))) (hh_pos (aa_cons (e_toD (dd_lst (dd_t2 dd_int dd_str)) (e_name 4)) fun _ => aa_nil) (fun _ => rfl)) (fun _ => rfl)) fun _ => (e_makeZ (conv := fun q : PyData × PyData × Unit => (q.1, q.2.1, ())) (dfl := [sa, sa]) (dvs := [.ref ad.e_Form_init_0, .int 0]) T.mk_Form (ok_Form_init T) passN spm_XN (hr.mono (by walk_at "lev")) T.n_Form T.cb_Form_init_2 (fun _ => (.cons trivial (.cons trivial .nil))) (hh_pos (aa_cons (e_toD (dd_lst (dd_t2 dd_int dd_str)) (e_name 4)) fun _ => (aa_cons (e_toD dd_int e_int) fun _ => aa_nil)) (fun _ => rfl)) (fun _ => rfl))))))) (by walk_at "wn")) ?_ ?_
          · exact b_ret (RtOk.x RtOk.fl) (OsW.of (OsLe.mem (List.Mem.tail _ (List.Mem.tail _ (List.Mem.head _))))) (e_conv e_bl (by walk_at "wn"))
          · exact b_end (NxOk.flS (s := (() : Unit)) ⟨.inl rfl, .inl rfl, .inr rfl, .inr rfl, .inr rfl, .inr rfl, .inr rfl, .inr rfl, .inr rfl, .inr rfl, .inr rfl, .inr rfl, .inr rfl, .inr rfl, .inr rfl, .inr rfl, .inr rfl, .inr rfl, .inr rfl, .inr rfl, trivial⟩ (.cons _ (.cons_cons _ (.cons_cons _ .slnil))))
  · refine bg_nx ?_
    refine b_ifA (t_conv (t_pw (w_or (t_eqO hu2 (ok_Form_eq_v2 T) (hr.mono (by walk_at "lev")) T.bd_Form_eq T.eq_Form T.fe_Form ty_int T.nf_Form_int (e_makeZ (conv := fun q : PyData × PyData × Unit => (q.1, q.2.1, ())) (dfl := [sa, sa]) (dvs := [.ref ad.e_Form_init_0, .int 0]) T.mk_Form (ok_Form_init T) passN spm_XN (hr.mono (by walk_at "lev")) T.n_Form T.cb_Form_init_2 (fun _ => (.cons trivial (.cons trivial .nil))) (hh_pos (aa_cons (e_toD (dd_lst dd_int) (e_new (n_list (r := rInt) al_nil))) fun _ => (aa_cons (e_toD dd_int e_int) fun _ => aa_nil)) (fun _ => rfl)) (fun _ => rfl)) fun _ => e_int) (w_or (t_eqO hu2 (ok_Form_eq_v2 T) (hr.mono (by walk_at "lev")) T.bd_Form_eq T.eq_Form T.fe_Form ty_int T.nf_Form_int (e_makeZ (conv := fun q : Unit => (PyData.tuple [], PyData.int 0, ())) (dfl := [sv (rD K) (PyData.tuple []), sv (rD K) (PyData.int 0)]) (dvs := [.ref ad.e_Form_init_0, .int 0]) T.mk_Form (ok_Form_init T) passN spm_XN (hr.mono (by walk_at "lev")) T.n_Form T.cb_Form_init_0 (fun _ => (.cons ⟨_, rfl, ⟨.tup (.inr T.et_Form_init_0) .nil, rfl, by decide⟩⟩ (.cons ⟨_, rfl, ⟨.int _, rfl, by decide⟩⟩ .nil))) hh_none (fun _ => rfl)) fun _ => e_int) (w_or1 (t_eqO hu2 (ok_Form_eq_v1 T) (hr.mono (by walk_at "lev")) T.bd_Form_eq T.eq_Form T.fe_Form ty_str T.nf_Form_str (er_V (e_smethZ (conv := fun q : Str × Unit => (q.1, ())) (dfl := []) (dvs := []) (ok_Form_of T) pass0 spf_W0 T.cr_Form T.sm_Form_of (hr.mono (by walk_at "lev")) T.n_Form T.F_Form_of.kp T.cb_Form_of_1 (fun _ => .nil) (hh_pos (aa_cons e_str fun _ => aa_nil) (fun _ => rfl)) (fun _ => rfl))) fun _ => e_str))))) (by walk_at "wn")) ?_ ?_
    · exact b_ret (RtOk.x RtOk.fn) (OsW.of (OsLe.mem (List.Mem.tail _ (List.Mem.head _)))) (e_conv e_bl (by walk_at "wn"))
    · refine b_ifA (t_conv (t_not (t_val (e_callG0 (ok_law_lengths_so T hfd hTB) hgu (hr.mono (by walk_at "lev")) T.m_law_lengths_so T.F_law_lengths_so.kp T.bd_law_lengths_so (fun _ => OsLe.mem (List.Mem.tail _ (List.Mem.head _))) (fun _ => by simp)))) (by walk_at "wn")) ?_ ?_
      · exact b_ret (RtOk.x RtOk.fn) (OsW.of (OsLe.mem (List.Mem.tail _ (List.Mem.head _)))) (e_conv e_bl (by walk_at "wn"))
      · exact b_ret RtOk.fn (OsW.of (OsLe.mem (List.Mem.tail _ (List.Mem.head _)))) (e_conv (e_callG (ok_law_same T (dd_lst dd_str) (dd_lst dd_str)) hgu (hr.mono (by walk_at "lev")) T.m_law_same T.F_law_same.kp T.bd_law_same (aa_cons (e_new (n_list (al_cons (er_V (e_methZ (conv := fun q : Unit => (())) (dfl := []) (dvs := []) (fl := fl_Form K ad) (ok_Form_text T) pass0 spf_W0 (hr.mono (by walk_at "lev")) T.cl_Form T.mt_Form_text T.cb_Form_text_0 (fun _ => .nil) (e_makeZ (conv := fun q : Unit => (PyData.tuple [], PyData.int 0, ())) (dfl := [sv (rD K) (PyData.tuple []), sv (rD K) (PyData.int 0)]) (dvs := [.ref ad.e_Form_init_0, .int 0]) T.mk_Form (ok_Form_init T) passN spm_XN (hr.mono (by walk_at "lev")) T.n_Form T.cb_Form_init_0 (fun _ => (.cons ⟨_, rfl, ⟨.tup (.inr T.et_Form_init_0) .nil, rfl, by decide⟩⟩ (.cons ⟨_, rfl, ⟨.int _, rfl, by decide⟩⟩ .nil))) hh_none (fun _ => rfl)) (fun _ => hh_none) (fun _ _ => rfl))) (al_cons (er_V (e_methZ (conv := fun q : Unit => (())) (dfl := []) (dvs := []) (fl := fl_Form K ad) (ok_Form_text T) pass0 spf_W0 (hr.mono (by walk_at "lev")) T.cl_Form T.mt_Form_text T.cb_Form_text_0 (fun _ => .nil) (e_makeZ (conv := fun q : PyData × Unit => (q.1, PyData.int 0, ())) (dfl := [sa, sv (rD K) (PyData.int 0)]) (dvs := [.ref ad.e_Form_init_0, .int 0]) T.mk_Form (ok_Form_init T) passN spm_XN (hr.mono (by walk_at "lev")) T.n_Form T.cb_Form_init_1 (fun _ => (.cons trivial (.cons ⟨_, rfl, ⟨.int _, rfl, by decide⟩⟩ .nil))) (hh_pos (aa_cons (e_toD (dd_lst (dd_t2 dd_int dd_str)) (e_new (n_list (al_cons (e_tup2 (e_neg e_int) fun _ => e_str) al_nil)))) fun _ => aa_nil) (fun _ => rfl)) (fun _ => rfl)) (fun _ => hh_none) (fun _ _ => rfl))) (al_cons (er_V (e_methZ (conv := fun q : Unit => (())) (dfl := []) (dvs := []) (fl := fl_Form K ad) (ok_Form_text T) pass0 spf_W0 (hr.mono (by walk_at "lev")) T.cl_Form T.mt_Form_text T.cb_Form_text_0 (fun _ => .nil) (e_makeZ (conv := fun q : PyData × PyData × Unit => (q.1, q.2.1, ())) (dfl := [sa, sa]) (dvs := [.ref ad.e_Form_init_0, .int 0]) T.mk_Form (ok_Form_init T) passN spm_XN (hr.mono (by walk_at "lev")) T.n_Form T.cb_Form_init_2 (fun _ => (.cons trivial (.cons trivial .nil))) (hh_pos (aa_cons (e_toD (dd_lst (dd_t2 dd_int dd_str)) (e_new (n_list (al_cons (e_tup2 e_int fun _ => e_str) (al_cons (e_tup2 (e_neg e_int) fun _ => e_str) al_nil))))) fun _ => (aa_cons (e_toD dd_int e_int) fun _ => aa_nil)) (fun _ => rfl)) (fun _ => rfl)) (fun _ => hh_none) (fun _ _ => rfl))) (al_cons (er_V (e_methZ (conv := fun q : Unit => (())) (dfl := []) (dvs := []) (fl := fl_Form K ad) (ok_Form_text T) pass0 spf_W0 (hr.mono (by walk_at "lev")) T.cl_Form T.mt_Form_text T.cb_Form_text_0 (fun _ => .nil) (e_makeZ (conv := fun q : PyData × PyData × Unit => (q.1, q.2.1, ())) (dfl := [sa, sa]) (dvs := [.ref ad.e_Form_init_0, .int 0]) T.mk_Form (ok_Form_init T) passN spm_XN (hr.mono (by walk_at "lev")) T.n_Form T.cb_Form_init_2 (fun _ => (.cons trivial (.cons trivial .nil))) (hh_pos (aa_cons (e_toD (dd_lst dd_int) (e_new (n_list (r := rInt) al_nil))) fun _ => (aa_cons (e_toD dd_int (e_neg e_int)) fun _ => aa_nil)) (fun _ => rfl)) (fun _ => rfl)) (fun _ => hh_none) (fun _ _ => rfl))) al_nil)))))) fun _ => (aa_cons (e_new (n_list (al_cons e_str (al_cons e_str (al_cons e_str (al_cons e_str al_nil)))))) fun _ => aa_nil)) (fun _ => OsLe.none) (fun _ => List.nodup_nil)) (by walk_at "wn"))
end
end K03

set_option exponentiation.threshold 2000
namespace K03
open PySem L2 Evl Mi
theorem whole5 (d : PyData) : Ok (m_is_whole_v1 d) (· = whole d) := whole_ok d
theorem name5 {d : PyData} (h : ∀ s, d = .str s → s.length ≤ sizeLine) : Ok (m_is_name d) (· = nameB d) := name_ok h
theorem names5 {k : Nat} (hk : k ≤ 100) : Ok (m_law_names (k : Int)) fun ns => ns.length = k ∧ ∀ n ∈ ns, GName n := names_ok hk
abbrev tm (t : Int × Str) : PyData := .tuple [.int t.1, .str t.2]
theorem idx0 {α : Type} {x : α} {xs : List α} : Ok (idx (x :: xs) 0) (· = x) := Ok.idxN (n := 0) rfl
theorem idx1 {α : Type} {x y : α} {xs : List α} : Ok (idx (x :: y :: xs) 1) (· = y) := Ok.idxN (n := 1) rfl
theorem term_ok {c : Int} {n : Str} (h1 : nameS n = true) (h2 : n.length ≤ sizeLine) : Ok (m_is_term (tm (c, n))) (· = true) := by
  unfold m_is_term
  refine Ok.bndE ?_ Ok.eq
  rw [show (tyD (tm (c, n)) == "tuple") = true from rfl, bnd_ret, if_pos rfl]
  refine Ok.bndE (x := true) (Ok.bndE (Ok.eq : Ok (lenD (tm (c, n))) (· = ((2 : Nat) : Int))) Ok.eq) ?_
  rw [if_pos rfl]
  refine Ok.bndE (x := true) (Ok.bndE (x := .int c) (idx0 (xs := [.str n])) (Ok.noX (whole5 _))) ?_
  rw [if_pos rfl]
  refine Ok.bndE (x := .str n) (idx1 (x := .int c) (xs := [])) ((Ok.noX (name5 fun s e => by cases e; exact h2)).mono fun b hb => ?_)
  rw [hb]
  exact h1
def Nm (n : Str) : Prop := nameS n = true ∧ n.length ≤ sizeLine
theorem turn_eq {k : Nat} {s : List (Str × Int)} {c : Int} {n : Str} {i : Int} (h : Nm n) (hl : s.length ≤ k) (hk : k ≤ 1000) : Ok (m_gathered_terms_l1 s (i, tm (c, n))) (· = dput s n (cf s n + c)) := by
  unfold m_gathered_terms_l1
  refine Ok.bndE (x := false) (Ok.bndE (x := true) (Ok.noX (term_ok h.1 h.2)) Ok.eq) ?_
  rw [if_neg (by decide)]
  refine Ok.bndE (x := (dget s n).getD 0 + c) ?_ ?_
  · exact Ok.bndE (x := .str n) (idx1 (x := .int c) (xs := [])) (Ok.bndE (x := n) (Ok.chk h.2 Ok.eq) (Ok.bndE (x := .int c) (idx0 (xs := [.str n])) (Ok.bndE (x := c) Ok.eq Ok.eq)))
  refine Ok.bndE (x := n) (Ok.bndE (x := .str n) (idx1 (x := .int c) (xs := [])) (Ok.chk h.2 Ok.eq)) ?_
  exact Ok.chk (Nat.lt_of_le_of_lt (Nat.le_trans hl hk) (by decide)) (Ok.bndE Ok.eq Ok.eq)
def tot (ts : List (Int × Str)) (n : Str) : Int := (ts.map fun t => if t.2 = n then t.1 else 0).sum
structure Gt (ts : List (Int × Str)) (k : Nat) (s : List (Str × Int)) : Prop where
  l : s.length ≤ k
  nd : (s.map (·.1)).Nodup
  c : ∀ n, cf s n = tot (ts.take k) n
def isSeq (t : PyData) (ds : List PyData) : Prop := t = .list ds ∨ t = .tuple ds
theorem seq_ok {t : PyData} {ds : List PyData} (h : isSeq t ds) (hl : ds.length ≤ 1000) : Ok (seqD t) (· = ds) := by
  rcases h with rfl | rfl <;> exact Ok.chk (Nat.le_trans hl (by decide)) Ok.eq
theorem seq_is {t : PyData} {ds : List PyData} (h : isSeq t ds) : (tyD t == "list" || tyD t == "tuple") = true := by
  rcases h with rfl | rfl <;> rfl
theorem gather_ok {ts : List (Int × Str)} {t : PyData} (ht : isSeq t (ts.map tm)) (hl : ts.length ≤ 60) (hn : ∀ t ∈ ts, Nm t.2) : Ok (m_gathered_terms t) (Gt ts ts.length) := by
  unfold m_gathered_terms
  rw [seq_is ht, bnd_ret, if_neg (by decide)]
  refine Ok.bndE (Ok.bndE (x := ts.map tm) (seq_ok ht (by rw [List.length_map]; omega)) Ok.eq) ?_
  refine Ok.bnd (Ok.enum (fun k s => Gt ts k s) ⟨Nat.le_refl _, List.nodup_nil, fun n => rfl⟩ (fun k hk s hs => ?_) fun s hs => hs) fun s hs => Ok.ret (by rw [List.length_map] at hs; exact hs)
  have hk' : k < ts.length := by rwa [List.length_map] at hk
  rw [List.getElem_map]
  refine (turn_eq (hn _ (List.getElem_mem hk')) hs.l (by omega)).mono fun r hr => ?_
  subst hr
  refine ⟨?_, dput_nodup hs.nd, fun n => ?_⟩
  · have h1 := hs.l
    exact Nat.le_trans (dput_len _ _ _) (by omega)
  · rw [cf_put, hs.c, hs.c, List.take_succ_eq_append_getElem hk']
    unfold tot
    rw [List.map_append, List.sum_append]
    by_cases e : n = ts[k].2
    · subst e
      simp
    · rw [if_neg e]
      simp [Ne.symm e]
section
variable {U : List Str}
def Fm (U : List Str) (φ : Str → Int) (c : Int) : Form_ := ⟨canT U φ, c⟩
def Spt (U : List Str) (φ : Str → Int) : Prop := ∀ n, φ n ≠ 0 → n ∈ U
structure Uo (U : List Str) : Prop where
  nd : U.Nodup
  l : U.length ≤ 10
variable (hU : Uo U)
theorem Fm_congr {φ ψ : Str → Int} {c e : Int} (h : ∀ n, φ n = ψ n) (hc : c = e) : Fm U φ c = Fm U ψ e := by rw [funext h, hc]
include hU in
theorem can_len {φ : Str → Int} : (canT U φ).length ≤ 10 := by
  unfold canT
  rw [List.length_map]
  exact Nat.le_trans nzk_len hU.l
include hU in
theorem init0_ok {ts : List (Int × Str)} {t : PyData} {φ : Str → Int} {c : Int} (hts : isSeq t (ts.map tm)) (hl : ts.length ≤ 60) (hn : ∀ t ∈ ts, Nm t.2) (ht : ∀ n, tot ts n = φ n) (sp : Spt U φ) : Ok (m_Form_init t (.int c)) (· = Fm U φ c) := by
  unfold m_Form_init
  refine Ok.bnd (J := Gt ts ts.length) ?_ fun d hd => ?_
  · rw [bnd_ret, if_neg (by decide)]
    exact gather_ok hts hl hn
  refine Ok.bndE (x := false) (Ok.bndE (x := true) (Ok.noX (whole5 _)) Ok.eq) ?_
  rw [if_neg (by decide)]
  refine Ok.bndE (can_ok hU.nd hd.nd (by have := hd.l; omega) (fun n => ?_) sp) (Ok.bndE (x := c) Ok.eq Ok.eq)
  rw [hd.c, List.take_length, ht]
theorem can_get {φ : Str → Int} {n : Str} (h : n ∈ nzk φ U) : dget (canT U φ) n = some (φ n) := by
  unfold canT
  rw [dget_map, if_pos h]
theorem can_keys {φ : Str → Int} : (canT U φ).map (·.1) = nzk φ U := keys_map
def Sm (φ : Str → Int) : Prop := ∀ n, (φ n).natAbs < 2 ^ 200
def vturn {φ : Str → Int} {c : Int} {pl : List (Str × Int)} {s : Int} {n : Str} (hn : n ∈ nzk φ U) (hp : n ∈ pl.map (·.1)) (h1 : Sm φ) (h2 : (cf pl n).natAbs < 2 ^ 200) : Ok (m_Form_value_l1 (Fm U φ c) pl s n) (· = s + φ n * cf pl n) := by
  unfold m_Form_value_l1
  rw [cf_in hp]
  refine Ok.bndE (x := false) Ok.eq ?_
  rw [if_neg (by decide)]
  show Ok (bnd (bnd (optW (dget (canT U φ) n)) _) _) _
  rw [can_get hn]
  exact Ok.bndE (Ok.bndE (x := φ n) Ok.eq (Ok.bndE (x := cf pl n) Ok.eq (Ok.mul (h1 n) h2 (by decide)))) (Ok.bndE Ok.eq Ok.eq)
theorem value_thr {φ : Str → Int} {c : Int} {pl : List (Str × Int)} {x : Str} {xs ys : List Str} (hk : nzk φ U = xs ++ x :: ys) (hp : ∀ n ∈ xs, n ∈ pl.map (·.1)) (hx : x ∉ pl.map (·.1)) (h1 : Sm φ) (h2 : ∀ n, (cf pl n).natAbs < 2 ^ 200) : Thr (m_Form_value (Fm U φ c) pl) ⟨"UnknownName", [.str x]⟩ := by
  unfold m_Form_value
  refine Thr.retB ?_
  show Thr (bnd (ret ((canT U φ).map (·.1))) _) _
  rw [can_keys, hk]
  refine Thr.retB (Thr.bnd (Thr.forW (fun k s => True) trivial (fun k hk' s hs => ?_) fun s _ => ?_))
  · exact (vturn (by rw [hk]; exact List.mem_append_left _ (List.getElem_mem hk')) (hp _ (List.getElem_mem hk')) h1 (h2 _)).mono fun _ _ => trivial
  · unfold m_Form_value_l1
    rw [dget_none hx]
    refine Thr.retB ?_
    rw [if_pos (by decide)]
    exact Thr.retB Thr.thr
/-! ### terms -/
theorem terms_ok {φ : Str → Int} {c : Int} : Ok (m_Form_terms (Fm U φ c)) (· = (nzk φ U).map fun n => (φ n, n)) := by
  unfold m_Form_terms
  show Ok (mapW _ ((canT U φ).map (·.1))) _
  rw [can_keys]
  refine Ok.map fun n hn => ?_
  show Ok (bnd (optW (dget (canT U φ) n)) _) _
  rw [can_get hn]
  exact Ok.bndE (x := φ n) Ok.eq Ok.eq
theorem told_ok {φ : Str → Int} {c : Int} : Ok (m_law_told_form (Fm U φ c)) (· = ((nzk φ U).map fun n => (φ n, n), c)) := by
  unfold m_law_told_form
  refine Ok.bndE (Ok.bndE (Ok.noX terms_ok) (Ok.bndE (x := c) (Ok.noX ?_) Ok.eq)) Ok.eq
  unfold m_Form_constant
  exact Ok.bndE Ok.eq Ok.eq
/-- a form as the law has it -/
structure Fo (U : List Str) (d : List (Str × Int)) (φ : Str → Int) : Prop where
  nd : (d.map (·.1)).Nodup
  l : d.length < 60
  c : ∀ n, cf d n = φ n
  sp : Spt U φ
include hU in
theorem lterms_ok {d : List (Str × Int)} {φ : Str → Int} {c : Int} (h : Fo U d φ) : Ok (m_law_terms (d, c)) (· = (nzk φ U).map fun n => (φ n, n)) := by
  unfold m_law_terms
  refine Ok.bndE (Ok.bndE (Ok.sortE (by rw [List.length_map]; exact Nat.lt_trans h.l (by decide))) ?_) Ok.eq
  have hm : ∀ k ∈ srt (d.map (·.1)), dget d k = some (φ k) := fun k hk => by rw [cf_in (srt_mem.mp hk), h.c]
  refine (Ok.filt (p := fun n => !decide (φ n = 0)) (g := fun n => (φ n, n)) (fun k hk => ?_) fun k hk _ => ?_).mono fun x hx => ?_
  · show Ok (bnd (optW (dget d k)) _) _
    rw [hm k hk]
    exact Ok.bndE (x := φ k) Ok.eq Ok.eq
  · show Ok (bnd (optW (dget d k)) _) _
    rw [hm k hk]
    exact Ok.bndE (x := φ k) Ok.eq Ok.eq
  · rw [hx]
    show (nzk φ (d.map (·.1))).map _ = _
    rw [nzk_eq h.nd hU.nd fun n hn => ⟨fun _ => h.sp n hn, fun _ => cf_sup (by rw [h.c]; exact hn)⟩]
include hU in
theorem plain_ok {d : List (Str × Int)} {φ : Str → Int} {c : Int} (h : Fo U d φ) : Ok (m_law_plain_form (d, c)) (· = ((nzk φ U).map fun n => (φ n, n), c)) := by
  unfold m_law_plain_form
  exact Ok.bndE (Ok.bndE (Ok.noX (lterms_ok hU h)) Ok.eq) Ok.eq
theorem tot_map {φ : Str → Int} {ks : List Str} (nd : ks.Nodup) (n : Str) : tot (ks.map fun k => (φ k, k)) n = if n ∈ ks then φ n else 0 := by
  unfold tot
  rw [List.map_map]
  show (ks.map fun k => if k = n then φ k else 0).sum = _
  split
  · rename_i h
    exact sum_one nd h
  · rename_i h
    exact sum_zero fun x hx => if_neg fun z => h (by rw [← z]; exact hx)
include hU in
theorem mform_ok {d : List (Str × Int)} {φ : Str → Int} {c : Int} (h : Fo U d φ) (hn : ∀ n ∈ d.map (·.1), Nm n) : Ok (m_law_made_form (d, c)) (· = Fm U φ c) := by
  unfold m_law_made_form
  refine Ok.bndE (Ok.bndE (x := (d.map (·.1)).map fun n => (φ n, n)) (Ok.map fun n hn => ?_) (Ok.noX (init0_ok hU (.inl rfl) (ts := (d.map (·.1)).map fun n => (φ n, n)) ?_ ?_ ?_ h.sp))) Ok.eq
  · show Ok (bnd (optW (dget d n)) _) _
    rw [cf_in hn, h.c]
    exact Ok.bndE (x := φ n) Ok.eq Ok.eq
  · rw [List.length_map, List.length_map]
    have := h.l
    omega
  · intro t ht
    obtain ⟨n, h1, rfl⟩ := List.mem_map.mp ht
    exact hn n h1
  · intro n
    rw [tot_map h.nd]
    split
    · rfl
    · rename_i q
      rw [← h.c, cf_out q]
end
end K03

set_option exponentiation.threshold 2000
namespace K03
open PySem L2 Evl Mi
abbrev iS (i : Int) : Str := Str.ofString (toString i)
theorem iS_len {i : Int} (h : i.natAbs < 2 ^ 1920) : (iS i).length ≤ 1921 := by
  have := (Shw.int h).l
  rw [PyData.shown] at this
  exact this
theorem iS_ok {i : Int} (h : i.natAbs < 2 ^ 1920) : PyData.strOk (iS i) = true := by
  have := (Shw.int h).o
  rw [PyData.shown] at this
  exact this
theorem emp_app (x : Str) : Str.empty ++ x = x := by
  obtain ⟨a⟩ := x
  show Str.mk (#[] ++ a) = Str.mk a
  rw [Array.empty_append]
def wordOf (t : Int × Str) : Str := if (t.1.natAbs : Int) = 1 then t.2 else iS (t.1.natAbs : Int) ++ ("*" : Str) ++ t.2
def jn (s : Str) (k : Int) (w : Str) : Str := if s = ("" : Str) then (if k < 0 then ("-" : Str) ++ w else w) else s ++ (if k < 0 then (" - " : Str) else (" + " : Str)) ++ w
theorem l1 : ("-" : Str).length = 1 := by decide +kernel
theorem l1s : ("*" : Str).length = 1 := by decide +kernel
theorem l3a : (" - " : Str).length = 3 := by decide +kernel
theorem l3b : (" + " : Str).length = 3 := by decide +kernel
theorem l0 : Str.empty.length = 0 := by decide +kernel
theorem jn_len (s : Str) (k : Int) (w : Str) : (jn s k w).length ≤ s.length + 3 + w.length := by
  unfold jn
  split
  · split
    · rw [app_len, l1]; omega
    · omega
  · rw [app_len, app_len]
    split
    · rw [l3a]; omega
    · rw [l3b]; omega
theorem jn_ge (s : Str) (k : Int) (w : Str) : w.length ≤ (jn s k w).length := by
  unfold jn
  split
  · split
    · rw [app_len]; omega
    · omega
  · rw [app_len, app_len]
    omega
theorem jn_ok {s w : Str} {k : Int} (h1 : PyData.strOk s = true) (h2 : PyData.strOk w = true) : PyData.strOk (jn s k w) = true := by
  unfold jn
  split
  · split
    · exact strOk_app (strOk_str _) h2
    · exact h2
  · refine strOk_app (strOk_app h1 ?_) h2
    split <;> exact strOk_str _
theorem word_len {t : Int × Str} (h1 : t.1.natAbs < 2 ^ 1000) (h2 : t.2.length ≤ 6) : (wordOf t).length ≤ 1930 := by
  unfold wordOf
  split
  · omega
  · have := iS_len (i := (t.1.natAbs : Int)) (by rw [Int.natAbs_natCast]; exact Nat.lt_of_lt_of_le h1 (Nat.pow_le_pow_right (by decide) (by decide)))
    rw [app_len, app_len, l1s]
    omega
theorem word_ge (t : Int × Str) : t.2.length ≤ (wordOf t).length := by
  unfold wordOf
  split
  · exact Nat.le_refl _
  · rw [app_len, app_len]
    omega
theorem word_ok {t : Int × Str} (h1 : t.1.natAbs < 2 ^ 1000) (h2 : PyData.strOk t.2 = true) : PyData.strOk (wordOf t) = true := by
  unfold wordOf
  split
  · exact h2
  · exact strOk_app (strOk_app (iS_ok (by rw [Int.natAbs_natCast]; exact Nat.lt_of_lt_of_le h1 (Nat.pow_le_pow_right (by decide) (by decide)))) (strOk_str _)) h2
theorem joined_ok {s w : Str} {k : Int} (h : s.length + w.length ≤ 100000) : Ok (m_joined s k w) (· = jn s k w) := by
  have big : sizeLine = 16777216 := rfl
  unfold m_joined jn
  refine Ok.bndE Ok.eq ?_
  by_cases e : s = ("" : Str)
  · rw [if_pos (decide_eq_true e), if_pos e]
    refine Ok.bndE (Ok.bndE Ok.eq ?_) Ok.eq
    by_cases q : k < 0
    · rw [if_pos (decide_eq_true q), if_pos q]
      refine Ok.bndE (Ok.joinS (by rw [l0, l1]; omega)) ?_
      rw [emp_app]
      exact Ok.joinS (by rw [l1]; omega)
    · rw [if_neg (by simp [q]), if_neg q]
      exact Ok.eq
  · rw [if_neg (by simp [e]), if_neg e]
    refine Ok.bndE (Ok.bndE Ok.eq ?_) Ok.eq
    by_cases q : k < 0
    · rw [if_pos (decide_eq_true q), if_pos q]
      refine Ok.bndE (Ok.joinS (by rw [l0]; omega)) ?_
      rw [emp_app]
      exact Ok.bndE (Ok.joinS (by rw [l3a]; omega)) (Ok.joinS (by rw [app_len, l3a]; omega))
    · rw [if_neg (by simp [q]), if_neg q]
      refine Ok.bndE (Ok.joinS (by rw [l0]; omega)) ?_
      rw [emp_app]
      exact Ok.bndE (Ok.joinS (by rw [l3b]; omega)) (Ok.joinS (by rw [app_len, l3b]; omega))
def txtL (L : List (Int × Str)) : Str := L.foldl (fun s t => jn s t.1 (wordOf t)) ("" : Str)
def txt (L : List (Int × Str)) (c : Int) : Str := if c ≠ 0 ∨ txtL L = ("" : Str) then jn (txtL L) c (iS (c.natAbs : Int)) else txtL L
structure Tg (t : Int × Str) : Prop where
  b : t.1.natAbs < 2 ^ 1000
  l : t.2.length ≤ 6
theorem txtL_snoc (L : List (Int × Str)) (t : Int × Str) : txtL (L ++ [t]) = jn (txtL L) t.1 (wordOf t) := by
  unfold txtL
  rw [List.foldl_append]
  rfl
theorem txtL_len : ∀ (n : Nat) (L : List (Int × Str)), L.length = n → (∀ t ∈ L, Tg t) → (txtL L).length ≤ 2000 * n
  | 0, L, h, _ => by
    have : L = [] := List.length_eq_zero_iff.mp h
    subst this
    show ("" : Str).length ≤ 0
    decide +kernel
  | n + 1, L, h, hg => by
    have hne : L ≠ [] := fun z => by rw [z] at h; cases h
    have e := List.dropLast_concat_getLast hne
    have g := hg _ (List.getLast_mem hne)
    have ih := txtL_len n L.dropLast (by rw [List.length_dropLast, h]; rfl) fun t ht => hg t (List.dropLast_subset _ ht)
    rw [← e, txtL_snoc]
    have h1 := jn_len (txtL L.dropLast) (L.getLast hne).1 (wordOf (L.getLast hne))
    have h2 := word_len g.b g.l
    omega
theorem txtL_ok : ∀ (n : Nat) (L : List (Int × Str)), L.length = n → (∀ t ∈ L, Tg t ∧ PyData.strOk t.2 = true) → PyData.strOk (txtL L) = true
  | 0, L, h, _ => by
    have : L = [] := List.length_eq_zero_iff.mp h
    subst this
    exact strOk_str ""
  | n + 1, L, h, hg => by
    have hne : L ≠ [] := fun z => by rw [z] at h; cases h
    have e := List.dropLast_concat_getLast hne
    have g := hg _ (List.getLast_mem hne)
    have ih := txtL_ok n L.dropLast (by rw [List.length_dropLast, h]; rfl) fun t ht => hg t (List.dropLast_subset _ ht)
    rw [← e, txtL_snoc]
    exact jn_ok ih (word_ok g.1.b g.2)
theorem txtL_ne {L : List (Int × Str)} (h : L ≠ []) (hg : ∀ t ∈ L, 0 < t.2.length) : txtL L ≠ ("" : Str) := fun z => by
  have e := List.dropLast_concat_getLast h
  have g := hg _ (List.getLast_mem h)
  have h1 : (txtL L).length = 0 := by rw [z]; decide +kernel
  rw [← e, txtL_snoc] at h1
  have h2 := jn_ge (txtL L.dropLast) (L.getLast h).1 (wordOf (L.getLast h))
  have h3 := word_ge (L.getLast h)
  omega
theorem nat1000 {i : Int} (h : i.natAbs < 2 ^ 1000) : ((i.natAbs : Int)).natAbs < 2 ^ 1920 := by
  rw [Int.natAbs_natCast]
  exact Nat.lt_of_lt_of_le h (Nat.pow_le_pow_right (by decide) (by decide))
theorem text_ok {ks : List Str} {φ : Str → Int} {c : Int} (hl : ks.length ≤ 20) (hg : ∀ n ∈ ks, Tg (φ n, n)) (hc : c.natAbs < 2 ^ 1000) : Ok (m_Form_text ⟨ks.map fun n => (n, φ n), c⟩) (· = txt (ks.map fun n => (φ n, n)) c) := by
  have big : sizeLine = 16777216 := rfl
  unfold m_Form_text
  refine Ok.bndE Ok.eq ?_
  show Ok (bnd (ret ((ks.map fun n => (n, φ n)).map (·.1))) _) _
  rw [keys_map]
  refine Ok.bndE Ok.eq (Ok.bndE (x := txtL (ks.map fun n => (φ n, n))) (Ok.forW (fun k s => s = txtL ((ks.take k).map fun n => (φ n, n))) rfl (fun k hk s hs => ?_) fun s hs => by rw [hs, List.take_length]) ?_)
  · have g := hg _ (List.getElem_mem hk)
    have ls : (txtL ((ks.take k).map fun n => (φ n, n))).length ≤ 2000 * k := txtL_len k _ (by rw [List.length_map, List.length_take]; omega) fun t ht => by
      obtain ⟨n, hn, rfl⟩ := List.mem_map.mp ht
      exact hg n (List.mem_of_mem_take hn)
    subst hs
    unfold m_Form_text_l1
    show Ok (bnd (optW (dget (ks.map fun n => (n, φ n)) ks[k])) _) _
    rw [dget_map, if_pos (List.getElem_mem hk)]
    refine Ok.bndE (x := φ ks[k]) Ok.eq (Ok.bndE (x := wordOf (φ ks[k], ks[k])) (Ok.bndE Ok.eq ?_) (Ok.bndE (Ok.noX (joined_ok ?_)) (Ok.ret ?_)))
    · unfold wordOf
      by_cases q : ((φ ks[k]).natAbs : Int) = 1
      · rw [if_pos (decide_eq_true q), if_pos q]
        exact Ok.eq
      · rw [if_neg (by simp [q]), if_neg q]
        have il : (Str.ofString (toString ((φ ks[k]).natAbs : Int))).length ≤ 1921 := iS_len (nat1000 g.b)
        have nl : ks[k].length ≤ 6 := g.l
        refine Ok.bndE (Ok.intS (nat1000 g.b)) (Ok.bndE (Ok.joinS (by rw [l0]; omega)) ?_)
        rw [emp_app]
        exact Ok.bndE (Ok.joinS (by rw [l1s]; omega)) (Ok.joinS (by rw [app_len, l1s]; omega))
    · have := word_len g.b g.l
      omega
    · rw [List.take_succ_eq_append_getElem hk, List.map_append, List.map_singleton, txtL_snoc]
  · have ls : (txtL (ks.map fun n => (φ n, n))).length ≤ 2000 * ks.length := txtL_len ks.length _ (by rw [List.length_map]) fun t ht => by
      obtain ⟨n, hn, rfl⟩ := List.mem_map.mp ht
      exact hg n hn
    unfold txt
    by_cases q : c ≠ 0 ∨ txtL (ks.map fun n => (φ n, n)) = ("" : Str)
    · refine Ok.bndE (x := true) (Ok.bndE Ok.eq ?_) ?_
      · by_cases z : c = 0
        · rw [if_neg (by simp [z])]
          exact Ok.ret (decide_eq_true (q.resolve_left fun h => h z))
        · rw [if_pos (by simp [z])]
          exact Ok.eq
      · rw [if_pos rfl, if_pos q]
        have il : (Str.ofString (toString (c.natAbs : Int))).length ≤ 1921 := iS_len (nat1000 hc)
        exact Ok.bndE (Ok.bndE (Ok.bndE (Ok.intS (nat1000 hc)) (Ok.noX (joined_ok (by show _ + (Str.ofString (toString (c.natAbs : Int))).length ≤ _; omega)))) Ok.eq) (Ok.bndE Ok.eq Ok.eq)
    · have z1 : c = 0 := Decidable.byContradiction fun z => q (.inl z)
      have z2 : txtL (ks.map fun n => (φ n, n)) ≠ ("" : Str) := fun z => q (.inr z)
      refine Ok.bndE (x := false) (Ok.bndE Ok.eq ?_) ?_
      · rw [if_neg (by simp [z1])]
        exact Ok.ret (decide_eq_false z2)
      · rw [if_neg (by decide), if_neg q]
        exact Ok.bndE Ok.eq (Ok.bndE Ok.eq Ok.eq)
/-! the law's own text -/
def wordL (t : Int × Str) : Str := if t.2 = ("" : Str) then iS (t.1.natAbs : Int) else wordOf t
theorem wordL_len {t : Int × Str} (g : Tg t) : (wordL t).length ≤ 1930 := by
  unfold wordL
  split
  · exact Nat.le_trans (iS_len (nat1000 g.b)) (by decide)
  · exact word_len g.b g.l
theorem lturn_ok {s : Str} {t : Int × Str} (g : Tg t) (hs : s.length ≤ 90000) : Ok (m_law_form_text_l1 s t) (· = jn s t.1 (wordL t)) := by
  have big : sizeLine = 16777216 := rfl
  have wl := wordL_len g
  unfold m_law_form_text_l1
  refine Ok.bndE (x := wordL t) (Ok.bndE Ok.eq ?_) (Ok.bndE Ok.eq (Ok.bndE (x := jn s t.1 (wordL t)) ?_ Ok.eq))
  · unfold wordL
    by_cases q : t.2 = ("" : Str)
    · rw [if_pos (decide_eq_true q), if_pos q]
      exact Ok.intS (nat1000 g.b)
    · rw [if_neg (by simp [q]), if_neg q]
      refine Ok.bndE Ok.eq ?_
      unfold wordOf
      by_cases q : (t.1.natAbs : Int) = 1
      · rw [if_pos (decide_eq_true q), if_pos q]
        exact Ok.eq
      · rw [if_neg (by simp [q]), if_neg q]
        have il : (Str.ofString (toString (t.1.natAbs : Int))).length ≤ 1921 := iS_len (nat1000 g.b)
        have nl := g.l
        exact Ok.bndE (Ok.intS (nat1000 g.b)) (Ok.bndE (Ok.catS (by rw [l1s]; omega)) (Ok.catS (by rw [app_len, l1s]; omega)))
  · unfold jn
    by_cases e : s = ("" : Str)
    · rw [if_pos (decide_eq_true e), if_pos e]
      refine Ok.bndE (Ok.bndE Ok.eq ?_) Ok.eq
      by_cases q : t.1 < 0
      · rw [if_pos (decide_eq_true q), if_pos q]
        exact Ok.catS (by rw [l1]; omega)
      · rw [if_neg (by simp [q]), if_neg q]
        exact Ok.eq
    · rw [if_neg (by simp [e]), if_neg e]
      refine Ok.bndE (Ok.bndE (x := if t.1 < 0 then (" - " : Str) else (" + " : Str)) (Ok.bndE Ok.eq ?_) ?_) Ok.eq
      · by_cases q : t.1 < 0
        · rw [if_pos (decide_eq_true q), if_pos q]
          exact Ok.eq
        · rw [if_neg (by simp [q]), if_neg q]
          exact Ok.eq
      · have l3 : (if t.1 < 0 then (" - " : Str) else (" + " : Str)).length = 3 := by
          split
          · exact l3a
          · exact l3b
        exact Ok.bndE (Ok.catS (by rw [l3]; omega)) (Ok.catS (by rw [app_len, l3]; omega))
theorem lloop_ok {L : List (Int × Str)} (hl : L.length ≤ 20) (hg : ∀ t ∈ L, Tg t) : Ok (forW m_law_form_text_l1 ("" : Str) L) (· = L.foldl (fun s t => jn s t.1 (wordL t)) ("" : Str)) := by
  refine (Ok.forW (fun k s => s = (L.take k).foldl (fun s t => jn s t.1 (wordL t)) ("" : Str) ∧ s.length ≤ 2000 * k) ⟨rfl, (by show ("" : Str).length ≤ 0; decide +kernel)⟩ (fun k hk s ⟨h1, h2⟩ => ?_) fun s hs => hs).mono fun s hs => by rw [hs.1, List.take_length]
  have g := hg _ (List.getElem_mem hk)
  refine (lturn_ok g (by omega)).mono fun r hr => ⟨?_, ?_⟩
  · rw [hr, h1, List.take_succ_eq_append_getElem hk, List.foldl_append]
    rfl
  · have h3 := jn_len s L[k].1 (wordL L[k])
    have h4 := wordL_len g
    rw [hr]
    omega
theorem fold_word {L : List (Int × Str)} (h : ∀ t ∈ L, 0 < t.2.length) (s : Str) : L.foldl (fun s t => jn s t.1 (wordL t)) s = L.foldl (fun s t => jn s t.1 (wordOf t)) s := by
  induction L generalizing s with
  | nil => rfl
  | cons t L ih =>
    rw [List.foldl_cons, List.foldl_cons]
    have e : wordL t = wordOf t := by
      unfold wordL
      rw [if_neg]
      intro z
      have := h t List.mem_cons_self
      rw [z] at this
      exact absurd this (by decide +kernel)
    rw [e]
    exact ih (fun t ht => h t (List.mem_cons_of_mem _ ht)) _
theorem ltext_ok {U : List Str} (hU : Uo U) {d : List (Str × Int)} {φ : Str → Int} {c : Int} (h : Fo U d φ) (hg : ∀ n ∈ nzk φ U, Tg (φ n, n) ∧ 0 < n.length) (hc : c.natAbs < 2 ^ 1000) : Ok (m_law_form_text (d, c)) (· = txt ((nzk φ U).map fun n => (φ n, n)) c) := by
  unfold m_law_form_text
  have lt := lterms_ok hU (c := c) h
  have hl : (nzk φ U).length ≤ 10 := Nat.le_trans nzk_len hU.l
  generalize hL : (nzk φ U).map (fun n => (φ n, n)) = L at lt ⊢
  have hL1 : L.length ≤ 10 := by rw [← hL, List.length_map]; exact hl
  have hL2 : ∀ t ∈ L, Tg t ∧ 0 < t.2.length := fun t ht => by
    rw [← hL] at ht
    obtain ⟨n, hn, rfl⟩ := List.mem_map.mp ht
    exact hg n hn
  have hem : (PyData.eqv (PyData.list (L.map fun x => PyData.tuple [.int x.1, .str x.2])) (PyData.list (([] : List (Int × Str)).map fun x => PyData.tuple [.int x.1, .str x.2]))) = L.isEmpty := by
    cases L with
    | nil => rfl
    | cons a L => rfl
  refine Ok.bndE Ok.eq (Ok.bndE (x := L ++ if c ≠ 0 ∨ L = [] then [(c, ("" : Str))] else []) (Ok.bndE (Ok.noX lt) (Ok.bndE (x := if c ≠ 0 ∨ L = [] then [(c, ("" : Str))] else []) (Ok.bndE (x := decide (c ≠ 0 ∨ L = [])) (Ok.bndE Ok.eq ?_) ?_) ?_)) ?_)
  · by_cases z : c = 0
    · rw [if_neg (by simp [z])]
      refine Ok.bndE (Ok.noX lt) (Ok.ret ?_)
      rw [hem]
      cases L <;> simp [z]
    · rw [if_pos (by simp [z])]
      exact Ok.ret (by simp [z])
  · by_cases q : c ≠ 0 ∨ L = []
    · rw [if_pos (decide_eq_true q), if_pos q]
      exact Ok.eq
    · rw [if_neg (by simp only [decide_eq_true_eq]; exact q), if_neg q]
      exact Ok.eq
  · refine Ok.chk (line_ok ?_) Ok.eq
    split
    · simp; omega
    · simp; omega
  · have hne : txtL L = ("" : Str) ↔ L = [] := ⟨fun z => Decidable.byContradiction fun q => txtL_ne q (fun t ht => (hL2 t ht).2) z, fun z => by rw [z]; rfl⟩
    refine Ok.bndE (lloop_ok ?_ fun t ht => ?_) (Ok.bndE Ok.eq (Ok.ret ?_))
    · rw [List.length_append]
      split
      · simp; omega
      · simp; omega
    · rcases List.mem_append.mp ht with q | q
      · exact (hL2 t q).1
      · split at q
        · rw [List.mem_singleton.mp q]
          exact ⟨hc, by show ("" : Str).length ≤ 6; decide +kernel⟩
        · cases q
    · rw [List.foldl_append, fold_word (fun t ht => (hL2 t ht).2)]
      unfold txt
      show List.foldl _ (txtL L) _ = _
      by_cases q : c ≠ 0 ∨ L = []
      · rw [if_pos q, if_pos (q.imp_right hne.mpr)]
        show jn (txtL L) c (wordL (c, "")) = jn _ _ _
        unfold wordL
        rw [if_pos rfl]
      · rw [if_neg q, if_neg fun z => q (z.imp_right hne.mp)]
        rfl
end K03

set_option exponentiation.threshold 2000
namespace K03
open PySem L2 Evl Mi
theorem ff : ftb.lookup "UnknownName" = some (some ("name" : Str)) := by decide +kernel
theorem gotT {w : W PyData} {e : Er} {x : PyData} (h : Thr w e) (hf : Ok (fieldW ftb e) (· = x)) : Ok (noX (m_law_got w)) (· = (Str.ofString e.cls, x)) := got_thr h hf
theorem eqv_strs : ∀ xs : List Str, PyData.eqv (.list (xs.map .str)) (.list (xs.map .str)) = true := fun xs => by
  rw [PyData.eqv]
  induction xs with
  | nil => rfl
  | cons x xs ih => rw [List.map_cons, PyData.eqvAll, ih, PyData.eqv]; simp
abbrev dTerm : Int × Str → PyData := fun x => PyData.tuple [.int x.1, .str x.2]
theorem eqv_term (a b : Int × Str) : PyData.eqv (dTerm a) (dTerm b) = decide (a = b) := by
  obtain ⟨a1, a2⟩ := a
  obtain ⟨b1, b2⟩ := b
  show PyData.eqv (.tuple [.int a1, .str a2]) (.tuple [.int b1, .str b2]) = _
  rw [PyData.eqv, PyData.eqvAll, PyData.eqvAll, PyData.eqvAll, PyData.eqv, PyData.eqv, Bool.eq_iff_iff]
  simp
theorem eqv_terms : ∀ (L M : List (Int × Str)), PyData.eqv (.list (L.map dTerm)) (.list (M.map dTerm)) = decide (L = M)
  | [], [] => rfl
  | [], _ :: _ => rfl
  | _ :: _, [] => rfl
  | a :: L, b :: M => by
    have ih := eqv_terms L M
    rw [PyData.eqv] at ih ⊢
    rw [List.map_cons, List.map_cons, PyData.eqvAll, ih, eqv_term, Bool.eq_iff_iff]
    simp
theorem eqv_told (L M : List (Int × Str)) (c e : Int) : PyData.eqv (.tuple [.list (L.map dTerm), .int c]) (.tuple [.list (M.map dTerm), .int e]) = (decide (L = M) && decide (c = e)) := by
  rw [PyData.eqv, PyData.eqvAll, PyData.eqvAll, PyData.eqvAll, eqv_terms, PyData.eqv, Bool.eq_iff_iff]
  simp
section
variable {U : List Str} (hU : Uo U)
include hU in
theorem terms_iff {φ ψ : Str → Int} (s1 : Spt U φ) (s2 : Spt U ψ) : ((nzk φ U).map (fun n => (φ n, n)) = (nzk ψ U).map fun n => (ψ n, n)) ↔ ∀ n, φ n = ψ n := by
  constructor
  · intro h n
    have hk : nzk φ U = nzk ψ U := by
      have := congrArg (List.map Prod.snd) h
      rw [List.map_map, List.map_map] at this
      have e : ∀ (χ : Str → Int) (l : List Str), l.map (Prod.snd ∘ fun n => (χ n, n)) = l := fun χ l => List.map_id' _
      rwa [e, e] at this
    by_cases q : n ∈ nzk φ U
    · have hm : (φ n, n) ∈ (nzk ψ U).map fun n => (ψ n, n) := by rw [← h]; exact List.mem_map.mpr ⟨n, q, rfl⟩
      obtain ⟨m, _, hm2⟩ := List.mem_map.mp hm
      have a1 : ψ m = φ n := congrArg Prod.fst hm2
      have a2 : m = n := congrArg Prod.snd hm2
      rw [← a1, a2]
    · have q2 : n ∉ nzk ψ U := by rwa [hk] at q
      have z1 : φ n = 0 := Decidable.byContradiction fun z => q (nzk_mem.mpr ⟨s1 n z, z⟩)
      have z2 : ψ n = 0 := Decidable.byContradiction fun z => q2 (nzk_mem.mpr ⟨s2 n z, z⟩)
      rw [z1, z2]
  · intro h
    rw [funext h]
theorem deq_self {φ : Str → Int} : deqI (canT U φ) (canT U φ) = true := by
  unfold deqI dsubI
  rw [Bool.and_eq_true]
  refine ⟨by simp, ?_⟩
  rw [List.all_eq_true]
  intro p hp
  unfold canT at hp
  obtain ⟨n, hn, rfl⟩ := List.mem_map.mp hp
  rw [can_get hn]
  exact decide_eq_true rfl
include hU in
theorem deq_iff {φ ψ : Str → Int} (s1 : Spt U φ) (s2 : Spt U ψ) : deqI (canT U φ) (canT U ψ) = true ↔ ∀ n, φ n = ψ n := by
  constructor
  · intro h n
    unfold deqI dsubI at h
    rw [Bool.and_eq_true, List.all_eq_true] at h
    obtain ⟨h1, h2⟩ := h
    have h1 : (nzk φ U).length = (nzk ψ U).length := by simpa [canT] using h1
    have h3 : ∀ n ∈ nzk φ U, n ∈ nzk ψ U ∧ ψ n = φ n := fun n hn => by
      have := of_decide_eq_true (h2 (n, φ n) (List.mem_map.mpr ⟨n, hn, rfl⟩))
      unfold canT at this
      rw [dget_map] at this
      split at this
      · rename_i q
        exact ⟨q, Option.some.inj this⟩
      · cases this
    have h4 : ∀ n ∈ nzk ψ U, n ∈ nzk φ U := fun m hm => Decidable.byContradiction fun q => by
      have nd : (m :: nzk φ U).Nodup := List.nodup_cons.mpr ⟨q, nzk_nodup hU.nd⟩
      have := len_nodup nd (ys := nzk ψ U) fun x hx => by
        rcases List.mem_cons.mp hx with rfl | hx
        · exact hm
        · exact (h3 x hx).1
      rw [List.length_cons] at this
      omega
    by_cases q : n ∈ nzk φ U
    · exact (h3 n q).2.symm
    · have z1 : φ n = 0 := Decidable.byContradiction fun z => q (nzk_mem.mpr ⟨s1 n z, z⟩)
      have z2 : ψ n = 0 := Decidable.byContradiction fun z => q (h4 n (nzk_mem.mpr ⟨s2 n z, z⟩))
      rw [z1, z2]
  · intro h
    rw [funext h]
    exact deq_self
theorem eq0_ok {F G : Form_} : Ok (m_Form_eq_v0 F G) (· = (deqI F.own_terms G.own_terms && decide (F.own_constant = G.own_constant))) := by
  unfold m_Form_eq_v0
  refine Ok.bndE (x := false) Ok.eq ?_
  rw [if_neg (by decide)]
  refine Ok.bndE (Ok.bndE Ok.eq ?_) Ok.eq
  cases deqI F.own_terms G.own_terms with
  | true => exact Ok.eq
  | false => exact Ok.eq
theorem eq_self {φ : Str → Int} {c : Int} : Ok (m_Form_eq_v0 (Fm U φ c) (Fm U φ c)) (· = true) := eq0_ok.mono fun b hb => by
  rw [hb]
  show (deqI (canT U φ) (canT U φ) && decide (c = c)) = true
  rw [deq_self]
  simp
theorem eq1_ok {F : Form_} {s : Str} : Ok (m_Form_eq_v1 F s) (· = false) := by
  unfold m_Form_eq_v1
  refine Ok.bndE (x := true) Ok.eq ?_
  rw [if_pos rfl]
  exact Ok.bndE Ok.eq Ok.eq
theorem eq2_ok {F : Form_} {s : Int} : Ok (m_Form_eq_v2 F s) (· = false) := by
  unfold m_Form_eq_v2
  refine Ok.bndE (x := true) Ok.eq ?_
  rw [if_pos rfl]
  exact Ok.bndE Ok.eq Ok.eq
theorem names_ok3 {φ : Str → Int} {c : Int} : Ok (m_Form_names (Fm U φ c)) (· = nzk φ U) := by
  unfold m_Form_names
  refine (Ok.eq : Ok (ret ((canT U φ).map (·.1))) _).mono fun x hx => ?_
  rw [hx, can_keys]
theorem const_ok {φ : Str → Int} {c : Int} : Ok (m_Form_constant (Fm U φ c)) (· = c) := by
  unfold m_Form_constant
  exact Ok.bndE Ok.eq Ok.eq
theorem coef_str {φ : Str → Int} {c : Int} {s : Str} (sp : Spt U φ) (hs : s.length ≤ sizeLine) : Ok (m_Form_coef (Fm U φ c) (.str s)) (· = φ s) := by
  unfold m_Form_coef
  refine Ok.bndE (Ok.bndE (x := true) Ok.eq ?_) Ok.eq
  rw [if_pos rfl]
  refine Ok.bndE (x := s) (Ok.chk hs Ok.eq) (Ok.ret ?_)
  exact cf_can sp s
theorem coef_other {φ : Str → Int} {c : Int} {d : PyData} (h : (tyD d == "str") = false) : Ok (m_Form_coef (Fm U φ c) d) (· = 0) := by
  unfold m_Form_coef
  refine Ok.bndE (Ok.bndE (x := false) (Ok.ret h) ?_) Ok.eq
  rw [if_neg (by decide)]
  exact Ok.eq
theorem ftext_ok {φ : Str → Int} {c : Int} (hl : U.length ≤ 10) (hg : ∀ n ∈ nzk φ U, Tg (φ n, n)) (hc : c.natAbs < 2 ^ 1000) : Ok (m_Form_text (Fm U φ c)) (· = txt ((nzk φ U).map fun n => (φ n, n)) c) := text_ok (Nat.le_trans nzk_len (by omega)) hg hc
end
theorem txt_len {L : List (Int × Str)} {c : Int} (hl : L.length ≤ 10) (hg : ∀ t ∈ L, Tg t) (hc : c.natAbs < 2 ^ 1000) : (txt L c).length ≤ 22000 := by
  have h1 := txtL_len L.length L rfl hg
  have h2 := iS_len (nat1000 hc)
  unfold txt
  split
  · have := jn_len (txtL L) c (iS (c.natAbs : Int))
    omega
  · omega
theorem txt_ok {L : List (Int × Str)} {c : Int} (hg : ∀ t ∈ L, Tg t ∧ PyData.strOk t.2 = true) (hc : c.natAbs < 2 ^ 1000) : PyData.strOk (txt L c) = true := by
  have h1 := txtL_ok L.length L rfl hg
  unfold txt
  split
  · exact jn_ok h1 (iS_ok (nat1000 hc))
  · exact h1
theorem repr_ok {F : Form_} {t : Str} (h : Ok (m_Form_text F) (· = t)) (ht : t.length ≤ 22000) : Ok (m_Form_repr F) (· = ("Form(" : Str) ++ t ++ (")" : Str)) := by
  have a1 : ("Form(" : Str).length = 5 := by decide +kernel
  have a2 : (")" : Str).length = 1 := by decide +kernel
  have big : sizeLine = 16777216 := rfl
  unfold m_Form_repr
  refine Ok.bndE (Ok.bndE (Ok.joinS (by rw [l0, a1]; omega)) (Ok.bndE (Ok.noX h) ?_)) Ok.eq
  rw [emp_app]
  exact Ok.bndE (Ok.joinS (by rw [a1]; omega)) (Ok.joinS (by rw [app_len, a1, a2]; omega))
/-! mixing -/
theorem mixed_ok {ts : List (Int × Str)} (hl : ts.length ≤ 60) : Ok (m_law_mixed ts) fun ms => ms.Perm ts := by
  unfold m_law_mixed
  refine Ok.bndE Ok.eq (Ok.bndE Ok.eq (Ok.bnd (Ok.forW (fun k s => s.Perm (ts.take k)) (List.Perm.refl _) (fun k hk s hs => ?_) fun s hs => by rw [List.take_length] at hs; exact hs) fun s hs => Ok.ret hs))
  have sl : s.length ≤ 60 := by rw [hs.length_eq, List.length_take]; omega
  unfold m_law_mixed_l1
  refine Ok.bnd (Ok.noX (Ok.draw (by omega) (Nat.lt_of_lt_of_le (log2_lt (m := 64) (show ((s.length : Int) + 1).natAbs < 2 ^ 64 by omega) (by decide)) (by decide)))) fun r ⟨k0, k1⟩ => ?_
  obtain ⟨r, rfl⟩ := Int.eq_ofNat_of_zero_le k0
  refine Ok.bndE Ok.eq (Ok.chk ⟨Nat.lt_of_le_of_lt sl (by decide), k0, by omega⟩ (Ok.bndE Ok.eq (Ok.ret ?_)))
  show (s.take r ++ [ts[k]] ++ s.drop r).Perm _
  rw [List.take_succ_eq_append_getElem hk, List.append_assoc, List.singleton_append]
  refine List.perm_middle.trans ?_
  rw [List.take_append_drop]
  exact (hs.cons _).trans (List.perm_append_singleton _ _).symm
theorem tot_perm {L M : List (Int × Str)} (h : L.Perm M) (n : Str) : tot L n = tot M n := perm_sum (h.map _)
theorem tot_snoc (L : List (Int × Str)) (t : Int × Str) (n : Str) : tot (L ++ [t]) n = tot L n + if t.2 = n then t.1 else 0 := by
  unfold tot
  rw [List.map_append, List.sum_append]
  simp
def uq : List Str → List Str
  | [] => []
  | x :: xs => if x ∈ xs then uq xs else x :: uq xs
theorem uq_mem : ∀ {l : List Str} {x : Str}, x ∈ uq l ↔ x ∈ l
  | [], x => Iff.rfl
  | y :: l, x => by
    unfold uq
    split
    · rename_i h
      rw [uq_mem, List.mem_cons]
      exact ⟨.inr, fun z => z.elim (fun e => e ▸ h) id⟩
    · rw [List.mem_cons, List.mem_cons, uq_mem]
theorem uq_nodup : ∀ (l : List Str), (uq l).Nodup
  | [] => List.nodup_nil
  | y :: l => by
    unfold uq
    split
    · exact uq_nodup l
    · rename_i h
      exact List.nodup_cons.mpr ⟨fun z => h (uq_mem.mp z), uq_nodup l⟩
theorem uq_len : ∀ (l : List Str), (uq l).length ≤ l.length
  | [] => Nat.le_refl _
  | y :: l => by
    have := uq_len l
    unfold uq
    split
    · rw [List.length_cons]; omega
    · rw [List.length_cons, List.length_cons]; omega
end K03

set_option exponentiation.threshold 2000
namespace K03
open PySem L2 Evl Mi
theorem P20 : Ok (powI ((10 : Int)) ((20 : Int))) (· = 100000000000000000000) := Ok.chk ⟨by decide, by decide, by decide⟩ (Ok.ret rfl)
theorem D20 : Ok (noX (drawW (100000000000000000000 : Int))) fun r => 0 ≤ r ∧ r < 100000000000000000000 := Ok.noX (Ok.draw (by decide) (by decide +kernel))
theorem any_p {xs : List Int} {I : Int → Prop} (h0 : 0 < xs.length) (h1 : xs.length < 100) (h : ∀ x ∈ xs, I x) : Ok (noX (anyW xs)) I := Ok.noX (Ok.any h0 (by omega) h)
abbrev dTold : List (Int × Str) × Int → PyData := fun x => PyData.tuple [(fun xs => PyData.list (xs.map (fun x => PyData.tuple [.int x.1, .str x.2]))) x.1, .int x.2]
theorem shw_terms {U : List Str} {φ : Str → Int} (hl : U.length ≤ 10) (hg : ∀ n ∈ U, GName n) (h1 : ∀ n, (φ n).natAbs < 2 ^ 1920) : Shw (PyData.list (((nzk φ U).map fun n => (φ n, n)).map dTerm)) 38522 := by
  refine Shw.mono (Shw.list (m := 3850) (n := 10) (fun d hd => ?_) ?_) (by decide)
  · obtain ⟨t, ht, rfl⟩ := List.mem_map.mp hd
    obtain ⟨n, hn, rfl⟩ := List.mem_map.mp ht
    have g := hg n (nzk_mem.mp hn).1
    exact Shw.mono (Shw.pair (m := 1921) (Shw.int (h1 n)) (Shw.mono (Shw.str g.ok g.len) (by decide))) (by decide)
  · rw [List.length_map, List.length_map]
    exact Nat.le_trans nzk_len hl
/-- rows and what they come to -/
structure Rw (names : List Str) (k : Nat) (s : List (Int × Str) × List (Str × Int)) : Prop where
  l1 : s.1.length ≤ k
  l2 : s.2.length ≤ k
  n1 : ∀ t ∈ s.1, t.2 ∈ names
  nd : (s.2.map (·.1)).Nodup
  n2 : ∀ n ∈ s.2.map (·.1), n ∈ names
  c : ∀ n, tot s.1 n = cf s.2 n
  b : ∀ n, (cf s.2 n).natAbs ≤ k * 100000000000000000000
theorem rows_ok {names : List Str} (hn : names.length = 5) {xs : List Int} (hx : xs.length ≤ 8) : Ok (forW (m_law_l2 names) ([], []) xs) (Rw names 8) := by
  have big : sizeLine = 16777216 := rfl
  refine Ok.forW (fun k s => Rw names k s) ⟨Nat.le_refl _, Nat.le_refl _, fun t ht => (nomatch ht), List.nodup_nil, fun n h => (nomatch h), fun n => rfl, fun n => Nat.zero_le _⟩ (fun k hk s hs => ?_) fun s hs => ⟨Nat.le_trans hs.l1 hx, Nat.le_trans hs.l2 hx, hs.n1, hs.nd, hs.n2, hs.c, fun n => Nat.le_trans (hs.b n) (Nat.mul_le_mul_right _ hx)⟩
  unfold m_law_l2
  have l1 := hs.l1
  have l2 := hs.l2
  refine Ok.bnd (Ok.noX (Ok.any (I := fun s => s ∈ names) (by omega) (by omega) fun s hs => hs)) fun name hnm => ?_
  refine Ok.bnd (J := fun co : Int => (cf s.2 name + co).natAbs ≤ (k + 1) * 100000000000000000000) ?_ fun co hco => ?_
  · refine Ok.bnd (Ok.noX (Ok.draw (by decide) (by decide))) fun r1 ⟨a1, a2⟩ => Ok.bndE P20 (Ok.bnd D20 fun r2 ⟨a3, a4⟩ => any_p (by simp) (by simp) fun y hy => ?_)
    have hb := hs.b name
    have e : (dget s.2 name).getD 0 = cf s.2 name := rfl
    rw [e] at hy
    simp only [List.mem_cons, List.not_mem_nil, or_false] at hy
    rcases hy with rfl | rfl | rfl | rfl | rfl | rfl <;> omega
  refine Ok.bndE Ok.eq (Ok.chk (by omega) (Ok.bndE Ok.eq (Ok.bndE (x := name) Ok.eq (Ok.chk (by omega) (Ok.bndE Ok.eq (Ok.ret ⟨?_, ?_, ?_, dput_nodup hs.nd, ?_, fun n => ?_, fun n => ?_⟩))))))
  · show (s.1 ++ [(co, name)]).length ≤ k + 1
    rw [List.length_append, List.length_singleton]
    omega
  · exact Nat.le_trans (dput_len _ _ _) (by omega)
  · intro t ht
    rcases List.mem_append.mp ht with q | q
    · exact hs.n1 t q
    · rw [List.mem_singleton.mp q]
      exact hnm
  · intro n h
    have h : n ∈ (dput s.2 name (cf s.2 name + co)).map (·.1) := h
    rw [dput_keys] at h
    split at h
    · exact hs.n2 n h
    · rcases List.mem_append.mp h with q | q
      · exact hs.n2 n q
      · rw [List.mem_singleton.mp q]
        exact hnm
  · show tot (s.1 ++ [(co, name)]) n = cf (dput s.2 name (cf s.2 name + co)) n
    rw [tot_snoc, cf_put, hs.c]
    by_cases e : n = name
    · subst e
      rw [if_pos rfl, if_pos rfl]
    · rw [if_neg (Ne.symm e), if_neg e]
      omega
  · show (cf (dput s.2 name (cf s.2 name + co)) n).natAbs ≤ _
    rw [cf_put]
    split
    · exact hco
    · exact Nat.le_trans (hs.b n) (by omega)
theorem only_one {l : List Str} {a : Str} (nd : l.Nodup) (h : ∀ x, x ∈ l ↔ x = a) : l = [a] := by
  match l, nd, h with
  | [], _, h => exact absurd ((h a).mpr rfl) (by simp)
  | [x], _, h => rw [(h x).mp List.mem_cons_self]
  | x :: y :: l, nd, h =>
    have e1 := (h x).mp List.mem_cons_self
    have e2 := (h y).mp (List.mem_cons_of_mem _ List.mem_cons_self)
    subst e1
    subst e2
    exact absurd List.mem_cons_self (List.nodup_cons.mp nd).1
def one1 (n m : Str) : Int := if m = n then 1 else 0
theorem sp_one {U : List Str} {n : Str} (h : n ∈ U) : Spt U (one1 n) := fun m hm => by
  unfold one1 at hm
  by_cases e : m = n
  · exact e ▸ h
  · rw [if_neg e] at hm
    exact absurd rfl hm
theorem nzk_one {U : List Str} (hU : Uo U) {n : Str} (h : n ∈ U) : (nzk (one1 n) U).map (fun m => (one1 n m, m)) = [((1 : Int), n)] := by
  rw [only_one (a := n) (nzk_nodup hU.nd) fun x => ?_]
  · simp [one1]
  · rw [nzk_mem]
    unfold one1
    constructor
    · intro ⟨_, h2⟩
      exact Decidable.byContradiction fun e => h2 (if_neg e)
    · rintro rfl
      exact ⟨h, by simp⟩
theorem tot_one (k : Int) (s n : Str) : tot [(k, s)] n = if n = s then k else 0 := by
  unfold tot
  by_cases e : n = s
  · subst e
    simp
  · simp [e, Ne.symm e]
section
variable {U : List Str} (hU : Uo U)
include hU in
theorem of_ok {s : Str} (h : s ∈ U) (hn : Nm s) : Ok (m_Form_of s) (· = Fm U (one1 s) 0) := by
  unfold m_Form_of
  refine Ok.bndE (Ok.noX (init0_ok hU (.inl rfl) (ts := [(1, s)]) (show 1 ≤ 60 by decide) (fun t ht => ?_) (fun n => ?_) (sp_one h))) Ok.eq
  · rw [List.mem_singleton.mp ht]
    exact hn
  · rw [tot_one]
    rfl
include hU in
theorem l3_ok {names : List Str} {s : List (Int × Str) × List (Str × Int)} {φ : Str → Int} {c : Int} {o : Option Str} (hn : names.length = 5) (hgU : ∀ n ∈ U, GName n) (hgn : ∀ n ∈ names, GName n) (hf : Fo U s.2 φ) (bφ : ∀ n, (φ n).natAbs < 2 ^ 100) (bc : c.natAbs < 2 ^ 100) :
    Ok (m_law_l3 names s c (s.2, c) o (Fm U φ c)) (· = .nx (some (txt ((nzk φ U).map fun n => (φ n, n)) c))) := by
  have big : sizeLine = 16777216 := rfl
  have k1 : 2 ^ 100 < 2 ^ 1000 := by decide
  have k2 : 2 ^ 100 < 2 ^ 1920 := by decide
  have tg : ∀ n ∈ nzk φ U, Tg (φ n, n) := fun n h => ⟨Nat.lt_trans (bφ n) k1, (hgU n (nzk_mem.mp h).1).len⟩
  have tp : ∀ n ∈ nzk φ U, 0 < n.length := fun n h => by
    have := (hgU n (nzk_mem.mp h).1).l
    omega
  have nl : (nzk φ U).length ≤ 10 := Nat.le_trans nzk_len hU.l
  have hT := ftext_ok (c := c) hU.l tg (Nat.lt_trans bc k1)
  have tgL : ∀ t ∈ (nzk φ U).map (fun n => (φ n, n)), Tg t ∧ PyData.strOk t.2 = true := fun t ht => by
    obtain ⟨n, h, rfl⟩ := List.mem_map.mp ht
    exact ⟨tg n h, (hgU n (nzk_mem.mp h).1).ok⟩
  have tl : (txt ((nzk φ U).map fun n => (φ n, n)) c).length ≤ 22000 := txt_len (by rw [List.length_map]; exact nl) (fun t ht => (tgL t ht).1) (Nat.lt_trans bc k1)
  have tk := txt_ok (c := c) tgL (Nat.lt_trans bc k1)
  generalize hTT : txt ((nzk φ U).map fun n => (φ n, n)) c = T at hT tl tk ⊢
  have a1 : ("Form(" : Str).length = 5 := by decide +kernel
  have a2 : (")" : Str).length = 1 := by decide +kernel
  unfold m_law_l3
  refine Ok.bndE (Ok.bndE (Ok.noX terms_ok) (Ok.bndE (Ok.noX const_ok) (Ok.bndE (Ok.noX names_ok3) (Ok.bndE (Ok.noX hT) (Ok.bndE (Ok.noX (repr_ok hT tl)) Ok.eq))))) ?_
  refine Ok.bndE (Ok.noX (lterms_ok hU hf)) (Ok.bndE (Ok.noX ((ltext_ok hU hf (fun n h => ⟨tg n h, tp n h⟩) (Nat.lt_trans bc k1)).mono fun y hy => by rw [hy, hTT])) ?_)
  refine Ok.bndE (x := false) (Ok.bndE (x := nzk φ U) ((Ok.map (g := fun t : Int × Str => t.2) fun t _ => Ok.eq).mono fun y hy => ?_) (Ok.bndE (Ok.catS (by rw [a1]; omega)) (Ok.bndE (Ok.catS (by rw [app_len, a1, a2]; omega)) (Ok.bndE (x := true) (Ok.noX (Ok.same (m := 1500000) (Shw.mono (Shw.list (m := 230000) (n := 5) (fun d hd => ?_) (by simp)) (by decide)) (by decide) rfl)) Ok.eq)))) ?_
  · rw [hy, List.map_map]
    exact List.map_id' _
  · simp only [List.map_cons, List.map_nil, List.mem_cons, List.not_mem_nil, or_false, id_eq] at hd
    rcases hd with rfl | rfl | rfl | rfl | rfl
    · exact Shw.mono (shw_terms hU.l hgU fun n => Nat.lt_trans (bφ n) k2) (by decide)
    · exact Shw.mono (Shw.int (Nat.lt_trans bc k2)) (by decide)
    · refine Shw.mono (Shw.list (m := 62) (n := 10) (fun d hd => ?_) (by rw [List.length_map]; exact nl)) (by decide)
      obtain ⟨n, h, rfl⟩ := List.mem_map.mp hd
      have g := hgU n (nzk_mem.mp h).1
      exact Shw.str g.ok g.len
    · exact Shw.mono (Shw.str tk tl) (by decide)
    · exact Shw.mono (Shw.str (n := 22006) (strOk_app (strOk_app (strOk_str _) tk) (strOk_str _)) (by rw [app_len, app_len, a1, a2]; omega)) (by decide)
  rw [if_neg (by decide)]
  refine Ok.bndE (x := false) (Ok.bndE (Ok.map (g := φ) fun n h => Ok.noX (coef_str hf.sp (hgn n h).line)) (Ok.bndE (x := names.map φ) (Ok.map (g := φ) fun n h => Ok.ret (hf.c n)) (Ok.bndE (x := true) (Ok.noX (Ok.same (m := 20000) (Shw.mono (Shw.list (m := 1921) (n := 5) (fun d hd => ?_) (by rw [List.length_map, List.length_map]; omega)) (by decide)) (by decide) rfl)) Ok.eq))) ?_
  · obtain ⟨i, hi, rfl⟩ := List.mem_map.mp hd
    obtain ⟨n, _, rfl⟩ := List.mem_map.mp hi
    exact Shw.int (Nat.lt_trans (bφ n) k2)
  rw [if_neg (by decide)]
  exact Ok.bndE (Ok.noX terms_ok) (Ok.bndE Ok.eq (Ok.chk (by rw [List.length_map]; omega) (Ok.bndE (Ok.noX names_ok3) (Ok.bndE Ok.eq (Ok.chk (by omega) Ok.eq)))))
end
theorem cat_ok {α : Type} {xs ys : List α} (h : xs.length + ys.length ≤ 100) : Ok (catL xs ys) (· = xs ++ ys) := Ok.chk (by have big : sizeLine = 16777216 := rfl; (try rw [List.length_append]); omega) Ok.eq
theorem odd_ok {I : PyData → Prop} {more : List PyData} (hm : more.length ≤ 10) (h : ∀ d ∈ ([.none, .bool true, .bool false, .str "", .str "1", .str "A b", .tuple [], .list [], .list [.int 1], .tuple [.int 2, .str "A"], .tuple [.str "x"]] : List PyData) ++ more, I d) : Ok (m_law_odd more) I := by
  unfold m_law_odd
  refine Ok.bnd (J := I) (Ok.bndE (cat_ok (by simp; omega)) (Ok.noX (Ok.any (by simp) (by simp; omega) h))) fun d hd => Ok.ret hd
theorem turn_law (x : Int) : Ok (m_law_l1 () x) (· = .nx ()) := by
  have big : sizeLine = 16777216 := rfl
  unfold m_law_l1
  refine Ok.bnd (Ok.noX (names5 (k := 5) (by decide))) fun names ⟨hn, hg⟩ => ?_
  refine Ok.bndE Ok.eq (Ok.bndE Ok.eq ?_)
  refine Ok.bnd (J := fun xs : List Int => xs.length ≤ 8) (Ok.bnd (Ok.noX (Ok.draw (by decide) (by decide))) fun r ⟨r0, r1⟩ => ?_) fun xs hx => ?_
  · obtain ⟨r, rfl⟩ := Int.eq_ofNat_of_zero_le r0
    exact (Ok.rng1 (by omega)).mono fun y hy => by rw [hy, List.length_map, List.length_range]; omega
  refine Ok.bnd (rows_ok hn hx) fun s hs => ?_
  refine Ok.bnd (J := fun c : Int => c.natAbs ≤ 100000000000000000000) (Ok.bnd (Ok.noX (Ok.draw (by decide) (by decide))) fun r1 ⟨a1, a2⟩ => Ok.bndE P20 (Ok.bnd D20 fun r2 ⟨a3, a4⟩ => any_p (by simp) (by simp) fun y hy => ?_)) fun c hc => ?_
  · simp only [List.mem_cons, List.not_mem_nil, or_false] at hy
    rcases hy with rfl | rfl | rfl | rfl | rfl | rfl <;> omega
  generalize hUd : uq names = U
  have hm : ∀ n, n ∈ U ↔ n ∈ names := fun n => by rw [← hUd]; exact uq_mem
  have hU : Uo U := ⟨by rw [← hUd]; exact uq_nodup _, by rw [← hUd]; exact Nat.le_trans (uq_len _) (by omega)⟩
  have hgU : ∀ n ∈ U, GName n := fun n h => hg n ((hm n).mp h)
  have hf : Fo U s.2 (cf s.2) := ⟨hs.nd, Nat.lt_of_le_of_lt hs.l2 (by decide), fun _ => rfl, fun n h => (hm n).mpr (hs.n2 n (cf_sup h))⟩
  generalize hφ : cf s.2 = φ at hf
  have ht : ∀ n, tot s.1 n = φ n := fun n => by rw [← hφ]; exact hs.c n
  have bφ : ∀ n, (φ n).natAbs < 2 ^ 100 := fun n => by rw [← hφ]; exact Nat.lt_of_le_of_lt (hs.b n) (by decide)
  have bc : c.natAbs < 2 ^ 100 := Nat.lt_of_le_of_lt hc (by decide)
  have nms : ∀ t ∈ s.1, Nm t.2 := fun t h => ⟨(hg _ (hs.n1 t h)).name, (hg _ (hs.n1 t h)).line⟩
  have l1 := hs.l1
  have mk : ∀ {c : Int}, Ok (m_Form_init (.list (s.1.map tm)) (.int c)) (· = Fm U φ c) := init0_ok hU (.inl rfl) (by omega) nms ht hf.sp
  refine Ok.bndE Ok.eq (Ok.bndE (Ok.noX mk) (Ok.bndE Ok.eq ?_))
  match names, hn, hg, hm with
  | n0 :: names', hn, hg, hm =>
  have hn0 := hg n0 List.mem_cons_self
  have hn0U : n0 ∈ U := (hm n0).mpr List.mem_cons_self
  refine Ok.bndE (Ok.bndE (x := n0) idx0 Ok.eq) (Ok.chk (by omega) ?_)
  refine Ok.bndE (x := Fm U φ c) (Ok.bnd (Ok.noX (mixed_ok (by omega))) fun ms hms => Ok.noX (init0_ok hU (.inr rfl) (by rw [hms.length_eq]; omega) (fun t h => nms t (hms.mem_iff.mp h)) (fun n => by rw [tot_perm hms, ht]) hf.sp)) ?_
  refine Ok.bndE Ok.eq ?_
  refine Ok.bnd (J := fun r => r = .nx (some (txt ((nzk φ U).map fun n => (φ n, n)) c))) (Ok.forF (fun k s => k = 0 ∨ s = some (txt ((nzk φ U).map fun n => (φ n, n)) c)) (fun _ => False) (.inl rfl) (fun k hk o _ => ?_) (fun o ho => ?_) fun _ h => h.elim) fun r hr => ?_
  · have e : ([Fm U φ c, Fm U φ c] : List Form_)[k] = Fm U φ c := by
      have := List.getElem_mem hk
      simp only [List.mem_cons, List.not_mem_nil, or_false, or_self] at this
      exact this
    rw [e]
    refine (l3_ok hU hn hgU hg hf bφ bc).mono fun r hr => ?_
    subst hr
    exact .inr rfl
  · rcases ho with h | h
    · exact absurd h (by simp)
    · rw [h]
  subst hr
  rw [flEnd_nx]
  refine Ok.bnd (J := fun d : PyData => (tyD d == "str") = false ∨ ∃ s, d = .str s ∧ s ∉ U ∧ s.length ≤ sizeLine) (Ok.noX (odd_ok (by simp) fun d hd => ?_)) fun odd hodd => ?_
  · simp only [List.map_cons, List.map_nil, List.mem_append, List.mem_cons, List.not_mem_nil, or_false] at hd
    have nu : ∀ {z : Str}, ¬ GName z → z ∉ U := fun h q => h (hgU _ q)
    rcases hd with (rfl | rfl | rfl | rfl | rfl | rfl | rfl | rfl | rfl | rfl | rfl) | rfl | rfl
    · exact .inl rfl
    · exact .inl rfl
    · exact .inl rfl
    · exact .inr ⟨_, rfl, nu fun g => absurd g.l (by decide +kernel), by decide +kernel⟩
    · exact .inr ⟨_, rfl, nu fun g => absurd (g.c 49 (by decide +kernel)) (by decide +kernel), by decide +kernel⟩
    · exact .inr ⟨_, rfl, nu fun g => absurd (g.c 65 (by decide +kernel)) (by decide +kernel), by decide +kernel⟩
    · exact .inl rfl
    · exact .inl rfl
    · exact .inl rfl
    · exact .inl rfl
    · exact .inl rfl
    · exact .inl rfl
    · exact .inl rfl
  have hco : Ok (m_Form_coef (Fm U φ c) odd) (· = 0) := by
    rcases hodd with h | ⟨z, rfl, h1, h2⟩
    · exact coef_other h
    · refine (coef_str hf.sp h2).mono fun y hy => ?_
      rw [hy]
      exact Decidable.byContradiction fun q => h1 (hf.sp z q)
  have f2 : Fo U [(n0, (1 : Int))] (one1 n0) := ⟨by simp, (by show 1 < 60; decide), fun n => by
    unfold cf dget one1
    by_cases e : n = n0
    · subst e
      simp
    · simp [e, Ne.symm e], sp_one hn0U⟩
  refine Ok.bnd (J := fun o : List (Str × Int) × Int => ∃ ψ, Fo U o.1 ψ ∧ ∀ n ∈ o.1.map (·.1), Nm n) (Ok.bndE (x := n0) idx0 (Ok.bnd (J := fun d : List (Str × Int) => ∃ ψ, Fo U d ψ ∧ ∀ n ∈ d.map (·.1), Nm n) (Ok.noX (Ok.any (by simp) (by simp) fun d hd => ?_)) fun d hd => Ok.bnd (J := fun _ => True) (Ok.noX (Ok.any (by simp) (by simp) fun _ _ => trivial)) fun e _ => Ok.ret hd)) fun other ⟨ψ, ho, hon⟩ => ?_
  · simp only [List.mem_cons, List.not_mem_nil, or_false] at hd
    rcases hd with rfl | rfl
    · exact ⟨φ, hf, fun n h => ⟨(hg n (hs.n2 n h)).name, (hg n (hs.n2 n h)).line⟩⟩
    · exact ⟨_, f2, fun n h => by
        have e : n = n0 := by simpa using h
        rw [e]
        exact ⟨hn0.name, hn0.line⟩⟩
  obtain ⟨d2, e2⟩ := other
  refine Ok.bndE (x := txt ((nzk φ U).map fun n => (φ n, n)) c) Ok.eq ?_
  refine Ok.bndE (x := false) (Ok.bndE (x := false) (Ok.bndE (Ok.noX hco) Ok.eq) ?_) ?_
  · rw [if_neg (by decide)]
    refine Ok.bndE (x := false) (Ok.bndE (Ok.noX (mform_ok hU ho hon)) (Ok.bndE (Ok.noX eq0_ok) (Ok.bndE (Ok.noX (plain_ok hU hf)) (Ok.bndE (Ok.noX (plain_ok hU ho)) (Ok.ret ?_))))) ?_
    · have e := eqv_told ((nzk φ U).map fun n => (φ n, n)) ((nzk ψ U).map fun n => (ψ n, n)) c e2
      have e3 : deqI (canT U φ) (canT U ψ) = decide ((nzk φ U).map (fun n => (φ n, n)) = (nzk ψ U).map fun n => (ψ n, n)) := by
        rw [Bool.eq_iff_iff, deq_iff hU hf.sp ho.sp, decide_eq_true_eq, terms_iff hU hf.sp ho.sp]
      have e4 : PyData.eqv (.bool (deqI (Fm U φ c).own_terms (Fm U ψ e2).own_terms && decide ((Fm U φ c).own_constant = (Fm U ψ e2).own_constant))) (.bool (PyData.eqv (dTold ((nzk φ U).map fun n => (φ n, n), c)) (dTold ((nzk ψ U).map fun n => (ψ n, n), e2)))) = true := by
        show PyData.eqv (.bool (deqI (canT U φ) (canT U ψ) && decide (c = e2))) (.bool (PyData.eqv (.tuple [.list (((nzk φ U).map fun n => (φ n, n)).map dTerm), .int c]) (.tuple [.list (((nzk ψ U).map fun n => (ψ n, n)).map dTerm), .int e2]))) = true
        rw [e, e3]
        cases (decide ((nzk φ U).map (fun n => (φ n, n)) = (nzk ψ U).map fun n => (ψ n, n)) && decide (c = e2)) <;> decide +kernel
      show (!(PyData.eqv _ _)) = false
      rw [e4]
      rfl
    · rw [if_neg (by decide)]
      exact Ok.noX eq1_ok
  rw [if_neg (by decide)]
  refine Ok.bndE (x := false) (Ok.bndE (x := false) (Ok.bndE (Ok.noX eq_self) Ok.eq) ?_) ?_
  · rw [if_neg (by decide)]
    refine Ok.bndE (x := false) (Ok.bndE (x := n0) idx0 (Ok.bndE (Ok.noX (of_ok hU hn0U ⟨hn0.name, hn0.line⟩)) (Ok.bndE (Ok.noX told_ok) (Ok.bndE (x := n0) idx0 (Ok.bndE (x := true) (Ok.noX (Ok.same (m := 80000) ?_ (by decide) ?_)) Ok.eq))))) ?_
    · refine Shw.mono (Shw.pair (m := 38522) (shw_terms hU.l hgU fun n => ?_) (Shw.mono (Shw.int (i := 0) (by decide)) (by decide))) (by decide)
      unfold one1
      split <;> decide
    · rw [nzk_one hU hn0U]
    · rw [if_neg (by decide)]
      exact Ok.bndE (Ok.noX mk) (Ok.bndE (Ok.noX mk) (Ok.bndE (Ok.noX eq_self) Ok.eq))
  rw [if_neg (by decide)]
  exact Ok.eq
/-! ### what is fixed -/
theorem uo_nil : Uo [] := ⟨List.nodup_nil, by decide⟩
theorem none_ok {t : PyData} {c : Int} (h : isSeq t []) : Ok (m_Form_init t (.int c)) (· = Fm [] (fun _ => 0) c) := init0_ok uo_nil (ts := []) h (Nat.zero_le _) (fun t ht => (nomatch ht)) (fun n => rfl) fun n h => absurd rfl h
abbrev U2 : List Str := ["x", "y"]
theorem hU2 : Uo U2 := ⟨by decide +kernel, by decide⟩
theorem nz2 {φ : Str → Int} : nzk φ U2 = U2.filter fun n => !decide (φ n = 0) := by
  unfold nzk
  rw [srt_sorted (by decide +kernel)]
abbrev U4 : List Str := ["ab", "abc", "b", "nn"]
theorem hU4 : Uo U4 := ⟨by decide +kernel, by decide⟩
theorem nz4 {φ : Str → Int} : nzk φ U4 = U4.filter fun n => !decide (φ n = 0) := by
  unfold nzk
  rw [srt_sorted (by decide +kernel)]
theorem tot_sp {U : List Str} {ts : List (Int × Str)} (h : ∀ t ∈ ts, t.2 ∈ U) : Spt U (tot ts) := fun n hn => Decidable.byContradiction fun q => hn (sum_zero fun t ht => if_neg fun z => q (by rw [← z]; exact h t ht))
abbrev ts4 : List (Int × Str) := [(1, "b"), (2, "ab"), (3, "nn"), (1, "abc")]
theorem n4 : (nzk (tot ts4) U4) = U4 := by
  rw [nz4]
  decide +kernel
theorem m4 : (nzk (tot ts4) U4).map (fun n => (tot ts4 n, n)) = [((2 : Int), ("ab" : Str)), (1, "abc"), (1, "b"), (3, "nn")] := by
  rw [n4]
  decide +kernel
theorem made4 : Ok (m_Form_init (.list (ts4.map tm)) (.int 4)) (· = Fm U4 (tot ts4) 4) := init0_ok hU4 (.inl rfl) (by decide) (by
  intro t ht
  simp only [List.mem_cons, List.not_mem_nil, or_false] at ht
  rcases ht with rfl | rfl | rfl | rfl <;> exact ⟨by decide +kernel, by decide +kernel⟩) (fun n => rfl) (tot_sp (by decide +kernel))
theorem tg_of {U : List Str} {ts : List (Int × Str)} (h1 : ∀ n ∈ U, (tot ts n).natAbs < 100) (h2 : ∀ n ∈ U, n.length ≤ 6) : ∀ n ∈ nzk (tot ts) U, Tg (tot ts n, n) := fun n h => ⟨Nat.lt_trans (h1 n (nzk_mem.mp h).1) (by decide), h2 n (nzk_mem.mp h).1⟩
theorem sm_of {U : List Str} {ts : List (Int × Str)} (sp : Spt U (tot ts)) (h1 : ∀ n ∈ U, (tot ts n).natAbs < 100) : Sm (tot ts) := fun n => by
  by_cases q : tot ts n = 0
  · rw [q]
    decide
  · exact Nat.lt_trans (h1 n (sp n q)) (by decide)
theorem lengths_ok : Ok m_law_lengths_so (· = true) := by
  unfold m_law_lengths_so
  refine Ok.bndE (Ok.noX made4) ?_
  have hT := ftext_ok (c := 4) hU4.l (tg_of (U := U4) (ts := ts4) (by decide +kernel) (by decide +kernel)) (by decide)
  rw [m4] at hT
  have e : txt [((2 : Int), ("ab" : Str)), (1, "abc"), (1, "b"), (3, "nn")] 4 = ("2*ab + abc + b + 3*nn + 4" : Str) := by decide +kernel
  rw [e] at hT
  have hv : Thr (bnd (m_Form_value (Fm U4 (tot ts4) 4) []) fun r6 => ret (PyData.int r6)) ⟨"UnknownName", [.str "ab"]⟩ := Thr.bnd (value_thr (xs := []) (x := "ab") (ys := ["abc", "b", "nn"]) n4 (fun n h => (nomatch h)) (fun h => (nomatch h)) (sm_of (U := U4) (tot_sp (by decide +kernel)) (by decide +kernel)) fun n => (by show (0 : Int).natAbs < _; decide))
  refine Ok.bndE (Ok.bndE (Ok.noX hT) (Ok.bndE (Ok.noX names_ok3) (Ok.bndE (gotT hv (field_unknown ff)) Ok.eq))) ?_
  rw [n4]
  refine Ok.bndE (Ok.noX (Ok.same (m := 100000) ⟨by decide +kernel, by decide +kernel, by decide +kernel⟩ (by decide) rfl)) Ok.eq
theorem text_of {U : List Str} (hU : Uo U) {ts : List (Int × Str)} {c : Int} {t : Str} (hc : c.natAbs < 100) (h1 : ∀ n ∈ U, (tot ts n).natAbs < 100) (h2 : ∀ n ∈ U, n.length ≤ 6) (e : txt ((nzk (tot ts) U).map fun n => (tot ts n, n)) c = t) : Ok (m_Form_text (Fm U (tot ts) c)) (· = t) := by
  rw [← e]
  exact ftext_ok hU.l (tg_of h1 h2) (Nat.lt_trans hc (by decide))
theorem nil_text {c : Int} {t : Str} (hc : c.natAbs < 100) (e : txt [] c = t) : Ok (m_Form_text (Fm [] (fun _ => 0) c)) (· = t) := text_of (ts := []) uo_nil hc (fun n h => (nomatch h)) (fun n h => (nomatch h)) (by
  have z : nzk (tot []) [] = [] := by
    unfold nzk
    rw [srt_sorted rfl]
    rfl
  rw [z]
  exact e)
theorem made2 {ts : List (Int × Str)} {c : Int} (h1 : ∀ t ∈ ts, t.2 ∈ U2) (hl : ts.length ≤ 10) : Ok (m_Form_init (.list (ts.map tm)) (.int c)) (· = Fm U2 (tot ts) c) := init0_ok hU2 (.inl rfl) (by omega) (fun t ht => by
  have := h1 t ht
  simp only [List.mem_cons, List.not_mem_nil, or_false] at this
  rcases this with h | h <;> rw [h] <;> exact ⟨by decide +kernel, by decide +kernel⟩) (fun n => rfl) (tot_sp h1)
theorem law_ok (ns : List Int) : Ok (m_law ns) (· = true) := by
  unfold m_law
  refine Ok.bndE (Ok.rng1 (n := 5) (by decide)) ?_
  refine Ok.bnd (J := fun q => q = .nx ()) (Ok.forF (fun _ _ => True) (fun _ => False) trivial (fun k hk s _ => ?_) (fun _ _ => rfl) fun _ h => h.elim) fun q hq => ?_
  · exact (turn_law _).mono fun r hr => by subst hr; trivial
  subst hq
  rw [flEnd_nx]
  refine Ok.bndE (x := false) (Ok.bndE (x := false) (Ok.bndE (Ok.noX (none_ok (.inl rfl))) (Ok.noX eq2_ok)) ?_) ?_
  · rw [if_neg (by decide)]
    refine Ok.bndE (x := false) (Ok.bndE (Ok.noX (none_ok (.inr rfl))) (Ok.noX eq2_ok)) ?_
    rw [if_neg (by decide)]
    exact Ok.bndE (Ok.noX (of_ok hU2 List.mem_cons_self ⟨by decide +kernel, by decide +kernel⟩)) (Ok.noX eq1_ok)
  rw [if_neg (by decide)]
  refine Ok.bndE (x := false) (Ok.bndE (Ok.noX lengths_ok) Ok.eq) ?_
  rw [if_neg (by decide)]
  have e1 : txt ((nzk (tot [(-1, "x")]) U2).map fun n => (tot [(-1, "x")] n, n)) 0 = ("-x" : Str) := by
    rw [nz2]
    decide +kernel
  have e2 : txt ((nzk (tot [(2, "x"), (-1, "y")]) U2).map fun n => (tot [(2, "x"), (-1, "y")] n, n)) 3 = ("2*x - y + 3" : Str) := by
    rw [nz2]
    decide +kernel
  refine Ok.bndE (x := true) ?_ Ok.eq
  refine Ok.bndE (Ok.noX (none_ok (.inr rfl))) (Ok.bndE (x := ("0" : Str)) (Ok.noX (nil_text (by decide) (by decide +kernel))) ?_)
  refine Ok.bndE (Ok.noX (made2 (ts := [(-1, "x")]) (by decide +kernel) (by decide))) (Ok.bndE (x := ("-x" : Str)) (Ok.noX (text_of hU2 (by decide) (by decide +kernel) (by decide +kernel) e1)) ?_)
  refine Ok.bndE (Ok.noX (made2 (ts := [(2, "x"), (-1, "y")]) (by decide +kernel) (by decide))) (Ok.bndE (x := ("2*x - y + 3" : Str)) (Ok.noX (text_of hU2 (by decide) (by decide +kernel) (by decide +kernel) e2)) ?_)
  refine Ok.bndE (Ok.noX (none_ok (.inl rfl))) (Ok.bndE (x := ("-4" : Str)) (Ok.noX (nil_text (by decide) (by decide +kernel))) ?_)
  exact Ok.noX (Ok.same (m := 100000) ⟨by decide +kernel, by decide +kernel, by decide +kernel⟩ (by decide) rfl)
theorem law_true (ns : List Int) : m_law ns (fun x => x = true) (fun _ => False) := (law_ok ns).run
end K03

namespace K03
open PySem L2 Evl Mi
abbrev spL (K : PySem.W.Frag) (Tb : Addr) : Sp := spW (fun i : List Int × Unit => [sv (rScr K) i.1]) (fun _ => [(Tb, oTab (("_law_lengths_so" : Str) ++ (".<locals>." : Str) ++ ("<lambda>" : Str)))]) (fun i => m_law i.1) rBool
set_option maxHeartbeats 0 in
theorem all_mk {P : Program} {w : World} {K : PySem.W.Frag} {h : Heap} {mg : Str → Option Value} {fa f_is_whole f_is_name f_is_term f_gathered_terms f_Form_init f_Form_of f_Form_constant f_Form_terms f_Form_names f_Form_coef f_Form_value f_joined f_Form_text f_Form_eq f_Form_repr f_law_bag f_law_draw f_law_any f_law_mixed f_law_same f_law_field f_law_got f_law_odd f_law_names f_law_made_form f_law_terms f_law_told_form f_law_plain_form f_law_form_text f_law_lengths_so f_law c_Form p_Form_constant c_DialError c_InvalidForm c_InvalidNumber c_Missing c_UnknownName fx_InvalidForm cc_InvalidForm kx_InvalidForm fx_InvalidNumber cc_InvalidNumber kx_InvalidNumber fx_UnknownName cc_UnknownName kx_UnknownName cL Tb dT_Form_init p_Form_of g_WORDS e_Form_init_0 : Addr} (X : K.In h) (G : h.Ns mainGlobals mg) (hfa : mg "law" = some (.ref fa))
    {od_is_whole an_is_whole od_is_name an_is_name od_is_term an_is_term od_gathered_terms an_gathered_terms od_Form_init an_Form_init od_Form_of an_Form_of od_Form_constant an_Form_constant od_Form_terms an_Form_terms od_Form_names an_Form_names od_Form_coef an_Form_coef od_Form_value an_Form_value od_joined an_joined od_Form_text an_Form_text od_Form_eq an_Form_eq od_Form_repr an_Form_repr od_law_bag an_law_bag od_law_draw an_law_draw od_law_any an_law_any od_law_mixed an_law_mixed od_law_same an_law_same od_law_field an_law_field od_law_got an_law_got od_law_odd an_law_odd od_law_names an_law_names od_law_made_form an_law_made_form od_law_terms an_law_terms od_law_told_form an_law_told_form od_law_plain_form an_law_plain_form od_law_form_text an_law_form_text od_law_lengths_so an_law_lengths_so od_law an_law : Option Addr} {sl_is_whole sl_is_name sl_is_term sl_gathered_terms sl_Form_init sl_Form_of sl_Form_constant sl_Form_terms sl_Form_names sl_Form_coef sl_Form_value sl_joined sl_Form_text sl_Form_eq sl_Form_repr sl_law_bag sl_law_draw sl_law_any sl_law_mixed sl_law_same sl_law_field sl_law_got sl_law_odd sl_law_names sl_law_made_form sl_law_terms sl_law_told_form sl_law_plain_form sl_law_form_text sl_law_lengths_so sl_law : Array (Option Value)} {oc_is_whole kV_is_whole dc_is_whole pm_is_whole cd_is_whole ct_is_whole oc_is_name kV_is_name dc_is_name pm_is_name cd_is_name ct_is_name oc_is_term kV_is_term dc_is_term pm_is_term cd_is_term ct_is_term oc_gathered_terms kV_gathered_terms dc_gathered_terms pm_gathered_terms cd_gathered_terms ct_gathered_terms oc_Form_init kV_Form_init dc_Form_init pm_Form_init cd_Form_init ct_Form_init oc_Form_of kV_Form_of dc_Form_of pm_Form_of cd_Form_of ct_Form_of oc_Form_constant kV_Form_constant dc_Form_constant pm_Form_constant cd_Form_constant ct_Form_constant oc_Form_terms kV_Form_terms dc_Form_terms pm_Form_terms cd_Form_terms ct_Form_terms oc_Form_names kV_Form_names dc_Form_names pm_Form_names cd_Form_names ct_Form_names oc_Form_coef kV_Form_coef dc_Form_coef pm_Form_coef cd_Form_coef ct_Form_coef oc_Form_value kV_Form_value dc_Form_value pm_Form_value cd_Form_value ct_Form_value oc_joined kV_joined dc_joined pm_joined cd_joined ct_joined oc_Form_text kV_Form_text dc_Form_text pm_Form_text cd_Form_text ct_Form_text oc_Form_eq kV_Form_eq dc_Form_eq pm_Form_eq cd_Form_eq ct_Form_eq oc_Form_repr kV_Form_repr dc_Form_repr pm_Form_repr cd_Form_repr ct_Form_repr oc_law_bag kV_law_bag dc_law_bag pm_law_bag cd_law_bag ct_law_bag oc_law_draw kV_law_draw dc_law_draw pm_law_draw cd_law_draw ct_law_draw oc_law_any kV_law_any dc_law_any pm_law_any cd_law_any ct_law_any oc_law_mixed kV_law_mixed dc_law_mixed pm_law_mixed cd_law_mixed ct_law_mixed oc_law_same kV_law_same dc_law_same pm_law_same cd_law_same ct_law_same oc_law_field kV_law_field dc_law_field pm_law_field cd_law_field ct_law_field oc_law_got kV_law_got dc_law_got pm_law_got cd_law_got ct_law_got oc_law_odd kV_law_odd dc_law_odd pm_law_odd cd_law_odd ct_law_odd oc_law_names kV_law_names dc_law_names pm_law_names cd_law_names ct_law_names oc_law_made_form kV_law_made_form dc_law_made_form pm_law_made_form cd_law_made_form ct_law_made_form oc_law_terms kV_law_terms dc_law_terms pm_law_terms cd_law_terms ct_law_terms oc_law_told_form kV_law_told_form dc_law_told_form pm_law_told_form cd_law_told_form ct_law_told_form oc_law_plain_form kV_law_plain_form dc_law_plain_form pm_law_plain_form cd_law_plain_form ct_law_plain_form oc_law_form_text kV_law_form_text dc_law_form_text pm_law_form_text cd_law_form_text ct_law_form_text oc_law_lengths_so kV_law_lengths_so dc_law_lengths_so pm_law_lengths_so cd_law_lengths_so ct_law_lengths_so oc_law kV_law dc_law pm_law cd_law ct_law : Value} {rs_Form_constant : List Value} {oc_xInvalidForm od_xInvalidForm kV_xInvalidForm dc_xInvalidForm pm_xInvalidForm an_xInvalidForm ct_xInvalidForm sl_xInvalidForm q1_InvalidForm q2_InvalidForm q3_InvalidForm q4_InvalidForm q5_InvalidForm qv_InvalidForm q6_InvalidForm q7_InvalidForm q8_InvalidForm oc_xInvalidNumber od_xInvalidNumber kV_xInvalidNumber dc_xInvalidNumber pm_xInvalidNumber an_xInvalidNumber ct_xInvalidNumber sl_xInvalidNumber q1_InvalidNumber q2_InvalidNumber q3_InvalidNumber q4_InvalidNumber q5_InvalidNumber qv_InvalidNumber q6_InvalidNumber q7_InvalidNumber q8_InvalidNumber oc_xUnknownName od_xUnknownName kV_xUnknownName dc_xUnknownName pm_xUnknownName an_xUnknownName ct_xUnknownName sl_xUnknownName q1_UnknownName q2_UnknownName q3_UnknownName q4_UnknownName q5_UnknownName qv_UnknownName q6_UnknownName q7_UnknownName q8_UnknownName} {ts : List Addr}
    {td_Form_init_1 tg_MOST_NAME tg_SMALL tg_WORDS_0 tg_WORDS_1 : Tok}
    {dd_Form_init : Option Addr} {dn_Form_init : Nat} {ds_Form_init : Array (Option Value)}
    {tq_g_WORDS tq_e_Form_init_0 : Option Addr} {tn_g_WORDS tn_e_Form_init_0 : Nat} {ts_g_WORDS ts_e_Form_init_0 : Array (Option Value)}
    {rs_Form_of : List Value}
    (a_Form : PySem.W.nsIn K mainGlobals "Form" = some (some (.ref c_Form)))
    (a_is_whole : PySem.W.nsIn K mainGlobals "is_whole" = some (some (.ref f_is_whole)))
    (l_is_whole : K.lookup f_is_whole = some ⟨oc_is_whole, od_is_whole, .func (PySem.W.fnOf "is_whole" "is_whole" (defArgs s_is_whole) (defBody s_is_whole) (defScope s_is_whole) .none kV_is_whole dc_is_whole pm_is_whole an_is_whole cd_is_whole ct_is_whole), sl_is_whole⟩)
    (c_is_whole : PySem.W.codeIn K cd_is_whole "is_whole" = true)
    (k_is_whole : PySem.W.keepIn K (.ref f_is_whole) = true)
    (a_is_name : PySem.W.nsIn K mainGlobals "is_name" = some (some (.ref f_is_name)))
    (l_is_name : K.lookup f_is_name = some ⟨oc_is_name, od_is_name, .func (PySem.W.fnOf "is_name" "is_name" (defArgs s_is_name) (defBody s_is_name) (defScope s_is_name) .none kV_is_name dc_is_name pm_is_name an_is_name cd_is_name ct_is_name), sl_is_name⟩)
    (c_is_name : PySem.W.codeIn K cd_is_name "is_name" = true)
    (k_is_name : PySem.W.keepIn K (.ref f_is_name) = true)
    (a_is_term : PySem.W.nsIn K mainGlobals "is_term" = some (some (.ref f_is_term)))
    (l_is_term : K.lookup f_is_term = some ⟨oc_is_term, od_is_term, .func (PySem.W.fnOf "is_term" "is_term" (defArgs s_is_term) (defBody s_is_term) (defScope s_is_term) .none kV_is_term dc_is_term pm_is_term an_is_term cd_is_term ct_is_term), sl_is_term⟩)
    (c_is_term : PySem.W.codeIn K cd_is_term "is_term" = true)
    (k_is_term : PySem.W.keepIn K (.ref f_is_term) = true)
    (a_gathered_terms : PySem.W.nsIn K mainGlobals "gathered_terms" = some (some (.ref f_gathered_terms)))
    (l_gathered_terms : K.lookup f_gathered_terms = some ⟨oc_gathered_terms, od_gathered_terms, .func (PySem.W.fnOf "gathered_terms" "gathered_terms" (defArgs s_gathered_terms) (defBody s_gathered_terms) (defScope s_gathered_terms) .none kV_gathered_terms dc_gathered_terms pm_gathered_terms an_gathered_terms cd_gathered_terms ct_gathered_terms), sl_gathered_terms⟩)
    (c_gathered_terms : PySem.W.codeIn K cd_gathered_terms "gathered_terms" = true)
    (k_gathered_terms : PySem.W.keepIn K (.ref f_gathered_terms) = true)
    (a_Form_init : PySem.W.findIn K (.ref c_Form) "__init__" = some (some (.ref f_Form_init)))
    (i_Form_init : PySem.W.isFn K (.ref f_Form_init) = true)
    (l_Form_init : K.lookup f_Form_init = some ⟨oc_Form_init, od_Form_init, .func (PySem.W.fnOf "__init__" "Form.__init__" (defArgs s_Form_init) (defBody s_Form_init) (defScope s_Form_init) (.ref dT_Form_init) kV_Form_init dc_Form_init pm_Form_init an_Form_init cd_Form_init ct_Form_init), sl_Form_init⟩)
    (c_Form_init : PySem.W.codeIn K cd_Form_init "Form.__init__" = true)
    (k_Form_init : PySem.W.keepIn K (.ref f_Form_init) = true)
    (ld_Form_init : K.lookup dT_Form_init = some ⟨.type "tuple", dd_Form_init, .seq #[.ref e_Form_init_0, .int 0 td_Form_init_1] dn_Form_init, ds_Form_init⟩)
    (sa_Form_of : PySem.W.findIn K (.ref c_Form) "of" = some (some (.ref p_Form_of)))
    (sr_Form_of : PySem.W.recIn K p_Form_of "staticmethod" = some (.ref f_Form_of :: rs_Form_of))
    (sq_Form_of : PySem.W.findCls K (.ref c_Form) (.type "type") "of" = some (.get (.builtin "staticmethod.__get__") (.ref p_Form_of) .none (.ref c_Form)))
    (sh_Form_of : PySem.W.handedIn (.ref f_Form_of) = true)
    (crd_Form : PySem.W.readsIn K c_Form (.type "type") = true)
    (crg_Form : PySem.W.specialIn K (.ref c_Form) "__getattribute__" = some (some (.builtin "type.__getattribute__")))
    (l_Form_of : K.lookup f_Form_of = some ⟨oc_Form_of, od_Form_of, .func (PySem.W.fnOf "of" "Form.of" (defArgs s_Form_of) (defBody s_Form_of) (defScope s_Form_of) .none kV_Form_of dc_Form_of pm_Form_of an_Form_of cd_Form_of ct_Form_of), sl_Form_of⟩)
    (c_Form_of : PySem.W.codeIn K cd_Form_of "Form.of" = true)
    (k_Form_of : PySem.W.keepIn K (.ref f_Form_of) = true)
    (pa_Form_constant : PySem.W.findIn K (.ref c_Form) "constant" = some (some (.ref p_Form_constant)))
    (pg_Form_constant : PySem.W.specialIn K (.ref p_Form_constant) "__get__" = some (some (.builtin "property.__get__")))
    (pt_Form_constant : PySem.W.takesIn K (.ref p_Form_constant) = some true)
    (pr_Form_constant : PySem.W.recIn K p_Form_constant "property" = some (.ref f_Form_constant :: rs_Form_constant))
    (l_Form_constant : K.lookup f_Form_constant = some ⟨oc_Form_constant, od_Form_constant, .func (PySem.W.fnOf "constant" "Form.constant" (defArgs s_Form_constant) (defBody s_Form_constant) (defScope s_Form_constant) .none kV_Form_constant dc_Form_constant pm_Form_constant an_Form_constant cd_Form_constant ct_Form_constant), sl_Form_constant⟩)
    (c_Form_constant : PySem.W.codeIn K cd_Form_constant "Form.constant" = true)
    (k_Form_constant : PySem.W.keepIn K (.ref f_Form_constant) = true)
    (a_Form_terms : PySem.W.findIn K (.ref c_Form) "terms" = some (some (.ref f_Form_terms)))
    (i_Form_terms : PySem.W.isFn K (.ref f_Form_terms) = true)
    (l_Form_terms : K.lookup f_Form_terms = some ⟨oc_Form_terms, od_Form_terms, .func (PySem.W.fnOf "terms" "Form.terms" (defArgs s_Form_terms) (defBody s_Form_terms) (defScope s_Form_terms) .none kV_Form_terms dc_Form_terms pm_Form_terms an_Form_terms cd_Form_terms ct_Form_terms), sl_Form_terms⟩)
    (c_Form_terms : PySem.W.codeIn K cd_Form_terms "Form.terms" = true)
    (k_Form_terms : PySem.W.keepIn K (.ref f_Form_terms) = true)
    (a_Form_names : PySem.W.findIn K (.ref c_Form) "names" = some (some (.ref f_Form_names)))
    (i_Form_names : PySem.W.isFn K (.ref f_Form_names) = true)
    (l_Form_names : K.lookup f_Form_names = some ⟨oc_Form_names, od_Form_names, .func (PySem.W.fnOf "names" "Form.names" (defArgs s_Form_names) (defBody s_Form_names) (defScope s_Form_names) .none kV_Form_names dc_Form_names pm_Form_names an_Form_names cd_Form_names ct_Form_names), sl_Form_names⟩)
    (c_Form_names : PySem.W.codeIn K cd_Form_names "Form.names" = true)
    (k_Form_names : PySem.W.keepIn K (.ref f_Form_names) = true)
    (a_Form_coef : PySem.W.findIn K (.ref c_Form) "coef" = some (some (.ref f_Form_coef)))
    (i_Form_coef : PySem.W.isFn K (.ref f_Form_coef) = true)
    (l_Form_coef : K.lookup f_Form_coef = some ⟨oc_Form_coef, od_Form_coef, .func (PySem.W.fnOf "coef" "Form.coef" (defArgs s_Form_coef) (defBody s_Form_coef) (defScope s_Form_coef) .none kV_Form_coef dc_Form_coef pm_Form_coef an_Form_coef cd_Form_coef ct_Form_coef), sl_Form_coef⟩)
    (c_Form_coef : PySem.W.codeIn K cd_Form_coef "Form.coef" = true)
    (k_Form_coef : PySem.W.keepIn K (.ref f_Form_coef) = true)
    (a_Form_value : PySem.W.findIn K (.ref c_Form) "value" = some (some (.ref f_Form_value)))
    (i_Form_value : PySem.W.isFn K (.ref f_Form_value) = true)
    (l_Form_value : K.lookup f_Form_value = some ⟨oc_Form_value, od_Form_value, .func (PySem.W.fnOf "value" "Form.value" (defArgs s_Form_value) (defBody s_Form_value) (defScope s_Form_value) .none kV_Form_value dc_Form_value pm_Form_value an_Form_value cd_Form_value ct_Form_value), sl_Form_value⟩)
    (c_Form_value : PySem.W.codeIn K cd_Form_value "Form.value" = true)
    (k_Form_value : PySem.W.keepIn K (.ref f_Form_value) = true)
    (a_joined : PySem.W.nsIn K mainGlobals "joined" = some (some (.ref f_joined)))
    (l_joined : K.lookup f_joined = some ⟨oc_joined, od_joined, .func (PySem.W.fnOf "joined" "joined" (defArgs s_joined) (defBody s_joined) (defScope s_joined) .none kV_joined dc_joined pm_joined an_joined cd_joined ct_joined), sl_joined⟩)
    (c_joined : PySem.W.codeIn K cd_joined "joined" = true)
    (k_joined : PySem.W.keepIn K (.ref f_joined) = true)
    (a_Form_text : PySem.W.findIn K (.ref c_Form) "text" = some (some (.ref f_Form_text)))
    (i_Form_text : PySem.W.isFn K (.ref f_Form_text) = true)
    (l_Form_text : K.lookup f_Form_text = some ⟨oc_Form_text, od_Form_text, .func (PySem.W.fnOf "text" "Form.text" (defArgs s_Form_text) (defBody s_Form_text) (defScope s_Form_text) .none kV_Form_text dc_Form_text pm_Form_text an_Form_text cd_Form_text ct_Form_text), sl_Form_text⟩)
    (c_Form_text : PySem.W.codeIn K cd_Form_text "Form.text" = true)
    (k_Form_text : PySem.W.keepIn K (.ref f_Form_text) = true)
    (a_Form_eq : PySem.W.findIn K (.ref c_Form) "__eq__" = some (some (.ref f_Form_eq)))
    (i_Form_eq : PySem.W.isFn K (.ref f_Form_eq) = true)
    (l_Form_eq : K.lookup f_Form_eq = some ⟨oc_Form_eq, od_Form_eq, .func (PySem.W.fnOf "__eq__" "Form.__eq__" (defArgs s_Form_eq) (defBody s_Form_eq) (defScope s_Form_eq) .none kV_Form_eq dc_Form_eq pm_Form_eq an_Form_eq cd_Form_eq ct_Form_eq), sl_Form_eq⟩)
    (c_Form_eq : PySem.W.codeIn K cd_Form_eq "Form.__eq__" = true)
    (k_Form_eq : PySem.W.keepIn K (.ref f_Form_eq) = true)
    (a_Form_repr : PySem.W.findIn K (.ref c_Form) "__repr__" = some (some (.ref f_Form_repr)))
    (i_Form_repr : PySem.W.isFn K (.ref f_Form_repr) = true)
    (l_Form_repr : K.lookup f_Form_repr = some ⟨oc_Form_repr, od_Form_repr, .func (PySem.W.fnOf "__repr__" "Form.__repr__" (defArgs s_Form_repr) (defBody s_Form_repr) (defScope s_Form_repr) .none kV_Form_repr dc_Form_repr pm_Form_repr an_Form_repr cd_Form_repr ct_Form_repr), sl_Form_repr⟩)
    (c_Form_repr : PySem.W.codeIn K cd_Form_repr "Form.__repr__" = true)
    (k_Form_repr : PySem.W.keepIn K (.ref f_Form_repr) = true)
    (a_law_bag : PySem.W.nsIn K mainGlobals "_law_bag" = some (some (.ref f_law_bag)))
    (l_law_bag : K.lookup f_law_bag = some ⟨oc_law_bag, od_law_bag, .func (PySem.W.fnOf "_law_bag" "_law_bag" (defArgs s_law_bag) (defBody s_law_bag) (defScope s_law_bag) .none kV_law_bag dc_law_bag pm_law_bag an_law_bag cd_law_bag ct_law_bag), sl_law_bag⟩)
    (c_law_bag : PySem.W.codeIn K cd_law_bag "_law_bag" = true)
    (k_law_bag : PySem.W.keepIn K (.ref f_law_bag) = true)
    (a_law_draw : PySem.W.nsIn K mainGlobals "_law_draw" = some (some (.ref f_law_draw)))
    (l_law_draw : K.lookup f_law_draw = some ⟨oc_law_draw, od_law_draw, .func (PySem.W.fnOf "_law_draw" "_law_draw" (defArgs s_law_draw) (defBody s_law_draw) (defScope s_law_draw) .none kV_law_draw dc_law_draw pm_law_draw an_law_draw cd_law_draw ct_law_draw), sl_law_draw⟩)
    (c_law_draw : PySem.W.codeIn K cd_law_draw "_law_draw" = true)
    (k_law_draw : PySem.W.keepIn K (.ref f_law_draw) = true)
    (a_law_any : PySem.W.nsIn K mainGlobals "_law_any" = some (some (.ref f_law_any)))
    (l_law_any : K.lookup f_law_any = some ⟨oc_law_any, od_law_any, .func (PySem.W.fnOf "_law_any" "_law_any" (defArgs s_law_any) (defBody s_law_any) (defScope s_law_any) .none kV_law_any dc_law_any pm_law_any an_law_any cd_law_any ct_law_any), sl_law_any⟩)
    (c_law_any : PySem.W.codeIn K cd_law_any "_law_any" = true)
    (k_law_any : PySem.W.keepIn K (.ref f_law_any) = true)
    (a_law_mixed : PySem.W.nsIn K mainGlobals "_law_mixed" = some (some (.ref f_law_mixed)))
    (l_law_mixed : K.lookup f_law_mixed = some ⟨oc_law_mixed, od_law_mixed, .func (PySem.W.fnOf "_law_mixed" "_law_mixed" (defArgs s_law_mixed) (defBody s_law_mixed) (defScope s_law_mixed) .none kV_law_mixed dc_law_mixed pm_law_mixed an_law_mixed cd_law_mixed ct_law_mixed), sl_law_mixed⟩)
    (c_law_mixed : PySem.W.codeIn K cd_law_mixed "_law_mixed" = true)
    (k_law_mixed : PySem.W.keepIn K (.ref f_law_mixed) = true)
    (a_law_same : PySem.W.nsIn K mainGlobals "_law_same" = some (some (.ref f_law_same)))
    (l_law_same : K.lookup f_law_same = some ⟨oc_law_same, od_law_same, .func (PySem.W.fnOf "_law_same" "_law_same" (defArgs s_law_same) (defBody s_law_same) (defScope s_law_same) .none kV_law_same dc_law_same pm_law_same an_law_same cd_law_same ct_law_same), sl_law_same⟩)
    (c_law_same : PySem.W.codeIn K cd_law_same "_law_same" = true)
    (k_law_same : PySem.W.keepIn K (.ref f_law_same) = true)
    (a_law_field : PySem.W.nsIn K mainGlobals "_law_field" = some (some (.ref f_law_field)))
    (l_law_field : K.lookup f_law_field = some ⟨oc_law_field, od_law_field, .func (PySem.W.fnOf "_law_field" "_law_field" (defArgs s_law_field) (defBody s_law_field) (defScope s_law_field) .none kV_law_field dc_law_field pm_law_field an_law_field cd_law_field ct_law_field), sl_law_field⟩)
    (c_law_field : PySem.W.codeIn K cd_law_field "_law_field" = true)
    (k_law_field : PySem.W.keepIn K (.ref f_law_field) = true)
    (a_law_got : PySem.W.nsIn K mainGlobals "_law_got" = some (some (.ref f_law_got)))
    (l_law_got : K.lookup f_law_got = some ⟨oc_law_got, od_law_got, .func (PySem.W.fnOf "_law_got" "_law_got" (defArgs s_law_got) (defBody s_law_got) (defScope s_law_got) .none kV_law_got dc_law_got pm_law_got an_law_got cd_law_got ct_law_got), sl_law_got⟩)
    (c_law_got : PySem.W.codeIn K cd_law_got "_law_got" = true)
    (k_law_got : PySem.W.keepIn K (.ref f_law_got) = true)
    (a_law_odd : PySem.W.nsIn K mainGlobals "_law_odd" = some (some (.ref f_law_odd)))
    (l_law_odd : K.lookup f_law_odd = some ⟨oc_law_odd, od_law_odd, .func (PySem.W.fnOf "_law_odd" "_law_odd" (defArgs s_law_odd) (defBody s_law_odd) (defScope s_law_odd) .none kV_law_odd dc_law_odd pm_law_odd an_law_odd cd_law_odd ct_law_odd), sl_law_odd⟩)
    (c_law_odd : PySem.W.codeIn K cd_law_odd "_law_odd" = true)
    (k_law_odd : PySem.W.keepIn K (.ref f_law_odd) = true)
    (a_law_names : PySem.W.nsIn K mainGlobals "_law_names" = some (some (.ref f_law_names)))
    (l_law_names : K.lookup f_law_names = some ⟨oc_law_names, od_law_names, .func (PySem.W.fnOf "_law_names" "_law_names" (defArgs s_law_names) (defBody s_law_names) (defScope s_law_names) .none kV_law_names dc_law_names pm_law_names an_law_names cd_law_names ct_law_names), sl_law_names⟩)
    (c_law_names : PySem.W.codeIn K cd_law_names "_law_names" = true)
    (k_law_names : PySem.W.keepIn K (.ref f_law_names) = true)
    (a_law_made_form : PySem.W.nsIn K mainGlobals "_law_made_form" = some (some (.ref f_law_made_form)))
    (l_law_made_form : K.lookup f_law_made_form = some ⟨oc_law_made_form, od_law_made_form, .func (PySem.W.fnOf "_law_made_form" "_law_made_form" (defArgs s_law_made_form) (defBody s_law_made_form) (defScope s_law_made_form) .none kV_law_made_form dc_law_made_form pm_law_made_form an_law_made_form cd_law_made_form ct_law_made_form), sl_law_made_form⟩)
    (c_law_made_form : PySem.W.codeIn K cd_law_made_form "_law_made_form" = true)
    (k_law_made_form : PySem.W.keepIn K (.ref f_law_made_form) = true)
    (a_law_terms : PySem.W.nsIn K mainGlobals "_law_terms" = some (some (.ref f_law_terms)))
    (l_law_terms : K.lookup f_law_terms = some ⟨oc_law_terms, od_law_terms, .func (PySem.W.fnOf "_law_terms" "_law_terms" (defArgs s_law_terms) (defBody s_law_terms) (defScope s_law_terms) .none kV_law_terms dc_law_terms pm_law_terms an_law_terms cd_law_terms ct_law_terms), sl_law_terms⟩)
    (c_law_terms : PySem.W.codeIn K cd_law_terms "_law_terms" = true)
    (k_law_terms : PySem.W.keepIn K (.ref f_law_terms) = true)
    (a_law_told_form : PySem.W.nsIn K mainGlobals "_law_told_form" = some (some (.ref f_law_told_form)))
    (l_law_told_form : K.lookup f_law_told_form = some ⟨oc_law_told_form, od_law_told_form, .func (PySem.W.fnOf "_law_told_form" "_law_told_form" (defArgs s_law_told_form) (defBody s_law_told_form) (defScope s_law_told_form) .none kV_law_told_form dc_law_told_form pm_law_told_form an_law_told_form cd_law_told_form ct_law_told_form), sl_law_told_form⟩)
    (c_law_told_form : PySem.W.codeIn K cd_law_told_form "_law_told_form" = true)
    (k_law_told_form : PySem.W.keepIn K (.ref f_law_told_form) = true)
    (a_law_plain_form : PySem.W.nsIn K mainGlobals "_law_plain_form" = some (some (.ref f_law_plain_form)))
    (l_law_plain_form : K.lookup f_law_plain_form = some ⟨oc_law_plain_form, od_law_plain_form, .func (PySem.W.fnOf "_law_plain_form" "_law_plain_form" (defArgs s_law_plain_form) (defBody s_law_plain_form) (defScope s_law_plain_form) .none kV_law_plain_form dc_law_plain_form pm_law_plain_form an_law_plain_form cd_law_plain_form ct_law_plain_form), sl_law_plain_form⟩)
    (c_law_plain_form : PySem.W.codeIn K cd_law_plain_form "_law_plain_form" = true)
    (k_law_plain_form : PySem.W.keepIn K (.ref f_law_plain_form) = true)
    (a_law_form_text : PySem.W.nsIn K mainGlobals "_law_form_text" = some (some (.ref f_law_form_text)))
    (l_law_form_text : K.lookup f_law_form_text = some ⟨oc_law_form_text, od_law_form_text, .func (PySem.W.fnOf "_law_form_text" "_law_form_text" (defArgs s_law_form_text) (defBody s_law_form_text) (defScope s_law_form_text) .none kV_law_form_text dc_law_form_text pm_law_form_text an_law_form_text cd_law_form_text ct_law_form_text), sl_law_form_text⟩)
    (c_law_form_text : PySem.W.codeIn K cd_law_form_text "_law_form_text" = true)
    (k_law_form_text : PySem.W.keepIn K (.ref f_law_form_text) = true)
    (a_law_lengths_so : PySem.W.nsIn K mainGlobals "_law_lengths_so" = some (some (.ref f_law_lengths_so)))
    (l_law_lengths_so : K.lookup f_law_lengths_so = some ⟨oc_law_lengths_so, od_law_lengths_so, .func (PySem.W.fnOf "_law_lengths_so" "_law_lengths_so" (defArgs s_law_lengths_so) (defBody s_law_lengths_so) (defScope s_law_lengths_so) .none kV_law_lengths_so dc_law_lengths_so pm_law_lengths_so an_law_lengths_so cd_law_lengths_so ct_law_lengths_so), sl_law_lengths_so⟩)
    (c_law_lengths_so : PySem.W.codeIn K cd_law_lengths_so "_law_lengths_so" = true)
    (k_law_lengths_so : PySem.W.keepIn K (.ref f_law_lengths_so) = true)
    (a_law : PySem.W.nsIn K mainGlobals "law" = some (some (.ref f_law)))
    (l_law : K.lookup f_law = some ⟨oc_law, od_law, .func (PySem.W.fnOf "law" "law" (defArgs s_law) (defBody s_law) (defScope s_law) .none kV_law dc_law pm_law an_law cd_law ct_law), sl_law⟩)
    (c_law : PySem.W.codeIn K cd_law "law" = true)
    (k_law : PySem.W.keepIn K (.ref f_law) = true)
    (le_Form_init_0 : K.lookup e_Form_init_0 = some ⟨.type "tuple", tq_e_Form_init_0, .seq #[] tn_e_Form_init_0, ts_e_Form_init_0⟩)
    (ga_MOST_NAME : PySem.W.nsIn K mainGlobals "MOST_NAME" = some (some (.int (6) tg_MOST_NAME)))
    (ga_SMALL : PySem.W.nsIn K mainGlobals "SMALL" = some (some (.str "abcdefghijklmnopqrstuvwxyz" tg_SMALL)))
    (ga_WORDS : PySem.W.nsIn K mainGlobals "WORDS" = some (some (.ref g_WORDS)))
    (gl_WORDS : K.lookup g_WORDS = some ⟨.type "tuple", tq_g_WORDS, .seq #[.str "n" tg_WORDS_0, .str "sum" tg_WORDS_1] tn_g_WORDS, ts_g_WORDS⟩)
    (a_DialError : PySem.W.nsIn K mainGlobals "DialError" = some (some (.ref c_DialError)))
    (a_InvalidForm : PySem.W.nsIn K mainGlobals "InvalidForm" = some (some (.ref c_InvalidForm)))
    (a_InvalidNumber : PySem.W.nsIn K mainGlobals "InvalidNumber" = some (some (.ref c_InvalidNumber)))
    (a_Missing : PySem.W.nsIn K mainGlobals "Missing" = some (some (.ref c_Missing)))
    (a_UnknownName : PySem.W.nsIn K mainGlobals "UnknownName" = some (some (.ref c_UnknownName)))
    (xi_InvalidForm : PySem.W.findIn K (.ref c_InvalidForm) "__init__" = some (some (.ref fx_InvalidForm)))
    (xl_InvalidForm : K.lookup fx_InvalidForm = some ⟨oc_xInvalidForm, od_xInvalidForm, .func (PySem.W.fnX "__init__" "InvalidForm.__init__" (defArgs sx_InvalidForm) (defBody sx_InvalidForm) (defScope sx_InvalidForm) [(("__class__" : Str), cc_InvalidForm)] .none kV_xInvalidForm dc_xInvalidForm pm_xInvalidForm an_xInvalidForm (.ref kx_InvalidForm) ct_xInvalidForm), sl_xInvalidForm⟩)
    (xd_InvalidForm : PySem.W.codeIn K (.ref kx_InvalidForm) "InvalidForm.__init__" = true)
    (xe_InvalidForm : K.lookup cc_InvalidForm = some ⟨q1_InvalidForm, q2_InvalidForm, .cell (some (.ref c_InvalidForm)), q3_InvalidForm⟩)
    (xg_InvalidForm : K.lookup kx_InvalidForm = some ⟨q4_InvalidForm, q5_InvalidForm, .fields qv_InvalidForm, q6_InvalidForm⟩)
    (r4x_InvalidForm : qv_InvalidForm[2]? = some (.str q7_InvalidForm q8_InvalidForm))
    (r5x_InvalidForm : ((P.main.file : Str) == q7_InvalidForm) = true)
    (xk_InvalidForm : ∃ nm q N bs bm sn sub ab col dd k0 k1 k2 k3 k5, K.lookup c_InvalidForm = some (excClassObj nm q c_InvalidForm N bs bm true sn sub ab col dd k0 k1 k2 k3 k5 "ValueError.__new__") ∧ refsB PySem.HandSPX.veTail bm = true)
    (xs_InvalidForm : PySem.W.findIn K (.ref c_InvalidForm) "__setattr__" = some (some (.builtin "object.__setattr__")))
    (xb_InvalidForm : PySem.W.subIn K (.ref c_InvalidForm) (.type "BaseException") = some true)
    (xt_InvalidForm : PySem.W.typeIn K (.ref c_InvalidForm) = some (.type "type"))
    (xq_InvalidForm : PySem.W.keepIn K (.ref c_InvalidForm) = true)
    (xf_InvalidForm : xfB K c_InvalidForm = true)
    (xa_InvalidForm : PySem.W.ks_superIn K c_InvalidForm c_InvalidForm "__init__" = some (some (.builtin "ValueError.__init__")))
    (xv_InvalidForm : PySem.W.subIn K (.ref c_InvalidForm) (.type "ValueError") = some true)
    (xm_InvalidForm : PySem.W.mroIn K c_InvalidForm (.ref c_InvalidForm) = some true)
    (xy_InvalidForm : PySem.W.typeIn K (.ref fx_InvalidForm) = some (.type "function"))
    (xc_InvalidForm : PySem.W.findIn K (.ref c_InvalidForm) "code" = some none)
    (xn_InvalidForm : PySem.W.findIn K (.ref c_InvalidForm) "at" = some none)
    (xx_InvalidForm : PySem.W.exmAny K (.ref c_InvalidForm) [.ref c_DialError, .ref c_Missing] = some true)
    (xi_InvalidNumber : PySem.W.findIn K (.ref c_InvalidNumber) "__init__" = some (some (.ref fx_InvalidNumber)))
    (xl_InvalidNumber : K.lookup fx_InvalidNumber = some ⟨oc_xInvalidNumber, od_xInvalidNumber, .func (PySem.W.fnX "__init__" "InvalidNumber.__init__" (defArgs sx_InvalidNumber) (defBody sx_InvalidNumber) (defScope sx_InvalidNumber) [(("__class__" : Str), cc_InvalidNumber)] .none kV_xInvalidNumber dc_xInvalidNumber pm_xInvalidNumber an_xInvalidNumber (.ref kx_InvalidNumber) ct_xInvalidNumber), sl_xInvalidNumber⟩)
    (xd_InvalidNumber : PySem.W.codeIn K (.ref kx_InvalidNumber) "InvalidNumber.__init__" = true)
    (xe_InvalidNumber : K.lookup cc_InvalidNumber = some ⟨q1_InvalidNumber, q2_InvalidNumber, .cell (some (.ref c_InvalidNumber)), q3_InvalidNumber⟩)
    (xg_InvalidNumber : K.lookup kx_InvalidNumber = some ⟨q4_InvalidNumber, q5_InvalidNumber, .fields qv_InvalidNumber, q6_InvalidNumber⟩)
    (r4x_InvalidNumber : qv_InvalidNumber[2]? = some (.str q7_InvalidNumber q8_InvalidNumber))
    (r5x_InvalidNumber : ((P.main.file : Str) == q7_InvalidNumber) = true)
    (xk_InvalidNumber : ∃ nm q N bs bm sn sub ab col dd k0 k1 k2 k3 k5, K.lookup c_InvalidNumber = some (excClassObj nm q c_InvalidNumber N bs bm true sn sub ab col dd k0 k1 k2 k3 k5 "ValueError.__new__") ∧ refsB PySem.HandSPX.veTail bm = true)
    (xs_InvalidNumber : PySem.W.findIn K (.ref c_InvalidNumber) "__setattr__" = some (some (.builtin "object.__setattr__")))
    (xb_InvalidNumber : PySem.W.subIn K (.ref c_InvalidNumber) (.type "BaseException") = some true)
    (xt_InvalidNumber : PySem.W.typeIn K (.ref c_InvalidNumber) = some (.type "type"))
    (xq_InvalidNumber : PySem.W.keepIn K (.ref c_InvalidNumber) = true)
    (xf_InvalidNumber : xfB K c_InvalidNumber = true)
    (xa_InvalidNumber : PySem.W.ks_superIn K c_InvalidNumber c_InvalidNumber "__init__" = some (some (.builtin "ValueError.__init__")))
    (xv_InvalidNumber : PySem.W.subIn K (.ref c_InvalidNumber) (.type "ValueError") = some true)
    (xm_InvalidNumber : PySem.W.mroIn K c_InvalidNumber (.ref c_InvalidNumber) = some true)
    (xy_InvalidNumber : PySem.W.typeIn K (.ref fx_InvalidNumber) = some (.type "function"))
    (xc_InvalidNumber : PySem.W.findIn K (.ref c_InvalidNumber) "code" = some none)
    (xn_InvalidNumber : PySem.W.findIn K (.ref c_InvalidNumber) "given" = some none)
    (xx_InvalidNumber : PySem.W.exmAny K (.ref c_InvalidNumber) [.ref c_DialError, .ref c_Missing] = some true)
    (xi_UnknownName : PySem.W.findIn K (.ref c_UnknownName) "__init__" = some (some (.ref fx_UnknownName)))
    (xl_UnknownName : K.lookup fx_UnknownName = some ⟨oc_xUnknownName, od_xUnknownName, .func (PySem.W.fnX "__init__" "UnknownName.__init__" (defArgs sx_UnknownName) (defBody sx_UnknownName) (defScope sx_UnknownName) [(("__class__" : Str), cc_UnknownName)] .none kV_xUnknownName dc_xUnknownName pm_xUnknownName an_xUnknownName (.ref kx_UnknownName) ct_xUnknownName), sl_xUnknownName⟩)
    (xd_UnknownName : PySem.W.codeIn K (.ref kx_UnknownName) "UnknownName.__init__" = true)
    (xe_UnknownName : K.lookup cc_UnknownName = some ⟨q1_UnknownName, q2_UnknownName, .cell (some (.ref c_UnknownName)), q3_UnknownName⟩)
    (xg_UnknownName : K.lookup kx_UnknownName = some ⟨q4_UnknownName, q5_UnknownName, .fields qv_UnknownName, q6_UnknownName⟩)
    (r4x_UnknownName : qv_UnknownName[2]? = some (.str q7_UnknownName q8_UnknownName))
    (r5x_UnknownName : ((P.main.file : Str) == q7_UnknownName) = true)
    (xk_UnknownName : ∃ nm q N bs bm sn sub ab col dd k0 k1 k2 k3 k5, K.lookup c_UnknownName = some (excClassObj nm q c_UnknownName N bs bm true sn sub ab col dd k0 k1 k2 k3 k5 "LookupError.__new__") ∧ refsB leTail bm = true)
    (xs_UnknownName : PySem.W.findIn K (.ref c_UnknownName) "__setattr__" = some (some (.builtin "object.__setattr__")))
    (xb_UnknownName : PySem.W.subIn K (.ref c_UnknownName) (.type "BaseException") = some true)
    (xt_UnknownName : PySem.W.typeIn K (.ref c_UnknownName) = some (.type "type"))
    (xq_UnknownName : PySem.W.keepIn K (.ref c_UnknownName) = true)
    (xf_UnknownName : xfB K c_UnknownName = true)
    (xa_UnknownName : PySem.W.ks_superIn K c_UnknownName c_UnknownName "__init__" = some (some (.builtin "LookupError.__init__")))
    (xv_UnknownName : PySem.W.subIn K (.ref c_UnknownName) (.type "LookupError") = some true)
    (xm_UnknownName : PySem.W.mroIn K c_UnknownName (.ref c_UnknownName) = some true)
    (xy_UnknownName : PySem.W.typeIn K (.ref fx_UnknownName) = some (.type "function"))
    (xc_UnknownName : PySem.W.findIn K (.ref c_UnknownName) "code" = some none)
    (xn_UnknownName : PySem.W.findIn K (.ref c_UnknownName) "name" = some none)
    (xx_UnknownName : PySem.W.exmAny K (.ref c_UnknownName) [.ref c_DialError, .ref c_Missing] = some true)
    (opq : PySem.W.nsIn K cStatics "thirdparty.any" = some none)
    (r4x : (P.main.scope.names.lookup ("super" : Str)).isSome = false)
    (ne_Form : PySem.W.findIn K (.ref c_Form) "__ne__" = some (some (.builtin "object.__ne__")))
    (mo_Form : PySem.W.mroIn K c_Form (.type "object") = some true)
    (nf_Form_Form : PySem.W.notFirst K c_Form (.ref c_Form) = true)
    (nf_Form_int : PySem.W.notFirst K c_Form (.type "int") = true)
    (nf_Form_str : PySem.W.notFirst K c_Form (.type "str") = true)
    (tb_cd : cd_law_lengths_so = .ref cL)
    (tb_ts : Tb ∈ ts)
    (tb_hd : PySem.W.codeHdIn K cL Tb = true)
    (tb_no : K.lookup Tb = none)
    (z_abs : PySem.W.nsIn K mainGlobals "abs" = some none)
    (z_all : PySem.W.nsIn K mainGlobals "all" = some none)
    (z_bool : PySem.W.nsIn K mainGlobals "bool" = some none)
    (z_dict : PySem.W.nsIn K mainGlobals "dict" = some none)
    (z_enumerate : PySem.W.nsIn K mainGlobals "enumerate" = some none)
    (z_int : PySem.W.nsIn K mainGlobals "int" = some none)
    (z_isinstance : PySem.W.nsIn K mainGlobals "isinstance" = some none)
    (z_len : PySem.W.nsIn K mainGlobals "len" = some none)
    (z_list : PySem.W.nsIn K mainGlobals "list" = some none)
    (z_range : PySem.W.nsIn K mainGlobals "range" = some none)
    (z_repr : PySem.W.nsIn K mainGlobals "repr" = some none)
    (z_sorted : PySem.W.nsIn K mainGlobals "sorted" = some none)
    (z_str : PySem.W.nsIn K mainGlobals "str" = some none)
    (z_super : PySem.W.nsIn K mainGlobals "super" = some none)
    (z_tuple : PySem.W.nsIn K mainGlobals "tuple" = some none)
    (g1_Form : PySem.W.plainGet K c_Form Str.empty = true)
    (g2_Form : PySem.W.hasDictIn K c_Form = true)
    (g3_Form : PySem.W.plainOver K c_Form = true)
    (g4_Form : PySem.W.findIn K (.ref c_Form) "__setattr__" = some (some (.builtin "object.__setattr__")))
    (g5_Form : PySem.W.makesIn K c_Form = true)
    (g6_Form : PySem.W.keepIn K (.ref c_Form) = true)
    (na_Form_own_constant : PySem.W.findIn K (.ref c_Form) "own_constant" = some none)
    (na_Form_own_terms : PySem.W.findIn K (.ref c_Form) "own_terms" = some none)
    (j1_Form : PySem.W.findIn K (.ref c_Form) "__class__" = some (some (.builtin "object.__class__")))
    (j2 : PySem.W.specialIn K (.builtin "object.__class__") "__get__" = some (some (.builtin "getset_descriptor.__get__")))
    (j3 : PySem.W.takesIn K (.builtin "object.__class__") = some true)
    (j4_Form : PySem.W.mroIn K c_Form (.type "object") = some true)
    (kt_Form : PySem.W.typeIn K (.ref c_Form) = some (.type "type"))
    (kc_Form : PySem.W.isClsIn K c_Form = true)
    (ks_int_Form : PySem.W.subIn K (.type "int") (.ref c_Form) = some false)
    (ks_str_Form : PySem.W.subIn K (.type "str") (.ref c_Form) = some false)
    : ∃ (fd : FuncData) (c T : Addr), T ∈ ts ∧ PySem.W.codeHdIn K c T = true ∧ K.lookup T = none ∧ (∀ (s : Shared) (u : Value), BindsTo s fd ⟨[u], []⟩ [("_law_script", u)]) ∧ ∀ base : Heap, K.In base → base.Ns mainGlobals mg → LamX.TabB base mg c T → FnG P w K mg base CX0 11 fa fd ["_law_script"] (spL K T) := by
  have e := hfa.symm.trans (PySem.W.mg_of X G a_law)
  cases e
  have F_is_whole := fun_mk (st := s_is_whole) l_is_whole c_is_whole k_is_whole
  have F_is_name := fun_mk (st := s_is_name) l_is_name c_is_name k_is_name
  have F_is_term := fun_mk (st := s_is_term) l_is_term c_is_term k_is_term
  have F_gathered_terms := fun_mk (st := s_gathered_terms) l_gathered_terms c_gathered_terms k_gathered_terms
  have F_Form_init : FunE K "__init__" "Form.__init__" s_Form_init f_Form_init (PySem.W.fnOf "__init__" "Form.__init__" (defArgs s_Form_init) (defBody s_Form_init) (defScope s_Form_init) (.ref dT_Form_init) kV_Form_init dc_Form_init pm_Form_init an_Form_init cd_Form_init ct_Form_init) := ⟨⟨_, _, _, _, _, _, _, _, _, _, rfl, l_Form_init, c_Form_init⟩, k_Form_init⟩
  have F_Form_of := fun_mk (st := s_Form_of) l_Form_of c_Form_of k_Form_of
  have F_Form_constant := fun_mk (st := s_Form_constant) l_Form_constant c_Form_constant k_Form_constant
  have F_Form_terms := fun_mk (st := s_Form_terms) l_Form_terms c_Form_terms k_Form_terms
  have F_Form_names := fun_mk (st := s_Form_names) l_Form_names c_Form_names k_Form_names
  have F_Form_coef := fun_mk (st := s_Form_coef) l_Form_coef c_Form_coef k_Form_coef
  have F_Form_value := fun_mk (st := s_Form_value) l_Form_value c_Form_value k_Form_value
  have F_joined := fun_mk (st := s_joined) l_joined c_joined k_joined
  have F_Form_text := fun_mk (st := s_Form_text) l_Form_text c_Form_text k_Form_text
  have F_Form_eq := fun_mk (st := s_Form_eq) l_Form_eq c_Form_eq k_Form_eq
  have F_Form_repr := fun_mk (st := s_Form_repr) l_Form_repr c_Form_repr k_Form_repr
  have F_law_bag := fun_mk (st := s_law_bag) l_law_bag c_law_bag k_law_bag
  have F_law_draw := fun_mk (st := s_law_draw) l_law_draw c_law_draw k_law_draw
  have F_law_any := fun_mk (st := s_law_any) l_law_any c_law_any k_law_any
  have F_law_mixed := fun_mk (st := s_law_mixed) l_law_mixed c_law_mixed k_law_mixed
  have F_law_same := fun_mk (st := s_law_same) l_law_same c_law_same k_law_same
  have F_law_field := fun_mk (st := s_law_field) l_law_field c_law_field k_law_field
  have F_law_got := fun_mk (st := s_law_got) l_law_got c_law_got k_law_got
  have F_law_odd := fun_mk (st := s_law_odd) l_law_odd c_law_odd k_law_odd
  have F_law_names := fun_mk (st := s_law_names) l_law_names c_law_names k_law_names
  have F_law_made_form := fun_mk (st := s_law_made_form) l_law_made_form c_law_made_form k_law_made_form
  have F_law_terms := fun_mk (st := s_law_terms) l_law_terms c_law_terms k_law_terms
  have F_law_told_form := fun_mk (st := s_law_told_form) l_law_told_form c_law_told_form k_law_told_form
  have F_law_plain_form := fun_mk (st := s_law_plain_form) l_law_plain_form c_law_plain_form k_law_plain_form
  have F_law_form_text := fun_mk (st := s_law_form_text) l_law_form_text c_law_form_text k_law_form_text
  have F_law_lengths_so := fun_mk (st := s_law_lengths_so) l_law_lengths_so c_law_lengths_so k_law_lengths_so
  have F_law := fun_mk (st := s_law) l_law c_law k_law
  have cl_Form : Cls K c_Form := ⟨g1_Form, g2_Form, g3_Form, g4_Form⟩
  have ox_InvalidForm : OexG K c_InvalidForm "ValueError.__new__" PySem.HandSPX.veTail := ⟨(by obtain ⟨_, _, _, _, _, _, _, _, _, _, _, _, _, _, _, h1, h2⟩ := xk_InvalidForm; exact ⟨_, _, _, _, _, _, _, _, _, _, _, _, _, _, _, h1, refs_by h2⟩), xs_InvalidForm, xb_InvalidForm, xt_InvalidForm, xq_InvalidForm⟩
  have ox_InvalidNumber : OexG K c_InvalidNumber "ValueError.__new__" PySem.HandSPX.veTail := ⟨(by obtain ⟨_, _, _, _, _, _, _, _, _, _, _, _, _, _, _, h1, h2⟩ := xk_InvalidNumber; exact ⟨_, _, _, _, _, _, _, _, _, _, _, _, _, _, _, h1, refs_by h2⟩), xs_InvalidNumber, xb_InvalidNumber, xt_InvalidNumber, xq_InvalidNumber⟩
  have ox_UnknownName : OexG K c_UnknownName "LookupError.__new__" leTail := ⟨(by obtain ⟨_, _, _, _, _, _, _, _, _, _, _, _, _, _, _, h1, h2⟩ := xk_UnknownName; exact ⟨_, _, _, _, _, _, _, _, _, _, _, _, _, _, _, h1, refs_by h2⟩), xs_UnknownName, xb_UnknownName, xt_UnknownName, xq_UnknownName⟩
  subst tb_cd
  have T : Txt P K mg ⟨f_is_whole, PySem.W.fnOf "is_whole" "is_whole" (defArgs s_is_whole) (defBody s_is_whole) (defScope s_is_whole) .none kV_is_whole dc_is_whole pm_is_whole an_is_whole cd_is_whole ct_is_whole, f_is_name, PySem.W.fnOf "is_name" "is_name" (defArgs s_is_name) (defBody s_is_name) (defScope s_is_name) .none kV_is_name dc_is_name pm_is_name an_is_name cd_is_name ct_is_name, f_is_term, PySem.W.fnOf "is_term" "is_term" (defArgs s_is_term) (defBody s_is_term) (defScope s_is_term) .none kV_is_term dc_is_term pm_is_term an_is_term cd_is_term ct_is_term, f_gathered_terms, PySem.W.fnOf "gathered_terms" "gathered_terms" (defArgs s_gathered_terms) (defBody s_gathered_terms) (defScope s_gathered_terms) .none kV_gathered_terms dc_gathered_terms pm_gathered_terms an_gathered_terms cd_gathered_terms ct_gathered_terms, f_Form_init, PySem.W.fnOf "__init__" "Form.__init__" (defArgs s_Form_init) (defBody s_Form_init) (defScope s_Form_init) (.ref dT_Form_init) kV_Form_init dc_Form_init pm_Form_init an_Form_init cd_Form_init ct_Form_init, f_Form_of, PySem.W.fnOf "of" "Form.of" (defArgs s_Form_of) (defBody s_Form_of) (defScope s_Form_of) .none kV_Form_of dc_Form_of pm_Form_of an_Form_of cd_Form_of ct_Form_of, f_Form_constant, PySem.W.fnOf "constant" "Form.constant" (defArgs s_Form_constant) (defBody s_Form_constant) (defScope s_Form_constant) .none kV_Form_constant dc_Form_constant pm_Form_constant an_Form_constant cd_Form_constant ct_Form_constant, f_Form_terms, PySem.W.fnOf "terms" "Form.terms" (defArgs s_Form_terms) (defBody s_Form_terms) (defScope s_Form_terms) .none kV_Form_terms dc_Form_terms pm_Form_terms an_Form_terms cd_Form_terms ct_Form_terms, f_Form_names, PySem.W.fnOf "names" "Form.names" (defArgs s_Form_names) (defBody s_Form_names) (defScope s_Form_names) .none kV_Form_names dc_Form_names pm_Form_names an_Form_names cd_Form_names ct_Form_names, f_Form_coef, PySem.W.fnOf "coef" "Form.coef" (defArgs s_Form_coef) (defBody s_Form_coef) (defScope s_Form_coef) .none kV_Form_coef dc_Form_coef pm_Form_coef an_Form_coef cd_Form_coef ct_Form_coef, f_Form_value, PySem.W.fnOf "value" "Form.value" (defArgs s_Form_value) (defBody s_Form_value) (defScope s_Form_value) .none kV_Form_value dc_Form_value pm_Form_value an_Form_value cd_Form_value ct_Form_value, f_joined, PySem.W.fnOf "joined" "joined" (defArgs s_joined) (defBody s_joined) (defScope s_joined) .none kV_joined dc_joined pm_joined an_joined cd_joined ct_joined, f_Form_text, PySem.W.fnOf "text" "Form.text" (defArgs s_Form_text) (defBody s_Form_text) (defScope s_Form_text) .none kV_Form_text dc_Form_text pm_Form_text an_Form_text cd_Form_text ct_Form_text, f_Form_eq, PySem.W.fnOf "__eq__" "Form.__eq__" (defArgs s_Form_eq) (defBody s_Form_eq) (defScope s_Form_eq) .none kV_Form_eq dc_Form_eq pm_Form_eq an_Form_eq cd_Form_eq ct_Form_eq, f_Form_repr, PySem.W.fnOf "__repr__" "Form.__repr__" (defArgs s_Form_repr) (defBody s_Form_repr) (defScope s_Form_repr) .none kV_Form_repr dc_Form_repr pm_Form_repr an_Form_repr cd_Form_repr ct_Form_repr, f_law_bag, PySem.W.fnOf "_law_bag" "_law_bag" (defArgs s_law_bag) (defBody s_law_bag) (defScope s_law_bag) .none kV_law_bag dc_law_bag pm_law_bag an_law_bag cd_law_bag ct_law_bag, f_law_draw, PySem.W.fnOf "_law_draw" "_law_draw" (defArgs s_law_draw) (defBody s_law_draw) (defScope s_law_draw) .none kV_law_draw dc_law_draw pm_law_draw an_law_draw cd_law_draw ct_law_draw, f_law_any, PySem.W.fnOf "_law_any" "_law_any" (defArgs s_law_any) (defBody s_law_any) (defScope s_law_any) .none kV_law_any dc_law_any pm_law_any an_law_any cd_law_any ct_law_any, f_law_mixed, PySem.W.fnOf "_law_mixed" "_law_mixed" (defArgs s_law_mixed) (defBody s_law_mixed) (defScope s_law_mixed) .none kV_law_mixed dc_law_mixed pm_law_mixed an_law_mixed cd_law_mixed ct_law_mixed, f_law_same, PySem.W.fnOf "_law_same" "_law_same" (defArgs s_law_same) (defBody s_law_same) (defScope s_law_same) .none kV_law_same dc_law_same pm_law_same an_law_same cd_law_same ct_law_same, f_law_field, PySem.W.fnOf "_law_field" "_law_field" (defArgs s_law_field) (defBody s_law_field) (defScope s_law_field) .none kV_law_field dc_law_field pm_law_field an_law_field cd_law_field ct_law_field, f_law_got, PySem.W.fnOf "_law_got" "_law_got" (defArgs s_law_got) (defBody s_law_got) (defScope s_law_got) .none kV_law_got dc_law_got pm_law_got an_law_got cd_law_got ct_law_got, f_law_odd, PySem.W.fnOf "_law_odd" "_law_odd" (defArgs s_law_odd) (defBody s_law_odd) (defScope s_law_odd) .none kV_law_odd dc_law_odd pm_law_odd an_law_odd cd_law_odd ct_law_odd, f_law_names, PySem.W.fnOf "_law_names" "_law_names" (defArgs s_law_names) (defBody s_law_names) (defScope s_law_names) .none kV_law_names dc_law_names pm_law_names an_law_names cd_law_names ct_law_names, f_law_made_form, PySem.W.fnOf "_law_made_form" "_law_made_form" (defArgs s_law_made_form) (defBody s_law_made_form) (defScope s_law_made_form) .none kV_law_made_form dc_law_made_form pm_law_made_form an_law_made_form cd_law_made_form ct_law_made_form, f_law_terms, PySem.W.fnOf "_law_terms" "_law_terms" (defArgs s_law_terms) (defBody s_law_terms) (defScope s_law_terms) .none kV_law_terms dc_law_terms pm_law_terms an_law_terms cd_law_terms ct_law_terms, f_law_told_form, PySem.W.fnOf "_law_told_form" "_law_told_form" (defArgs s_law_told_form) (defBody s_law_told_form) (defScope s_law_told_form) .none kV_law_told_form dc_law_told_form pm_law_told_form an_law_told_form cd_law_told_form ct_law_told_form, f_law_plain_form, PySem.W.fnOf "_law_plain_form" "_law_plain_form" (defArgs s_law_plain_form) (defBody s_law_plain_form) (defScope s_law_plain_form) .none kV_law_plain_form dc_law_plain_form pm_law_plain_form an_law_plain_form cd_law_plain_form ct_law_plain_form, f_law_form_text, PySem.W.fnOf "_law_form_text" "_law_form_text" (defArgs s_law_form_text) (defBody s_law_form_text) (defScope s_law_form_text) .none kV_law_form_text dc_law_form_text pm_law_form_text an_law_form_text cd_law_form_text ct_law_form_text, f_law_lengths_so, PySem.W.fnOf "_law_lengths_so" "_law_lengths_so" (defArgs s_law_lengths_so) (defBody s_law_lengths_so) (defScope s_law_lengths_so) .none kV_law_lengths_so dc_law_lengths_so pm_law_lengths_so an_law_lengths_so (.ref cL) ct_law_lengths_so, fa, PySem.W.fnOf "law" "law" (defArgs s_law) (defBody s_law) (defScope s_law) .none kV_law dc_law pm_law an_law cd_law ct_law, c_Form, p_Form_constant, c_DialError, c_InvalidForm, c_InvalidNumber, c_Missing, c_UnknownName, fx_InvalidForm, cc_InvalidForm, kx_InvalidForm, PySem.W.fnX "__init__" "InvalidForm.__init__" (defArgs sx_InvalidForm) (defBody sx_InvalidForm) (defScope sx_InvalidForm) [(("__class__" : Str), cc_InvalidForm)] .none kV_xInvalidForm dc_xInvalidForm pm_xInvalidForm an_xInvalidForm (.ref kx_InvalidForm) ct_xInvalidForm, fx_InvalidNumber, cc_InvalidNumber, kx_InvalidNumber, PySem.W.fnX "__init__" "InvalidNumber.__init__" (defArgs sx_InvalidNumber) (defBody sx_InvalidNumber) (defScope sx_InvalidNumber) [(("__class__" : Str), cc_InvalidNumber)] .none kV_xInvalidNumber dc_xInvalidNumber pm_xInvalidNumber an_xInvalidNumber (.ref kx_InvalidNumber) ct_xInvalidNumber, fx_UnknownName, cc_UnknownName, kx_UnknownName, PySem.W.fnX "__init__" "UnknownName.__init__" (defArgs sx_UnknownName) (defBody sx_UnknownName) (defScope sx_UnknownName) [(("__class__" : Str), cc_UnknownName)] .none kV_xUnknownName dc_xUnknownName pm_xUnknownName an_xUnknownName (.ref kx_UnknownName) ct_xUnknownName, p_Form_of, g_WORDS, e_Form_init_0⟩ := ⟨PySem.W.mg_none_of X G z_abs, PySem.W.mg_none_of X G z_all, PySem.W.mg_none_of X G z_bool, PySem.W.mg_none_of X G z_dict, PySem.W.mg_none_of X G z_enumerate, PySem.W.mg_none_of X G z_int, PySem.W.mg_none_of X G z_isinstance, PySem.W.mg_none_of X G z_len, PySem.W.mg_none_of X G z_list, PySem.W.mg_none_of X G z_range, PySem.W.mg_none_of X G z_repr, PySem.W.mg_none_of X G z_sorted, PySem.W.mg_none_of X G z_str, PySem.W.mg_none_of X G z_super, PySem.W.mg_none_of X G z_tuple, PySem.W.mg_of X G a_is_whole, F_is_whole, F_is_whole.binds fun _ _ _ _ _ _ us hl => match us, hl with | [_], _ => rfl, PySem.W.mg_of X G a_is_name, F_is_name, F_is_name.binds fun _ _ _ _ _ _ us hl => match us, hl with | [_], _ => rfl, PySem.W.mg_of X G a_is_term, F_is_term, F_is_term.binds fun _ _ _ _ _ _ us hl => match us, hl with | [_], _ => rfl, PySem.W.mg_of X G a_gathered_terms, F_gathered_terms, F_gathered_terms.binds fun _ _ _ _ _ _ us hl => match us, hl with | [_], _ => rfl, F_Form_init, F_Form_of, F_Form_of.binds fun _ _ _ _ _ _ us hl => match us, hl with | [_], _ => rfl, F_Form_constant, F_Form_constant.binds fun _ _ _ _ _ _ us hl => match us, hl with | [_], _ => rfl, F_Form_terms, F_Form_terms.binds fun _ _ _ _ _ _ us hl => match us, hl with | [_], _ => rfl, F_Form_names, F_Form_names.binds fun _ _ _ _ _ _ us hl => match us, hl with | [_], _ => rfl, F_Form_coef, F_Form_coef.binds fun _ _ _ _ _ _ us hl => match us, hl with | [_, _], _ => rfl, F_Form_value, F_Form_value.binds fun _ _ _ _ _ _ us hl => match us, hl with | [_, _], _ => rfl, PySem.W.mg_of X G a_joined, F_joined, F_joined.binds fun _ _ _ _ _ _ us hl => match us, hl with | [_, _, _], _ => rfl, F_Form_text, F_Form_text.binds fun _ _ _ _ _ _ us hl => match us, hl with | [_], _ => rfl, F_Form_eq, F_Form_eq.binds fun _ _ _ _ _ _ us hl => match us, hl with | [_, _], _ => rfl, F_Form_repr, F_Form_repr.binds fun _ _ _ _ _ _ us hl => match us, hl with | [_], _ => rfl, PySem.W.mg_of X G a_law_bag, F_law_bag, F_law_bag.binds fun _ _ _ _ _ _ us hl => match us, hl with | [_], _ => rfl, PySem.W.mg_of X G a_law_draw, F_law_draw, F_law_draw.binds fun _ _ _ _ _ _ us hl => match us, hl with | [_, _], _ => rfl, PySem.W.mg_of X G a_law_any, F_law_any, F_law_any.binds fun _ _ _ _ _ _ us hl => match us, hl with | [_, _], _ => rfl, PySem.W.mg_of X G a_law_mixed, F_law_mixed, F_law_mixed.binds fun _ _ _ _ _ _ us hl => match us, hl with | [_, _], _ => rfl, PySem.W.mg_of X G a_law_same, F_law_same, F_law_same.binds fun _ _ _ _ _ _ us hl => match us, hl with | [_, _], _ => rfl, PySem.W.mg_of X G a_law_field, F_law_field, F_law_field.binds fun _ _ _ _ _ _ us hl => match us, hl with | [_], _ => rfl, PySem.W.mg_of X G a_law_got, F_law_got, F_law_got.binds fun _ _ _ _ _ _ us hl => match us, hl with | [_], _ => rfl, PySem.W.mg_of X G a_law_odd, F_law_odd, F_law_odd.binds fun _ _ _ _ _ _ us hl => match us, hl with | [_, _], _ => rfl, PySem.W.mg_of X G a_law_names, F_law_names, F_law_names.binds fun _ _ _ _ _ _ us hl => match us, hl with | [_, _], _ => rfl, PySem.W.mg_of X G a_law_made_form, F_law_made_form, F_law_made_form.binds fun _ _ _ _ _ _ us hl => match us, hl with | [_], _ => rfl, PySem.W.mg_of X G a_law_terms, F_law_terms, F_law_terms.binds fun _ _ _ _ _ _ us hl => match us, hl with | [_], _ => rfl, PySem.W.mg_of X G a_law_told_form, F_law_told_form, F_law_told_form.binds fun _ _ _ _ _ _ us hl => match us, hl with | [_], _ => rfl, PySem.W.mg_of X G a_law_plain_form, F_law_plain_form, F_law_plain_form.binds fun _ _ _ _ _ _ us hl => match us, hl with | [_], _ => rfl, PySem.W.mg_of X G a_law_form_text, F_law_form_text, F_law_form_text.binds fun _ _ _ _ _ _ us hl => match us, hl with | [_], _ => rfl, PySem.W.mg_of X G a_law_lengths_so, F_law_lengths_so, F_law_lengths_so.binds fun _ _ _ _ _ _ us hl => match us, hl with | [], _ => rfl, PySem.W.mg_of X G a_law, F_law, F_law.binds fun _ _ _ _ _ _ us hl => match us, hl with | [_], _ => rfl, ⟨_, PySem.W.mg_of X G ga_MOST_NAME⟩, ⟨_, PySem.W.mg_of X G ga_SMALL⟩, PySem.W.mg_of X G ga_WORDS, ⟨⟨_, _, _, gl_WORDS, rfl, rfl, (show 2 ≤ sizeLine by decide), (.cons ⟨_, rfl⟩ (.cons ⟨_, rfl⟩ .nil))⟩, (show 2 ≤ sizeLine by decide), by decide +kernel⟩, ⟨_, _, _, le_Form_init_0, rfl, rfl, by decide, .nil⟩, cb_of fun fs us ws h0 h1 h2 => match fs, us, ws, h0, h1, h2 with | [_], [_], [], _, _, _ => rfl, cb_dflt (its := [.ref e_Form_init_0, .int 0 td_Form_init_1]) ld_Form_init rfl (.cons rfl (.cons ⟨_, rfl⟩ .nil)) fun fs us ws h0 h1 h2 => match fs, us, ws, h0, h1, h2 with | [_], [], [], _, _, _ => ⟨_, rfl, rfl⟩, cb_dflt (its := [.ref e_Form_init_0, .int 0 td_Form_init_1]) ld_Form_init rfl (.cons rfl (.cons ⟨_, rfl⟩ .nil)) fun fs us ws h0 h1 h2 => match fs, us, ws, h0, h1, h2 with | [_], [], [_, _], _, _, _ => ⟨_, rfl, rfl⟩, cb_dflt (its := [.ref e_Form_init_0, .int 0 td_Form_init_1]) ld_Form_init rfl (.cons rfl (.cons ⟨_, rfl⟩ .nil)) fun fs us ws h0 h1 h2 => match fs, us, ws, h0, h1, h2 with | [_], [_], [], _, _, _ => ⟨_, rfl, rfl⟩, cb_dflt (its := [.ref e_Form_init_0, .int 0 td_Form_init_1]) ld_Form_init rfl (.cons rfl (.cons ⟨_, rfl⟩ .nil)) fun fs us ws h0 h1 h2 => match fs, us, ws, h0, h1, h2 with | [_], [_, _], [], _, _, _ => ⟨_, rfl, rfl⟩, cb_of fun fs us ws h0 h1 h2 => match fs, us, ws, h0, h1, h2 with | [_], [], [], _, _, _ => rfl, cb_of fun fs us ws h0 h1 h2 => match fs, us, ws, h0, h1, h2 with | [], [_], [], _, _, _ => rfl, cb_of fun fs us ws h0 h1 h2 => match fs, us, ws, h0, h1, h2 with | [_], [], [], _, _, _ => rfl, cb_of fun fs us ws h0 h1 h2 => match fs, us, ws, h0, h1, h2 with | [_], [], [], _, _, _ => rfl, cb_of fun fs us ws h0 h1 h2 => match fs, us, ws, h0, h1, h2 with | [_], [_], [], _, _, _ => rfl, cb_of fun fs us ws h0 h1 h2 => match fs, us, ws, h0, h1, h2 with | [], [_], [], _, _, _ => rfl, ⟨crd_Form, crg_Form⟩, ⟨sq_Form_of, ⟨_, sr_Form_of⟩, sh_Form_of⟩, PySem.W.mg_of X G a_Form, cl_Form, ⟨g5_Form, a_Form_init, i_Form_init, g6_Form⟩, na_Form_own_constant, na_Form_own_terms, ⟨a_Form_coef, i_Form_coef, k_Form_coef⟩, ⟨a_Form_names, i_Form_names, k_Form_names⟩, ⟨a_Form_terms, i_Form_terms, k_Form_terms⟩, ⟨a_Form_text, i_Form_text, k_Form_text⟩, ⟨a_Form_value, i_Form_value, k_Form_value⟩, ⟨pa_Form_constant, pg_Form_constant, pt_Form_constant, _, pr_Form_constant⟩, ⟨cl_Form, j1_Form, j2, j3, j4_Form, kit_refl⟩, kit_refl, kit_down kt_Form kc_Form ks_int_Form (Bool.eq_false_iff.mpr fun h => by cases beq_iff_eq.mp h), kit_down kt_Form kc_Form ks_str_Form (Bool.eq_false_iff.mpr fun h => by cases beq_iff_eq.mp h), a_Form_eq, i_Form_eq, ne_Form, mo_Form, a_Form_repr, i_Form_repr, nf_Form_Form, nf_Form_int, nf_Form_str, PySem.W.mg_of X G a_DialError, PySem.W.mg_of X G a_InvalidForm, PySem.W.mg_of X G a_InvalidNumber, PySem.W.mg_of X G a_Missing, PySem.W.mg_of X G a_UnknownName, ox_InvalidForm, xi_InvalidForm, xy_InvalidForm, ⟨foot_value, ox_InvalidForm, ⟨_, _, _, _, _, rfl⟩, ⟨_, _, _, xl_InvalidForm⟩, rfl, xd_InvalidForm, ⟨_, _, _, xe_InvalidForm⟩, ⟨_, _, _, _, _, _, xg_InvalidForm, r4x_InvalidForm, r5x_InvalidForm⟩, opq, xa_InvalidForm, xv_InvalidForm, xm_InvalidForm, z_super, r4x⟩, (fun _ us _ hl => match us, hl with | [_, _], _ => .of_eq rfl), xc_InvalidForm, xn_InvalidForm, ox_InvalidNumber, xi_InvalidNumber, xy_InvalidNumber, ⟨foot_value, ox_InvalidNumber, ⟨_, _, _, _, _, rfl⟩, ⟨_, _, _, xl_InvalidNumber⟩, rfl, xd_InvalidNumber, ⟨_, _, _, xe_InvalidNumber⟩, ⟨_, _, _, _, _, _, xg_InvalidNumber, r4x_InvalidNumber, r5x_InvalidNumber⟩, opq, xa_InvalidNumber, xv_InvalidNumber, xm_InvalidNumber, z_super, r4x⟩, (fun _ us _ hl => match us, hl with | [_, _], _ => .of_eq rfl), xc_InvalidNumber, xn_InvalidNumber, ox_UnknownName, xi_UnknownName, xy_UnknownName, ⟨foot_lookup, ox_UnknownName, ⟨_, _, _, _, _, rfl⟩, ⟨_, _, _, xl_UnknownName⟩, rfl, xd_UnknownName, ⟨_, _, _, xe_UnknownName⟩, ⟨_, _, _, _, _, _, xg_UnknownName, r4x_UnknownName, r5x_UnknownName⟩, opq, xa_UnknownName, xv_UnknownName, xm_UnknownName, z_super, r4x⟩, (fun _ us _ hl => match us, hl with | [_, _], _ => .of_eq rfl), xc_UnknownName, xn_UnknownName, ⟨(fm_cons (xfB_ok xf_InvalidForm) (fm_cons (xfB_ok xf_InvalidNumber) (fm_cons (xfB_ok xf_UnknownName) fm_nil))), (fm_cons xc_InvalidForm (fm_cons xc_InvalidNumber (fm_cons xc_UnknownName fm_nil))), (fm_cons (fun f e => by cases e; exact xn_InvalidForm) (fm_cons (fun f e => by cases e; exact xn_InvalidNumber) (fm_cons (fun f e => by cases e; exact xn_UnknownName) fm_nil))), (fm_cons ⟨(show (Str.ofString "InvalidForm").length ≤ sizeLine by decide +kernel), (show PyData.strOk (Str.ofString "InvalidForm") = true by decide +kernel)⟩ (fm_cons ⟨(show (Str.ofString "InvalidNumber").length ≤ sizeLine by decide +kernel), (show PyData.strOk (Str.ofString "InvalidNumber") = true by decide +kernel)⟩ (fm_cons ⟨(show (Str.ofString "UnknownName").length ≤ sizeLine by decide +kernel), (show PyData.strOk (Str.ofString "UnknownName") = true by decide +kernel)⟩ fm_nil))), (fm_cons (show ftb.lookup "InvalidForm" = some (some ("at" : Str)) by decide +kernel) (fm_cons (show ftb.lookup "InvalidNumber" = some (some ("given" : Str)) by decide +kernel) (fm_cons (show ftb.lookup "UnknownName" = some (some ("name" : Str)) by decide +kernel) fm_nil)))⟩, (fm_cons xx_InvalidForm (fm_cons xx_InvalidNumber (fm_cons xx_UnknownName fm_nil)))⟩
  exact ⟨_, cL, Tb, tb_ts, tb_hd, tb_no, fun s u => .of_eq rfl, fun base _ _ hTB => ok_law T rfl hTB⟩
end K03
open PySem PySem.W PyProof.Rows
set_option maxHeartbeats 0 in
theorem PySem.Challenge.cw_anydial_k03_forms_told_holds : PySem.Challenge.rw_anydial_k03_forms_told.Holds := by
  w_on; o_law; k_head; (case hw => w_witness2)
  k_fill
  refine Mi.walk_GT (l := PySem.Challenge.rw_anydial_k03_forms_told) (n := 63) (k := 11) (x := "_law_script") (sp := K03.spL) rfl (by decide) rfl ⟨rfl, by decide, by decide⟩ (fun w h Y => ⟨PySem.W.km_in_of Y, PySem.W.km_tabs_of Y⟩) ?F (fun K H a T ns hl hT hS => Mi.sp_tab (wf := K03.m_law) hl hT hS (K03.law_true ns))
  case F =>
    intro w mg fa h KX G hmg
    refine' K03.all_mk KX G hmg ?a_Form ?a_is_whole ?l_is_whole ?c_is_whole ?k_is_whole ?a_is_name ?l_is_name ?c_is_name ?k_is_name ?a_is_term ?l_is_term ?c_is_term ?k_is_term ?a_gathered_terms ?l_gathered_terms ?c_gathered_terms ?k_gathered_terms ?a_Form_init ?i_Form_init ?l_Form_init ?c_Form_init ?k_Form_init ?ld_Form_init ?sa_Form_of ?sr_Form_of ?sq_Form_of ?sh_Form_of ?crd_Form ?crg_Form ?l_Form_of ?c_Form_of ?k_Form_of ?pa_Form_constant ?pg_Form_constant ?pt_Form_constant ?pr_Form_constant ?l_Form_constant ?c_Form_constant ?k_Form_constant ?a_Form_terms ?i_Form_terms ?l_Form_terms ?c_Form_terms ?k_Form_terms ?a_Form_names ?i_Form_names ?l_Form_names ?c_Form_names ?k_Form_names ?a_Form_coef ?i_Form_coef ?l_Form_coef ?c_Form_coef ?k_Form_coef ?a_Form_value ?i_Form_value ?l_Form_value ?c_Form_value ?k_Form_value ?a_joined ?l_joined ?c_joined ?k_joined ?a_Form_text ?i_Form_text ?l_Form_text ?c_Form_text ?k_Form_text ?a_Form_eq ?i_Form_eq ?l_Form_eq ?c_Form_eq ?k_Form_eq ?a_Form_repr ?i_Form_repr ?l_Form_repr ?c_Form_repr ?k_Form_repr ?a_law_bag ?l_law_bag ?c_law_bag ?k_law_bag ?a_law_draw ?l_law_draw ?c_law_draw ?k_law_draw ?a_law_any ?l_law_any ?c_law_any ?k_law_any ?a_law_mixed ?l_law_mixed ?c_law_mixed ?k_law_mixed ?a_law_same ?l_law_same ?c_law_same ?k_law_same ?a_law_field ?l_law_field ?c_law_field ?k_law_field ?a_law_got ?l_law_got ?c_law_got ?k_law_got ?a_law_odd ?l_law_odd ?c_law_odd ?k_law_odd ?a_law_names ?l_law_names ?c_law_names ?k_law_names ?a_law_made_form ?l_law_made_form ?c_law_made_form ?k_law_made_form ?a_law_terms ?l_law_terms ?c_law_terms ?k_law_terms ?a_law_told_form ?l_law_told_form ?c_law_told_form ?k_law_told_form ?a_law_plain_form ?l_law_plain_form ?c_law_plain_form ?k_law_plain_form ?a_law_form_text ?l_law_form_text ?c_law_form_text ?k_law_form_text ?a_law_lengths_so ?l_law_lengths_so ?c_law_lengths_so ?k_law_lengths_so ?a_law ?l_law ?c_law ?k_law ?le_Form_init_0 ?ga_MOST_NAME ?ga_SMALL ?ga_WORDS ?gl_WORDS ?a_DialError ?a_InvalidForm ?a_InvalidNumber ?a_Missing ?a_UnknownName ?xi_InvalidForm ?xl_InvalidForm ?xd_InvalidForm ?xe_InvalidForm ?xg_InvalidForm ?r4x_InvalidForm ?r5x_InvalidForm ?xk_InvalidForm ?xs_InvalidForm ?xb_InvalidForm ?xt_InvalidForm ?xq_InvalidForm ?xf_InvalidForm ?xa_InvalidForm ?xv_InvalidForm ?xm_InvalidForm ?xy_InvalidForm ?xc_InvalidForm ?xn_InvalidForm ?xx_InvalidForm ?xi_InvalidNumber ?xl_InvalidNumber ?xd_InvalidNumber ?xe_InvalidNumber ?xg_InvalidNumber ?r4x_InvalidNumber ?r5x_InvalidNumber ?xk_InvalidNumber ?xs_InvalidNumber ?xb_InvalidNumber ?xt_InvalidNumber ?xq_InvalidNumber ?xf_InvalidNumber ?xa_InvalidNumber ?xv_InvalidNumber ?xm_InvalidNumber ?xy_InvalidNumber ?xc_InvalidNumber ?xn_InvalidNumber ?xx_InvalidNumber ?xi_UnknownName ?xl_UnknownName ?xd_UnknownName ?xe_UnknownName ?xg_UnknownName ?r4x_UnknownName ?r5x_UnknownName ?xk_UnknownName ?xs_UnknownName ?xb_UnknownName ?xt_UnknownName ?xq_UnknownName ?xf_UnknownName ?xa_UnknownName ?xv_UnknownName ?xm_UnknownName ?xy_UnknownName ?xc_UnknownName ?xn_UnknownName ?xx_UnknownName ?opq ?r4x ?ne_Form ?mo_Form ?nf_Form_Form ?nf_Form_int ?nf_Form_str ?tb_cd ?tb_ts ?tb_hd ?tb_no ?z_abs ?z_all ?z_bool ?z_dict ?z_enumerate ?z_int ?z_isinstance ?z_len ?z_list ?z_range ?z_repr ?z_sorted ?z_str ?z_super ?z_tuple ?g1_Form ?g2_Form ?g3_Form ?g4_Form ?g5_Form ?g6_Form ?na_Form_own_constant ?na_Form_own_terms ?j1_Form ?j2 ?j3 ?j4_Form ?kt_Form ?kc_Form ?ks_int_Form ?ks_str_Form
    (case a_Form => k_is)
    (case a_is_whole => k_is)
    (case l_is_whole => k_is)
    (case c_is_whole => k_is)
    (case k_is_whole => k_is)
    (case a_is_name => k_is)
    (case l_is_name => k_is)
    (case c_is_name => k_is)
    (case k_is_name => k_is)
    (case a_is_term => k_is)
    (case l_is_term => k_is)
    (case c_is_term => k_is)
    (case k_is_term => k_is)
    (case a_gathered_terms => k_is)
    (case l_gathered_terms => k_is)
    (case c_gathered_terms => k_is)
    (case k_gathered_terms => k_is)
    (case a_Form_init => k_is)
    (case i_Form_init => k_is)
    (case l_Form_init => k_is)
    (case c_Form_init => k_is)
    (case k_Form_init => k_is)
    (case ld_Form_init => k_is)
    (case sa_Form_of => k_is)
    (case sr_Form_of => k_is)
    (case sq_Form_of => kernel_rfl)
    (case sh_Form_of => rfl)
    (case crd_Form => kernel_rfl)
    (case crg_Form => k_is)
    (case l_Form_of => k_is)
    (case c_Form_of => k_is)
    (case k_Form_of => k_is)
    (case pa_Form_constant => k_is)
    (case pg_Form_constant => k_is)
    (case pt_Form_constant => k_is)
    (case pr_Form_constant => k_is)
    (case l_Form_constant => k_is)
    (case c_Form_constant => k_is)
    (case k_Form_constant => k_is)
    (case a_Form_terms => k_is)
    (case i_Form_terms => k_is)
    (case l_Form_terms => k_is)
    (case c_Form_terms => k_is)
    (case k_Form_terms => k_is)
    (case a_Form_names => k_is)
    (case i_Form_names => k_is)
    (case l_Form_names => k_is)
    (case c_Form_names => k_is)
    (case k_Form_names => k_is)
    (case a_Form_coef => k_is)
    (case i_Form_coef => k_is)
    (case l_Form_coef => k_is)
    (case c_Form_coef => k_is)
    (case k_Form_coef => k_is)
    (case a_Form_value => k_is)
    (case i_Form_value => k_is)
    (case l_Form_value => k_is)
    (case c_Form_value => k_is)
    (case k_Form_value => k_is)
    (case a_joined => k_is)
    (case l_joined => k_is)
    (case c_joined => k_is)
    (case k_joined => k_is)
    (case a_Form_text => k_is)
    (case i_Form_text => k_is)
    (case l_Form_text => k_is)
    (case c_Form_text => k_is)
    (case k_Form_text => k_is)
    (case a_Form_eq => k_is)
    (case i_Form_eq => k_is)
    (case l_Form_eq => k_is)
    (case c_Form_eq => k_is)
    (case k_Form_eq => k_is)
    (case a_Form_repr => k_is)
    (case i_Form_repr => k_is)
    (case l_Form_repr => k_is)
    (case c_Form_repr => k_is)
    (case k_Form_repr => k_is)
    (case a_law_bag => k_is)
    (case l_law_bag => k_is)
    (case c_law_bag => k_is)
    (case k_law_bag => k_is)
    (case a_law_draw => k_is)
    (case l_law_draw => k_is)
    (case c_law_draw => k_is)
    (case k_law_draw => k_is)
    (case a_law_any => k_is)
    (case l_law_any => k_is)
    (case c_law_any => k_is)
    (case k_law_any => k_is)
    (case a_law_mixed => k_is)
    (case l_law_mixed => k_is)
    (case c_law_mixed => k_is)
    (case k_law_mixed => k_is)
    (case a_law_same => k_is)
    (case l_law_same => k_is)
    (case c_law_same => k_is)
    (case k_law_same => k_is)
    (case a_law_field => k_is)
    (case l_law_field => k_is)
    (case c_law_field => k_is)
    (case k_law_field => k_is)
    (case a_law_got => k_is)
    (case l_law_got => k_is)
    (case c_law_got => k_is)
    (case k_law_got => k_is)
    (case a_law_odd => k_is)
    (case l_law_odd => k_is)
    (case c_law_odd => k_is)
    (case k_law_odd => k_is)
    (case a_law_names => k_is)
    (case l_law_names => k_is)
    (case c_law_names => k_is)
    (case k_law_names => k_is)
    (case a_law_made_form => k_is)
    (case l_law_made_form => k_is)
    (case c_law_made_form => k_is)
    (case k_law_made_form => k_is)
    (case a_law_terms => k_is)
    (case l_law_terms => k_is)
    (case c_law_terms => k_is)
    (case k_law_terms => k_is)
    (case a_law_told_form => k_is)
    (case l_law_told_form => k_is)
    (case c_law_told_form => k_is)
    (case k_law_told_form => k_is)
    (case a_law_plain_form => k_is)
    (case l_law_plain_form => k_is)
    (case c_law_plain_form => k_is)
    (case k_law_plain_form => k_is)
    (case a_law_form_text => k_is)
    (case l_law_form_text => k_is)
    (case c_law_form_text => k_is)
    (case k_law_form_text => k_is)
    (case a_law_lengths_so => k_is)
    (case l_law_lengths_so => k_is)
    (case c_law_lengths_so => k_is)
    (case k_law_lengths_so => k_is)
    (case a_law => k_is)
    (case l_law => k_is)
    (case c_law => k_is)
    (case k_law => k_is)
    (case le_Form_init_0 => k_is)
    (case ga_MOST_NAME => k_is)
    (case ga_SMALL => k_is)
    (case ga_WORDS => k_is)
    (case gl_WORDS => k_is)
    (case a_DialError => k_is)
    (case a_InvalidForm => k_is)
    (case a_InvalidNumber => k_is)
    (case a_Missing => k_is)
    (case a_UnknownName => k_is)
    (case xi_InvalidForm => k_is)
    (case xl_InvalidForm => k_is)
    (case xd_InvalidForm => k_is)
    (case xe_InvalidForm => k_is)
    (case xg_InvalidForm => k_is)
    (case r4x_InvalidForm => rfl)
    (case r5x_InvalidForm => decide +kernel)
    (case xk_InvalidForm => exact ⟨_, _, _, _, _, _, _, _, _, _, _, _, _, _, _, by k_is, by decide +kernel⟩)
    (case xs_InvalidForm => k_is)
    (case xb_InvalidForm => k_is)
    (case xt_InvalidForm => k_is)
    (case xq_InvalidForm => k_is)
    (case xf_InvalidForm => kernel_rfl)
    (case xa_InvalidForm => kernel_rfl)
    (case xv_InvalidForm => k_is)
    (case xm_InvalidForm => k_is)
    (case xy_InvalidForm => k_is)
    (case xc_InvalidForm => k_is)
    (case xn_InvalidForm => k_is)
    (case xx_InvalidForm => kernel_rfl)
    (case xi_InvalidNumber => k_is)
    (case xl_InvalidNumber => k_is)
    (case xd_InvalidNumber => k_is)
    (case xe_InvalidNumber => k_is)
    (case xg_InvalidNumber => k_is)
    (case r4x_InvalidNumber => rfl)
    (case r5x_InvalidNumber => decide +kernel)
    (case xk_InvalidNumber => exact ⟨_, _, _, _, _, _, _, _, _, _, _, _, _, _, _, by k_is, by decide +kernel⟩)
    (case xs_InvalidNumber => k_is)
    (case xb_InvalidNumber => k_is)
    (case xt_InvalidNumber => k_is)
    (case xq_InvalidNumber => k_is)
    (case xf_InvalidNumber => kernel_rfl)
    (case xa_InvalidNumber => kernel_rfl)
    (case xv_InvalidNumber => k_is)
    (case xm_InvalidNumber => k_is)
    (case xy_InvalidNumber => k_is)
    (case xc_InvalidNumber => k_is)
    (case xn_InvalidNumber => k_is)
    (case xx_InvalidNumber => kernel_rfl)
    (case xi_UnknownName => k_is)
    (case xl_UnknownName => k_is)
    (case xd_UnknownName => k_is)
    (case xe_UnknownName => k_is)
    (case xg_UnknownName => k_is)
    (case r4x_UnknownName => rfl)
    (case r5x_UnknownName => decide +kernel)
    (case xk_UnknownName => exact ⟨_, _, _, _, _, _, _, _, _, _, _, _, _, _, _, by k_is, by decide +kernel⟩)
    (case xs_UnknownName => k_is)
    (case xb_UnknownName => k_is)
    (case xt_UnknownName => k_is)
    (case xq_UnknownName => k_is)
    (case xf_UnknownName => kernel_rfl)
    (case xa_UnknownName => kernel_rfl)
    (case xv_UnknownName => k_is)
    (case xm_UnknownName => k_is)
    (case xy_UnknownName => k_is)
    (case xc_UnknownName => k_is)
    (case xn_UnknownName => k_is)
    (case xx_UnknownName => kernel_rfl)
    (case opq => k_is)
    (case r4x => decide +kernel)
    (case ne_Form => k_is)
    (case mo_Form => k_is)
    (case nf_Form_Form => k_is)
    (case nf_Form_int => k_is)
    (case nf_Form_str => k_is)
    (case tb_cd => rfl)
    (case tb_ts => exact List.Mem.head _)
    (case tb_hd => kernel_rfl)
    (case tb_no => kernel_rfl)
    (case z_abs => k_is)
    (case z_all => k_is)
    (case z_bool => k_is)
    (case z_dict => k_is)
    (case z_enumerate => k_is)
    (case z_int => k_is)
    (case z_isinstance => k_is)
    (case z_len => k_is)
    (case z_list => k_is)
    (case z_range => k_is)
    (case z_repr => k_is)
    (case z_sorted => k_is)
    (case z_str => k_is)
    (case z_super => k_is)
    (case z_tuple => k_is)
    (case g1_Form => k_is)
    (case g2_Form => k_is)
    (case g3_Form => k_is)
    (case g4_Form => k_is)
    (case g5_Form => k_is)
    (case g6_Form => k_is)
    (case na_Form_own_constant => k_is)
    (case na_Form_own_terms => k_is)
    (case j1_Form => k_is)
    (case j2 => k_is)
    (case j3 => k_is)
    (case j4_Form => k_is)
    (case kt_Form => k_is)
    (case kc_Form => k_is)
    (case ks_int_Form => k_is)
    (case ks_str_Form => k_is)

