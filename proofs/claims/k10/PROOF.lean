import PyProof.Rows.All
import Wide.All
import OpenK.AllK
import Wide.FinOn
import HandS.ForMost
import HandS.Evl
import HandS.Wide
import HandS.Style
import HandS.Star
import HandS.Property
import HandS.SlotsOwn
import HandS.IsInst
import HandS.FStr
import HandS.Codes
import KE.GoesEnum
import KE.KOpsOwn
import HandS.Text
import PyProof.StrLawsRepr
import HandS.Exc
import HandS.ExcInit
import HandS.Nested
import KE.KExcSuper
import HandS.Lambda
import HandS.ExcValue
import HandS.WordsExc
import KE.KTryMore
import HandS.ExcField
import HandS.HotCalls
import HandS.EndOwn
import HandS.Small
import HandS.Records
import HandS.More
import PyProof.Rows.Range3
import PyProof.InstNe
import PyProof.TwoTypes
import HandS.Dict
import HandS.WordsDict
import HandS.Iter
import HandS.DictComp
import HandS.ClsMeth
import HandS.MakeKw
import PyProof.ExcFactsAll.LookupError
import PyProof.ExcFactsAll.IndexError
import HandS.ExcIs
import KE.KExcIs
import PyProof.ExcClass
import HandS.MapJoin
import HandS.Gcd
import KE.DataAny
import KE.KCallOwn
import KE.KDictZip
import HandS.OwnEq
import HandS.SortInts
import KE.SortKeyHeap
import KE.SortData
import KE.KSortKey
import HandS.SortKw
import KE.KDictKeyed
import KE.SortCalls
import KE.KSortTup
import HandS.ReCall
import HandS.Zip
import KE.KIndexOf
import HandS.GenOver
import PyProof.GenRules
import PyProof.ForAny
import HandS.GenBody
import PyProof.GenQ
import HandS.GenList
import KE.OsRunLaw
import HandS.Conv
import HandS.ListItems
import HandS.Zip0
import HandS.SetTxt0
import HandS.Strs
import HandS.SetFor
import HandS.TupAny
import PyProof.ReprRoads
import HandS.TryOnly
import PyProof.CollectStr
import KE.IntTextLaws
import PyProof.NeKinds
import HandS.SuiteRaise
import HandS.RaiseFrom
import HandS.NestedHot
import HandS.ExcInitHot
import PyProof.StrOps2
import PySem.Challenge.RW_anydial_k10_rows_refused
set_option Elab.async false
set_option linter.all false
set_option maxRecDepth 100000
set_option maxHeartbeats 4000000
set_option exponentiation.threshold 2000
namespace Mi
open PySem L2 Evl
structure Er where
  cls : String
  vals : List PyData
def W (α : Type) : Type := (α → Prop) → (Er → Prop) → Prop
def ret {α : Type} (x : α) : W α := fun P _ => P x
def bnd {α β : Type} (m : W α) (f : α → W β) : W β := fun P E => m (fun x => f x P E) E
def fail {α : Type} : W α := fun _ _ => False
def thr {α : Type} (e : Er) : W α := fun _ E => E e
/-- go on only if c holds -/
def chk (c : Prop) {α : Type} (w : W α) : W α := fun P E => c ∧ w P E
/-- what is raised is not wanted -/
def noX {α : Type} (m : W α) : W α := fun P _ => m P fun _ => False
@[simp] theorem noX_ret {α : Type} (x : α) : noX (ret x) = ret x := rfl
@[simp] theorem noX_chk {α : Type} (c : Prop) (m : W α) : noX (chk c m) = chk c (noX m) := rfl
@[simp] theorem noX_noX {α : Type} (m : W α) : noX (noX m) = noX m := rfl
@[simp] theorem noX_bnd {α β : Type} (m : W α) (f : α → W β) : noX (bnd m f) = bnd (noX m) fun x => noX (f x) := rfl
@[simp] theorem noX_fail {α : Type} : noX (fail : W α) = fail := rfl
@[simp] theorem bnd_ret {α β : Type} (x : α) (f : α → W β) : bnd (ret x) f = f x := rfl
@[simp] theorem ret_bnd {α : Type} (m : W α) : bnd m ret = m := rfl
@[simp] theorem bnd_bnd {α β γ : Type} (m : W α) (f : α → W β) (g : β → W γ) : bnd (bnd m f) g = bnd m fun x => bnd (f x) g := rfl
@[simp] theorem bnd_fail {α β : Type} (f : α → W β) : bnd (fail : W α) f = fail := rfl
@[simp] theorem bnd_thr {α β : Type} (e : Er) (f : α → W β) : bnd (thr e : W α) f = thr e := rfl
@[simp] theorem chk_bnd {c : Prop} {α β : Type} (w : W α) (f : α → W β) : bnd (chk c w) f = chk c (bnd w f) := rfl
@[simp] theorem ite_bnd {c : Prop} [Decidable c] {α β : Type} (w1 w2 : W α) (f : α → W β) : bnd (if c then w1 else w2) f = if c then bnd w1 f else bnd w2 f := by
  by_cases h : c
  · rw [if_pos h, if_pos h]
  · rw [if_neg h, if_neg h]
def mapW {α β : Type} (f : α → W β) : List α → W (List β)
  | [] => ret []
  | x :: xs => bnd (f x) fun y => bnd (mapW f xs) fun ys => ret (y :: ys)
def filtW {α β : Type} (c : α → W Bool) (f : α → W β) : List α → W (List β)
  | [] => ret []
  | x :: xs => bnd (c x) fun b => if b = true then bnd (f x) fun y => bnd (filtW c f xs) fun ys => ret (y :: ys) else filtW c f xs
/-- a loop that is never left early -/
def forW {α S : Type} (f : S → α → W S) : S → List α → W S
  | s, [] => ret s
  | s, x :: xs => bnd (f s x) fun s' => forW f s' xs
/-- how a block ends -/
inductive Fl (S ρ : Type) where
  | nx (s : S) | rt (x : ρ) | bk (s : S) | ct (s : S)
/-- behind a turn -/
def flGo {S ρ : Type} (k : S → W (Fl S ρ)) : Fl S ρ → W (Fl S ρ)
  | .nx s => k s
  | .ct s => k s
  | .bk s => ret (.nx s)
  | .rt z => ret (.rt z)
/-- a loop that may be left: by return (.rt), by break or at its end (.nx) -/
def forF {α S ρ : Type} (f : S → α → W (Fl S ρ)) : S → List α → W (Fl S ρ)
  | s, [] => ret (.nx s)
  | s, x :: xs => bnd (f s x) (flGo fun s' => forF f s' xs)
structure Rp (α : Type) where
  ok : Hp → V → α → Prop
  mono : ∀ {F F' : Hp} {v : V} {x : α}, Ex F F' → ok F v x → ok F' v x
def rInt : Rp Int := ⟨fun _ v x => v = .int x, fun _ h => h⟩
def rBool : Rp Bool := ⟨fun _ v x => v = .bl x, fun _ h => h⟩
def rStr : Rp Str := ⟨fun _ v x => v = .str x ∧ x.length ≤ sizeLine ∧ PyData.strOk x = true, fun _ h => h⟩
def rNon : Rp Unit := ⟨fun _ v _ => v = .non, fun _ h => h⟩
def rAdr (a : Addr) : Rp Unit := ⟨fun _ v _ => v = .ref a, fun _ h => h⟩
theorem Paired.imp {α β : Type} {R S : α → β → Prop} : ∀ {l : List α} {m : List β}, (∀ a b, R a b → S a b) → Paired R l m → Paired S l m
  | _, _, _, .nil => .nil
  | _, _, f, .cons r t => .cons (f _ _ r) (Paired.imp f t)
def rLst {α : Type} (r : Rp α) : Rp (List α) :=
  ⟨fun F v xs => ∃ a vs, v = .ref a ∧ F a = some (.lst vs) ∧ vs.length ≤ sizeLine ∧ Paired (r.ok F) vs xs, fun e ⟨a, vs, h1, h2, h3, h4⟩ => ⟨a, vs, h1, e _ _ h2, h3, Paired.imp (fun _ _ => r.mono e) h4⟩⟩
/-- a tuple of things of one kind -/
def rTup (K : PySem.W.Frag) {α : Type} (r : Rp α) : Rp (List α) :=
  ⟨fun F v xs => ∃ a vs, v = .ref a ∧ SqT K F a vs ∧ vs.length ≤ sizeLine ∧ Paired (r.ok F) vs xs, fun e ⟨a, vs, h1, h2, h3, h4⟩ => ⟨a, vs, h1, ex_t e h2, h3, Paired.imp (fun _ _ => r.mono e) h4⟩⟩
/-- a pair, a triple as a tuple -/
def rT2 (K : PySem.W.Frag) {α β : Type} (r : Rp α) (s : Rp β) : Rp (α × β) :=
  ⟨fun F v x => ∃ a v1 v2, v = .ref a ∧ SqT K F a [v1, v2] ∧ r.ok F v1 x.1 ∧ s.ok F v2 x.2, fun e ⟨a, v1, v2, h1, h2, h3, h4⟩ => ⟨a, v1, v2, h1, ex_t e h2, r.mono e h3, s.mono e h4⟩⟩
def rT3 (K : PySem.W.Frag) {α β γ : Type} (r : Rp α) (s : Rp β) (t : Rp γ) : Rp (α × β × γ) :=
  ⟨fun F v x => ∃ a v1 v2 v3, v = .ref a ∧ SqT K F a [v1, v2, v3] ∧ r.ok F v1 x.1 ∧ s.ok F v2 x.2.1 ∧ t.ok F v3 x.2.2, fun e ⟨a, v1, v2, v3, h1, h2, h3, h4, h5⟩ => ⟨a, v1, v2, v3, h1, ex_t e h2, r.mono e h3, s.mono e h4, t.mono e h5⟩⟩
def rOpt {α : Type} (r : Rp α) : Rp (Option α) :=
  ⟨fun F v x => match x with | none => v = .non | some y => v ≠ .non ∧ r.ok F v y, fun {F F' v x} e h => by
    cases x with
    | none => exact h
    | some y => exact ⟨h.1, r.mono e h.2⟩⟩
/-- data of any kind -/
def rD (K : PySem.W.Frag) : Rp PyData := ⟨fun F v d => Dp K F v d ∧ d.canLay0 = true ∧ d.depth ≤ 30, fun e ⟨h, hc⟩ => ⟨by
  refine (show ∀ {v d}, Dp K _ v d → Dp K _ v d from ?_) h
  intro v d h
  refine Dp.rec (K := K) (H := _) (motive_1 := fun v d _ => Dp K _ v d) (motive_2 := fun vs ds _ => DpAll K _ vs ds) .non .bl .int .str (fun h1 _ ih => .lst (ex_l e h1) ih) (fun h1 _ ih => .tup (ex_t e h1) ih) .nil (fun _ _ i1 i2 => .cons i1 i2) h, hc⟩⟩
end Mi
namespace Mi
open PySem L2 Evl
structure Slot where
  ok : Hp → Option V → Prop
  mono : ∀ {F F' : Hp} {v : Option V}, Ex F F' → ok F v → ok F' v
def sv {α : Type} (r : Rp α) (x : α) : Slot := ⟨fun F ov => ∃ v, ov = some v ∧ r.ok F v x, fun e ⟨v, h1, h2⟩ => ⟨v, h1, r.mono e h2⟩⟩
/-- anything, or nothing -/
def sa : Slot := ⟨fun _ _ => True, fun _ _ => trivial⟩
structure Own where
  ok : Hp → HO → Prop
  mono : ∀ {F F' : Hp} {o : HO}, Ex F F' → ok F o → ok F' o
def oLst {α : Type} (r : Rp α) (xs : List α) : Own := ⟨fun F o => ∃ vs, o = .lst vs ∧ vs.length ≤ sizeLine ∧ Paired (r.ok F) vs xs, fun e ⟨vs, h1, h2, h3⟩ => ⟨vs, h1, h2, Paired.imp (fun _ _ => r.mono e) h3⟩⟩
/-- the base: the heap at the def's entry (F: what never changes of it), the objects handed in to be changed, what is allowed of errors -/
structure Bs where
  F : Hp
  H : Hp
  M : Hp
  io : List Addr
  E0 : Er → Prop
/-- a mark within a body: what a loop's source leans on -/
abbrev Bs.at (B : Bs) (M : Hp) : Bs := { B with M := M }
structure Fn (B : Bs) (F H : Hp) : Prop where
  fh : Ex F H
  bf : Ex B.F F
  mrk : Ex B.M F
  bb : Ex B.F B.H
  ios : ∀ a ∈ B.io, ∃ o, H a = some o
  keep : ∀ a o, B.F a = none → B.H a = some o → a ∉ B.io → H a = some o ∧ F a = none
abbrev Env := List Slot
abbrev Os := List (Addr × Own)
def EnvOk (F : Hp) (env : Env) (σ : L2.St) : Prop := Paired (fun (s : Slot) (ov : Option V) => s.ok F ov) env σ
structure Sit (B : Bs) (F H : Hp) (σ : L2.St) (env : Env) (os : Os) : Prop where
  fin : Fn B F H
  env : EnvOk F env σ
  ow : ∀ p ∈ os, F p.1 = none ∧ (∃ o, H p.1 = some o ∧ p.2.ok F o) ∧ (B.H p.1 = none ∨ p.1 ∈ B.io)
  nd : (os.map (·.1)).Nodup
theorem EnvOk.mono {F F' : Hp} {env : Env} {σ : L2.St} (e : Ex F F') (h : EnvOk F env σ) : EnvOk F' env σ := Paired.imp (fun s _ => s.mono e) h
theorem EnvOk.get {F : Hp} : ∀ {env : Env} {σ : L2.St} {i : Nat} {s : Slot}, EnvOk F env σ → env[i]? = some s → ∃ ov, σ[i]? = some ov ∧ s.ok F ov
  | _, _, i, s, .nil, h => by simp at h
  | _, _, 0, s, .cons r t, h => by
    simp at h
    subst h
    exact ⟨_, rfl, r⟩
  | _, _, i + 1, s, .cons r t, h => by
    obtain ⟨ov, h1, h2⟩ := EnvOk.get (i := i) t (by simpa using h)
    exact ⟨ov, by simpa using h1, h2⟩
theorem EnvOk.set {F : Hp} {s : Slot} {ov : Option V} (r : s.ok F ov) : ∀ {env : Env} {σ : L2.St} {i : Nat}, EnvOk F env σ → EnvOk F (env.set i s) (σ.set i ov)
  | _, _, _, .nil => .nil
  | _, _, 0, .cons _ t => .cons r t
  | _, _, i + 1, .cons q t => .cons q (EnvOk.set r (i := i) t)
theorem EnvOk.len {F : Hp} {env : Env} {σ : L2.St} (h : EnvOk F env σ) : env.length = σ.length := Paired.length h
structure Grow (F H F' H' : Hp) : Prop where
  f : Ex F F'
  h : Ex H H'
  new : ∀ a, H a = none → F' a = H' a
  old : ∀ a o, H a = some o → F' a = F a
theorem Grow.refl {F H : Hp} (fh : Ex F H) : Grow F H F H := by
  refine ⟨Ex.refl F, Ex.refl H, fun a h => ?_, fun _ _ _ => rfl⟩
  rw [h]
  exact fresh_back fh h
theorem Grow.trans {F H F1 H1 F2 H2 : Hp} (a : Grow F H F1 H1) (b : Grow F1 H1 F2 H2) : Grow F H F2 H2 := by
  refine ⟨a.f.trans b.f, a.h.trans b.h, fun p hp => ?_, fun p o hp => ?_⟩
  · cases e : H1 p with
    | none => exact b.new p e
    | some o =>
      have e2 : F1 p = some o := (a.new p hp).trans e
      rw [b.f p o e2, b.h p o e]
  · rw [b.old p o (a.h p o hp), a.old p o hp]
theorem Grow.fh {F H F' H' : Hp} (g : Grow F H F' H') (fh : Ex F H) : Ex F' H' := fun a o h => by
  cases e : H a with
  | none => exact (g.new a e).symm.trans h
  | some u =>
    have z := (g.old a u e).symm.trans h
    exact g.h a o (fh a o z)
theorem Grow.alloc {F H : Hp} {p : Addr} {o : HO} (fh : Ex F H) (hp : H p = none) : Grow F H (upd F p o) (upd H p o) := by
  have fp : F p = none := fresh_back fh hp
  refine ⟨Ex.new fp, Ex.new hp, fun a ha => ?_, fun a u ha => ?_⟩
  · by_cases e : a = p
    · rw [e, upd_same, upd_same]
    · rw [upd_ne e, upd_ne e, ha]
      exact fresh_back fh ha
  · have e : a ≠ p := ne_of_none ha hp
    rw [upd_ne e]
section
variable {B : Bs} {F H F' H' : Hp} {σ : L2.St} {env : Env} {os : Os}
theorem Fn.grow (s : Fn B F H) (g : Grow F H F' H') : Fn B F' H' :=
  ⟨g.fh s.fh, s.bf.trans g.f, s.mrk.trans g.f, s.bb, fun a ha => let ⟨o, h⟩ := s.ios a ha; ⟨o, g.h a o h⟩, fun a o h1 h2 h3 => by
    obtain ⟨k1, k2⟩ := s.keep a o h1 h2 h3
    exact ⟨g.h a o k1, (g.old a o k1).trans k2⟩⟩
theorem Sit.grow (s : Sit B F H σ env os) (g : Grow F H F' H') : Sit B F' H' σ env os :=
  ⟨s.fin.grow g, s.env.mono g.f, fun p hp => by
    obtain ⟨h1, ⟨o, h2, h3⟩, h4⟩ := s.ow p hp
    exact ⟨(g.old _ o h2).trans h1, ⟨o, g.h _ _ h2, p.2.mono g.f h3⟩, h4⟩, s.nd⟩
theorem Sit.fh (s : Sit B F H σ env os) : Ex F H := s.fin.fh
theorem Sit.store {i : Nat} {sl : Slot} {v : V} (s : Sit B F H σ env os) (r : sl.ok F (some v)) : Sit B F H (σ.set i (some v)) (env.set i sl) os := ⟨s.fin, s.env.set r, s.ow, s.nd⟩
end
def tOf (B : Bs) (env : Env) (os : Os) {α : Type} (r : Rp α) (w : W α) : TE := fun σ H Q => ∃ F P, Sit B F H σ env os ∧ w P B.E0 ∧ ∀ x, P x → ∀ v F' H', Sit B F' H' σ env os → Ex F F' → r.ok F' v x → Q v H'
def EE (X : Cx) (B : Bs) (env : Env) (os : Os) (e : Expr) {α : Type} (r : Rp α) (w : W α) : Prop := PE X e (tOf B env os r w)
theorem PE.imp {X : Cx} {e : Expr} {t t' : TE} (h : PE X e t) (i : ∀ σ H Q, t' σ H Q → t σ H Q) : PE X e t' := ⟨fun pins s σ H Q I q => h.run pins s σ H Q I (i _ _ _ q)⟩
theorem PE.ex {X : Cx} {e : Expr} {ι : Type} {t : ι → TE} (h : ∀ i, PE X e (t i)) : PE X e (fun σ H Q => ∃ i, t i σ H Q) := ⟨fun pins s σ H Q I ⟨i, q⟩ => (h i).run pins s σ H Q I q⟩
section
variable {X : Cx} {B : Bs} {env : Env} {os : Os} {pos : Pos} {α β γ : Type} {r : Rp α} {s : Rp β} {t : Rp γ} {e a b : Expr}
theorem e_conv {w w' : W α} (h : EE X B env os e r w) (q : w' = w) : EE X B env os e r w' := q ▸ h
theorem e_name (i : Nat) {x : Str} {y : α} (he : env[i]? = some (sv r y) := by rfl) (hN : X.N[i]? = some x := by rfl) (hv : Vis X.env.scope x := by first | exact Or.inl rfl | exact Or.inr (Or.inl rfl) | exact Or.inr (Or.inr rfl))
    (hd : (x == ("__debug__" : Str)) = false := by decide) (hcd : (x == ("__classdict__" : Str)) = false := by decide) : EE X B env os (.Name x pos) r (ret y) :=
  PE.imp (pe_var hN hv hd hcd) fun σ H Q ⟨F, P, S, hw, k⟩ => by
    obtain ⟨ov, h1, v, h2, h3⟩ := S.env.get he
    subst h2
    exact ⟨v, h1, k y hw v F H S (Ex.refl F) h3⟩
theorem tc_of {v : V} {y : α} (h : ∀ F, r.ok F v y) {σ : L2.St} {H : Hp} {Q : VK} (q : tOf B env os r (ret y) σ H Q) : tC v σ H Q := by
  obtain ⟨F, P, S, hw, k⟩ := q
  exact k y hw v F H S (Ex.refl F) (h F)
theorem e_int {i : Int} {j} : EE X B env os (.Constant (.int i) j pos) rInt (ret i) := PE.imp pe_int fun _ _ _ q => tc_of (r := rInt) (fun _ => rfl) q
theorem e_bl {b : Bool} {j} : EE X B env os (.Constant (.bool b) j pos) rBool (ret b) := PE.imp pe_bl fun _ _ _ q => tc_of (r := rBool) (fun _ => rfl) q
theorem e_non {j} : EE X B env os (.Constant .none j pos) rNon (ret ()) := PE.imp pe_non fun _ _ _ q => tc_of (r := rNon) (fun _ => rfl) q
theorem e_str {x : Str} {j} (h : x.length ≤ sizeLine := by decide +kernel) (h2 : PyData.strOk x = true := by decide +kernel) : EE X B env os (.Constant (.str x) j pos) rStr (ret x) := PE.imp pe_str fun _ _ _ q => tc_of (r := rStr) (fun _ => ⟨rfl, h, h2⟩) q
/-- what a two-place operation on values is worth -/
def R2T (q : R2) (r : Rp α) (s : Rp β) (t : Rp γ) (f : α → β → W γ) : Prop := ∀ (F H : Hp) (v u : V) (x : α) (y : β) (P : γ → Prop) (E : Er → Prop) (Q : VK), Ex F H → r.ok F v x → s.ok F u y → f x y P E →
  (∀ z, P z → ∀ v' F' H', Grow F H F' H' → t.ok F' v' z → Q v' H') → q v u H Q
theorem two {q : R2} {f : α → β → W γ} {w1 : W α} {w2 : α → W β} (sem : R2T q r s t f) {σ : L2.St} {H : Hp} {Q : VK}
    (h : tOf B env os t (bnd w1 fun x => bnd (w2 x) fun y => f x y) σ H Q) : tOp q (tOf B env os r w1) (fun σ H Q => ∃ x, tOf B env os s (w2 x) σ H Q) σ H Q := by
  obtain ⟨F, P, S, hw, k⟩ := h
  refine ⟨F, _, S, hw, fun x hx v F1 H1 S1 e1 ok1 => ⟨x, F1, _, S1, hx, fun y hy u F2 H2 S2 e2 ok2 => ?_⟩⟩
  exact sem F2 H2 v u x y P B.E0 Q S2.fh (r.mono e2 ok1) ok2 hy fun z hz v' F3 H3 g ok3 => k z hz v' F3 H3 (S2.grow g) ((e1.trans e2).trans g.f) ok3
theorem e_op {op : Operator} {q : R2} {f : α → β → W γ} {w1 : W α} {w2 : α → W β} (ho : OpR X (binaryOp op) q) (sem : R2T q r s t f) (ha : EE X B env os a r w1) (hb : ∀ x, EE X B env os b s (w2 x)) :
    EE X B env os (.BinOp a op b pos) t (bnd w1 fun x => bnd (w2 x) fun y => f x y) := PE.imp (pe_op ho ha (PE.ex hb)) fun _ _ _ h => two sem h
theorem e_cmp {op : CmpOp} {q : R2} {f : α → β → W γ} {w1 : W α} {w2 : α → W β} (ho : OpR X (compareOp op) q) (sem : R2T q r s t f) (hm : behindInMarks op b = false) (ha : EE X B env os a r w1) (hb : ∀ x, EE X B env os b s (w2 x)) :
    EE X B env os (.Compare a [op] [b] pos) t (bnd w1 fun x => bnd (w2 x) fun y => f x y) := PE.imp (pe_cmpR ho ha (PE.ex hb) hm) fun _ _ _ h => two sem h
theorem e_ix {q : R2} {f : α → β → W γ} {w1 : W α} {w2 : α → W β} (hr : IxR X q) (sem : R2T q r s t f) (hs : PlainIx b) (ha : EE X B env os a r w1) (hb : ∀ x, EE X B env os b s (w2 x)) :
    EE X B env os (.Subscript a b pos) t (bnd w1 fun x => bnd (w2 x) fun y => f x y) := PE.imp (pe_ix hr ha (PE.ex hb) hs) fun _ _ _ h => two sem h
def R1T (q : V → Hp → VK → Prop) (r : Rp α) (t : Rp γ) (f : α → W γ) : Prop := ∀ (F H : Hp) (v : V) (x : α) (P : γ → Prop) (E : Er → Prop) (Q : VK), Ex F H → r.ok F v x → f x P E → (∀ z, P z → ∀ v' F' H', Grow F H F' H' → t.ok F' v' z → Q v' H') → q v H Q
theorem e_un {op : UnaryOp} {q : V → Hp → VK → Prop} {f : α → W γ} {w1 : W α} (ho : UnR X (unaryOp op) q) (sem : R1T q r t f) (ha : EE X B env os a r w1) : EE X B env os (.UnaryOp op a pos) t (bnd w1 f) :=
  PE.imp (pe_un ho ha) fun σ H Q ⟨F, P, S, hw, k⟩ => ⟨F, _, S, hw, fun x hx v F1 H1 S1 e1 ok1 => sem F1 H1 v x P B.E0 Q S1.fh ok1 hx fun z hz v' F3 H3 g ok3 => k z hz v' F3 H3 (S1.grow g) (e1.trans g.f) ok3⟩
end
section
variable {X : Cx} {B : Bs} {env : Env} {os : Os} {pos : Pos} {a b : Expr} {w1 : W Int} {w2 : Int → W Int}
theorem r2i {γ : Type} {t : Rp γ} {g : Int → Int → V} {f : Int → Int → γ} (h : ∀ F i j, t.ok F (g i j) (f i j)) : R2T (rI0 g) rInt rInt t fun i j => ret (f i j) := fun F H v u x y P E Q fh e1 e2 hw k =>
  ⟨x, y, e1, e2, k _ hw _ F H (Grow.refl fh) (h F x y)⟩
theorem r2c {γ : Type} {t : Rp γ} {C : Int → Int → Prop} {g : Int → Int → V} {f : Int → Int → γ} (h : ∀ F i j, t.ok F (g i j) (f i j)) : R2T (rI C g) rInt rInt t fun i j => chk (C i j) (ret (f i j)) := fun F H v u x y P E Q fh e1 e2 ⟨hc, hw⟩ k =>
  ⟨x, y, e1, e2, hc, k _ hw _ F H (Grow.refl fh) (h F x y)⟩
theorem e_add (ha : EE X B env os a rInt w1) (hb : ∀ x, EE X B env os b rInt (w2 x)) : EE X B env os (.BinOp a .Add b pos) rInt (bnd w1 fun x => bnd (w2 x) fun y => ret (x + y)) := e_op op_add (r2i fun _ _ _ => rfl) ha hb
theorem e_sub (ha : EE X B env os a rInt w1) (hb : ∀ x, EE X B env os b rInt (w2 x)) : EE X B env os (.BinOp a .Sub b pos) rInt (bnd w1 fun x => bnd (w2 x) fun y => ret (x - y)) := e_op op_sub (r2i fun _ _ _ => rfl) ha hb
/-- of any size, together below a million bits -/
theorem op_mulG : OpR X (binaryOp .Mult) (rI IntMulOk fun i j => .int (i * j)) := opI fun _ _ _ _ _ _ _ hc q => PyProof.Rows.mul_int q hc
def mulI (x y : Int) : W Int := chk (IntMulOk x y) (ret (x * y))
theorem e_mul (ha : EE X B env os a rInt w1) (hb : ∀ x, EE X B env os b rInt (w2 x)) : EE X B env os (.BinOp a .Mult b pos) rInt (bnd w1 fun x => bnd (w2 x) fun y => mulI x y) := e_op op_mulG (r2c fun _ _ _ => rfl) ha hb
def CDivG (_ j : Int) : Prop := j ≠ 0 ∧ j.natAbs.log2 < 9000
theorem op_fdivG : OpR X (binaryOp .FloorDiv) (rI CDivG fun i j => .int (i.fdiv j)) := opI fun i j _ _ _ _ _ hc q => PyProof.Rows.floordiv_int hc.1 q (.inl (PyProof.noPylong_of_log2 hc.2))
def divI (x y : Int) : W Int := chk (CDivG x y) (ret (x.fdiv y))
theorem e_div (ha : EE X B env os a rInt w1) (hb : ∀ x, EE X B env os b rInt (w2 x)) : EE X B env os (.BinOp a .FloorDiv b pos) rInt (bnd w1 fun x => bnd (w2 x) fun y => divI x y) := e_op op_fdivG (r2c fun _ _ _ => rfl) ha hb
def modI (x y : Int) : W Int := chk (y ≠ 0) (ret (x.fmod y))
theorem e_mod (ha : EE X B env os a rInt w1) (hb : ∀ x, EE X B env os b rInt (w2 x)) : EE X B env os (.BinOp a .Mod b pos) rInt (bnd w1 fun x => bnd (w2 x) fun y => modI x y) := e_op op_modN (r2c fun _ _ _ => rfl) ha hb
def powI (x y : Int) : W Int := chk (CPow x y) (ret (x ^ y.toNat))
theorem e_pow (ha : EE X B env os a rInt w1) (hb : ∀ x, EE X B env os b rInt (w2 x)) : EE X B env os (.BinOp a .Pow b pos) rInt (bnd w1 fun x => bnd (w2 x) fun y => powI x y) := e_op op_pow (r2c fun _ _ _ => rfl) ha hb
theorem e_neg (ha : EE X B env os a rInt w1) : EE X B env os (.UnaryOp .USub a pos) rInt (bnd w1 fun x => ret (-x)) := e_un un_neg (fun F H v x P E Q fh e1 hw k => ⟨x, e1, k _ hw _ F H (Grow.refl fh) rfl⟩) ha
end
end Mi
namespace Mi
open PySem L2 Evl
def tOfT (B : Bs) (env : Env) (os : Os) (w : W Bool) : TT := fun σ H Q => ∃ F P, Sit B F H σ env os ∧ w P B.E0 ∧ ∀ b, P b → ∀ F' H', Sit B F' H' σ env os → Ex F F' → Q b H'
def ET (X : Cx) (B : Bs) (env : Env) (os : Os) (e : Expr) (w : W Bool) : Prop := PT X e (tOfT B env os w)
def EW (X : Cx) (B : Bs) (env : Env) (os : Os) (e : Expr) (w : W Bool) : Prop := PW X e (tOfT B env os w)
theorem PT.imp {X : Cx} {e : Expr} {t t' : TT} (h : PT X e t) (i : ∀ σ H Q, t' σ H Q → t σ H Q) : PT X e t' := ⟨fun pins s σ H Q I q => h.run pins s σ H Q I (i _ _ _ q)⟩
theorem PW.imp {X : Cx} {e : Expr} {t t' : TT} (h : PW X e t) (i : ∀ σ H Q, t' σ H Q → t σ H Q) : PW X e t' := ⟨fun wh pins s σ H Q I q => h.run wh pins s σ H Q I (i _ _ _ q)⟩
section
variable {X : Cx} {B : Bs} {env : Env} {os : Os} {pos : Pos} {α β γ : Type} {r : Rp α} {s : Rp β} {t : Rp γ} {e a b c : Expr} {rest : List Expr} {w1 w2 w3 : W Bool}
theorem t_cmp {op : CmpOp} {q : R2} {f : α → β → W Bool} {w1 : W α} {w2 : α → W β} (ho : OpR X (compareOp op) q) (sem : R2T q r s rBool f) (hm : behindInMarks op b = false) (ha : EE X B env os a r w1) (hb : ∀ x, EE X B env os b s (w2 x)) :
    ET X B env os (.Compare a [op] [b] pos) (bnd w1 fun x => bnd (w2 x) fun y => f x y) := PT.imp (pt_cmpR ho ha (PE.ex hb) hm) fun σ H Q ⟨F, P, S, hw, k⟩ =>
  two (t := rBool) sem ⟨F, P, S, hw, fun z hz v F' H' S' e' ok => ⟨z, ok, k z hz F' H' S' e'⟩⟩
/-- the value is True or False -/
theorem t_val {w : W Bool} (h : EE X B env os e rBool w) (he : ∀ whole, isTrue e X.env whole = (do let v ← whole; standAt e.pos; holding [v] (truthy v)) := by intro _; rfl) : ET X B env os e w :=
  PT.imp (pt_val h he) fun σ H Q ⟨F, P, S, hw, k⟩ => ⟨F, P, S, hw, fun z hz v F' H' S' e' ok => ⟨z, ok, k z hz F' H' S' e'⟩⟩
theorem t_not {w : W Bool} (h : ET X B env os e w) : ET X B env os (.UnaryOp .Not e pos) (bnd w fun b => ret (!b)) := PT.imp (pt_not h) fun σ H Q ⟨F, P, S, hw, k⟩ => ⟨F, _, S, hw, fun b hb => k (!b) hb⟩
theorem t_pw {w : W Bool} (h : EW X B env os e w) : ET X B env os e w := PW.pt h
theorem w_and1 {w : W Bool} (h : ET X B env os a w) : EW X B env os (.BoolOp .And [a] pos) w := pw_and1 h
theorem w_or1 {w : W Bool} (h : ET X B env os a w) : EW X B env os (.BoolOp .Or [a] pos) w := pw_or1 h
theorem w_and (ha : ET X B env os a w1) (hb : EW X B env os (.BoolOp .And (b :: rest) pos) w2) : EW X B env os (.BoolOp .And (a :: b :: rest) pos) (bnd w1 fun x => if x = true then w2 else ret false) :=
  PW.imp (pw_and ha hb) fun σ H Q ⟨F, P, S, hw, k⟩ => ⟨F, _, S, hw, fun x hx F' H' S' e' => by
    cases x with
    | true => exact ⟨F', P, S', hx, fun y hy F2 H2 S2 e2 => k y hy F2 H2 S2 (e'.trans e2)⟩
    | false => exact k false hx F' H' S' e'⟩
theorem w_or (ha : ET X B env os a w1) (hb : EW X B env os (.BoolOp .Or (b :: rest) pos) w2) : EW X B env os (.BoolOp .Or (a :: b :: rest) pos) (bnd w1 fun x => if x = true then ret true else w2) :=
  PW.imp (pw_or ha hb) fun σ H Q ⟨F, P, S, hw, k⟩ => ⟨F, _, S, hw, fun x hx F' H' S' e' => by
    cases x with
    | true => exact k true hx F' H' S' e'
    | false => exact ⟨F', P, S', hx, fun y hy F2 H2 S2 e2 => k y hy F2 H2 S2 (e'.trans e2)⟩⟩
theorem e_not {w : W Bool} (h : EE X B env os e rBool w) : EE X B env os (.UnaryOp .Not e pos) rBool (bnd w fun b => ret (!b)) := PE.imp (pe_not h) fun σ H Q ⟨F, P, S, hw, k⟩ => ⟨F, _, S, hw, fun b hb v F' H' S' e' ok => ⟨b, ok, k (!b) hb _ F' H' S' e' rfl⟩⟩
theorem e_one {op : BoolOp} {w : W α} (h : EE X B env os a r w) : EE X B env os (.BoolOp op [a] pos) r w := pe_one h
theorem e_and (ha : EE X B env os a rBool w1) (hb : EE X B env os (.BoolOp .And (b :: rest) pos) rBool w2) : EE X B env os (.BoolOp .And (a :: b :: rest) pos) rBool (bnd w1 fun x => if x = true then w2 else ret false) :=
  PE.imp (pe_and ha hb) fun σ H Q ⟨F, P, S, hw, k⟩ => ⟨F, _, S, hw, fun x hx v F' H' S' e' ok => ⟨x, ok, by
    cases x with
    | true => exact ⟨F', P, S', hx, fun y hy v F2 H2 S2 e2 => k y hy v F2 H2 S2 (e'.trans e2)⟩
    | false => exact k false hx _ F' H' S' e' rfl⟩⟩
theorem e_if {wc : W Bool} {wa wb : W α} (hc : ET X B env os c wc) (ha : EE X B env os a r wa) (hb : EE X B env os b r wb) : EE X B env os (.IfExp c a b pos) r (bnd wc fun x => if x = true then wa else wb) :=
  PE.imp (pe_ifExp hc ha hb) fun σ H Q ⟨F, P, S, hw, k⟩ => ⟨F, _, S, hw, fun x hx F' H' S' e' => by
    cases x with
    | true => exact ⟨F', P, S', hx, fun y hy v F2 H2 S2 e2 => k y hy v F2 H2 S2 (e'.trans e2)⟩
    | false => exact ⟨F', P, S', hx, fun y hy v F2 H2 S2 e2 => k y hy v F2 H2 S2 (e'.trans e2)⟩⟩
end
abbrev Post (β : Type) := Ends → β → Prop
def tBG (B : Bs) (env : Env) (os : Os) {β : Type} (post : Post β) (w : W β) : TS := fun D σ H => ∃ F P, Sit B F H σ env os ∧ w P B.E0 ∧ ∀ x, P x → post D x
def BG (X : Cx) (B : Bs) (env : Env) (os : Os) (blk : List Stmt) {β : Type} (post : Post β) (w : W β) : Prop := PSs X blk (tBG B env os post w)
theorem PSs.imp {X : Cx} {b : List Stmt} {t t' : TS} (h : PSs X b t) (i : ∀ D σ H, t' D σ H → t D σ H) : PSs X b t' := ⟨fun pins s σ H D I q => h.run pins s σ H D I (i _ _ _ q)⟩
theorem PSs.ex {X : Cx} {b : List Stmt} {ι : Type} {t : ι → TS} (h : ∀ i, PSs X b (t i)) : PSs X b (fun D σ H => ∃ i, t i D σ H) := ⟨fun pins s σ H D I ⟨i, q⟩ => (h i).run pins s σ H D I q⟩
/-- the objects handed in, behind the body -/
def OsOk (B : Bs) (F H : Hp) (os : Os) : Prop := ∀ p ∈ os, F p.1 = none ∧ (∃ o, H p.1 = some o ∧ p.2.ok F o) ∧ (B.H p.1 = none ∨ p.1 ∈ B.io)
def pRet (B : Bs) (osR : Os) {ρ : Type} (ro : Rp ρ) : Post ρ := fun D x => ∀ v F H, Fn B F H → OsOk B F H osR → ro.ok F v x → D.rt v H
def pNx (B : Bs) {S : Type} (envS : S → Env) (osS : S → Os) : Post S := fun D s => ∀ σ F H, Sit B F H σ (envS s) (osS s) → D.nx σ H
def pFl (B : Bs) (osR : Os) {ρ : Type} (ro : Rp ρ) {S : Type} (envS : S → Env) (osS : S → Os) : Post (Fl S ρ) := fun D r => match r with
  | .nx s => ∀ σ F H, Sit B F H σ (envS s) (osS s) → D.nx σ H
  | .rt x => ∀ v F H, Fn B F H → OsOk B F H osR → ro.ok F v x → D.rt v H
  | .bk s => ∀ σ F H, Sit B F H σ (envS s) (osS s) → D.bk σ H
  | .ct s => ∀ σ F H, Sit B F H σ (envS s) (osS s) → D.ct σ H
/-- a post that says nothing of what comes next -/
def pX {β : Type} (post : Post β) : Post β := fun D x => ∃ nx, post { D with nx := nx } x
structure RtOk (B : Bs) {β ρ : Type} (post : Post β) (osR : Os) (ro : Rp ρ) (inj : ρ → β) : Prop where
  ok : ∀ D x, post D (inj x) → ∀ v F H, Fn B F H → OsOk B F H osR → ro.ok F v x → D.rt v H
structure NxOk (B : Bs) {β : Type} (post : Post β) (env : Env) (os : Os) (x : β) : Prop where
  ok : ∀ D, post D x → ∀ σ F H, Sit B F H σ env os → D.nx σ H
section
variable {B : Bs} {osR : Os} {ρ S β : Type} {ro : Rp ρ} {envS : S → Env} {osS : S → Os} {post : Post β} {inj : ρ → β}
theorem RtOk.ret : RtOk B (pRet B osR ro) osR ro (fun x => x) := ⟨fun _ _ h => h⟩
theorem RtOk.fl : RtOk B (pFl B osR ro envS osS) osR ro .rt := ⟨fun _ _ h => h⟩
theorem RtOk.x (h : RtOk B post osR ro inj) : RtOk B (pX post) osR ro inj := ⟨fun D x ⟨nx, q⟩ => h.ok { D with nx := nx } x q⟩
/-- slots may be forgotten -/
def EnvLe : Env → Env → Prop
  | [], [] => True
  | a :: as, b :: bs => (b = a ∨ b = sa) ∧ EnvLe as bs
  | _, _ => False
theorem EnvLe.of {F : Hp} : ∀ {e e' : Env} {σ : L2.St}, EnvLe e e' → EnvOk F e σ → EnvOk F e' σ
  | [], [], _, _, h => h
  | _ :: _, _ :: _, _, ⟨h1, h2⟩, .cons r t => .cons (h1.elim (fun z => z ▸ r) fun z => z ▸ trivial) (EnvLe.of h2 t)
  | [], _ :: _, _, h, _ => h.elim
  | _ :: _, [], _, h, _ => h.elim
theorem EnvLe.refl : ∀ e : Env, EnvLe e e
  | [] => trivial
  | _ :: as => ⟨.inl rfl, EnvLe.refl as⟩
def OsLe (os os' : Os) : Prop := ∀ p ∈ os', p ∈ os
theorem OsLe.refl (os : Os) : OsLe os os := fun _ h => h
/-- what is handed back may say less -/
def OsW (os os' : Os) : Prop := ∀ p ∈ os', ∃ q ∈ os, q.1 = p.1 ∧ ∀ F o, q.2.ok F o → p.2.ok F o
theorem OsW.of {os os' : Os} (h : OsLe os os') : OsW os os' := fun p hp => ⟨p, h p hp, rfl, fun _ _ q => q⟩
theorem OsW.nil {os : Os} : OsW os [] := fun p hp => by cases hp
theorem OsW.refl {os : Os} : OsW os os := OsW.of (OsLe.refl os)
theorem OsW.one {a : Addr} {q p : Own} {os : Os} (h : ∀ F o, q.ok F o → p.ok F o) : OsW ((a, q) :: os) [(a, p)] := fun z hz => by
  rcases List.mem_cons.mp hz with e | e
  · subst e
    exact ⟨(a, q), List.mem_cons_self .., rfl, h⟩
  · cases e
theorem OsW.ok {F H : Hp} {σ : L2.St} {env : Env} {os os' : Os} (h : OsW os os') (s : Sit B F H σ env os) : OsOk B F H os' := fun p hp => by
  obtain ⟨q, hq, e, k⟩ := h p hp
  obtain ⟨h1, ⟨o, h2, h3⟩, h4⟩ := s.ow q hq
  rw [e] at h1 h2 h4
  exact ⟨h1, ⟨o, h2, k F o h3⟩, h4⟩
theorem Sit.le {F H : Hp} {σ : L2.St} {env env' : Env} {os : Os} (s : Sit B F H σ env os) (h : EnvLe env env') : Sit B F H σ env' os := ⟨s.fin, h.of s.env, s.ow, s.nd⟩
theorem Sit.one {F H : Hp} {σ : L2.St} {env : Env} {os : Os} {a : Addr} {q p : Own} (s : Sit B F H σ env ((a, q) :: os)) (h : ∀ F o, q.ok F o → p.ok F o) : Sit B F H σ env ((a, p) :: os) := ⟨s.fin, s.env, fun z hz => by
  rcases List.mem_cons.mp hz with e | e
  · subst e
    obtain ⟨h1, ⟨o, h2, h3⟩, h4⟩ := s.ow (a, q) (List.mem_cons_self ..)
    exact ⟨h1, ⟨o, h2, h F o h3⟩, h4⟩
  · exact s.ow z (List.mem_cons_of_mem _ e), s.nd⟩
theorem NxOk.one {env : Env} {s : S} {a : Addr} {q p : Own} {os : Os} (ho : osS s = (a, p) :: os) (h : EnvLe env (envS s)) (hq : ∀ F o, q.ok F o → p.ok F o) : NxOk B (pNx B envS osS) env ((a, q) :: os) s := ⟨fun D k σ F H z => k σ F H (by
  rw [ho]
  exact (z.le h).one hq)⟩
theorem NxOk.nx {env : Env} {s : S} (h : EnvLe env (envS s)) : NxOk B (pNx B envS osS) env (osS s) s := ⟨fun D q σ F H z => q σ F H (z.le h)⟩
theorem NxOk.fl {env : Env} {s : S} (h : EnvLe env (envS s)) : NxOk B (pFl B osR ro envS osS) env (osS s) (.nx s) := ⟨fun D q σ F H z => q σ F H (z.le h)⟩
end
section
variable {X : Cx} {B : Bs} {env : Env} {os : Os} {pos pos' : Pos} {α β ρ S : Type} {r : Rp α} {e c : Expr} {rest blkA blkB : List Stmt} {post : Post β}
theorem b_conv {blk : List Stmt} {w w' : W β} (h : BG X B env os blk post w) (q : w' = w) : BG X B env os blk post w' := q ▸ h
theorem b_ret {osR : Os} {ro : Rp ρ} {inj : ρ → β} {w : W ρ} (hp : RtOk B post osR ro inj) (ho : OsW os osR) (h : EE X B env os e ro w) : BG X B env os [.Return (some e) pos] post (bnd w fun x => ret (inj x)) :=
  PSs.imp (pss_one (ps_ret h)) fun D σ H ⟨F, P, Si, hw, k⟩ => ⟨F, _, Si, hw, fun x hx v F' H' S' _ ok => hp.ok D x (k _ hx) v F' H' S'.fin (ho.ok S') ok⟩
theorem b_end {x : β} (hp : NxOk B post env os x) : BG X B env os [] post (ret x) := PSs.imp pss_nil fun D σ H ⟨F, P, S, hw, k⟩ => hp.ok D (k x hw) σ F H S
/-- a code that is never reached -/
theorem b_never {blk : List Stmt} : BG X B env os blk post fail := PSs.imp pss_never fun _ _ _ ⟨_, _, _, hw, _⟩ => hw
/-- name = e -/
theorem b_set (i : Nat) {x : Str} {w1 : W α} {w2 : α → W β} (he : EE X B env os e r w1) (hr : ∀ y, BG X B (env.set i (sv r y)) os rest post (w2 y)) (hN : X.N.Nodup) (hi : X.N[i]? = some x := by rfl)
    (hx : Loc X.env.scope x := by first | exact Or.inl rfl | exact Or.inr rfl) (hs : swapsWith e (some (.Name x pos')) pos.line X.env = pure false := by rfl) (hf : X.fn x = true ∨ X.env.scope.names.lookup x = some .local := by first | exact .inl rfl | exact .inr rfl | assumption) :
    BG X B env os (.Assign [.Name x pos'] e pos :: rest) post (bnd w1 w2) :=
  PSs.imp (pss_cons (ps_set hN hi hx he hs hf) (PSs.ex hr)) fun D σ H ⟨F, P, S, hw, k⟩ => ⟨F, _, S, hw, fun y hy v F' H' S' _ ok => ⟨y, F', P, S'.store ⟨v, rfl, ok⟩, hy, k⟩⟩
/-- an expression alone -/
theorem b_expr {w1 : W α} {w2 : W β} (he : EE X B env os e r w1) (hr : BG X B env os rest post w2) (hs : swapsWith e none pos.line X.env = pure false := by rfl) : BG X B env os (.Expr e pos :: rest) post (bnd w1 fun _ => w2) :=
  PSs.imp (pss_cons (ps_expr he hs) hr) fun D σ H ⟨F, P, S, hw, k⟩ => ⟨F, _, S, hw, fun y hy v F' H' S' _ ok => ⟨F', P, S', hy, k⟩⟩
/-- if, one branch of which never comes to the rest -/
theorem b_ifA {wc : W Bool} {w1 w2 : W β} (hc : ET X B env os c wc) (hA : BG X B env os blkA (pX post) w1) (hr : BG X B env os rest post w2) : BG X B env os (.If c blkA [] pos :: rest) post (bnd wc fun b => if b = true then w1 else w2) :=
  PSs.imp (pss_cons (ps_if hc hA pss_nil) hr) fun D σ H ⟨F, P, S, hw, k⟩ => ⟨F, _, S, hw, fun b hb F' H' S' _ => by
    cases b with
    | true => exact ⟨F', P, S', hb, fun x hx => ⟨D.nx, k x hx⟩⟩
    | false => exact ⟨F', P, S', hb, k⟩⟩
/-- both branches go on -/
theorem b_ifJ {wc : W Bool} {w1 w2 : W S} {w3 : S → W β} (envS : S → Env) (osS : S → Os) (hc : ET X B env os c wc) (hA : BG X B env os blkA (pNx B envS osS) w1) (hB : BG X B env os blkB (pNx B envS osS) w2)
    (hr : ∀ s, BG X B (envS s) (osS s) rest post (w3 s)) : BG X B env os (.If c blkA blkB pos :: rest) post (bnd wc fun b => bnd (if b = true then w1 else w2) w3) :=
  PSs.imp (pss_cons (ps_if hc hA hB) (PSs.ex hr)) fun D σ H ⟨F, P, S, hw, k⟩ => ⟨F, _, S, hw, fun b hb F' H' S' _ => by
    cases b with
    | true => exact ⟨F', _, S', hb, fun s hs σ2 F2 H2 S2 => ⟨s, F2, P, S2, hs, k⟩⟩
    | false => exact ⟨F', _, S', hb, fun s hs σ2 F2 H2 S2 => ⟨s, F2, P, S2, hs, k⟩⟩⟩
end
end Mi
namespace Mi
open PySem L2 Evl
theorem Paired.get {α β : Type} {R : α → β → Prop} : ∀ {l : List α} {m : List β} {i : Nat} {y : β}, Paired R l m → m[i]? = some y → ∃ x, l[i]? = some x ∧ R x y
  | _, _, i, y, .nil, h => by simp at h
  | _, _, 0, y, .cons r t, h => by
    simp at h
    subst h
    exact ⟨_, rfl, r⟩
  | _, _, i + 1, y, .cons r t, h => by
    obtain ⟨x, h1, h2⟩ := Paired.get (i := i) t (by simpa using h)
    exact ⟨x, by simpa using h1, h2⟩
theorem Paired.get' {α β : Type} {R : α → β → Prop} : ∀ {l : List α} {m : List β} {i : Nat} {x : α}, Paired R l m → l[i]? = some x → ∃ y, m[i]? = some y ∧ R x y
  | _, _, i, y, .nil, h => by simp at h
  | _, _, 0, y, .cons r t, h => by
    simp at h
    subst h
    exact ⟨_, rfl, r⟩
  | _, _, i + 1, y, .cons r t, h => by
    obtain ⟨x, h1, h2⟩ := Paired.get' (i := i) t (by simpa using h)
    exact ⟨x, by simpa using h1, h2⟩
theorem Paired.app {α β : Type} {R : α → β → Prop} : ∀ {l l' : List α} {m m' : List β}, Paired R l m → Paired R l' m' → Paired R (l ++ l') (m ++ m')
  | _, _, _, _, .nil, h => h
  | _, _, _, _, .cons r t, h => .cons r (Paired.app t h)
theorem Paired.setR {α β : Type} {R : α → β → Prop} {x : α} {y : β} (r : R x y) : ∀ {l : List α} {m : List β} {i : Nat}, Paired R l m → Paired R (l.set i x) (m.set i y)
  | _, _, _, .nil => .nil
  | _, _, 0, .cons _ t => .cons r t
  | _, _, i + 1, .cons q t => .cons q (Paired.setR r (i := i) t)
theorem Paired.takeR {α β : Type} {R : α → β → Prop} : ∀ {l : List α} {m : List β} (n : Nat), Paired R l m → Paired R (l.take n) (m.take n)
  | _, _, 0, _ => .nil
  | _, _, _ + 1, .nil => .nil
  | _, _, n + 1, .cons r t => .cons r (Paired.takeR n t)
theorem Paired.dropR {α β : Type} {R : α → β → Prop} : ∀ {l : List α} {m : List β} (n : Nat), Paired R l m → Paired R (l.drop n) (m.drop n)
  | _, _, 0, r => r
  | _, _, _ + 1, .nil => .nil
  | _, _, n + 1, .cons _ t => Paired.dropR n t
/-- a list of values that stand for x's by a function -/
theorem Paired.eqMap {α : Type} {f : α → V} : ∀ {l : List V} {m : List α}, Paired (fun v x => v = f x) l m → l = m.map f
  | _, _, .nil => rfl
  | _, _, .cons r t => by
    subst r
    rw [List.map_cons, ← Paired.eqMap t]
theorem ints_map {F : Hp} {vs : List V} {xs : List Int} (h : Paired (rInt.ok F) vs xs) : vs = xs.map V.int := Paired.eqMap h
theorem bools_map {F : Hp} {vs : List V} {xs : List Bool} (h : Paired (rBool.ok F) vs xs) : vs = xs.map V.bl := Paired.eqMap h
/-- what the heap does not know the base does not know either -/
theorem Fn.fresh {B : Bs} {F H : Hp} {p : Addr} (s : Fn B F H) (hp : H p = none) : B.H p = none := by
  cases e : B.H p with
  | none => rfl
  | some o =>
    cases ef : B.F p with
    | none =>
      by_cases hio : p ∈ B.io
      · obtain ⟨u, hu⟩ := s.ios p hio
        rw [hp] at hu
        cases hu
      · have := (s.keep p o ef e hio).1
        rw [hp] at this
        cases this
    | some u =>
      have := s.fh p u (s.bf p u ef)
      rw [hp] at this
      cases this
theorem Sit.newOwn {B : Bs} {F H : Hp} {σ : L2.St} {env : Env} {os : Os} {p : Addr} {o : HO} {ow : Own} (s : Sit B F H σ env os) (hp : H p = none) (hb : ow.ok F o) : Sit B F (upd H p o) σ env ((p, ow) :: os) := by
  have fp : F p = none := fresh_back s.fh hp
  refine ⟨⟨s.fh.trans (Ex.new hp), s.fin.bf, s.fin.mrk, s.fin.bb, fun a ha => let ⟨o, h⟩ := s.fin.ios a ha; ⟨o, Ex.new hp a o h⟩, fun a u h1 h2 h3 => ?_⟩, s.env, fun q hq => ?_, ?_⟩
  · obtain ⟨k1, k2⟩ := s.fin.keep a u h1 h2 h3
    exact ⟨Ex.new hp a u k1, k2⟩
  · rcases List.mem_cons.mp hq with e | hq
    · subst e
      exact ⟨fp, ⟨o, upd_same, hb⟩, .inl (s.fin.fresh hp)⟩
    · obtain ⟨h1, ⟨u, h2, h3⟩, h4⟩ := s.ow q hq
      exact ⟨h1, ⟨u, Ex.new hp _ _ h2, h3⟩, h4⟩
  · rw [List.map_cons]
    refine List.nodup_cons.mpr ⟨fun hm => ?_, s.nd⟩
    obtain ⟨q, hq, e⟩ := List.mem_map.mp hm
    obtain ⟨_, ⟨u, h2, _⟩, _⟩ := s.ow q hq
    have e' : q.1 = p := e
    rw [e', hp] at h2
    cases h2
/-- the first own object will never change again -/
theorem Sit.freeze {B : Bs} {F H : Hp} {σ : L2.St} {env : Env} {os : Os} {p : Addr} {ow : Own} (s : Sit B F H σ env ((p, ow) :: os)) :
    ∃ F' o, Ex F F' ∧ F' p = some o ∧ ow.ok F' o ∧ Sit B F' H σ env os := by
  obtain ⟨h1, ⟨o, h2, h3⟩, h4⟩ := s.ow (p, ow) (List.mem_cons_self ..)
  have h1 : F p = none := h1
  have h2 : H p = some o := h2
  have e : Ex F (upd F p o) := Ex.new h1
  have nd := s.nd
  rw [List.map_cons] at nd
  obtain ⟨nd1, nd2⟩ := List.nodup_cons.mp nd
  refine ⟨upd F p o, o, e, upd_same, ow.mono e h3, ⟨fun a u ha => ?_, s.fin.bf.trans e, s.fin.mrk.trans e, s.fin.bb, s.fin.ios, fun a u k1 k2 k3 => ?_⟩, s.env.mono e, fun q hq => ?_, nd2⟩
  · by_cases hap : a = p
    · rw [hap, upd_same] at ha
      rw [hap, h2]
      exact ha
    · rw [upd_ne hap] at ha
      exact s.fh a u ha
  · obtain ⟨z1, z2⟩ := s.fin.keep a u k1 k2 k3
    refine ⟨z1, ?_⟩
    have hap : a ≠ p := by
      rintro rfl
      rcases h4 with q | q
      · have q' : B.H a = none := q
        rw [k2] at q'
        cases q'
      · exact k3 q
    rw [upd_ne hap]
    exact z2
  · obtain ⟨z1, ⟨u, z2, z3⟩, z4⟩ := s.ow q (List.mem_cons_of_mem _ hq)
    have hap : q.1 ≠ p := fun z => by
      have hm := List.mem_map_of_mem (f := Prod.fst) hq
      rw [z] at hm
      exact nd1 hm
    exact ⟨by rw [upd_ne hap]; exact z1, ⟨u, z2, q.2.mono e z3⟩, z4⟩
theorem set_same {α : Type} : ∀ {l : List α} {j : Nat} {x : α}, l[j]? = some x → l.set j x = l
  | [], _, _, _ => rfl
  | a :: l, 0, x, h => by
    simp at h
    subst h
    rfl
  | a :: l, j + 1, x, h => by
    show a :: l.set j x = a :: l
    rw [set_same (by simpa using h)]
/-- an own object is changed -/
theorem Sit.change {B : Bs} {F H : Hp} {σ : L2.St} {env : Env} {os : Os} {j : Nat} {p : Addr} {ow ow' : Own} {o' : HO} (s : Sit B F H σ env os) (hj : os[j]? = some (p, ow)) (hb : ow'.ok F o') : Sit B F (upd H p o') σ env (os.set j (p, ow')) := by
  have hm : (p, ow) ∈ os := List.mem_of_getElem? hj
  obtain ⟨h1, ⟨o, h2, h3⟩, h4⟩ := s.ow _ hm
  have h1 : F p = none := h1
  have h2 : H p = some o := h2
  have hjl : j < os.length := (List.getElem?_eq_some_iff.mp hj).1
  have hmap : (os.set j (p, ow')).map (·.1) = os.map (·.1) := by
    rw [List.map_set]
    exact set_same (by rw [List.getElem?_map, hj]; rfl)
  refine ⟨⟨fun a u ha => ?_, s.fin.bf, s.fin.mrk, s.fin.bb, fun a ha => ?_, fun a u k1 k2 k3 => ?_⟩, s.env, fun q hq => ?_, by rw [hmap]; exact s.nd⟩
  · have hap : a ≠ p := fun z => by rw [z, h1] at ha; cases ha
    rw [upd_ne hap]
    exact s.fh a u ha
  · by_cases hap : a = p
    · exact ⟨o', by rw [hap, upd_same]⟩
    · obtain ⟨u, hu⟩ := s.fin.ios a ha
      exact ⟨u, by rw [upd_ne hap]; exact hu⟩
  · obtain ⟨z1, z2⟩ := s.fin.keep a u k1 k2 k3
    have hap : a ≠ p := by
      rintro rfl
      rcases h4 with q | q
      · have q' : B.H a = none := q
        rw [k2] at q'
        cases q'
      · exact k3 q
    rw [upd_ne hap]
    exact ⟨z1, z2⟩
  · obtain ⟨i, hi⟩ := List.mem_iff_getElem?.mp hq
    by_cases hij : j = i
    · subst hij
      rw [List.getElem?_set_self hjl] at hi
      cases hi
      exact ⟨h1, ⟨o', upd_same, hb⟩, h4⟩
    · rw [List.getElem?_set_ne hij] at hi
      obtain ⟨z1, ⟨u, z2, z3⟩, z4⟩ := s.ow q (List.mem_of_getElem? hi)
      have hap : q.1 ≠ p := fun z => by
        have nd := s.nd
        have a1 : (os.map (·.1))[i]? = some p := by rw [List.getElem?_map, hi, ← z]; rfl
        have a2 : (os.map (·.1))[j]? = some p := by rw [List.getElem?_map, hj]; rfl
        exact hij (nd_ix nd a2 a1)
      exact ⟨z1, ⟨u, by rw [upd_ne hap]; exact z2, z3⟩, z4⟩
end Mi
namespace Mi
open PySem L2 Evl
def tNew (B : Bs) (env : Env) (os : Os) {α : Type} (r : Rp α) (w : W (List α)) : TE := fun σ H Q => ∃ F P, Sit B F H σ env os ∧ w P B.E0 ∧ ∀ xs, P xs → ∀ a F' H', Sit B F' H' σ env ((a, oLst r xs) :: os) → Ex F F' → Q (.ref a) H'
def EN (X : Cx) (B : Bs) (env : Env) (os : Os) (e : Expr) {α : Type} (r : Rp α) (w : W (List α)) : Prop := PE X e (tNew B env os r w)
section
variable {X : Cx} {B : Bs} {env : Env} {os : Os} {pos : Pos} {α β γ : Type} {r : Rp α} {s : Rp β} {t : Rp γ} {e a b c : Expr} {es : List Expr}
/-- it is let go: it will not change again -/
theorem e_new {w : W (List α)} (h : EN X B env os e r w) : EE X B env os e (rLst r) w := PE.imp h fun σ H Q ⟨F, P, S, hw, k⟩ => ⟨F, P, S, hw, fun xs hx a F' H' S' e' => by
  obtain ⟨F2, o, e2, h1, ⟨vs, h2, h3, h4⟩, S2⟩ := S'.freeze
  subst h2
  exact k xs hx (.ref a) F2 H' S2 (e'.trans e2) ⟨a, vs, rfl, h1, h3, h4⟩⟩
def tAL (B : Bs) (env : Env) (os : Os) (n : Nat) {α : Type} (r : Rp α) (w : W (List α)) : TA := fun σ H Q => ∃ F P, Sit B F H σ env os ∧ w P B.E0 ∧ ∀ xs, P xs → ∀ vs F' H', Sit B F' H' σ env os → Ex F F' → Paired (r.ok F') vs xs → vs.length = n → Q vs H'
def AL (X : Cx) (B : Bs) (env : Env) (os : Os) (es : List Expr) {α : Type} (r : Rp α) (w : W (List α)) : Prop := PA X es (tAL B env os es.length r w)
theorem PA.imp {t t' : TA} (h : PA X es t) (i : ∀ σ H Q, t' σ H Q → t σ H Q) : PA X es t' := ⟨fun pos pins s σ H Q I q => h.run pos pins s σ H Q I (i _ _ _ q)⟩
theorem PA.ex {ι : Type} {t : ι → TA} (h : ∀ i, PA X es (t i)) : PA X es (fun σ H Q => ∃ i, t i σ H Q) := ⟨fun pos pins s σ H Q I ⟨i, q⟩ => (h i).run pos pins s σ H Q I q⟩
theorem al_nil : AL X B env os [] r (ret []) := PA.imp pa_nil fun σ H Q ⟨F, P, S, hw, k⟩ => k [] hw [] F H S (Ex.refl F) .nil rfl
theorem al_cons {w1 : W α} {w2 : W (List α)} (h : EE X B env os e r w1) (ht : AL X B env os es r w2) (hs : starEach (e :: es) X.env = (false, eval e X.env) :: starEach es X.env := by rfl) : AL X B env os (e :: es) r (bnd w1 fun x => bnd w2 fun xs => ret (x :: xs)) :=
  PA.imp (pa_cons h ht hs) fun σ H Q ⟨F, P, S, hw, k⟩ => ⟨F, _, S, hw, fun x hx v F1 H1 S1 e1 ok1 => ⟨F1, _, S1, hx, fun xs hxs vs F2 H2 S2 e2 ok2 hl => k _ hxs (v :: vs) F2 H2 S2 (e1.trans e2) (.cons (r.mono e2 ok1) ok2) (by rw [List.length_cons, hl, List.length_cons])⟩⟩
theorem n_list {w : W (List α)} (h : AL X B env os es r w) (hz : es.length ≤ sizeLine := by decide) : EN X B env os (.List es pos) r w := PE.imp (pe_lst h) fun σ H Q ⟨F, P, S, hw, k⟩ => ⟨F, P, S, hw, fun xs hx vs F' H' S' e' ok hl =>
  ⟨by rw [hl]; exact hz, fun p hp => k xs hx p F' _ (S'.newOwn hp ⟨vs, rfl, by rw [hl]; exact hz, ok⟩) e'⟩⟩
theorem e_tup2 {w1 : W α} {w2 : α → W β} {x1} (ha : EE X B env os a r w1) (hb : ∀ x, EE X B env os b s (w2 x)) (hs : starEach [a, b] X.env = (false, eval a X.env) :: starEach [b] X.env := by rfl) (hs2 : starEach [b] X.env = (false, eval b X.env) :: starEach [] X.env := by rfl) :
    EE X B env os (.Tuple [a, b] x1 pos) (rT2 X.K r s) (bnd w1 fun x => bnd (w2 x) fun y => ret (x, y)) :=
  PE.imp (pe_tup (pa_cons ha (pa_cons (PE.ex hb) pa_nil hs2) hs)) fun σ H Q ⟨F, P, S, hw, k⟩ => ⟨F, _, S, hw, fun x hx v F1 H1 S1 e1 ok1 => ⟨x, F1, _, S1, hx, fun y hy u F2 H2 S2 e2 ok2 =>
    ⟨(by show 2 ≤ sizeLine; decide), fun p hp => by
      have g : Grow F2 H2 (upd F2 p (.tup [v, u])) (upd H2 p (.tup [v, u])) := Grow.alloc S2.fh hp
      exact k _ hy (.ref p) _ _ (S2.grow g) ((e1.trans e2).trans g.f) ⟨p, v, u, rfl, SqT.of upd_same, r.mono (e2.trans g.f) ok1, s.mono g.f ok2⟩⟩⟩⟩
theorem e_tup3 {w1 : W α} {w2 : α → W β} {w3 : α → β → W γ} {x1} (ha : EE X B env os a r w1) (hb : ∀ x, EE X B env os b s (w2 x)) (hc : ∀ x y, EE X B env os c t (w3 x y)) (hs : starEach [a, b, c] X.env = (false, eval a X.env) :: starEach [b, c] X.env := by rfl)
    (hs2 : starEach [b, c] X.env = (false, eval b X.env) :: starEach [c] X.env := by rfl) (hs3 : starEach [c] X.env = (false, eval c X.env) :: starEach [] X.env := by rfl) :
    EE X B env os (.Tuple [a, b, c] x1 pos) (rT3 X.K r s t) (bnd w1 fun x => bnd (w2 x) fun y => bnd (w3 x y) fun z => ret (x, y, z)) :=
  PE.imp (pe_tup (pa_cons ha (pa_cons (PE.ex hb) (pa_cons (PE.ex fun p : α × β => hc p.1 p.2) pa_nil hs3) hs2) hs)) fun σ H Q ⟨F, P, S, hw, k⟩ => ⟨F, _, S, hw, fun x hx v F1 H1 S1 e1 ok1 => ⟨x, F1, _, S1, hx, fun y hy u F2 H2 S2 e2 ok2 => ⟨(x, y), F2, _, S2, hy, fun z hz q F3 H3 S3 e3 ok3 =>
    ⟨(by show 3 ≤ sizeLine; decide), fun p hp => by
      have g : Grow F3 H3 (upd F3 p (.tup [v, u, q])) (upd H3 p (.tup [v, u, q])) := Grow.alloc S3.fh hp
      exact k _ hz (.ref p) _ _ (S3.grow g) (((e1.trans e2).trans e3).trans g.f) ⟨p, v, u, q, rfl, SqT.of upd_same, r.mono ((e2.trans e3).trans g.f) ok1, s.mono (e3.trans g.f) ok2, t.mono g.f ok3⟩⟩⟩⟩⟩
theorem ixN_map {n m : Nat} (h : n = m) (i : Int) : ixN n i = ixN m i := by rw [h]
theorem atI_paired {R : V → α → Prop} {vs : List V} {xs : List α} {i : Int} {x : α} (h : Paired R vs xs) (hx : atI xs i = some x) : ∃ v, atI vs i = some v ∧ R v x := by
  unfold atI at hx ⊢
  rw [ixN_map h.length i]
  cases e : ixN xs.length i with
  | none => rw [e] at hx; cases hx
  | some j =>
    rw [e] at hx
    exact Paired.get h hx
def idx (xs : List α) (i : Int) : W α := match atI xs i with
  | some x => ret x
  | none => fail
theorem idx_of {xs : List α} {i : Int} {P : α → Prop} {E : Er → Prop} (h : idx xs i P E) : ∃ x, atI xs i = some x ∧ P x := by
  unfold idx at h
  cases e : atI xs i with
  | none => rw [e] at h; exact False.elim h
  | some x => rw [e] at h; exact ⟨x, rfl, h⟩
theorem sem_idx {K : PySem.W.Frag} : R2T (rIxL K) (rLst r) rInt r (fun x i => idx x i) := fun F H v u x y P E Q fh ⟨p, vs, e1, h1, h2, h3⟩ e2 hw k => by
  obtain ⟨z, hz, pz⟩ := idx_of hw
  obtain ⟨v', hv', rz⟩ := atI_paired h3 hz
  exact ⟨p, vs, y, v', e1, e2, SqL.of (fh _ _ h1), hv', k z pz v' F H (Grow.refl fh) rz⟩
theorem sem_idxT {K : PySem.W.Frag} : R2T (rIxT K) (rTup K r) rInt r (fun x i => idx x i) := fun F H v u x y P E Q fh ⟨p, vs, e1, h1, h2, h3⟩ e2 hw k => by
  obtain ⟨z, hz, pz⟩ := idx_of hw
  obtain ⟨v', hv', rz⟩ := atI_paired h3 hz
  exact ⟨p, vs, y, v', e1, e2, ex_t fh h1, hv', k z pz v' F H (Grow.refl fh) rz⟩
theorem sem_fst {K : PySem.W.Frag} : R2T (rIxT K) (rT2 K r s) rInt r (fun x i => chk (i = 0) (ret x.1)) := fun F H v u x y P E Q fh ⟨p, v1, v2, e1, h1, h2, h3⟩ e2 ⟨c, hw⟩ k =>
  ⟨p, _, y, v1, e1, e2, ex_t fh h1, (by subst c; rfl), k _ hw v1 F H (Grow.refl fh) h2⟩
theorem e_idx {w1 : W (List α)} {w2 : List α → W Int} (ha : EE X B env os a (rLst r) w1) (hb : ∀ x, EE X B env os b rInt (w2 x)) (hs : PlainIx b := by exact fun _ _ => rfl) : EE X B env os (.Subscript a b pos) r (bnd w1 fun x => bnd (w2 x) fun i => idx x i) :=
  e_ix ix_list sem_idx hs ha hb
theorem e_idxT {w1 : W (List α)} {w2 : List α → W Int} (ha : EE X B env os a (rTup X.K r) w1) (hb : ∀ x, EE X B env os b rInt (w2 x)) (hs : PlainIx b := by exact fun _ _ => rfl) : EE X B env os (.Subscript a b pos) r (bnd w1 fun x => bnd (w2 x) fun i => idx x i) :=
  e_ix ix_tup sem_idxT hs ha hb
/-- the places of a pair -/
theorem e_fst {w1 : W (α × β)} {j} {pos2 : Pos} (ha : EE X B env os a (rT2 X.K r s) w1) (hs : PlainIx (.Constant (.int 0) j pos2) := by exact fun _ _ => rfl) : EE X B env os (.Subscript a (.Constant (.int 0) j pos2) pos) r (bnd w1 fun x => ret x.1) :=
  e_conv (e_ix ix_tup sem_fst hs ha (fun _ => e_int)) (by
      funext P E
      show w1 _ E = w1 _ E
      congr 1
      funext x
      exact propext ⟨fun h => ⟨rfl, h⟩, fun h => h.2⟩)
def C1T (q : List V → Hp → VK → Prop) (r : Rp α) (t : Rp γ) (f : α → W γ) : Prop := ∀ (F H : Hp) (v : V) (x : α) (P : γ → Prop) (E : Er → Prop) (Q : VK), Ex F H → r.ok F v x → f x P E → (∀ z, P z → ∀ v' F' H', Grow F H F' H' → t.ok F' v' z → Q v' H') → q [v] H Q
theorem one_call {q : List V → Hp → VK → Prop} {f : α → W γ} {w1 : W α} (sem : C1T q r t f) {σ : L2.St} {H : Hp} {Q : VK} (h : tOf B env os t (bnd w1 f) σ H Q) : tCB q (tCons (tOf B env os r w1) tNil) σ H Q := by
  obtain ⟨F, P, S, hw, k⟩ := h
  exact ⟨F, _, S, hw, fun x hx v F1 H1 S1 e1 ok1 => sem F1 H1 v x P B.E0 Q S1.fh ok1 hx fun z hz v' F3 H3 g ok3 => k z hz v' F3 H3 (S1.grow g) (e1.trans g.f) ok3⟩
theorem e_callB {id : String} {x : Str} {p : Pos} {q : List V → Hp → VK → Prop} {f : α → W γ} {w1 : W α} (hc : CallR X (.builtin id) q) (sem : C1T q r t f) (ha : EE X B env os a r w1) (hm : X.mg x = none) (hg : Gl X x := by rfl) (hv : bootBuiltins x = some (.builtin id) := by decide +kernel)
    (hn : x ≠ "__name__" := by decide) (hdb : (x == ("__debug__" : Str)) = false := by decide) (he : starEach [a] X.env = (false, eval a X.env) :: starEach [] X.env := by rfl) (hpl : (backTo pos (starEach [] X.env)).any (·.1) = false := by rfl) :
    EE X B env os (.Call (.Name x p) [a] [] pos) t (bnd w1 f) := PE.imp (pe_callB hc hg hm hv (pa_cons ha pa_nil he) hn hdb he hpl) fun _ _ _ h => one_call sem h
theorem e_callTy {id : String} {x : Str} {p : Pos} {q : List V → Hp → VK → Prop} {f : α → W γ} {w1 : W α} (hc : CallR X (.type id) q) (sem : C1T q r t f) (ha : EE X B env os a r w1) (hm : X.mg x = none) (hg : Gl X x := by rfl) (hv : bootBuiltins x = some (.type id) := by decide +kernel)
    (hn : x ≠ "__name__" := by decide) (hdb : (x == ("__debug__" : Str)) = false := by decide) (he : starEach [a] X.env = (false, eval a X.env) :: starEach [] X.env := by rfl) (hpl : (backTo pos (starEach [] X.env)).any (·.1) = false := by rfl) :
    EE X B env os (.Call (.Name x p) [a] [] pos) t (bnd w1 f) := PE.imp (pe_callTy hc hg hm hv (pa_cons ha pa_nil he) hn hdb he hpl) fun _ _ _ h => one_call sem h
theorem sem_len {K : PySem.W.Frag} : C1T (fun xs H Q => ∃ p ys, xs = [.ref p] ∧ (SqL K H p ys ∨ SqT K H p ys) ∧ Q (.int ys.length) H) (rLst r) rInt (fun x => ret (x.length : Int)) := fun F H v x P E Q fh ⟨p, vs, e1, h1, h2, h3⟩ hw k =>
  ⟨p, vs, by rw [e1], .inl (SqL.of (fh _ _ h1)), k _ hw _ F H (Grow.refl fh) (by rw [h3.length]; rfl)⟩
theorem sem_lenT {K : PySem.W.Frag} : C1T (fun xs H Q => ∃ p ys, xs = [.ref p] ∧ (SqL K H p ys ∨ SqT K H p ys) ∧ Q (.int ys.length) H) (rTup K r) rInt (fun x => ret (x.length : Int)) := fun F H v x P E Q fh ⟨p, vs, e1, h1, h2, h3⟩ hw k =>
  ⟨p, vs, by rw [e1], .inr (ex_t fh h1), k _ hw _ F H (Grow.refl fh) (by rw [h3.length]; rfl)⟩
theorem sem_any {K : PySem.W.Frag} : C1T (rAny K) (rLst rBool) rBool (fun x => ret (x.any id)) := fun F H v x P E Q fh ⟨p, vs, e1, h1, h2, h3⟩ hw k =>
  ⟨p, x, by rw [e1], SqL.of (by rw [← bools_map h3]; exact fh _ _ h1), k _ hw _ F H (Grow.refl fh) rfl⟩
theorem sem_all {K : PySem.W.Frag} : C1T (rAll K) (rLst rBool) rBool (fun x => ret (x.all id)) := fun F H v x P E Q fh ⟨p, vs, e1, h1, h2, h3⟩ hw k =>
  ⟨p, x, by rw [e1], SqL.of (by rw [← bools_map h3]; exact fh _ _ h1), k _ hw _ F H (Grow.refl fh) rfl⟩
def minL : List Int → Int
  | [] => 0
  | [x] => x
  | x :: y :: r => min x (minL (y :: r))
theorem minL_is : ∀ {xs : List Int} {m : Int}, m ∈ xs → (∀ y, y ∈ xs → m ≤ y) → minL xs = m
  | [], m, h, _ => by simp at h
  | [x], m, h, _ => by simp at h; exact h.symm
  | x :: y :: r, m, h, k => by
    show min x (minL (y :: r)) = m
    have hx : m ≤ x := k x (List.mem_cons_self ..)
    have ub : ∀ (l : List Int), (∀ z, z ∈ l → m ≤ z) → l ≠ [] → m ≤ minL l := by
      intro l
      induction l with
      | nil => intro _ q; exact absurd rfl q
      | cons a l ih =>
        intro q _
        cases l with
        | nil => exact q a (List.mem_cons_self ..)
        | cons b l =>
          have h1 := ih (fun z hz => q z (List.mem_cons_of_mem _ hz)) (by simp)
          have h2 := q a (List.mem_cons_self ..)
          show m ≤ min a (minL (b :: l))
          omega
    have h1 := ub (y :: r) (fun z hz => k z (List.mem_cons_of_mem _ hz)) (by simp)
    rcases List.mem_cons.mp h with e | e
    · omega
    · rw [minL_is e fun z hz => k z (List.mem_cons_of_mem _ hz)]
      omega
theorem sem_min {K : PySem.W.Frag} : C1T (rMin K) (rLst rInt) rInt (fun x => chk (x ≠ []) (ret (minL x))) := fun F H v x P E Q fh ⟨p, vs, e1, h1, h2, h3⟩ ⟨c, hw⟩ k =>
  ⟨p, x, by rw [e1], SqL.of (by rw [← ints_map h3]; exact fh _ _ h1), List.length_pos_iff.mpr c, fun m hm hk => by
    have q := minL_is hm hk
    rw [← q]
    exact k _ hw _ F H (Grow.refl fh) rfl⟩
theorem sem_abs : C1T (fun xs H Q => ∃ i, xs = [.int i] ∧ Q (.int (if i < 0 then -i else i)) H) rInt rInt (fun x => ret (x.natAbs : Int)) := fun F H v x P E Q fh e1 hw k =>
  ⟨x, by rw [e1], by
    have e : (if x < 0 then -x else x) = (x.natAbs : Int) := by split <;> omega
    rw [e]
    exact k _ hw _ F H (Grow.refl fh) rfl⟩
theorem sem_intI : C1T (fun xs H Q => (∃ i, xs = [.int i] ∧ Q (.int i) H) ∨ ∃ k, xs = [.bl k] ∧ Q (.int (if k then 1 else 0)) H) rInt rInt (fun x => ret x) := fun F H v x P E Q fh e1 hw k =>
  .inl ⟨x, by rw [e1], k _ hw _ F H (Grow.refl fh) rfl⟩
theorem sem_intB : C1T (fun xs H Q => (∃ i, xs = [.int i] ∧ Q (.int i) H) ∨ ∃ k, xs = [.bl k] ∧ Q (.int (if k then 1 else 0)) H) rBool rInt (fun x => ret (if x = true then 1 else 0)) := fun F H v x P E Q fh e1 hw k =>
  .inr ⟨x, by rw [e1], k _ hw _ F H (Grow.refl fh) rfl⟩
variable {w : W (List α)} {x : Str} {p : Pos}
theorem e_len (ha : EE X B env os a (rLst r) w) (hm : X.mg "len" = none) (hg : Gl X "len" := by rfl) (he : starEach [a] X.env = (false, eval a X.env) :: starEach [] X.env := by rfl) (hpl : (backTo pos (starEach [] X.env)).any (·.1) = false := by rfl) :
    EE X B env os (.Call (.Name "len" p) [a] [] pos) rInt (bnd w fun x => ret (x.length : Int)) := e_callB call_len_seq sem_len ha hm hg PySem.boot_len (by decide) (by decide) he hpl
theorem e_lenT (ha : EE X B env os a (rTup X.K r) w) (hm : X.mg "len" = none) (hg : Gl X "len" := by rfl) (he : starEach [a] X.env = (false, eval a X.env) :: starEach [] X.env := by rfl) (hpl : (backTo pos (starEach [] X.env)).any (·.1) = false := by rfl) :
    EE X B env os (.Call (.Name "len" p) [a] [] pos) rInt (bnd w fun x => ret (x.length : Int)) := e_callB call_len_seq sem_lenT ha hm hg PySem.boot_len (by decide) (by decide) he hpl
theorem e_intI {w : W Int} (ha : EE X B env os a rInt w) (hm : X.mg "int" = none) (hg : Gl X "int" := by rfl) (he : starEach [a] X.env = (false, eval a X.env) :: starEach [] X.env := by rfl) (hpl : (backTo pos (starEach [] X.env)).any (·.1) = false := by rfl) :
    EE X B env os (.Call (.Name "int" p) [a] [] pos) rInt w := e_conv (e_callTy call_int1 sem_intI ha hm hg (by decide +kernel) (by decide) (by decide) he hpl) rfl
theorem e_intB {w : W Bool} (ha : EE X B env os a rBool w) (hm : X.mg "int" = none) (hg : Gl X "int" := by rfl) (he : starEach [a] X.env = (false, eval a X.env) :: starEach [] X.env := by rfl) (hpl : (backTo pos (starEach [] X.env)).any (·.1) = false := by rfl) :
    EE X B env os (.Call (.Name "int" p) [a] [] pos) rInt (bnd w fun x => ret (if x = true then 1 else 0)) := e_callTy call_int1 sem_intB ha hm hg (by decide +kernel) (by decide) (by decide) he hpl
theorem e_abs {w : W Int} (ha : EE X B env os a rInt w) (hm : X.mg "abs" = none) (hg : Gl X "abs" := by rfl) (he : starEach [a] X.env = (false, eval a X.env) :: starEach [] X.env := by rfl) (hpl : (backTo pos (starEach [] X.env)).any (·.1) = false := by rfl) :
    EE X B env os (.Call (.Name "abs" p) [a] [] pos) rInt (bnd w fun x => ret (x.natAbs : Int)) := e_callB call_abs sem_abs ha hm hg (by decide +kernel) (by decide) (by decide) he hpl
theorem e_min {w : W (List Int)} (hc : X.calm = true) (ha : EE X B env os a (rLst rInt) w) (hm : X.mg "min" = none) (hg : Gl X "min" := by rfl) (he : starEach [a] X.env = (false, eval a X.env) :: starEach [] X.env := by rfl) (hpl : (backTo pos (starEach [] X.env)).any (·.1) = false := by rfl) :
    EE X B env os (.Call (.Name "min" p) [a] [] pos) rInt (bnd w fun x => chk (x ≠ []) (ret (minL x))) := e_callB (cr_min hc) sem_min ha hm hg (by decide +kernel) (by decide) (by decide) he hpl
theorem e_any {w : W (List Bool)} (hc : X.calm = true) (ha : EE X B env os a (rLst rBool) w) (hm : X.mg "any" = none) (hg : Gl X "any" := by rfl) (he : starEach [a] X.env = (false, eval a X.env) :: starEach [] X.env := by rfl) (hpl : (backTo pos (starEach [] X.env)).any (·.1) = false := by rfl) :
    EE X B env os (.Call (.Name "any" p) [a] [] pos) rBool (bnd w fun x => ret (x.any id)) := e_callB (cr_any hc) sem_any ha hm hg (by decide +kernel) (by decide) (by decide) he hpl
theorem e_all {w : W (List Bool)} (hc : X.calm = true) (ha : EE X B env os a (rLst rBool) w) (hm : X.mg "all" = none) (hg : Gl X "all" := by rfl) (he : starEach [a] X.env = (false, eval a X.env) :: starEach [] X.env := by rfl) (hpl : (backTo pos (starEach [] X.env)).any (·.1) = false := by rfl) :
    EE X B env os (.Call (.Name "all" p) [a] [] pos) rBool (bnd w fun x => ret (x.all id)) := e_callB (cr_all hc) sem_all ha hm hg (by decide +kernel) (by decide) (by decide) he hpl
end
end Mi
namespace Mi
open PySem L2 Evl
structure Walks {α : Type} (J : It) (F : Hp) (r : Rp α) (xs : List α) : Prop where
  go : ∀ i F1 H1, Ex F F1 → Ex F1 H1 → i < xs.length → J.go i H1
  yld : ∀ i F1 H1 v H2 x, Ex F F1 → Ex F1 H1 → J.yld i H1 v H2 → xs[i]? = some x → ∃ F2, Grow F1 H1 F2 H2 ∧ r.ok F2 v x
  stop : ∀ i F1 H1, Ex F F1 → Ex F1 H1 → xs.length ≤ i → J.stop i H1
def tSrc (B : Bs) (env : Env) (os : Os) {α : Type} (r : Rp α) (w : W (List α)) : TI := fun σ H R => ∃ F P, Sit B F H σ env os ∧ w P B.E0 ∧ ∀ xs, P xs → ∀ J F' H', Sit B F' H' σ env os → Ex F F' → Walks J F' r xs → xs.length ≤ sizeLine → R J H'
def ES (X : Cx) (B : Bs) (env : Env) (os : Os) (tg e : Expr) {α : Type} (r : Rp α) (w : W (List α)) : Prop := PI X tg e (tSrc B env os r w)
theorem PI.imp {X : Cx} {tg e : Expr} {t t' : TI} (h : PI X tg e t) (i : ∀ σ H R, t' σ H R → t σ H R) : PI X tg e t' := ⟨fun pins s σ H R I q => h.run pins s σ H R I (i _ _ _ q)⟩
def rangeI (lo hi : Int) : List Int := (List.range (hi - lo).toNat).map fun (k : Nat) => lo + (k : Int)
def RgOk (lo hi : Int) : Prop := -(2 ^ 62) ≤ lo ∧ lo < 2 ^ 62 ∧ -(2 ^ 62) ≤ hi ∧ hi < 2 ^ 62 ∧ hi - lo ≤ 16777216
theorem rangeI_len (lo hi : Int) : (rangeI lo hi).length = (hi - lo).toNat := by
  unfold rangeI
  rw [List.length_map, List.length_range]
theorem walks_rng {lo hi : Int} {F : Hp} : Walks (Itr lo (hi - lo).toNat) F rInt (rangeI lo hi) := by
  refine ⟨fun i F1 H1 _ _ h => ?_, fun i F1 H1 v H2 x _ fh y hx => ?_, fun i F1 H1 _ _ h => ?_⟩
  · rw [rangeI_len] at h
    exact h
  · obtain ⟨e1, e2⟩ := y
    subst e1
    refine ⟨F1, Grow.refl fh, ?_⟩
    unfold rangeI at hx
    rw [List.getElem?_map] at hx
    obtain ⟨k, hk, ek⟩ := Option.map_eq_some_iff.mp hx
    have : k = i := by
      rw [List.getElem?_range (by
        have := (List.getElem?_eq_some_iff.mp hk).1
        simpa using this)] at hk
      exact (Option.some.inj hk).symm
    subst this
    show v = .int x
    rw [e2, ← ek]
  · rw [rangeI_len] at h
    exact h
section
variable {X : Cx} {B : Bs} {env : Env} {os : Os} {pos : Pos} {α β γ : Type} {r : Rp α} {s : Rp β} {t : Rp γ} {e a b c tg : Expr}
theorem s_list {w : W (List α)} (h : EE X B env os e (rLst r) w) : ES X B env os tg e r w := PI.imp (pi_list h) fun σ H R ⟨F, P, S, hw, k⟩ => ⟨F, P, S, hw, fun xs hx v F' H' S' e' ⟨p, vs, e1, h1, h2, h3⟩ =>
  ⟨p, e1, ⟨vs, SqL.of (S'.fh _ _ h1)⟩, k xs hx _ F' H' S' e' ⟨fun i F1 H1 x1 x2 hi => by
    obtain ⟨v, hv⟩ : ∃ v, vs[i]? = some v := ⟨_, List.getElem?_eq_getElem (by rw [h3.length]; exact hi)⟩
    exact ⟨vs, v, SqL.of (x2 _ _ (x1 _ _ h1)), hv⟩, fun i F1 H1 u H2 x x1 x2 y hx => by
    obtain ⟨e2, y⟩ := y
    subst e2
    obtain ⟨v, hv, rv⟩ := Paired.get h3 hx
    have e3 : vs[i]? = some u := y vs (SqL.of (x2 _ _ (x1 _ _ h1)))
    rw [e3] at hv
    cases hv
    exact ⟨F1, Grow.refl x2, r.mono x1 rv⟩, fun i F1 H1 x1 x2 hi => ⟨vs, SqL.of (x2 _ _ (x1 _ _ h1)), by rw [h3.length]; exact hi⟩⟩ (by rw [← h3.length]; exact h2)⟩⟩
theorem s_tup {w : W (List α)} (h : EE X B env os e (rTup X.K r) w) : ES X B env os tg e r w := PI.imp (pi_tup h) fun σ H R ⟨F, P, S, hw, k⟩ => ⟨F, P, S, hw, fun xs hx v F' H' S' e' ⟨p, vs, e1, h1, h2, h3⟩ =>
  ⟨p, e1, ⟨vs, ex_t S'.fh h1⟩, k xs hx _ F' H' S' e' ⟨fun i F1 H1 x1 x2 hi => by
    obtain ⟨v, hv⟩ : ∃ v, vs[i]? = some v := ⟨_, List.getElem?_eq_getElem (by rw [h3.length]; exact hi)⟩
    exact ⟨vs, v, ex_t (x1.trans x2) h1, hv⟩, fun i F1 H1 u H2 x x1 x2 y hx => by
    obtain ⟨e2, y⟩ := y
    subst e2
    obtain ⟨v, hv, rv⟩ := Paired.get h3 hx
    have e3 : vs[i]? = some u := y vs (ex_t (x1.trans x2) h1)
    rw [e3] at hv
    cases hv
    exact ⟨F1, Grow.refl x2, r.mono x1 rv⟩, fun i F1 H1 x1 x2 hi => ⟨vs, ex_t (x1.trans x2) h1, by rw [h3.length]; exact hi⟩⟩ (by rw [← h3.length]; exact h2)⟩⟩
theorem len_rng {lo hi : Int} (h : RgOk lo hi) : (rangeI lo hi).length ≤ sizeLine := by
  rw [rangeI_len, sizeLine_eq]
  obtain ⟨_, _, _, _, h⟩ := h
  omega
def rng1 (n : Int) : W (List Int) := chk (RgOk 0 n) (ret (rangeI 0 n))
def rng2 (lo hi : Int) : W (List Int) := chk (RgOk lo hi) (ret (rangeI lo hi))
theorem s_rng1 {p : Pos} {w : W Int} (ha : EE X B env os a rInt w) (hm : X.mg "range" = none) (hg : Gl X "range" := by rfl) (hs : starEach [a] X.env = [(false, eval a X.env)] := by rfl) (he : starEach [a] X.env = (false, eval a X.env) :: starEach [] X.env := by rfl) :
    ES X B env os tg (.Call (.Name "range" p) [a] [] pos) rInt (bnd w rng1) := PI.imp (pi_range1 hg hm (pa_cons ha pa_nil he) hs) fun σ H R ⟨F, P, S, hw, k⟩ => ⟨F, _, S, hw, fun x ⟨c, hx⟩ v F' H' S' e' ok => by
  obtain ⟨_, _, c1, c2, _⟩ := id c
  refine ⟨x, by rw [ok], c1, c2, ?_⟩
  have q := k _ hx (Itr 0 (x - 0).toNat) F' H' S' e' walks_rng (len_rng c)
  rw [Int.sub_zero] at q
  exact q⟩
theorem s_rng2 {p : Pos} {w : W Int} {w2 : Int → W Int} (ha : EE X B env os a rInt w) (hb : ∀ x, EE X B env os b rInt (w2 x)) (hm : X.mg "range" = none) (hg : Gl X "range" := by rfl) (hs : starEach [a, b] X.env = [(false, eval a X.env), (false, eval b X.env)] := by rfl) (hs2 : starEach [b] X.env = [(false, eval b X.env)] := by rfl)
    (he : starEach [a, b] X.env = (false, eval a X.env) :: starEach [b] X.env := by rfl) (he2 : starEach [b] X.env = (false, eval b X.env) :: starEach [] X.env := by rfl) :
    ES X B env os tg (.Call (.Name "range" p) [a, b] [] pos) rInt (bnd w fun x => bnd (w2 x) fun y => rng2 x y) := PI.imp (pi_range2 hg hm (pa_cons ha (pa_cons (PE.ex hb) pa_nil he2) he) hs hs2) fun σ H R ⟨F, P, S, hw, k⟩ => ⟨F, _, S, hw, fun x hx v F1 H1 S1 e1 ok1 => ⟨x, F1, _, S1, hx, fun y ⟨c, hy⟩ u F2 H2 S2 e2 ok2 => by
  obtain ⟨c1, c2, c3, c4, _⟩ := id c
  exact ⟨x, y, by rw [ok1, ok2], ⟨c1, c2, c3, c4⟩, k _ hy _ F2 H2 S2 (e1.trans e2) walks_rng (len_rng c)⟩⟩⟩
theorem s_zip {p tpos : Pos} {elts : List Expr} {kk : Nat} {w : W (List α)} {w2 : List α → W (List β)} (ha : EE X B env os a (rLst r) w) (hb : ∀ x, EE X B env os b (rLst s) (w2 x)) (hm : X.mg "zip" = none) (hg : Gl X "zip" := by rfl)
    (hs : starEach [a, b] X.env = (false, eval a X.env) :: starEach [b] X.env := by rfl) (he2 : starEach [b] X.env = (false, eval b X.env) :: starEach [] X.env := by rfl) (hpl : (backTo pos (starEach [b] X.env)).any (·.1) = false := by rfl) :
    ES X B env os (.Tuple elts kk tpos) (.Call (.Name "zip" p) [a, b] [] pos) (rT2 X.K r s) (bnd w fun x => bnd (w2 x) fun y => ret (x.zip y)) :=
  PI.imp (pi_zip hg hm (pa_cons ha (pa_cons (PE.ex hb) pa_nil he2) hs) hs hpl) fun σ H R ⟨F, P, S, hw, k⟩ => ⟨F, _, S, hw, fun x hx v F1 H1 S1 e1 ⟨p1, vs, q1, h1, z1, ok1⟩ => ⟨x, F1, _, S1, hx, fun y hy u F2 H2 S2 e2 ⟨p2, us, q2, h2, z2, ok2⟩ => by
  subst q1 q2
  refine ⟨p1, p2, vs, us, rfl, SqL.of (S2.fh _ _ (e2 _ _ h1)), SqL.of (S2.fh _ _ h2), ?_⟩
  have l1 := ok1.length
  have l2 := ok2.length
  have lz : (x.zip y).length = min vs.length us.length := by rw [List.length_zip, l1, l2]
  refine k _ hy _ F2 H2 S2 (e1.trans e2) ⟨fun i F3 H3 x1 x2 hi => ?_, fun i F3 H3 u H4 z x1 x2 yy hz => ?_, fun i F3 H3 x1 x2 hi => ?_⟩ (by rw [lz]; exact Nat.le_trans (Nat.min_le_left _ _) z1)
  · rw [lz] at hi
    obtain ⟨v, hv⟩ : ∃ v, vs[i]? = some v := ⟨_, List.getElem?_eq_getElem (by omega)⟩
    obtain ⟨u, hu⟩ : ∃ u, us[i]? = some u := ⟨_, List.getElem?_eq_getElem (by omega)⟩
    exact ⟨vs, us, v, u, SqL.of (x2 _ _ (x1 _ _ (e2 _ _ h1))), SqL.of (x2 _ _ (x1 _ _ h2)), hv, hu⟩
  · obtain ⟨T, v1, v2, ev, hT, eH, y1, y2⟩ := yy
    subst ev eH
    obtain ⟨z1', z2'⟩ := z
    have hz' := List.getElem?_zip_eq_some.mp hz
    obtain ⟨v, hv, rv⟩ := Paired.get ok1 hz'.1
    obtain ⟨u, hu, ru⟩ := Paired.get ok2 hz'.2
    have q1 := y1 vs (SqL.of (x2 _ _ (x1 _ _ (e2 _ _ h1))))
    have q2 := y2 us (SqL.of (x2 _ _ (x1 _ _ h2)))
    rw [q1] at hv
    rw [q2] at hu
    cases hv
    cases hu
    have g : Grow F3 H3 (upd F3 T (.tup [v1, v2])) (upd H3 T (.tup [v1, v2])) := Grow.alloc x2 hT
    exact ⟨_, g, T, v1, v2, rfl, SqT.of upd_same, r.mono ((e2.trans x1).trans g.f) rv, s.mono (x1.trans g.f) ru⟩
  · rw [lz] at hi
    exact ⟨vs, us, SqL.of (x2 _ _ (x1 _ _ (e2 _ _ h1))), SqL.of (x2 _ _ (x1 _ _ h2)), by omega⟩⟩⟩
theorem s_enum {p tpos : Pos} {elts : List Expr} {kk : Nat} {w : W (List α)} (ha : EE X B env os a (rLst r) w) (hm : X.mg "enumerate" = none) (hg : Gl X "enumerate" := by rfl) (hs : starEach [a] X.env = [(false, eval a X.env)] := by rfl)
    (he : starEach [a] X.env = (false, eval a X.env) :: starEach [] X.env := by rfl) :
    ES X B env os (.Tuple elts kk tpos) (.Call (.Name "enumerate" p) [a] [] pos) (rT2 X.K rInt r) (bnd w fun x => ret ((rangeI 0 x.length).zip x)) :=
  PI.imp (pi_enum hg hm (pa_cons ha pa_nil he) hs) fun σ H R ⟨F, P, S, hw, k⟩ => ⟨F, _, S, hw, fun x hx v F1 H1 S1 e1 ⟨p1, vs, q1, h1, z1, ok1⟩ => by
  subst q1
  refine ⟨p1, vs, rfl, SqL.of (S1.fh _ _ h1), ?_⟩
  have l1 := ok1.length
  have lr : (rangeI 0 (x.length : Int)).length = x.length := by rw [rangeI_len]; omega
  have lz : ((rangeI 0 (x.length : Int)).zip x).length = vs.length := by rw [List.length_zip, lr, l1]; exact Nat.min_self _
  refine k _ hx _ F1 H1 S1 e1 ⟨fun i F3 H3 x1 x2 hi => ?_, fun i F3 H3 u H4 z x1 x2 yy hz => ?_, fun i F3 H3 x1 x2 hi => ?_⟩ (by rw [lz]; exact z1)
  · rw [lz] at hi
    obtain ⟨v, hv⟩ : ∃ v, vs[i]? = some v := ⟨_, List.getElem?_eq_getElem hi⟩
    exact ⟨vs, v, SqL.of (x2 _ _ (x1 _ _ h1)), hv⟩
  · obtain ⟨T, v2, ev, hT, eH, y1⟩ := yy
    subst ev eH
    obtain ⟨z1', z2'⟩ := z
    have hz' := List.getElem?_zip_eq_some.mp hz
    obtain ⟨v, hv, rv⟩ := Paired.get ok1 hz'.2
    have q1 := y1 vs (SqL.of (x2 _ _ (x1 _ _ h1)))
    rw [q1] at hv
    cases hv
    have hi : z1' = (i : Int) := by
      have h := hz'.1
      unfold rangeI at h
      rw [List.getElem?_map] at h
      obtain ⟨m, hm, em⟩ := Option.map_eq_some_iff.mp h
      rw [List.getElem?_range (by have := (List.getElem?_eq_some_iff.mp hm).1; simpa using this)] at hm
      have := Option.some.inj hm
      omega
    have g : Grow F3 H3 (upd F3 T (.tup [.int (i : Nat), v2])) (upd H3 T (.tup [.int (i : Nat), v2])) := Grow.alloc x2 hT
    exact ⟨_, g, T, _, v2, rfl, SqT.of upd_same, (by show V.int _ = V.int _; rw [hi]), r.mono (x1.trans g.f) rv⟩
  · rw [lz] at hi
    exact ⟨vs, SqL.of (x2 _ _ (x1 _ _ h1)), hi⟩⟩
end
end Mi
namespace Mi
open PySem L2 Evl
/-- the target takes x: the slots is are written -/
def TgT (g : TG) {α : Type} (r : Rp α) (is : List Nat) (envT : Env → α → Env) : Prop := ∀ (F H : Hp) (v : V) (x : α) (σ : L2.St) (env : Env) (Q : L2.St → Hp → Prop), r.ok F v x → Ex F H → EnvOk F env σ →
  (∀ σ', EnvOk F (envT env x) σ' → (∀ vs : List Nat, (∀ i ∈ is, i ∈ vs) → wipe σ' vs = wipe σ vs) → Q σ' H) → g v σ H Q
theorem wipe_set {σ : L2.St} {i : Nat} {o : Option V} : ∀ {vs : List Nat}, i ∈ vs → wipe (σ.set i o) vs = wipe σ vs
  | [], h => by simp at h
  | v :: vs, h => by
    show (wipe (σ.set i o) vs).set v none = (wipe σ vs).set v none
    by_cases hm : i ∈ vs
    · rw [wipe_set hm]
    · have e : i = v := by
        rcases List.mem_cons.mp h with e | e
        · exact e
        · exact absurd e hm
      subst e
      have key : ∀ (us : List Nat), i ∉ us → wipe (σ.set i o) us = (wipe σ us).set i o := by
        intro us
        induction us with
        | nil => intro _; rfl
        | cons u us ih =>
          intro hn
          have h1 : i ≠ u := fun z => hn (z ▸ List.mem_cons_self ..)
          have h2 : i ∉ us := fun z => hn (List.mem_cons_of_mem _ z)
          show (wipe (σ.set i o) us).set u none = ((wipe σ us).set u none).set i o
          rw [ih h2, List.set_comm _ _ h1]
      rw [key vs hm, List.set_set]
section
variable {α β γ : Type} {r : Rp α} {s : Rp β} {t : Rp γ} {K : PySem.W.Frag}
theorem tg_name {i : Nat} : TgT (gName i) r [i] (fun env x => env.set i (sv r x)) := fun F H v x σ env Q ok fh he k =>
  k _ (EnvOk.set (s := sv r x) ⟨v, rfl, ok⟩ he) fun vs h => wipe_set (h i (List.mem_cons_self ..))
theorem tg_pair {i j : Nat} : TgT (gTup K 2 (gCons (gName i) (gCons (gName j) gNil))) (rT2 K r s) [i, j] (fun env x => (env.set i (sv r x.1)).set j (sv s x.2)) := fun F H v x σ env Q ⟨a, v1, v2, e1, h1, ok1, ok2⟩ fh he k =>
  ⟨a, [v1, v2], e1, ex_t fh h1, rfl, v1, [v2], rfl, v2, [], rfl, rfl, k _ (EnvOk.set (s := sv s x.2) ⟨v2, rfl, ok2⟩ (EnvOk.set (s := sv r x.1) ⟨v1, rfl, ok1⟩ he)) fun vs h => by
    rw [wipe_set (h j (by simp)), wipe_set (h i (by simp))]⟩
theorem tg_trip {i j l : Nat} : TgT (gTup K 3 (gCons (gName i) (gCons (gName j) (gCons (gName l) gNil)))) (rT3 K r s t) [i, j, l] (fun env x => ((env.set i (sv r x.1)).set j (sv s x.2.1)).set l (sv t x.2.2)) :=
  fun F H v x σ env Q ⟨a, v1, v2, v3, e1, h1, ok1, ok2, ok3⟩ fh he k =>
  ⟨a, [v1, v2, v3], e1, ex_t fh h1, rfl, v1, [v2, v3], rfl, v2, [v3], rfl, v3, [], rfl, rfl, k _ (EnvOk.set (s := sv t x.2.2) ⟨v3, rfl, ok3⟩ (EnvOk.set (s := sv s x.2.1) ⟨v2, rfl, ok2⟩ (EnvOk.set (s := sv r x.1) ⟨v1, rfl, ok1⟩ he))) fun vs h => by
    rw [wipe_set (h l (by simp)), wipe_set (h j (by simp)), wipe_set (h i (by simp))]⟩
end
def wipeE (env : Env) : List Nat → Env
  | [] => env
  | v :: vs => (wipeE env vs).set v sa
theorem EnvOk.wipe {F : Hp} {env : Env} {σ : L2.St} (h : EnvOk F env σ) : ∀ vs : List Nat, EnvOk F (wipeE env vs) (L2.wipe σ vs)
  | [] => h
  | v :: vs => (EnvOk.wipe h vs).set trivial
theorem drop_cons {α : Type} {xs : List α} {i : Nat} {x : α} (h : xs[i]? = some x) : xs.drop i = x :: xs.drop (i + 1) := by
  obtain ⟨hl, e⟩ := List.getElem?_eq_some_iff.mp h
  rw [List.drop_eq_getElem_cons hl, e]
section
variable {X : Cx} {B : Bs} {env : Env} {os : Os} {α β : Type} {r : Rp α} {s : Rp β} {elt tg iter : Expr} {ifs : List Expr} {scope : Scope} {pos : Pos}
/-- the reading of a comprehension, by the mirror: M a mark, D the list so far ys, x the item -/
theorem lc_read {w : W (List α)} {c : α → W Bool} {f : α → W β} {own : List (Str × Nat)} {g : TG} {tt : TT} {te : TE} {is : List Nat} {envT : Env → α → Env}
    (st : ∀ M D ys x σ H Q, tOfT (B.at M) (envT (wipeE env (own.map (fun p : Str × Nat => p.2))) x) ((D, oLst s ys) :: os) (c x) σ H Q → tt σ H Q)
    (se : ∀ M D ys x σ H Q, tOf (B.at M) (envT (wipeE env (own.map (fun p : Str × Nat => p.2))) x) ((D, oLst s ys) :: os) s (f x) σ H Q → te σ H Q)
    (tgt : TgT g r is envT) (his : ∀ i ∈ is, i ∈ own.map (fun p : Str × Nat => p.2)) {σ : L2.St} {H : Hp} {Q : VK} (h : tNew B env os s (bnd w fun xs => filtW c f xs) σ H Q) :
    tLc (tSrc B env os r w) g tt te (own.map (fun p : Str × Nat => p.2)) σ H Q := by
  obtain ⟨F, P, S, hw, k⟩ := h
  refine ⟨F, _, S, hw, fun xs hxs J F1 H1 S1 e1 wk hz D hD => ?_⟩
  refine ⟨(fun i m H => m = xs.length - i ∧ i ≤ xs.length ∧ ∃ F' ys, ys.length ≤ i ∧ Sit (B.at F1) F' H σ env ((D, oLst s ys) :: os) ∧ filtW c f (xs.drop i) (fun zs => P (ys ++ zs)) B.E0 : Nat → Nat → Hp → Prop), ?_, ?_⟩
  · refine ⟨xs.length, by simp, Nat.zero_le _, F1, [], Nat.zero_le _, ?_, ?_⟩
    · have S1' : Sit (B.at F1) F1 H1 σ env os := ⟨⟨S1.fin.fh, S1.fin.bf, Ex.refl F1, S1.fin.bb, S1.fin.ios, S1.fin.keep⟩, S1.env, S1.ow, S1.nd⟩
      exact S1'.newOwn hD ⟨[], rfl, Nat.zero_le _, .nil⟩
    · rw [List.drop_zero]
      exact hxs
  rintro i m H2 ⟨rfl, hi, F2, ys, hyl, S2, hw2⟩
  have e12 : Ex F1 F2 := S2.fin.mrk
  by_cases hlt : i < xs.length
  · obtain ⟨x, hx⟩ : ∃ x, xs[i]? = some x := ⟨_, List.getElem?_eq_getElem hlt⟩
    refine .inr ⟨wk.go i F2 H2 e12 S2.fh hlt, (fun H' => ∃ F' ys, ys.length ≤ i + 1 ∧ Sit (B.at F1) F' H' σ env ((D, oLst s ys) :: os) ∧ filtW c f (xs.drop (i + 1)) (fun zs => P (ys ++ zs)) B.E0 : Hp → Prop), ?_, fun v H3 y => ?_⟩
    · intro H' h
      exact ⟨xs.length - (i + 1), by omega, rfl, hlt, h⟩
    obtain ⟨F3, gr, rv⟩ := wk.yld i F2 H2 v H3 x e12 S2.fh y hx
    have S3 : Sit (B.at F1) F3 H3 σ env ((D, oLst s ys) :: os) := S2.grow gr
    refine tgt F3 H3 v x (wipe σ (own.map (fun p : Str × Nat => p.2))) (wipeE env (own.map (fun p : Str × Nat => p.2))) _ rv S3.fh (S3.env.wipe _) fun σ' hσ hwipe => ⟨?_, ?_⟩
    · rw [hwipe _ his]
      have ww : ∀ (τ : L2.St) (vs : List Nat), wipe (wipe τ vs) vs = wipe τ vs := by
        intro τ vs
        have key : ∀ (us vs : List Nat), (∀ u ∈ us, u ∈ vs) → wipe (wipe τ us) vs = wipe τ vs := by
          intro us
          induction us with
          | nil => intro vs _; rfl
          | cons u us ih =>
            intro vs h
            show wipe ((wipe τ us).set u none) vs = wipe τ vs
            rw [wipe_set (h u (List.mem_cons_self ..)), ih vs fun z hz => h z (List.mem_cons_of_mem _ hz)]
        exact key vs vs fun _ h => h
      exact ww σ _
    · rw [drop_cons hx] at hw2
      have hw3 : c x (fun b => (if b = true then bnd (f x) fun y => bnd (filtW c f (xs.drop (i + 1))) fun ys => ret (y :: ys) else filtW c f (xs.drop (i + 1))) (fun zs => P (ys ++ zs)) B.E0) B.E0 := hw2
      have St : Sit (B.at F1) F3 H3 σ' (envT (wipeE env (own.map (fun p : Str × Nat => p.2))) x) ((D, oLst s ys) :: os) := ⟨S3.fin, hσ, S3.ow, S3.nd⟩
      refine st F1 D ys x σ' H3 _ ⟨F3, _, St, hw3, fun b hb F4 H4 S4 e34 => ?_⟩
      cases b with
      | false => exact ⟨F4, ys, by omega, ⟨S4.fin, S3.env.mono e34, S4.ow, S4.nd⟩, hb⟩
      | true =>
        have hb' : f x (fun y => filtW c f (xs.drop (i + 1)) (fun zs => P (ys ++ (y :: zs))) B.E0) B.E0 := hb
        refine se F1 D ys x σ' H4 _ ⟨F4, _, S4, hb', fun z hz v' F5 H5 S5 e45 okz => ?_⟩
        obtain ⟨hF5, ⟨o, ho, vs, eo, hl, pr⟩, hB5⟩ := S5.ow (D, oLst s ys) (List.mem_cons_self ..)
        subst eo
        have hlen : vs.length < sizeLine := by
          have := pr.length
          omega
        refine ⟨vs, ho, hlen, F5, ys ++ [z], by rw [List.length_append, List.length_singleton]; omega, ?_, ?_⟩
        · have S6 := S5.change (j := 0) (ow' := oLst s (ys ++ [z])) (o' := .lst (vs ++ [v'])) rfl ⟨vs ++ [v'], rfl, by rw [List.length_append, List.length_singleton]; omega, Paired.app pr (.cons okz .nil)⟩
          exact ⟨S6.fin, (S3.env.mono e34).mono e45, S6.ow, S6.nd⟩
        · have q : (fun zs => P (ys ++ [z] ++ zs)) = fun zs => P (ys ++ (z :: zs)) := by
            funext zs
            rw [List.append_assoc]
            rfl
          show filtW c f (xs.drop (i + 1)) (fun zs => P (ys ++ [z] ++ zs)) B.E0
          rw [q]
          exact hz
  · have e : i = xs.length := by omega
    subst e
    refine .inl ⟨wk.stop _ F2 H2 e12 S2.fh (Nat.le_refl _), ?_⟩
    rw [List.drop_length] at hw2
    have hp : P (ys ++ []) := hw2
    rw [List.append_nil] at hp
    exact k ys hp D F2 H2 ⟨⟨S2.fin.fh, S2.fin.bf, S1.fin.mrk.trans e12, S2.fin.bb, S2.fin.ios, S2.fin.keep⟩, S2.env, S2.ow, S2.nd⟩ (e1.trans e12)
theorem filtW_true {α β : Type} {f : α → W β} : ∀ xs : List α, filtW (fun _ => ret true) f xs = mapW f xs
  | [] => rfl
  | x :: xs => by
    show bnd (f x) _ = bnd (f x) _
    congr 1
    funext y
    rw [filtW_true xs]
/-- an item's place in a block -/
abbrev envI (env : Env) (own : List (Str × Nat)) {α : Type} (envT : Env → α → Env) (x : α) : Env := envT (wipeE env (own.map (fun p : Str × Nat => p.2))) x
abbrev teC (B : Bs) (env : Env) (os : Os) (own : List (Str × Nat)) {α β : Type} (envT : Env → α → Env) (s : Rp β) (f : α → W β) : TE := fun σ H Q => ∃ p : Hp × Addr × List β × α, tOf (B.at p.1) (envI env own envT p.2.2.2) ((p.2.1, oLst s p.2.2.1) :: os) s (f p.2.2.2) σ H Q
abbrev ttC (B : Bs) (env : Env) (os : Os) (own : List (Str × Nat)) {α β : Type} (envT : Env → α → Env) (s : Rp β) (c : α → W Bool) : TT := fun σ H Q => ∃ p : Hp × Addr × List β × α, tOfT (B.at p.1) (envI env own envT p.2.2.2) ((p.2.1, oLst s p.2.2.1) :: os) (c p.2.2.2) σ H Q
section
variable {w : W (List α)} {c : α → W Bool} {f : α → W β} {own : List (Str × Nat)} {g : TG} {is : List Nat} {envT : Env → α → Env} {test : Expr}
theorem lc_readM (tgt : TgT g r is envT) (his : ∀ i ∈ is, i ∈ own.map (fun p : Str × Nat => p.2)) {σ : L2.St} {H : Hp} {Q : VK} (h : tNew B env os s (bnd w fun xs => mapW f xs) σ H Q) :
    tLc (tSrc B env os r w) g tYes (teC B env os own envT s f) (own.map (fun p : Str × Nat => p.2)) σ H Q := by
  have e : (fun xs => mapW f xs) = fun xs => filtW (fun _ => ret true) f xs := by
    funext xs
    exact (filtW_true xs).symm
  rw [e] at h
  exact lc_read (own := own) (fun M D ys x σ H Q ⟨F, P, S, hw, k⟩ => k true hw F H S (Ex.refl F)) (fun M D ys x σ H Q h => ⟨(M, D, ys, x), h⟩) tgt his h
theorem lc_readF (tgt : TgT g r is envT) (his : ∀ i ∈ is, i ∈ own.map (fun p : Str × Nat => p.2)) {σ : L2.St} {H : Hp} {Q : VK} (h : tNew B env os s (bnd w fun xs => filtW c f xs) σ H Q) :
    tLc (tSrc B env os r w) g (ttC B env os own envT s c) (teC B env os own envT s f) (own.map (fun p : Str × Nat => p.2)) σ H Q :=
  lc_read (own := own) (fun M D ys x σ H Q h => ⟨(M, D, ys, x), h⟩) (fun M D ys x σ H Q h => ⟨(M, D, ys, x), h⟩) tgt his h
theorem ex_teC {Y : Cx} (h : ∀ (M : Hp) (D : Addr) (ys : List β) (x : α), EE Y (B.at M) (envI env own envT x) ((D, oLst s ys) :: os) elt s (f x)) : PE Y elt (teC B env os own envT s f) :=
  ⟨fun pins s σ H Q I ⟨p, q⟩ => (h p.1 p.2.1 p.2.2.1 p.2.2.2).run pins s σ H Q I q⟩
theorem ex_ttC {Y : Cx} (h : ∀ (M : Hp) (D : Addr) (ys : List β) (x : α), ET Y (B.at M) (envI env own envT x) ((D, oLst s ys) :: os) test (c x)) : PT Y test (ttC B env os own envT s c) :=
  ⟨fun pins s σ H Q I ⟨p, q⟩ => (h p.1 p.2.1 p.2.2.1 p.2.2.2).run pins s σ H Q I q⟩
variable (hc : X.calm = true) (hN : X.N.Nodup) (src : ES X B env os tg iter r w) (ok : BlkOk X.N X.env.scope scope own) (tgt : TgT g r is envT)
  (hg : ∀ (s : Shared) (H : Hp) (C : Addr) (cl : List (Str × Addr)) (fp : List Addr), PG (X.blk s H scope (compEnvC scope cl C X.env) fp) tg g) (his : ∀ i ∈ is, i ∈ own.map (fun p : Str × Nat => p.2))
  (ht : ∀ (s' : Shared) (H : Hp) (C : Addr) (cl : List (Str × Addr)) (fp : List Addr) (M : Hp) (D : Addr) (ys : List β) (x : α), ET (X.blk s' H scope (compEnvC scope cl C X.env) fp) (B.at M) (envI env own envT x) ((D, oLst s ys) :: os) test (c x))
  (he : ∀ (s' : Shared) (H : Hp) (C : Addr) (cl : List (Str × Addr)) (fp : List Addr) (M : Hp) (D : Addr) (ys : List β) (x : α), EE (X.blk s' H scope (compEnvC scope cl C X.env) fp) (B.at M) (envI env own envT x) ((D, oLst s ys) :: os) elt s (f x))
include hc hN src ok tgt hg his he
theorem n_comp (hs : ∀ x, foldedSetIterable iter X.env x = pure x := by intro _; rfl) : EN X B env os (.ListComp elt [⟨tg, iter, [], 0⟩] scope pos) s (bnd w fun xs => mapW f xs) :=
  PE.imp (pe_lc hc hN src ok hg (fun _ _ _ _ _ => pts_nil) (fun s' H C cl fp => ex_teC (he s' H C cl fp)) hs) fun σ H Q h => lc_readM tgt his h
/-- name = [..] where the name is a plain local of the same line -/
theorem c_comp {i : Nat} {y : Str} {py spos : Pos} (hy : X.N[i]? = some y) (hyl : X.env.scope.names.lookup y = some .local) (hsw : swapsWith (.ListComp elt [⟨tg, iter, [], 0⟩] scope pos) (some (.Name y py)) spos.line X.env = pure true)
    (hs : ∀ x, foldedSetIterable iter X.env x = pure x := by intro _; rfl) : PS X (.Assign [.Name y py] (.ListComp elt [⟨tg, iter, [], 0⟩] scope pos) spos) (tAsg (tNew B env os s (bnd w fun xs => mapW f xs)) (gName i)) := by
  have h := ps_setLc (pos := pos) (spos := spos) (py := py) hc hN hy hyl hsw src ok hg (fun _ _ _ _ _ => pts_nil) (fun s' H C cl fp => ex_teC (he s' H C cl fp)) hs
  exact ⟨fun pins s σ H D I q => h.run pins s σ H D I (lc_readM tgt his q)⟩
include ht
theorem n_compF (hs : ∀ x, foldedSetIterable iter X.env x = pure x := by intro _; rfl) : EN X B env os (.ListComp elt [⟨tg, iter, [test], 0⟩] scope pos) s (bnd w fun xs => filtW c f xs) :=
  PE.imp (pe_lc hc hN src ok hg (fun s' H C cl fp => pts_one (ex_ttC (ht s' H C cl fp))) (fun s' H C cl fp => ex_teC (he s' H C cl fp)) hs)
    fun σ H Q h => lc_readF tgt his h
theorem c_compF {i : Nat} {y : Str} {py spos : Pos} (hy : X.N[i]? = some y) (hyl : X.env.scope.names.lookup y = some .local) (hsw : swapsWith (.ListComp elt [⟨tg, iter, [test], 0⟩] scope pos) (some (.Name y py)) spos.line X.env = pure true)
    (hs : ∀ x, foldedSetIterable iter X.env x = pure x := by intro _; rfl) : PS X (.Assign [.Name y py] (.ListComp elt [⟨tg, iter, [test], 0⟩] scope pos) spos) (tAsg (tNew B env os s (bnd w fun xs => filtW c f xs)) (gName i)) := by
  have h := ps_setLc (pos := pos) (spos := spos) (py := py) hc hN hy hyl hsw src ok hg (fun s' H C cl fp => pts_one (ex_ttC (ht s' H C cl fp))) (fun s' H C cl fp => ex_teC (he s' H C cl fp)) hs
  exact ⟨fun pins s σ H D I q => h.run pins s σ H D I (lc_readF tgt his q)⟩
end
end
end Mi
namespace Mi
open PySem L2 Evl
section
variable {X : Cx} {B : Bs} {env : Env} {os : Os} {α β ρ S : Type} {r : Rp α} {tg iter : Expr} {body rest : List Stmt} {pos : Pos} {post : Post β}
theorem Sit.at {F H : Hp} {σ : L2.St} (s : Sit B F H σ env os) (M : Hp) (h : Ex M F) : Sit (B.at M) F H σ env os := ⟨⟨s.fin.fh, s.fin.bf, h, s.fin.bb, s.fin.ios, s.fin.keep⟩, s.env, s.ow, s.nd⟩
theorem Sit.un {F H M : Hp} {σ : L2.St} (s : Sit (B.at M) F H σ env os) (h : Ex B.M M) : Sit B F H σ env os := ⟨⟨s.fin.fh, s.fin.bf, h.trans s.fin.mrk, s.fin.bb, s.fin.ios, s.fin.keep⟩, s.env, s.ow, s.nd⟩
theorem Fn.un {F H M : Hp} (s : Fn (B.at M) F H) (h : Ex B.M M) : Fn B F H := ⟨s.fh, s.bf, h.trans s.mrk, s.bb, s.ios, s.keep⟩
/-- what comes behind a loop -/
theorem b_forG {w : W (List α)} {f : S → α → W (Fl S ρ)} {w3 : Fl S ρ → W β} {g : TG} {is : List Nat} {envT : Env → α → Env} {osR : Os} {ro : Rp ρ} (inj : ρ → β) (envS : S → Env) (osS : S → Os) (s0 : S) (hc : X.calm = true) (hp : PassesOwn (model X.prog X.w) X.A X.env X.xe)
    (src : ES X B env os tg iter r w) (tgt : TgT g r is envT) (hg : PG X tg g)
    (hb : ∀ M s x, BG X (B.at M) (envT (envS s) x) (osS s) body (pFl (B.at M) osR ro envS osS) (f s x))
    (hr : ∀ s, BG X B (envS s) (osS s) rest post (w3 (.nx s))) (hrt : ∀ x, w3 (.rt x) = ret (inj x)) (hpo : RtOk B post osR ro inj)
    (le0 : EnvLe env (envS s0)) (os0 : os = osS s0) (hs : ∀ x, foldedSetIterable iter X.env x = pure x := by intro _; rfl) :
    BG X B env os (.For tg iter body [] pos :: rest) post (bnd w fun xs => bnd (forF f s0 xs) w3) := by
  have hb' : PSs X body (fun D σ H => ∃ p : Hp × S × α, tBG (B.at p.1) (envT (envS p.2.1) p.2.2) (osS p.2.1) (pFl (B.at p.1) osR ro envS osS) (f p.2.1 p.2.2) D σ H) := PSs.ex fun p => hb p.1 p.2.1 p.2.2
  have hr' : PSs X rest (fun D σ H => ∃ s, tBG B (envS s) (osS s) post (w3 (.nx s)) D σ H) := PSs.ex hr
  refine PSs.imp (pss_cons (ps_for hp hc src hg hb' hs) hr') fun D σ H ⟨F, P, S0, hw, k⟩ => ⟨F, _, S0, hw, fun xs hxs J F1 H1 S1 e1 wk hz => ?_⟩
  refine ⟨(fun i m σ H => m = xs.length - i ∧ i ≤ xs.length ∧ ∃ F' s, Sit (B.at F1) F' H σ (envS s) (osS s) ∧ forF f s (xs.drop i) (fun q => w3 q P B.E0) B.E0 : Nat → Nat → L2.St → Hp → Prop), ?_, ?_⟩
  · refine ⟨xs.length, by simp, Nat.zero_le _, F1, s0, ?_, ?_⟩
    · subst os0
      exact (S1.at F1 (Ex.refl F1)).le le0
    · rw [List.drop_zero]
      exact hxs
  rintro i m σ2 H2 ⟨rfl, hi, F2, s, S2, hw2⟩
  have e12 : Ex F1 F2 := S2.fin.mrk
  by_cases hlt : i < xs.length
  · obtain ⟨x, hx⟩ : ∃ x, xs[i]? = some x := ⟨_, List.getElem?_eq_getElem hlt⟩
    refine .inr ⟨wk.go i F2 H2 e12 S2.fh hlt, (fun σ' H' => ∃ F' s, Sit (B.at F1) F' H' σ' (envS s) (osS s) ∧ forF f s (xs.drop (i + 1)) (fun q => w3 q P B.E0) B.E0 : L2.St → Hp → Prop), ?_, fun v H3 y => ?_⟩
    · intro σ' H' h
      exact ⟨xs.length - (i + 1), by omega, rfl, hlt, h⟩
    obtain ⟨F3, gr, rv⟩ := wk.yld i F2 H2 v H3 x e12 S2.fh y hx
    have S3 := S2.grow gr
    refine tgt F3 H3 v x σ2 (envS s) _ rv S3.fh S3.env fun σ' hσ _ => ?_
    rw [drop_cons hx] at hw2
    have hw3 : f s x (fun q => flGo (fun s' => forF f s' (xs.drop (i + 1))) q (fun q => w3 q P B.E0) B.E0) B.E0 := hw2
    refine ⟨(F1, s, x), F3, _, ⟨S3.fin, hσ, S3.ow, S3.nd⟩, hw3, fun q hq => ?_⟩
    cases q with
    | nx s' => exact fun σ4 F4 H4 S4 => ⟨F4, s', S4, hq⟩
    | ct s' => exact fun σ4 F4 H4 S4 => ⟨F4, s', S4, hq⟩
    | bk s' => exact fun σ4 F4 H4 S4 => ⟨s', F4, P, S4.un S1.fin.mrk, hq, k⟩
    | rt z =>
      have hq' : w3 (.rt z) P B.E0 := hq
      rw [hrt z] at hq'
      exact fun v5 F5 H5 fn ow okv => hpo.ok D z (k _ hq') v5 F5 H5 (fn.un S1.fin.mrk) ow okv
  · have e : i = xs.length := by omega
    subst e
    rw [List.drop_length] at hw2
    have hq : w3 (.nx s) P B.E0 := hw2
    exact .inl ⟨wk.stop _ F2 H2 e12 S2.fh (Nat.le_refl _), s, F2, P, S2.un S1.fin.mrk, hq, k⟩
/-- a loop that is never left early -/
theorem b_for {w : W (List α)} {f : S → α → W S} {w3 : S → W β} {g : TG} {is : List Nat} {envT : Env → α → Env} (envS : S → Env) (osS : S → Os) (s0 : S) (hc : X.calm = true) (hp : PassesOwn (model X.prog X.w) X.A X.env X.xe)
    (src : ES X B env os tg iter r w) (tgt : TgT g r is envT) (hg : PG X tg g)
    (hb : ∀ M s x, BG X (B.at M) (envT (envS s) x) (osS s) body (pNx (B.at M) envS osS) (f s x))
    (hr : ∀ s, BG X B (envS s) (osS s) rest post (w3 s))
    (le0 : EnvLe env (envS s0)) (os0 : os = osS s0) (hs : ∀ x, foldedSetIterable iter X.env x = pure x := by intro _; rfl) :
    BG X B env os (.For tg iter body [] pos :: rest) post (bnd w fun xs => bnd (forW f s0 xs) w3) := by
  have hb' : PSs X body (fun D σ H => ∃ p : Hp × S × α, tBG (B.at p.1) (envT (envS p.2.1) p.2.2) (osS p.2.1) (pNx (B.at p.1) envS osS) (f p.2.1 p.2.2) D σ H) := PSs.ex fun p => hb p.1 p.2.1 p.2.2
  have hr' : PSs X rest (fun D σ H => ∃ s, tBG B (envS s) (osS s) post (w3 s) D σ H) := PSs.ex hr
  refine PSs.imp (pss_cons (ps_for hp hc src hg hb' hs) hr') fun D σ H ⟨F, P, S0, hw, k⟩ => ⟨F, _, S0, hw, fun xs hxs J F1 H1 S1 e1 wk hz => ?_⟩
  refine ⟨(fun i m σ H => m = xs.length - i ∧ i ≤ xs.length ∧ ∃ F' s, Sit (B.at F1) F' H σ (envS s) (osS s) ∧ forW f s (xs.drop i) (fun q => w3 q P B.E0) B.E0 : Nat → Nat → L2.St → Hp → Prop), ?_, ?_⟩
  · refine ⟨xs.length, by simp, Nat.zero_le _, F1, s0, ?_, ?_⟩
    · subst os0
      exact (S1.at F1 (Ex.refl F1)).le le0
    · rw [List.drop_zero]
      exact hxs
  rintro i m σ2 H2 ⟨rfl, hi, F2, s, S2, hw2⟩
  have e12 : Ex F1 F2 := S2.fin.mrk
  by_cases hlt : i < xs.length
  · obtain ⟨x, hx⟩ : ∃ x, xs[i]? = some x := ⟨_, List.getElem?_eq_getElem hlt⟩
    refine .inr ⟨wk.go i F2 H2 e12 S2.fh hlt, (fun σ' H' => ∃ F' s, Sit (B.at F1) F' H' σ' (envS s) (osS s) ∧ forW f s (xs.drop (i + 1)) (fun q => w3 q P B.E0) B.E0 : L2.St → Hp → Prop), ?_, fun v H3 y => ?_⟩
    · intro σ' H' h
      exact ⟨xs.length - (i + 1), by omega, rfl, hlt, h⟩
    obtain ⟨F3, gr, rv⟩ := wk.yld i F2 H2 v H3 x e12 S2.fh y hx
    have S3 := S2.grow gr
    refine tgt F3 H3 v x σ2 (envS s) _ rv S3.fh S3.env fun σ' hσ _ => ?_
    rw [drop_cons hx] at hw2
    exact ⟨(F1, s, x), F3, _, ⟨S3.fin, hσ, S3.ow, S3.nd⟩, hw2, fun s' hq σ4 F4 H4 S4 => ⟨F4, s', S4, hq⟩⟩
  · have e : i = xs.length := by omega
    subst e
    rw [List.drop_length] at hw2
    exact .inl ⟨wk.stop _ F2 H2 e12 S2.fh (Nat.le_refl _), s, F2, P, S2.un S1.fin.mrk, hw2, k⟩
end
/-- c and b until c is False: there is a number of turns -/
def whileN {S : Type} (c : S → W Bool) (b : S → W S) : Nat → S → W S
  | 0, _ => fail
  | n + 1, s => bnd (c s) fun t => if t = true then bnd (b s) (whileN c b n) else ret s
def whileW {S : Type} (c : S → W Bool) (b : S → W S) (s : S) : W S := fun P E => ∃ n, whileN c b n s P E
section
variable {X : Cx} {B : Bs} {env : Env} {os : Os} {β S : Type} {test : Expr} {body rest : List Stmt} {pos : Pos} {post : Post β}
theorem b_while {c : S → W Bool} {f : S → W S} {w3 : S → W β} (envS : S → Env) (osS : S → Os) (s0 : S) (hp : PassesOwn (model X.prog X.w) X.A X.env X.xe)
    (ht : ∀ s, ET X B (envS s) (osS s) test (c s)) (hb : ∀ s, BG X B (envS s) (osS s) body (pNx B envS osS) (f s)) (hr : ∀ s, BG X B (envS s) (osS s) rest post (w3 s))
    (le0 : EnvLe env (envS s0)) (os0 : os = osS s0) : BG X B env os (.While test body [] pos :: rest) post (bnd (whileW c f s0) w3) := by
  have ht' : PT X test (fun σ H Q => ∃ s, tOfT B (envS s) (osS s) (c s) σ H Q) := ⟨fun pins s σ H Q I ⟨i, q⟩ => (ht i).run pins s σ H Q I q⟩
  have hb' : PSs X body (fun D σ H => ∃ s, tBG B (envS s) (osS s) (pNx B envS osS) (f s) D σ H) := PSs.ex hb
  have hr' : PSs X rest (fun D σ H => ∃ s, tBG B (envS s) (osS s) post (w3 s) D σ H) := PSs.ex hr
  refine PSs.imp (pss_cons (ps_while hp ht' hb') hr') fun D σ H ⟨F, P, S0, ⟨n, hw⟩, k⟩ => ?_
  refine ⟨(fun m σ H => ∃ F' s, Sit B F' H σ (envS s) (osS s) ∧ whileN c f m s (fun q => w3 q P B.E0) B.E0 : Nat → L2.St → Hp → Prop), ⟨n, F, s0, ?_, hw⟩, ?_⟩
  · subst os0
    exact S0.le le0
  rintro m σ2 H2 ⟨F2, s, S2, hw2⟩
  cases m with
  | zero => exact False.elim hw2
  | succ m =>
    have hw3 : c s (fun t => (if t = true then bnd (f s) (whileN c f m) else ret s : W S) (fun q => w3 q P B.E0) B.E0) B.E0 := hw2
    refine ⟨s, F2, _, S2, hw3, fun t hq F3 H3 S3 e3 => ?_⟩
    cases t with
    | false => exact ⟨s, F3, P, S3, hq, k⟩
    | true =>
      refine ⟨(fun σ' H' => ∃ F' s, Sit B F' H' σ' (envS s) (osS s) ∧ whileN c f m s (fun q => w3 q P B.E0) B.E0 : L2.St → Hp → Prop), fun σ' H' h => ⟨m, Nat.lt_succ_self m, h⟩, ?_⟩
      exact ⟨s, F3, _, S3, hq, fun s' hs' σ4 F4 H4 S4 => ⟨F4, s', S4, hs'⟩⟩
end
end Mi
namespace Mi
open PySem L2 Evl
section
variable {X : Cx} {B : Bs} {env : Env} {os : Os} {pos : Pos} {α β γ : Type} {r : Rp α} {s : Rp β} {t : Rp γ} {e a b c : Expr}
def catL (xs ys : List α) : W (List α) := chk (xs.length + ys.length ≤ sizeLine) (ret (xs ++ ys))
theorem n_cat {w1 : W (List α)} {w2 : List α → W (List α)} (ha : EE X B env os a (rLst r) w1) (hb : ∀ x, EE X B env os b (rLst r) (w2 x)) : EN X B env os (.BinOp a .Add b pos) r (bnd w1 fun x => bnd (w2 x) fun y => catL x y) :=
  PE.imp (pe_op op_cat ha (PE.ex hb)) fun σ H Q ⟨F, P, S, hw, k⟩ => ⟨F, _, S, hw, fun x hx v F1 H1 S1 e1 ⟨p1, vs, q1, h1, z1, ok1⟩ => ⟨x, F1, _, S1, hx, fun y ⟨c, hy⟩ u F2 H2 S2 e2 ⟨p2, us, q2, h2, z2, ok2⟩ => by
  have hl : vs.length + us.length ≤ sizeLine := by rw [ok1.length, ok2.length]; exact c
  exact ⟨p1, p2, vs, us, q1, q2, S2.fh _ _ (e2 _ _ h1), S2.fh _ _ h2, hl, fun p hp => k _ hy p F2 _ (S2.newOwn hp ⟨_, rfl, by rw [List.length_append]; exact hl, Paired.app (Paired.imp (fun _ _ => r.mono e2) ok1) ok2⟩) (e1.trans e2)⟩⟩⟩
def repL (xs : List α) (k : Int) : W (List α) := chk (-(2 ^ 63) ≤ k ∧ k < 2 ^ 63 ∧ xs.length * k.toNat ≤ sizeLine) (ret (List.replicate k.toNat xs).flatten)
theorem flat_paired {R : V → α → Prop} {vs : List V} {xs : List α} (h : Paired R vs xs) : ∀ n : Nat, Paired R (List.replicate n vs).flatten (List.replicate n xs).flatten
  | 0 => .nil
  | n + 1 => by
    rw [List.replicate_succ, List.replicate_succ, List.flatten_cons, List.flatten_cons]
    exact Paired.app h (flat_paired h n)
theorem n_rep {w1 : W (List α)} {w2 : List α → W Int} (ha : EE X B env os a (rLst r) w1) (hb : ∀ x, EE X B env os b rInt (w2 x)) : EN X B env os (.BinOp a .Mult b pos) r (bnd w1 fun x => bnd (w2 x) fun k => repL x k) :=
  PE.imp (pe_op op_rep ha (PE.ex hb)) fun σ H Q ⟨F, P, S, hw, k⟩ => ⟨F, _, S, hw, fun x hx v F1 H1 S1 e1 ⟨p1, vs, q1, h1, z1, ok1⟩ => ⟨x, F1, _, S1, hx, fun y ⟨⟨c1, c2, c3⟩, hy⟩ u F2 H2 S2 e2 ok2 => by
  have hl : vs.length * y.toNat ≤ sizeLine := by rw [ok1.length]; exact c3
  exact ⟨p1, y, vs, q1, ok2, S2.fh _ _ (e2 _ _ h1), c1, c2, hl, fun p hp => k _ hy p F2 _ (S2.newOwn hp ⟨_, rfl, by
    rw [List.length_flatten, List.map_replicate, List.sum_replicate_nat, Nat.mul_comm]; exact hl, flat_paired (Paired.imp (fun _ _ => r.mono e2) ok1) y.toNat⟩) (e1.trans e2)⟩⟩⟩
def cutL (xs : List α) (lo hi : Option Int) : List α := (xs.drop (HT.sIx xs.length 0 lo)).take (HT.sIx xs.length xs.length hi - HT.sIx xs.length 0 lo)
theorem cut_paired {R : V → α → Prop} {vs : List V} {xs : List α} (h : Paired R vs xs) (lo hi : Option Int) : Paired R (cutV vs lo hi) (cutL xs lo hi) := by
  unfold cutV cutL
  rw [h.length]
  exact Paired.takeR _ (Paired.dropR _ h)
/-- a part of a slice -/
def tOpt (B : Bs) (env : Env) (os : Os) (w : W (Option Int)) : TO := fun σ H Q => ∃ F P, Sit B F H σ env os ∧ w P B.E0 ∧ ∀ x, P x → ∀ F' H', Sit B F' H' σ env os → Ex F F' → Q x H'
def EO (X : Cx) (B : Bs) (env : Env) (os : Os) (e : Option Expr) (w : W (Option Int)) : Prop := PO X e (tOpt B env os w)
theorem PO.imp {e : Option Expr} {t t' : TO} (h : PO X e t) (i : ∀ σ H Q, t' σ H Q → t σ H Q) : PO X e t' := ⟨fun pins s σ H Q I q => h.run pins s σ H Q I (i _ _ _ q)⟩
theorem PO.ex {e : Option Expr} {ι : Type} {t : ι → TO} (h : ∀ i, PO X e (t i)) : PO X e (fun σ H Q => ∃ i, t i σ H Q) := ⟨fun pins s σ H Q I ⟨i, q⟩ => (h i).run pins s σ H Q I q⟩
theorem o_none : EO X B env os none (ret none) := PO.imp po_none fun σ H Q ⟨F, P, S, hw, k⟩ => k none hw F H S (Ex.refl F)
theorem o_some {w : W Int} (h : EE X B env os e rInt w) : EO X B env os (some e) (bnd w fun i => ret (some i)) := PO.imp (po_some h) fun σ H Q ⟨F, P, S, hw, k⟩ => ⟨F, _, S, hw, fun x hx v F1 H1 S1 e1 ok => ⟨x, ok, k _ hx F1 H1 S1 e1⟩⟩
theorem n_slice {w1 : W (List α)} {w2 w3 : W (Option Int)} {lo hi : Option Expr} {p2 : Pos} (ha : EE X B env os a (rLst r) w1) (hl : EO X B env os lo w2) (hh : EO X B env os hi w3) :
    EN X B env os (.Subscript a (.Slice lo hi none p2) pos) r (bnd w1 fun x => bnd w2 fun l => bnd w3 fun h => ret (cutL x l h)) :=
  PE.imp (pe_slice sl_list ha hl hh) fun σ H Q ⟨F, P, S, hw, k⟩ => ⟨F, _, S, hw, fun x hx v F1 H1 S1 e1 ⟨p1, vs, q1, h1, z1, ok1⟩ => ⟨F1, _, S1, hx, fun l hl' F2 H2 S2 e2 => ⟨F2, _, S2, hl', fun h hh' F3 H3 S3 e3 => by
  exact ⟨p1, vs, q1, SqL.of (S3.fh _ _ (e3 _ _ (e2 _ _ h1))), fun p hp => k _ hh' p F3 _ (S3.newOwn hp ⟨_, rfl, Nat.le_trans (cutV_length vs l h) z1, cut_paired (Paired.imp (fun _ _ => r.mono (e2.trans e3)) ok1) l h⟩) ((e1.trans e2).trans e3)⟩⟩⟩⟩
/-- list(xs), of a list or a tuple -/
theorem n_listL {w : W (List α)} {p : Pos} (ha : EE X B env os a (rLst r) w) (hm : X.mg "list" = none) (hg : Gl X "list" := by rfl) (he : starEach [a] X.env = (false, eval a X.env) :: starEach [] X.env := by rfl) (hpl : (backTo pos (starEach [] X.env)).any (·.1) = false := by rfl) :
    EN X B env os (.Call (.Name "list" p) [a] [] pos) r w := PE.imp (pe_callTy call_list_of hg hm (by decide +kernel) (pa_cons ha pa_nil he) (by decide) (by decide) he hpl) fun σ H Q ⟨F, P, S, hw, k⟩ => ⟨F, _, S, hw, fun x hx v F1 H1 S1 e1 ⟨p1, vs, q1, h1, z1, ok1⟩ =>
  ⟨p1, vs, by rw [q1], .inl (SqL.of (S1.fh _ _ h1)), fun l hl => k x hx l F1 _ (S1.newOwn hl ⟨vs, rfl, z1, ok1⟩) e1⟩⟩
theorem n_listT {w : W (List α)} {p : Pos} (ha : EE X B env os a (rTup X.K r) w) (hm : X.mg "list" = none) (hg : Gl X "list" := by rfl) (he : starEach [a] X.env = (false, eval a X.env) :: starEach [] X.env := by rfl) (hpl : (backTo pos (starEach [] X.env)).any (·.1) = false := by rfl) :
    EN X B env os (.Call (.Name "list" p) [a] [] pos) r w := PE.imp (pe_callTy call_list_of hg hm (by decide +kernel) (pa_cons ha pa_nil he) (by decide) (by decide) he hpl) fun σ H Q ⟨F, P, S, hw, k⟩ => ⟨F, _, S, hw, fun x hx v F1 H1 S1 e1 ⟨p1, vs, q1, h1, z1, ok1⟩ =>
  ⟨p1, vs, by rw [q1], .inr (ex_t S1.fh h1), fun l hl => k x hx l F1 _ (S1.newOwn hl ⟨vs, rfl, z1, ok1⟩) e1⟩⟩
/-- tuple(xs) -/
theorem e_tupleL {w : W (List α)} {p : Pos} (ha : EE X B env os a (rLst r) w) (hm : X.mg "tuple" = none) (hg : Gl X "tuple" := by rfl) (he : starEach [a] X.env = (false, eval a X.env) :: starEach [] X.env := by rfl) (hpl : (backTo pos (starEach [] X.env)).any (·.1) = false := by rfl) :
    EE X B env os (.Call (.Name "tuple" p) [a] [] pos) (rTup X.K r) w := PE.imp (pe_callTy call_tuple_of hg hm (by decide +kernel) (pa_cons ha pa_nil he) (by decide) (by decide) he hpl) fun σ H Q ⟨F, P, S, hw, k⟩ => ⟨F, _, S, hw, fun x hx v F1 H1 S1 e1 ⟨p1, vs, q1, h1, z1, ok1⟩ =>
  ⟨p1, vs, by rw [q1], .inl ⟨SqL.of (S1.fh _ _ h1), fun l hl => by
    have g : Grow F1 H1 (upd F1 l (.tup vs)) (upd H1 l (.tup vs)) := Grow.alloc S1.fh hl
    exact k x hx (.ref l) _ _ (S1.grow g) (e1.trans g.f) ⟨l, vs, rfl, SqT.of upd_same, z1, Paired.imp (fun _ _ => r.mono g.f) ok1⟩⟩⟩⟩
end
theorem erase_perm {α : Type} : ∀ {l : List α} {j : Nat} {x : α}, l[j]? = some x → (x :: l.eraseIdx j).Perm l
  | [], _, _, h => by simp at h
  | a :: l, 0, x, h => by
    simp at h
    subst h
    exact List.Perm.refl _
  | a :: l, j + 1, x, h => by
    show (x :: a :: l.eraseIdx j).Perm (a :: l)
    exact (List.Perm.swap a x _).trans ((erase_perm (by simpa using h)).cons a)
theorem Sit.pick {B : Bs} {F H : Hp} {σ : L2.St} {env : Env} {os : Os} {j : Nat} {p : Addr × Own} (s : Sit B F H σ env os) (hj : os[j]? = some p) : Sit B F H σ env (p :: os.eraseIdx j) := by
  have hm : p ∈ os := List.mem_of_getElem? hj
  have hjl : j < os.length := (List.getElem?_eq_some_iff.mp hj).1
  have he : os[j] = p := (List.getElem?_eq_some_iff.mp hj).2
  have hp : (p :: os.eraseIdx j).Perm os := erase_perm hj
  refine ⟨s.fin, s.env, fun q hq => s.ow q ((hp.mem_iff).mp hq), ?_⟩
  exact (hp.map _).nodup_iff.mpr s.nd
section
variable {X : Cx} {B : Bs} {env : Env} {os : Os} {pos pos' : Pos} {α β γ : Type} {r : Rp α} {s : Rp β} {t : Rp γ} {e a b c : Expr} {rest : List Stmt} {post : Post β}
/-- name = a new list that the def will change -/
theorem b_own (i : Nat) {x : Str} {w1 : W (List α)} {w2 : List α → W β} (he : EN X B env os e r w1) (hr : ∀ a xs, BG X B (env.set i (sv (rAdr a) ())) ((a, oLst r xs) :: os) rest post (w2 xs)) (hN : X.N.Nodup) (hi : X.N[i]? = some x := by rfl)
    (hx : Loc X.env.scope x := by first | exact Or.inl rfl | exact Or.inr rfl) (hs : swapsWith e (some (.Name x pos')) pos.line X.env = pure false := by rfl) (hf : X.fn x = true ∨ X.env.scope.names.lookup x = some .local := by first | exact .inl rfl | exact .inr rfl | assumption) :
    BG X B env os (.Assign [.Name x pos'] e pos :: rest) post (bnd w1 w2) :=
  PSs.imp (pss_cons (ps_set hN hi hx he hs hf) (PSs.ex fun p : Addr × List α => hr p.1 p.2)) fun D σ H ⟨F, P, S, hw, k⟩ => ⟨F, _, S, hw, fun xs hx a F' H' S' _ => ⟨(a, xs), F', P, S'.store ⟨_, rfl, rfl⟩, hx, k⟩⟩
theorem b_setC (i : Nat) {x : Str} {w1 : W (List α)} {w2 : List α → W β} (c : PS X (.Assign [.Name x pos'] e pos) (tAsg (tNew B env os r w1) (gName i))) (hr : ∀ xs, BG X B (env.set i (sv (rLst r) xs)) os rest post (w2 xs)) :
    BG X B env os (.Assign [.Name x pos'] e pos :: rest) post (bnd w1 w2) :=
  PSs.imp (pss_cons c (PSs.ex hr)) fun D σ H ⟨F, P, S, hw, k⟩ => ⟨F, _, S, hw, fun xs hx a F' H' S' _ => by
  obtain ⟨F2, o, e2, h1, ⟨vs, h2, h3, h4⟩, S2⟩ := S'.freeze
  subst h2
  exact ⟨xs, F2, P, S2.store ⟨_, rfl, a, vs, rfl, h1, h3, h4⟩, hx, k⟩⟩
/-- it is let go -/
theorem b_freeze (i j : Nat) {a : Addr} {xs : List α} {w : W β} (hi : env[i]? = some (sv (rAdr a) ())) (hj : os[j]? = some (a, oLst r xs)) (h : BG X B (env.set i (sv (rLst r) xs)) (os.eraseIdx j) rest post w) : BG X B env os rest post w :=
  PSs.imp h fun D σ H ⟨F, P, S, hw, k⟩ => by
  obtain ⟨F2, o, e2, h1, ⟨vs, h2, h3, h4⟩, S2⟩ := (S.pick hj).freeze
  subst h2
  obtain ⟨ov, g1, v, g2, g3⟩ := S2.env.get hi
  have g3' : v = .ref a := g3
  subst g2 g3'
  have q : σ.set i (some (.ref a)) = σ := set_same g1
  have S3 := S2.store (i := i) (sl := sv (rLst r) xs) (v := .ref a) ⟨_, rfl, a, vs, rfl, h1, h3, h4⟩
  rw [q] at S3
  exact ⟨F2, P, S3, hw, k⟩
theorem Sit.own {F H : Hp} {σ : L2.St} {i j : Nat} {a : Addr} {xs : List α} (S : Sit B F H σ env os) (hi : env[i]? = some (sv (rAdr a) ())) (hj : os[j]? = some (a, oLst r xs)) : σ[i]? = some (some (.ref a)) ∧ F a = none ∧ ∃ vs, H a = some (.lst vs) ∧ vs.length ≤ sizeLine ∧ Paired (r.ok F) vs xs := by
  obtain ⟨ov, g1, v, g2, g3⟩ := S.env.get hi
  have g3' : v = .ref a := g3
  subst g2 g3'
  obtain ⟨z1, ⟨o, z2, vs, z3, z4, z5⟩, _⟩ := S.ow _ (List.mem_of_getElem? hj)
  subst z3
  exact ⟨g1, z1, vs, z2, z4, z5⟩
theorem e_lenO (i j : Nat) {x : Str} {p p2 : Pos} {a : Addr} {xs : List α} (hi : env[i]? = some (sv (rAdr a) ())) (hj : os[j]? = some (a, oLst r xs)) (hm : X.mg "len" = none) (hN : X.N[i]? = some x := by rfl) (hv : Vis X.env.scope x := by first | exact Or.inl rfl | exact Or.inr (Or.inl rfl) | exact Or.inr (Or.inr rfl))
    (hg : Gl X "len" := by rfl) (hd : (x == ("__debug__" : Str)) = false := by decide) (hcd : (x == ("__classdict__" : Str)) = false := by decide) (he : starEach [.Name x p2] X.env = (false, eval (.Name x p2) X.env) :: starEach [] X.env := by rfl) (hpl : (backTo pos (starEach [] X.env)).any (·.1) = false := by rfl) :
    EE X B env os (.Call (.Name "len" p) [.Name x p2] [] pos) rInt (ret (xs.length : Int)) :=
  PE.imp (pe_callB call_len_seq hg hm PySem.boot_len (pa_cons (pe_var hN hv hd hcd) pa_nil he) (by decide) (by decide) he hpl) fun σ H Q ⟨F, P, S, hw, k⟩ => by
  obtain ⟨g1, g2, vs, g3, g4, g5⟩ := S.own hi hj
  exact ⟨.ref a, g1, a, vs, rfl, .inl (SqL.of g3), k _ hw _ F H S (Ex.refl F) (by rw [g5.length]; rfl)⟩
theorem e_idxO (i j : Nat) {x : Str} {p2 : Pos} {a : Addr} {xs : List α} {w : W Int} (hi : env[i]? = some (sv (rAdr a) ())) (hj : os[j]? = some (a, oLst r xs)) (hb : EE X B env os b rInt w) (hN : X.N[i]? = some x := by rfl)
    (hv : Vis X.env.scope x := by first | exact Or.inl rfl | exact Or.inr (Or.inl rfl) | exact Or.inr (Or.inr rfl)) (hd : (x == ("__debug__" : Str)) = false := by decide) (hcd : (x == ("__classdict__" : Str)) = false := by decide) (hs : PlainIx b := by exact fun _ _ => rfl) :
    EE X B env os (.Subscript (.Name x p2) b pos) r (bnd w fun k => idx xs k) :=
  PE.imp (pe_ix ix_list (pe_var hN hv hd hcd) hb hs) fun σ H Q ⟨F, P, S, hw, k⟩ => by
  obtain ⟨g1, _, _, _, _, _⟩ := S.own hi hj
  refine ⟨.ref a, g1, F, _, S, hw, fun z hz v F1 H1 S1 e1 ok => ?_⟩
  obtain ⟨_, g2, vs, g3, g4, g5⟩ := S1.own hi hj
  obtain ⟨y, hy, py⟩ := idx_of hz
  obtain ⟨u, hu, ru⟩ := atI_paired g5 hy
  exact ⟨a, vs, z, u, rfl, ok, SqL.of g3, hu, k y py u F1 H1 S1 e1 ru⟩
/-- found.append(e) -/
theorem b_append (i j : Nat) {x : Str} {p1 p2 p3 : Pos} {a : Addr} {xs : List α} {w : W α} {w2 : α → W β} (hi : env[i]? = some (sv (rAdr a) ())) (hj : os[j]? = some (a, oLst r xs)) (he : EE X B env os e r w)
    (hr : ∀ y, BG X B env (os.set j (a, oLst r (xs ++ [y]))) rest post (w2 y)) (hN : X.N[i]? = some x := by rfl)
    (hv : Vis X.env.scope x := by first | exact Or.inl rfl | exact Or.inr (Or.inl rfl) | exact Or.inr (Or.inr rfl)) (hd : (x == ("__debug__" : Str)) = false := by decide) (hcd : (x == ("__classdict__" : Str)) = false := by decide)
    (hbase : attributeBase (.Name x p1) "append" X.env (eval (.Name x p1) X.env) = eval (.Name x p1) X.env := by rfl)
    (hfew : ((backTo p3 (starEach [e] X.env)).all (fun x => !x.1) && (backToKw p3 (keywordEach [] X.env)).all (fun x => x.1.isSome) && decide (([e] : List Expr).length + ([] : List Keyword).length + (if ([] : List Keyword).isEmpty then 0 else 1) < 30)) = true := by rfl)
    (hline : (p2.endLine == p3.line) = true := by rfl) (hs : starEach [e] X.env = (false, eval e X.env) :: starEach [] X.env := by rfl) (hplain : (backTo p3 (starEach [] X.env)).any (·.1) = false := by rfl)
    (hsw : swapsWith (.Call (.Attribute (.Name x p1) "append" p2) [e] [] p3) none pos.line X.env = pure false := by rfl) :
    BG X B env os (.Expr (.Call (.Attribute (.Name x p1) "append" p2) [e] [] p3) pos :: rest) post (bnd w fun y => chk (xs.length < sizeLine) (w2 y)) :=
  PSs.imp (pss_cons (ps_expr (pe_bm PySem.F.plainAttrs_list PySem.F.slot_list_append PySem.F.type_list_append mt_append (pe_var hN hv hd hcd) (pa_cons he pa_nil hs) hbase hfew hline hs hplain) hsw) (PSs.ex hr)) fun D σ H ⟨F, P, S, hw, k⟩ => by
  obtain ⟨g1, g2, vs, g3, g4, g5⟩ := S.own hi hj
  refine ⟨.ref a, g1, .inl ⟨rfl, vs, SqL.of g3⟩, F, _, S, hw, fun y ⟨hc, hy⟩ v F1 H1 S1 e1 ok => ?_⟩
  obtain ⟨_, g2, vs', g3', g4', g5'⟩ := S1.own hi hj
  have hl : vs'.length < sizeLine := by rw [g5'.length]; exact hc
  exact ⟨a, vs', v, rfl, rfl, g3', hl, y, F1, P, S1.change hj ⟨_, rfl, by rw [List.length_append, List.length_singleton]; omega, Paired.app g5' (.cons ok .nil)⟩, hy, k⟩
/-- found[k] = e -/
def putL (xs : List α) (k : Int) (y : α) : W (List α) := match ixN xs.length k with
  | some j => ret (xs.set j y)
  | none => fail
theorem putL_of {xs : List α} {k : Int} {y : α} {P : List α → Prop} {E : Er → Prop} (h : putL xs k y P E) : ∃ j, ixN xs.length k = some j ∧ P (xs.set j y) := by
  unfold putL at h
  cases e : ixN xs.length k with
  | none => rw [e] at h; exact False.elim h
  | some j => rw [e] at h; exact ⟨j, rfl, h⟩
theorem b_put (i j : Nat) {x : Str} {p1 p2 : Pos} {a : Addr} {xs : List α} {w : W α} {w1 : α → W Int} {w2 : List α → W β} (hi : env[i]? = some (sv (rAdr a) ())) (hj : os[j]? = some (a, oLst r xs)) (he : EE X B env os e r w) (hk : ∀ y, EE X B env os b rInt (w1 y))
    (hr : ∀ ys, BG X B env (os.set j (a, oLst r ys)) rest post (w2 ys)) (hN : X.N[i]? = some x := by rfl)
    (hv : Vis X.env.scope x := by first | exact Or.inl rfl | exact Or.inr (Or.inl rfl) | exact Or.inr (Or.inr rfl)) (hd : (x == ("__debug__" : Str)) = false := by decide) (hcd : (x == ("__classdict__" : Str)) = false := by decide)
    (ha : ∀ v, assign (.Subscript (.Name x p1) b p2) X.env v = (do
      let ov ← holding [v] (eval (.Name x p1) X.env)
      let iv ← holding [v, ov] (eval b X.env)
      standAt p2
      holding [v, ov, iv] (setItem ov iv v)
      release [v, ov, iv] []) := by intro _; rfl)
    (hs : swapsWithSole [.Subscript (.Name x p1) b p2] e pos.line X.env = pure false := by rfl) (hw : swappedStores [.Subscript (.Name x p1) b p2] e X.env = pure none := by rfl)
    (h1 : (assignEach [.Subscript (.Name x p1) b p2] X.env).map (·.2) = [assign (.Subscript (.Name x p1) b p2) X.env] := by rfl) :
    BG X B env os (.Assign [.Subscript (.Name x p1) b p2] e pos :: rest) post (bnd w fun y => bnd (w1 y) fun k => bnd (putL xs k y) w2) :=
  PSs.imp (pss_cons (ps_asg he (pg_sub (pe_var hN hv hd hcd) (PE.ex hk) set_list ha) hs hw h1) (PSs.ex hr)) fun D σ H ⟨F, P, S, hw, k⟩ => ⟨F, _, S, hw, fun y hy v F1 H1 S1 e1 ok => by
  obtain ⟨g1, _, _, _, _, _⟩ := S1.own hi hj
  refine ⟨.ref a, g1, y, F1, _, S1, hy, fun z hz u F2 H2 S2 e2 ok2 => ?_⟩
  obtain ⟨_, g2, vs, g3, g4, g5⟩ := S2.own hi hj
  obtain ⟨l, hl, pl⟩ := putL_of hz
  exact ⟨a, vs, z, l, rfl, ok2, g3, (by rw [g5.length]; exact hl), xs.set l y, F2, P, S2.change hj ⟨_, rfl, by rw [List.length_set]; exact g4, Paired.setR (r.mono e2 ok) g5⟩, pl, k⟩⟩
end
end Mi
namespace Mi
open PySem L2 Evl
theorem Dp.up {K : PySem.W.Frag} {F H : Hp} {v : V} {d : PyData} (e : Ex F H) (h : Dp K F v d) : Dp K H v d := by
  refine (show ∀ {v d}, Dp K F v d → Dp K H v d from ?_) h
  intro v d h
  exact Dp.rec (K := K) (H := F) (motive_1 := fun v d _ => Dp K H v d) (motive_2 := fun vs ds _ => DpAll K H vs ds) .non .bl .int .str (fun h1 _ ih => .lst (ex_l e h1) ih) (fun h1 _ ih => .tup (ex_t e h1) ih) .nil (fun _ _ i1 i2 => .cons i1 i2) h
/-- what stands for x is the datum f x, at most n deep -/
structure DD (K : PySem.W.Frag) {α : Type} (r : Rp α) (f : α → PyData) (n : Nat) : Prop where
  ok : ∀ {F v x}, r.ok F v x → Dp K F v (f x) ∧ (f x).canLay0 = true ∧ (f x).depth ≤ n
section
variable {K : PySem.W.Frag} {α β γ : Type} {r : Rp α} {s : Rp β} {t : Rp γ} {f : α → PyData} {g : β → PyData} {h : γ → PyData} {n m k : Nat}
theorem dd_int : DD K rInt .int 0 := ⟨fun {F v x} e => by
  have e : v = .int x := e
  subst e
  exact ⟨.int x, by simp [PyData.canLay0], by simp [PyData.depth]⟩⟩
theorem dd_bool : DD K rBool .bool 0 := ⟨fun {F v x} e => by
  have e : v = .bl x := e
  subst e
  exact ⟨.bl x, by simp [PyData.canLay0], by simp [PyData.depth]⟩⟩
theorem dd_str : DD K rStr .str 0 := ⟨fun {F v x} ⟨e, _, h⟩ => by
  subst e
  exact ⟨.str x, by simpa [PyData.canLay0] using h, by simp [PyData.depth]⟩⟩
theorem dd_non : DD K rNon (fun _ => .none) 0 := ⟨fun {F v x} e => by
  have e : v = .non := e
  subst e
  exact ⟨.non, by simp [PyData.canLay0], by simp [PyData.depth]⟩⟩
theorem dd_all (d : DD K r f n) {F : Hp} : ∀ {vs : List V} {xs : List α}, Paired (r.ok F) vs xs → DpAll K F vs (xs.map f) ∧ PyData.canLayAll0 (xs.map f) = true ∧ PyData.depthAll (xs.map f) ≤ n
  | _, _, .nil => ⟨.nil, by simp [PyData.canLayAll0], by simp [PyData.depthAll]⟩
  | _, _, .cons r t => by
    obtain ⟨h1, h2, h3⟩ := d.ok r
    obtain ⟨k1, k2, k3⟩ := dd_all d t
    refine ⟨.cons h1 k1, ?_, ?_⟩
    · rw [List.map_cons, PyData.canLayAll0, h2, k2]
      rfl
    · rw [List.map_cons, PyData.depthAll]
      omega
theorem dd_lst (d : DD K r f n) : DD K (rLst r) (fun xs => .list (xs.map f)) (n + 1) := ⟨fun {F v x} ⟨a, vs, e, h1, h2, h3⟩ => by
  subst e
  obtain ⟨k1, k2, k3⟩ := dd_all d h3
  exact ⟨.lst (SqL.of h1) k1, by rw [PyData.canLay0]; exact k2, by rw [PyData.depth]; omega⟩⟩
end
theorem shaped_of {d : PyData} {n : Nat} (h1 : d.canLay0 = true) (h2 : d.depth ≤ n) (h3 : n ≤ 64) : SeqAt.shaped d = true := by
  unfold SeqAt.shaped
  rw [h1, Bool.true_and]
  exact decide_eq_true (Nat.le_trans h2 h3)
section
variable {X : Cx} {B : Bs} {env : Env} {os : Os} {pos : Pos} {α β γ : Type} {r : Rp α} {s : Rp β} {f : α → PyData} {g : β → PyData} {n m : Nat} {a b : Expr} {w1 : W α} {w2 : α → W β}
theorem sem_eqD {K : PySem.W.Frag} (d : DD K r f n) (e : DD K s g m) (hn : n ≤ 64) (hm : m ≤ 64) : R2T (rEqD K) r s rBool (fun x y => ret (PyData.eqv (f x) (g y))) := fun F H v u x y P E Q fh o1 o2 hw k => by
  obtain ⟨k1, k2, k3⟩ := d.ok o1
  obtain ⟨l1, l2, l3⟩ := e.ok o2
  exact ⟨f x, g y, Dp.up fh k1, Dp.up fh l1, shaped_of k2 k3 hn, shaped_of l2 l3 hm, k _ hw _ F H (Grow.refl fh) rfl⟩
theorem sem_neD {K : PySem.W.Frag} (d : DD K r f n) (e : DD K s g m) (hn : n ≤ 64) (hm : m ≤ 64) : R2T (rNeD K) r s rBool (fun x y => ret (!PyData.eqv (f x) (g y))) := fun F H v u x y P E Q fh o1 o2 hw k => by
  obtain ⟨k1, k2, k3⟩ := d.ok o1
  obtain ⟨l1, l2, l3⟩ := e.ok o2
  exact ⟨f x, g y, Dp.up fh k1, Dp.up fh l1, shaped_of k2 k3 hn, shaped_of l2 l3 hm, k _ hw _ F H (Grow.refl fh) rfl⟩
theorem e_eqD (hu : X.A.units + 64 < cLine) (d : DD X.K r f n) (e : DD X.K s g m) (ha : EE X B env os a r w1) (hb : ∀ x, EE X B env os b s (w2 x)) (hn : n ≤ 64 := by decide) (hm : m ≤ 64 := by decide) : EE X B env os (.Compare a [.Eq] [b] pos) rBool (bnd w1 fun x => bnd (w2 x) fun y => ret (PyData.eqv (f x) (g y))) := e_cmp (op_eqD hu) (sem_eqD d e hn hm) (nomark _) ha hb
theorem sem_eqI : R2T rEq rInt rInt rBool (fun x y => ret (decide (x = y))) := fun F H v u x y P E Q fh o1 o2 hw k => by
  have o1 : v = .int x := o1
  have o2 : u = .int y := o2
  subst o1 o2
  have e : decide (V.int x = V.int y) = decide (x = y) := by
    rw [Bool.eq_iff_iff]
    simp
  exact ⟨rfl, by rw [e]; exact k _ hw _ F H (Grow.refl fh) rfl⟩
theorem sem_neI : R2T rNe rInt rInt rBool (fun x y => ret (!decide (x = y))) := fun F H v u x y P E Q fh o1 o2 hw k => by
  have o1 : v = .int x := o1
  have o2 : u = .int y := o2
  subst o1 o2
  have e : decide (V.int x = V.int y) = decide (x = y) := by
    rw [Bool.eq_iff_iff]
    simp
  exact ⟨rfl, by rw [e]; exact k _ hw _ F H (Grow.refl fh) rfl⟩
theorem sem_eqS : R2T rEq rStr rStr rBool (fun x y => ret (decide (x = y))) := fun F H v u x y P E Q fh ⟨o1, _⟩ ⟨o2, _⟩ hw k => by
  subst o1 o2
  have e : decide (V.str x = V.str y) = decide (x = y) := by
    rw [Bool.eq_iff_iff]
    simp
  exact ⟨rfl, by rw [e]; exact k _ hw _ F H (Grow.refl fh) rfl⟩
theorem e_eqI {w1 : W Int} {w2 : Int → W Int} (ha : EE X B env os a rInt w1) (hb : ∀ x, EE X B env os b rInt (w2 x)) : EE X B env os (.Compare a [.Eq] [b] pos) rBool (bnd w1 fun x => bnd (w2 x) fun y => ret (decide (x = y))) := e_cmp op_eq sem_eqI (nomark _) ha hb
theorem e_neI {w1 : W Int} {w2 : Int → W Int} (ha : EE X B env os a rInt w1) (hb : ∀ x, EE X B env os b rInt (w2 x)) : EE X B env os (.Compare a [.NotEq] [b] pos) rBool (bnd w1 fun x => bnd (w2 x) fun y => ret (!decide (x = y))) := e_cmp op_ne sem_neI (nomark _) ha hb
theorem e_eqS {w1 : W Str} {w2 : Str → W Str} (ha : EE X B env os a rStr w1) (hb : ∀ x, EE X B env os b rStr (w2 x)) : EE X B env os (.Compare a [.Eq] [b] pos) rBool (bnd w1 fun x => bnd (w2 x) fun y => ret (decide (x = y))) := e_cmp op_eq sem_eqS (nomark _) ha hb
def rRepr (K : PySem.W.Frag) : List V → Hp → VK → Prop := fun xs H Q => ∃ x d, xs = [x] ∧ Dp K H x d ∧ d.canLay0 = true ∧ d.depth ≤ 64 ∧ d.showable = true ∧ d.shown.length ≤ sizeLine ∧ Q (.str d.shown) H
theorem call_reprD (hu : X.A.units + 100 < cLine) (hg : X.A.guards = some []) : CallR X (.builtin "repr") (rRepr X.K) := by
  intro pins s σ H xs us Q I r h
  obtain ⟨x, d, rfl, hd, hc, hdp, hs, hz, q⟩ := h
  cases r with
  | cons rx rn =>
    cases rn
    rename_i u
    obtain ⟨as, rd⟩ := Dp.reads I d x u hd rx
    have fin : ∀ (h' : Heap) (t tk : Nat), (∀ b o, s.heap.get? b = some o → h'.get? b = some o) → EP X pins σ Q (.str d.shown t) { s with heap := h', toks := tk } := fun h' t tk k => ⟨.str d.shown, H, I.kept k, ⟨t, rfl⟩, q⟩
    cases u with
    | ref a =>
      exact repr_of_reads' rd hs (PyData.noDict_hsm (PyData.hasDict_of_canLay d hc)) hg (by omega) (fun _ _ e => e) (fun h' t tk k => fin h' t tk k) hz
    | int i t =>
      cases rd
      have hs' : i.natAbs.log2 < 1920 := by simpa [PyData.showable] using hs
      exact PySem.P.repr_of_int hs' (fin s.heap _ _ fun _ _ e => e)
    | str y t =>
      cases rd
      exact PySem.P.repr_of_str (fin s.heap _ _ fun _ _ e => e) hz
    | bool b =>
      cases rd
      exact PySem.P.repr_of_bool (fin s.heap _ _ fun _ _ e => e)
    | none =>
      cases rd
      exact PySem.P.repr_of_none (fin s.heap _ _ fun _ _ e => e)
    | _ => cases rd
end
end Mi
namespace Mi
open PySem L2 Evl
open PyProof.Rows (envOfC)
/-- a def's promise where no repr runs around it -/
structure FnG (P : Program) (w : World) (K : PySem.W.Frag) (mg : Str → Option Value) (base : Heap) (CX : CXT) (k : Nat) (f : Addr) (fd : FuncData) (ps : List Str) (sp : Sp) : Prop where
  lens : ∀ vs H Q E, sp vs H Q E → vs.length = ps.length
  go : ∀ (A : Around) (outer : List PySem.Env) (s : Shared) (H : Hp) (args : Args) (us : List Value) (vs : List V) (Q : VK) (E : XK), A.guards = some [] → Room k A → Env0 P w K mg base A outer s H →
    BindsTo s fd args (ps.zip us) → Vals vs us → sp vs H Q E → codeAny (model P w) A (.call (.ref f) args) (CR CX outer P w H s Q E) s
section
variable {P : Program} {w : World} {K : PySem.W.Frag} {mg : Str → Option Value} {base : Heap} {CX : CXT} {k j : Nat} {f : Addr} {fd : FuncData} {ps N : List Str} {sp sp' : Sp}
theorem FnG.of (F : FnOk P w K mg base CX k f fd ps sp) : FnG P w K mg base CX k f fd ps sp := ⟨F.len, fun A o s H a us vs Q E _ h1 h2 h3 h4 h5 => F.run A o s H a us vs Q E h1 h2 h3 h4 h5⟩
theorem FnG.mono (F : FnG P w K mg base CX j f fd ps sp) (h : j ≤ k) : FnG P w K mg base CX k f fd ps sp := ⟨F.lens, fun A o s H a us vs Q E hg hr => F.go A o s H a us vs Q E hg (hr.mono h)⟩
/-- a def's body keeps the promise; what is raised does not leave it -/
theorem fnG_of {x qual : Str} {st : Stmt} (F : Fun K x qual st f fd) (S : FnScope N ps (defScope st)) (ln : ∀ vs H Q E, sp vs H Q E → vs.length = ps.length)
    (hbody : ∀ (cdv : Value) (A : Around) (outer : List PySem.Env) (s : Shared) (H : Hp) (vs : List V) (Q : VK) (E : XK), Room k (A.deeper (envOfC qual (defScope st) s.heap.objs.size f cdv)) → A.guards = some [] → sp vs H Q E →
      ∃ t, PSs (cxOf CX P w K mg base N qual (defScope st) f cdv A outer s H E).nox (defBody st) t ∧ t { nx := fun _ H' => Q .non H', rt := Q } (L2.start N vs) H) : FnG P w K mg base CX (k + 1) f fd ps sp := by
  obtain ⟨oc, od, kV, doc, pm, an, cdv, ct, osl, rfl, lk, hcd⟩ := F.ex
  refine ⟨ln, fun A outer s H args us vs Q E hgu hr e0 hb r hsp => ?_⟩
  have hl := ln _ _ _ _ hsp
  have hk0 : ∀ b o, base.get? b = some o → s.heap.get? b = some o := fun b o e => (e0.bs b o e).1
  have KX := e0.mod.kin.keeps hk0
  refine codeAny_call_function hr.depth (KX _ _ lk) rfl S.co S.gen rfl (PySem.W.codeRec_of KX hcd) (hb _ _ _ _ ?_)
  refine wpAny_newFunctionEnv_cells S.kind (fun ⟨n, v⟩ hy => ?_) fun env he s1 x => ?_
  · rcases S.par n (List.of_mem_zip hy).1 with q | q
    · exact .inl q
    · exact .inr ⟨q, PySem.W.cellsFrom_some _ _ _ (.inl q)⟩
  subst he
  refine ⟨(e0.mod.nolimit.keeps hk0).keeps x.toInCall.keep, codeAny_func ?_⟩
  obtain ⟨t, ht, hq⟩ := hbody cdv A outer s H vs Q E (hr.deeper _) hgu hsp
  have I := inv_start (CX := CX) (E := E) S hr.hd e0 hl r x
  refine wpAny_mono (ht.nox.run [] s1 (L2.start N vs) H _ I hq) (fun fl s' hs => ?_) fun e s' hs => hs
  cases fl with
  | ret u =>
    obtain ⟨v, σ', H', J, rv, q⟩ := hs
    exact ⟨v, H', J.os, J.bare, J.base, J.hok, rv, q⟩
  | next =>
    obtain ⟨σ', H', J, q⟩ := hs
    exact ⟨.non, H', J.os, J.bare, J.base, J.hok, rfl, q⟩
  | brk =>
    obtain ⟨_, _, _, q⟩ := hs
    exact False.elim q
  | cont =>
    obtain ⟨_, _, _, q⟩ := hs
    exact False.elim q
end
/-- the base at a def's entry -/
abbrev bs0 (F H : Hp) (os : Os) : Bs := { F := F, H := H, M := F, io := os.map (·.1), E0 := fun _ => False }
/-- by the mirror w: the arguments by slots, the objects handed in to be changed -/
def spW {ι ρ : Type} (args : ι → Env) (os : ι → Os) (w : ι → W ρ) (ro : Rp ρ) : Sp := fun vs H Q _ => ∃ (i : ι) (F : Hp) (P : ρ → Prop), Ex F H ∧ EnvOk F (args i) (vs.map some) ∧ (∀ p ∈ os i, F p.1 = none ∧ ∃ o, H p.1 = some o ∧ p.2.ok F o) ∧ ((os i).map (·.1)).Nodup ∧
  w i P (fun _ => False) ∧ ∀ x, P x → ∀ v F' H', Fn (bs0 F H (os i)) F' H' → OsOk (bs0 F H (os i)) F' H' (os i) → ro.ok F' v x → Q v H'
/-- a body's end -/
def pFn (B : Bs) (osR : Os) {ρ : Type} (ro : Rp ρ) : Post ρ := fun D x => (∀ v F H, Fn B F H → OsOk B F H osR → ro.ok F v x → D.rt v H) ∧ ∀ σ F H, Fn B F H → OsOk B F H osR → ro.ok F .non x → D.nx σ H
theorem RtOk.fn {B : Bs} {osR : Os} {ρ : Type} {ro : Rp ρ} : RtOk B (pFn B osR ro) osR ro (fun x => x) := ⟨fun _ _ h => h.1⟩
theorem NxOk.fn {B : Bs} {osR : Os} {env : Env} {os : Os} (ho : OsW os osR) : NxOk B (pFn B osR rNon) env os () := ⟨fun D q σ F H z => q.2 σ F H z.fin (ho.ok z) rfl⟩
theorem bs0_start {F H : Hp} {os : Os} (fh : Ex F H) (h : ∀ p ∈ os, F p.1 = none ∧ ∃ o, H p.1 = some o ∧ p.2.ok F o) : Fn (bs0 F H os) F H :=
  ⟨fh, Ex.refl F, Ex.refl F, fh, fun a ha => by
    obtain ⟨p, hp, e⟩ := List.mem_map.mp ha
    obtain ⟨_, o, ho, _⟩ := h p hp
    exact ⟨o, by rw [← e]; exact ho⟩, fun a o h1 h2 _ => ⟨h2, h1⟩⟩
/-- the slots at the entry -/
def entry (a : Env) (n : Nat) : Env := a ++ List.replicate n sa
theorem entry_ok {F : Hp} {a : Env} {vs : List V} {N : List Str} (h : EnvOk F a (vs.map some)) : EnvOk F (entry a (N.length - vs.length)) (L2.start N vs) := by
  unfold entry L2.start
  refine Paired.app h ?_
  induction N.length - vs.length with
  | zero => exact .nil
  | succ n ih =>
    rw [List.replicate_succ, List.replicate_succ]
    exact .cons trivial ih
section
variable {P : Program} {w : World} {K : PySem.W.Frag} {mg : Str → Option Value} {base : Heap} {k : Nat} {f : Addr} {fd : FuncData} {ps N : List Str} {ι ρ : Type} {args : ι → Env} {os : ι → Os} {wf : ι → W ρ} {ro : Rp ρ}
theorem spW_len (hl : ∀ i, (args i).length = ps.length) : ∀ vs H Q E, spW args os wf ro vs H Q E → vs.length = ps.length := fun vs H Q E ⟨i, F, P, _, he, _⟩ => by
  have := he.len
  rw [List.length_map, hl i] at this
  exact this.symm
theorem fnW {x qual : Str} {st : Stmt} (F : Fun K x qual st f fd) (S : FnScope N ps (defScope st)) (hl : ∀ i, (args i).length = ps.length)
    (body : ∀ (cdv : Value) (A : Around) (outer : List PySem.Env) (s : Shared) (H : Hp) (E : XK) (B : Bs) (i : ι), Room k (A.deeper (envOfC qual (defScope st) s.heap.objs.size f cdv)) → A.guards = some [] →
      BG (cxOf CX0 P w K mg base N qual (defScope st) f cdv A outer s H E).nox B (entry (args i) (N.length - ps.length)) (os i) (defBody st) (pFn B (os i) ro) (wf i)) : FnG P w K mg base CX0 (k + 1) f fd ps (spW args os wf ro) := by
  refine fnG_of F S (spW_len hl) fun cdv A outer s H vs Q E hr hgu hsp => ?_
  have hvl := spW_len hl vs H Q E hsp
  obtain ⟨i, F0, P0, fh, he, ho, nd, hw, hk⟩ := hsp
  refine ⟨_, body cdv A outer s H E (bs0 F0 H (os i)) i hr hgu, F0, P0, ⟨bs0_start fh ho, ?_, fun p hp => ?_, nd⟩, hw, fun y hy => ⟨fun v F' H' fn ow ok => hk y hy v F' H' fn ow ok, fun σ F' H' fn ow ok => hk y hy .non F' H' fn ow ok⟩⟩
  · rw [← hvl]
    exact entry_ok he
  · obtain ⟨h1, o, h2, h3⟩ := ho p hp
    exact ⟨h1, ⟨o, h2, h3⟩, .inr (List.mem_map_of_mem hp)⟩
/-- where the def needs no «no repr around»: the library's own promise -/
theorem okW {x qual : Str} {st : Stmt} (F : Fun K x qual st f fd) (S : FnScope N ps (defScope st)) (hl : ∀ i, (args i).length = ps.length)
    (body : ∀ (cdv : Value) (A : Around) (outer : List PySem.Env) (s : Shared) (H : Hp) (E : XK) (B : Bs) (i : ι), Room k (A.deeper (envOfC qual (defScope st) s.heap.objs.size f cdv)) →
      BG (cxOf CX0 P w K mg base N qual (defScope st) f cdv A outer s H E).nox B (entry (args i) (N.length - ps.length)) (os i) (defBody st) (pFn B (os i) ro) (wf i)) : FnOk P w K mg base CX0 (k + 1) f fd ps (spW args os wf ro) := by
  refine F.ok S (spW_len hl) fun cdv A outer s H vs Q E hr hsp => ?_
  have hvl := spW_len hl vs H Q E hsp
  obtain ⟨i, F0, P0, fh, he, ho, nd, hw, hk⟩ := hsp
  refine ⟨_, body cdv A outer s H E (bs0 F0 H (os i)) i hr, F0, P0, ⟨bs0_start fh ho, ?_, fun p hp => ?_, nd⟩, hw, fun y hy => ⟨fun v F' H' fn ow ok => hk y hy v F' H' fn ow ok, fun σ F' H' fn ow ok => hk y hy .non F' H' fn ow ok⟩⟩
  · rw [← hvl]
    exact entry_ok he
  · obtain ⟨h1, o, h2, h3⟩ := ho p hp
    exact ⟨h1, ⟨o, h2, h3⟩, .inr (List.mem_map_of_mem hp)⟩
end
def tAA (B : Bs) (env : Env) (os : Os) {ι : Type} (sl : ι → Env) (w : W ι) : TA := fun σ H Q => ∃ F P, Sit B F H σ env os ∧ w P B.E0 ∧ ∀ i, P i → ∀ vs F' H', Sit B F' H' σ env os → Ex F F' → EnvOk F' (sl i) (vs.map some) → Q vs H'
def AA (X : Cx) (B : Bs) (env : Env) (os : Os) (es : List Expr) {ι : Type} (sl : ι → Env) (w : W ι) : Prop := PA X es (tAA B env os sl w)
section
variable {X : Cx} {B : Bs} {env : Env} {os : Os} {pos p : Pos} {α β ι κ ρ : Type} {r : Rp α} {sl : ι → Env} {args : ι → Env} {osf : ι → Os} {wf : ι → W ρ} {ro : Rp ρ} {e : Expr} {es : List Expr} {x : Str} {k : Nat} {f : Addr} {fd : FuncData} {ps : List Str}
theorem aa_nil : AA X B env os [] (fun _ : Unit => []) (ret ()) := PA.imp pa_nil fun σ H Q ⟨F, P, S, hw, k⟩ => k () hw [] F H S (Ex.refl F) .nil
theorem aa_cons {w1 : W α} {w2 : α → W ι} (h : EE X B env os e r w1) (ht : ∀ y, AA X B env os es sl (w2 y)) (hs : starEach (e :: es) X.env = (false, eval e X.env) :: starEach es X.env := by rfl) :
    AA X B env os (e :: es) (fun q : α × ι => sv r q.1 :: sl q.2) (bnd w1 fun y => bnd (w2 y) fun i => ret (y, i)) :=
  PA.imp (pa_cons h (PA.ex ht) hs) fun σ H Q ⟨F, P, S, hw, k⟩ => ⟨F, _, S, hw, fun y hy v F1 H1 S1 e1 ok1 => ⟨y, F1, _, S1, hy, fun i hi vs F2 H2 S2 e2 ok2 => k _ hi (v :: vs) F2 H2 S2 (e1.trans e2) (.cons ⟨v, rfl, r.mono e2 ok1⟩ ok2)⟩⟩
/-- behind a call: the state of the caller -/
theorem Sit.back {F F' H H' : Hp} {σ : L2.St} {osf : Os} (S : Sit B F H σ env os) (ho : OsLe os osf) (fn : Fn (bs0 F H osf) F' H') (ow : OsOk (bs0 F H osf) F' H' osf) : Sit B F' H' σ env os := by
  have e : Ex F F' := fn.bf
  have apart : ∀ a, (∀ p ∈ osf, p.1 ≠ a) → a ∉ osf.map (·.1) := fun a h hm => by
    obtain ⟨p, hp, ep⟩ := List.mem_map.mp hm
    exact h p hp ep
  refine ⟨⟨fn.fh, S.fin.bf.trans e, S.fin.mrk.trans e, S.fin.bb, fun a ha => ?_, fun a o h1 h2 h3 => ?_⟩, S.env.mono e, fun p hp => ?_, S.nd⟩
  · obtain ⟨o, hoa⟩ := S.fin.ios a ha
    by_cases hm : a ∈ osf.map (·.1)
    · exact fn.ios a hm
    · cases ef : F a with
      | none => exact ⟨o, (fn.keep a o ef hoa hm).1⟩
      | some u => exact ⟨u, fn.fh a u (e a u ef)⟩
  · obtain ⟨k1, k2⟩ := S.fin.keep a o h1 h2 h3
    refine fn.keep a o k2 k1 (apart a fun p hp ep => ?_)
    rcases (S.ow p (ho p hp)).2.2 with q | q
    · rw [ep, h2] at q
      cases q
    · exact h3 (ep ▸ q)
  · obtain ⟨h1, ⟨o, h2, h3⟩, h4⟩ := S.ow p hp
    by_cases hm : p.1 ∈ osf.map (·.1)
    · obtain ⟨q, hq, eq⟩ := List.mem_map.mp hm
      have same : q = p := by
        obtain ⟨i, hi⟩ := List.mem_iff_getElem?.mp (ho q hq)
        obtain ⟨j, hj⟩ := List.mem_iff_getElem?.mp hp
        have a1 : (os.map (·.1))[i]? = some p.1 := by rw [List.getElem?_map, hi, ← eq]; rfl
        have a2 : (os.map (·.1))[j]? = some p.1 := by rw [List.getElem?_map, hj]; rfl
        have ij := nd_ix S.nd a1 a2
        subst ij
        rw [hi] at hj
        exact Option.some.inj hj
      subst same
      obtain ⟨z1, z2, _⟩ := ow q hq
      exact ⟨z1, z2, h4⟩
    · obtain ⟨z1, z2⟩ := fn.keep p.1 o h1 h2 hm
      exact ⟨z2, ⟨o, z1, p.2.mono e h3⟩, h4⟩
theorem call_back {w : W ι} {σ : L2.St} {H : Hp} {Q : VK} (ho : ∀ i, OsLe os (osf i)) (hnd : ∀ i, ((osf i).map (·.1)).Nodup) (h : tOf B env os ro (bnd w fun i => noX (wf i)) σ H Q) : tAA B env os args w σ H fun vs H1 => spW args osf wf ro vs H1 Q E0 := by
  obtain ⟨F, P, S, hw, k⟩ := h
  refine ⟨F, _, S, hw, fun i hi vs F1 H1 S1 e1 ok => ⟨i, F1, P, S1.fh, ok, fun p hp => ?_, hnd i, hi, fun y hy v F2 H2 fn ow okv => ?_⟩⟩
  · obtain ⟨h1, h2, _⟩ := S1.ow p (ho i p hp)
    exact ⟨h1, h2⟩
  · exact k y hy v F2 H2 (S1.back (ho i) fn ow) (e1.trans fn.bf) okv
theorem run_fnG {pins : List (Addr × Obj)} {σ : St} {H : Hp} {s : Shared} {Q : VK} {us : List Value} {vs : List V} {sp : Sp} (F : FnG X.prog X.w X.K X.mg X.base CX0 k f fd ps sp) (hgu : X.A.guards = some []) (hr : Room k X.A) (hb : Binds X.K fd ps [])
    (I : Inv X pins σ H s) (r : Vals vs us) (h : sp vs H Q E0) : wpAny (model X.prog X.w) X.A (call (.ref f) us) (EP X pins σ Q) X.xe s := by
  have hl : us.length = ps.length := by rw [← r.length]; exact F.lens _ _ _ _ h
  have b := hb s us I.kIn (by rw [List.append_nil]; exact hl)
  rw [List.append_nil] at b
  refine wpAny_call (codeAny_mono (F.go X.A X.stack s H ⟨us, []⟩ us vs Q E0 hgu hr I.env0 b r h) fun res s' hq => ?_)
  cases res with
  | error e => exact False.elim hq
  | ok fl =>
    cases fl with
    | ret u => exact I.after hq
    | next => exact False.elim hq
    | brk => exact False.elim hq
    | cont => exact False.elim hq
/-- f(e, ..), f a def by its mirror -/
theorem e_callG {w : W ι} (G : FnG X.prog X.w X.K X.mg X.base CX0 k f fd ps (spW args osf wf ro)) (hgu : X.A.guards = some []) (hr : Room k X.A) (hm : X.mg x = some (.ref f)) (hk : PySem.W.keepIn X.K (.ref f) = true) (hb : Binds X.K fd ps [])
    (ha : AA X B env os (e :: es) args w) (ho : ∀ i, OsLe os (osf i)) (hnd : ∀ i, ((osf i).map (·.1)).Nodup) (hg : Gl X x := by rfl) (hdb : (x == ("__debug__" : Str)) = false := by decide)
    (he : starEach (e :: es) X.env = (false, eval e X.env) :: starEach es X.env := by rfl) (hpl : (backTo pos (starEach es X.env)).any (·.1) = false := by rfl) :
    EE X B env os (.Call (.Name x p) (e :: es) [] pos) ro (bnd w fun i => noX (wf i)) := by
  refine ⟨fun pins s σ H Q I h => ?_⟩
  refine wpAny_Call_Name_kw (ld_glob I hg hm ?_ hdb)
  refine PySem.W.callWith_K (h₀ := X.base) I.ok.mod.kin hk (thn (ha.run pos pins s σ H _ I (call_back ho hnd h)) fun us s1 ⟨vs, H1, I1, r, q⟩ => ⟨I1.kIn, ?_⟩) he hpl
  exact run_fnG G hgu hr hb I1 r q
theorem e_call {w : W ι} (G : FnOk X.prog X.w X.K X.mg X.base CX0 k f fd ps (spW args osf wf ro)) (hr : Room k X.A) (hm : X.mg x = some (.ref f)) (hk : PySem.W.keepIn X.K (.ref f) = true) (hb : Binds X.K fd ps [])
    (ha : AA X B env os (e :: es) args w) (ho : ∀ i, OsLe os (osf i)) (hnd : ∀ i, ((osf i).map (·.1)).Nodup) (hg : Gl X x := by rfl) (hdb : (x == ("__debug__" : Str)) = false := by decide)
    (he : starEach (e :: es) X.env = (false, eval e X.env) :: starEach es X.env := by rfl) (hpl : (backTo pos (starEach es X.env)).any (·.1) = false := by rfl) :
    EE X B env os (.Call (.Name x p) (e :: es) [] pos) ro (bnd w fun i => noX (wf i)) :=
  PE.imp (pe_call G hr hg hm hk hb .nil pass0 ha hdb he hpl) fun σ H Q h => by
    have q := call_back (args := args) ho hnd h
    obtain ⟨F, P, S, hw, k⟩ := q
    refine ⟨F, P, S, hw, fun i hi vs F' H' S' e' ok => ?_⟩
    show spW args osf wf ro (vs ++ []) H' Q E0
    rw [List.append_nil]
    exact k i hi vs F' H' S' e' ok
end
end Mi
namespace Mi
open PySem L2 Evl
open PyProof.Rows (envOfC IntsAre AllBare)
end Mi
namespace Mi
open PySem L2 Evl
def oHet (ss : List Slot) : Own := ⟨fun F o => ∃ vs : List V, o = .lst vs ∧ Paired (fun (s : Slot) (v : V) => s.ok F (some v)) ss vs, fun e ⟨vs, h1, h2⟩ => ⟨vs, h1, Paired.imp (fun s _ => s.mono e) h2⟩⟩
section
variable {X : Cx} {B : Bs} {env : Env} {os : Os} {pos : Pos} {α β : Type} {r : Rp α} {e : Expr} {rest : List Stmt} {post : Post β}
theorem Sit.het {F H : Hp} {σ : L2.St} {i j : Nat} {a : Addr} {ss : List Slot} (S : Sit B F H σ env os) (hi : env[i]? = some (sv (rAdr a) ())) (hj : os[j]? = some (a, oHet ss)) : σ[i]? = some (some (.ref a)) ∧ F a = none ∧ ∃ vs, H a = some (.lst vs) ∧ Paired (fun (s : Slot) (v : V) => s.ok F (some v)) ss vs := by
  obtain ⟨ov, g1, v, g2, g3⟩ := S.env.get hi
  have g3' : v = .ref a := g3
  subst g2 g3'
  obtain ⟨z1, ⟨o, z2, vs, z3, z5⟩, _⟩ := S.ow _ (List.mem_of_getElem? hj)
  subst z3
  exact ⟨g1, z1, vs, z2, z5⟩
theorem atI_nat' {α : Type} {xs : List α} {n : Nat} {x : α} {c : Int} (hc : c = (n : Int)) (h : xs[n]? = some x) : atI xs c = some x := by
  rw [hc]
  exact atI_nat h
theorem e_hidx (i j n : Nat) {x : Str} {p2 p3 : Pos} {c : Int} {q} {a : Addr} {ss : List Slot} {y : α} (hi : env[i]? = some (sv (rAdr a) ())) (hj : os[j]? = some (a, oHet ss)) (hn : ss[n]? = some (sv r y)) (hc : c = (n : Int) := by rfl) (hN : X.N[i]? = some x := by rfl)
    (hv : Vis X.env.scope x := by first | exact Or.inl rfl | exact Or.inr (Or.inl rfl) | exact Or.inr (Or.inr rfl)) (hd : (x == ("__debug__" : Str)) = false := by decide) (hcd : (x == ("__classdict__" : Str)) = false := by decide) (hs : PlainIx (.Constant (.int c) q p3) := by exact fun _ _ => rfl) :
    EE X B env os (.Subscript (.Name x p2) (.Constant (.int c) q p3) pos) r (ret y) :=
  PE.imp (pe_ix ix_list (pe_var hN hv hd hcd) pe_int hs) fun σ H Q ⟨F, P, S, hw, k⟩ => by
  obtain ⟨g1, g2, vs, g3, g5⟩ := S.het hi hj
  obtain ⟨v, hv, w, ew, okw⟩ := Paired.get' g5 hn
  cases ew
  exact ⟨.ref a, g1, a, vs, c, v, rfl, rfl, SqL.of g3, atI_nat' hc hv, k y hw v F H S (Ex.refl F) okw⟩
theorem b_hput (i j n : Nat) {x : Str} {p1 p2 p3 : Pos} {c : Int} {q} {a : Addr} {ss : List Slot} {w : W α} {w2 : α → W β} (hi : env[i]? = some (sv (rAdr a) ())) (hj : os[j]? = some (a, oHet ss)) (hn : n < ss.length) (he : EE X B env os e r w)
    (hr : ∀ y, BG X B env (os.set j (a, oHet (ss.set n (sv r y)))) rest post (w2 y)) (hc : c = (n : Int) := by rfl) (hN : X.N[i]? = some x := by rfl)
    (hv : Vis X.env.scope x := by first | exact Or.inl rfl | exact Or.inr (Or.inl rfl) | exact Or.inr (Or.inr rfl)) (hd : (x == ("__debug__" : Str)) = false := by decide) (hcd : (x == ("__classdict__" : Str)) = false := by decide)
    (ha : ∀ v, assign (.Subscript (.Name x p1) (.Constant (.int c) q p3) p2) X.env v = (do
      let ov ← holding [v] (eval (.Name x p1) X.env)
      let iv ← holding [v, ov] (eval (.Constant (.int c) q p3) X.env)
      standAt p2
      holding [v, ov, iv] (setItem ov iv v)
      release [v, ov, iv] []) := by intro _; rfl)
    (hs : swapsWithSole [.Subscript (.Name x p1) (.Constant (.int c) q p3) p2] e pos.line X.env = pure false := by rfl) (hw : swappedStores [.Subscript (.Name x p1) (.Constant (.int c) q p3) p2] e X.env = pure none := by rfl)
    (h1 : (assignEach [.Subscript (.Name x p1) (.Constant (.int c) q p3) p2] X.env).map (·.2) = [assign (.Subscript (.Name x p1) (.Constant (.int c) q p3) p2) X.env] := by rfl) :
    BG X B env os (.Assign [.Subscript (.Name x p1) (.Constant (.int c) q p3) p2] e pos :: rest) post (bnd w w2) :=
  PSs.imp (pss_cons (ps_asg he (pg_sub (pe_var hN hv hd hcd) pe_int set_list ha) hs hw h1) (PSs.ex hr)) fun D σ H ⟨F, P, S, hw, k⟩ => ⟨F, _, S, hw, fun y hy v F1 H1 S1 e1 ok => by
  obtain ⟨g1, g2, vs, g3, g5⟩ := S1.het hi hj
  have hlt : n < vs.length := by rw [← Paired.length g5]; exact hn
  have hix : ixN vs.length c = some n := by
    unfold ixN
    rw [hc, if_pos (by omega), if_pos (by omega)]
    simp
  exact ⟨.ref a, g1, a, vs, c, n, rfl, rfl, g3, hix, y, F1, P, S1.change hj ⟨_, rfl, Paired.setR (R := fun (s : Slot) (v : V) => s.ok F1 (some v)) (x := sv r y) (y := v) ⟨v, rfl, ok⟩ g5⟩, hy, k⟩⟩
/-- an own object is seen in more detail -/
theorem b_open {ι : Type} (j : Nat) {a : Addr} {o : Own} {oi : ι → Own} {w : W β} (hj : os[j]? = some (a, o)) (hop : ∀ F h, o.ok F h → ∃ i, (oi i).ok F h) (hr : ∀ i, BG X B env (os.set j (a, oi i)) rest post w) : BG X B env os rest post w :=
  PSs.imp (PSs.ex hr) fun D σ H ⟨F, P, S, hw, k⟩ => by
  obtain ⟨z1, ⟨h, z2, z3⟩, z4⟩ := S.ow _ (List.mem_of_getElem? hj)
  obtain ⟨i, hi⟩ := hop F h z3
  have S2 := S.change (ow' := oi i) (o' := h) hj hi
  have e : upd H a h = H := by
    funext b
    by_cases hb : b = a
    · subst hb
      rw [upd_same]
      exact z2.symm
    · rw [upd_ne hb]
  rw [e] at S2
  exact ⟨i, F, P, S2, hw, k⟩
end
abbrev bagS (cells : List Int) (n : Nat) (d m k : Int) : List Slot := [sv (rLst rInt) cells, sv rInt (n : Int), sv rInt d, sv rInt m, sv rInt k]
def oBag (cells : List Int) : Own := ⟨fun F o => ∃ p : Nat × Int × Int × Int, (oHet (bagS cells p.1 p.2.1 p.2.2.1 p.2.2.2)).ok F o, fun e ⟨p, h⟩ => ⟨p, (oHet _).mono e h⟩⟩
/-- any number below most -/
def drawW (most : Int) : W Int := fun P _ => 0 < most ∧ most.natAbs.log2 < 9000 ∧ ∀ r, 0 ≤ r → r < most → P r
def anyW {α : Type} (xs : List α) : W α := bnd (noX (drawW (xs.length : Int))) fun i => idx xs i
/-- the script, as it was handed in -/
def rScr (K : PySem.W.Frag) : Rp (List Int) := ⟨fun F v xs => ∃ a, v = .ref a ∧ SqL K F a (xs.map V.int) ∧ xs.length ≤ sizeLine, fun e ⟨a, h1, h2, h3⟩ => ⟨a, h1, ex_l e h2, h3⟩⟩
end Mi
namespace Mi
open PySem L2 Evl
section
variable {X : Cx} {B : Bs} {env : Env} {os : Os} {pos : Pos} {α β γ δ : Type} {r : Rp α} {s : Rp γ} {t : Rp δ} {e a b c : Expr} {rest : List Stmt} {post : Post β} {i j l : Nat} {x y z : Str} {px py pz pt pt2 : Pos} {kt k2 : Nat}
variable {w1 : W α} {w2 : α → W γ} {w3 : α → γ → W δ} {w4 : α → γ → W β} {w5 : α → γ → δ → W β}
abbrev tA2 (B : Bs) (env : Env) (os : Os) (r : Rp α) (s : Rp γ) (w1 : W α) (w2 : α → W γ) : TA := tCons (tOf B env os r w1) (tCons (fun σ H Q => ∃ x, tOf B env os s (w2 x) σ H Q) tNil)
theorem pa2 (ha : EE X B env os a r w1) (hb : ∀ x, EE X B env os b s (w2 x)) (hs : starEach [a, b] X.env = (false, eval a X.env) :: starEach [b] X.env := by rfl) (hs2 : starEach [b] X.env = (false, eval b X.env) :: starEach [] X.env := by rfl) : PA X [a, b] (tA2 B env os r s w1 w2) :=
  pa_cons ha (pa_cons (PE.ex hb) pa_nil hs2) hs
/-- a, b = e1, e2, by the statement's rule -/
theorem b_par2 (cc : PS X (.Assign [.Tuple [.Name x px, .Name y py] kt pt] (.Tuple [a, b] k2 pt2) pos) (tPar i j (tA2 B env os r s w1 w2))) (hr : ∀ u v, BG X B ((env.set i (sv r u)).set j (sv s v)) os rest post (w4 u v)) :
    BG X B env os (.Assign [.Tuple [.Name x px, .Name y py] kt pt] (.Tuple [a, b] k2 pt2) pos :: rest) post (bnd w1 fun u => bnd (w2 u) fun v => w4 u v) :=
  PSs.imp (pss_cons cc (PSs.ex fun p : α × γ => hr p.1 p.2)) fun D σ H ⟨F, P, S, hw, k⟩ => ⟨F, _, S, hw, fun u hu v1 F1 H1 S1 e1 ok1 => ⟨u, F1, _, S1, hu, fun v hv v2 F2 H2 S2 e2 ok2 =>
    ⟨v1, v2, rfl, (u, v), F2, P, (S2.store (sl := sv r u) ⟨v1, rfl, r.mono e2 ok1⟩).store (sl := sv s v) ⟨v2, rfl, ok2⟩, hv, k⟩⟩⟩
theorem b_par2T (cc : PS X (.Assign [.Tuple [.Name x px, .Name y py] kt pt] (.Tuple [a, b] k2 pt2) pos) (tAsg (tTup (tA2 B env os r s w1 w2)) (gTup X.K 2 (gCons (gName i) (gCons (gName j) gNil))))) (hr : ∀ u v, BG X B ((env.set i (sv r u)).set j (sv s v)) os rest post (w4 u v)) :
    BG X B env os (.Assign [.Tuple [.Name x px, .Name y py] kt pt] (.Tuple [a, b] k2 pt2) pos :: rest) post (bnd w1 fun u => bnd (w2 u) fun v => w4 u v) :=
  PSs.imp (pss_cons cc (PSs.ex fun p : α × γ => hr p.1 p.2)) fun D σ H ⟨F, P, S, hw, k⟩ => ⟨F, _, S, hw, fun u hu v1 F1 H1 S1 e1 ok1 => ⟨u, F1, _, S1, hu, fun v hv v2 F2 H2 S2 e2 ok2 =>
    ⟨(by show 2 ≤ sizeLine; decide), fun p hp => by
      have g : Grow F2 H2 (upd F2 p (.tup [v1, v2])) (upd H2 p (.tup [v1, v2])) := Grow.alloc S2.fh hp
      have S3 := S2.grow g
      exact ⟨p, [v1, v2], rfl, SqT.of upd_same, rfl, v1, [v2], rfl, v2, [], rfl, rfl, (u, v), _, P, (S3.store (sl := sv r u) ⟨v1, rfl, r.mono (e2.trans g.f) ok1⟩).store (sl := sv s v) ⟨v2, rfl, s.mono g.f ok2⟩, hv, k⟩⟩⟩⟩
/-- xs[i], xs[j] = e1, e2 for one's own list xs -/
theorem b_swap {a0 : Addr} {xs : List α} {ei ej : Expr} {w1 w2 : W α} {w3 : W Int} {w4 : List α → W Int} {w5 : List α → W β} {i j : Nat} (hi : env[i]? = some (sv (rAdr a0) ())) (hj : os[j]? = some (a0, oLst r xs))
    (hr : ∀ ys, BG X B env (os.set j (a0, oLst r ys)) rest post (w5 ys))
    (cc : PS X (.Assign [.Tuple [.Subscript (.Name x px) ei py, .Subscript (.Name x pz) ej pt] kt pt2] e pos)
      (tAsg (tTup (tCons (tOf B env os r w1) (tCons (tOf B env os r w2) tNil))) (gTup X.K 2 (gCons (gSub (tVar i) (tOf B env os rInt w3) rSetL) (gCons (gSub (tVar i) (fun σ H Q => ∃ ys, tOf B env (os.set j (a0, oLst r ys)) rInt (w4 ys) σ H Q) rSetL) gNil))))) :
    BG X B env os (.Assign [.Tuple [.Subscript (.Name x px) ei py, .Subscript (.Name x pz) ej pt] kt pt2] e pos :: rest) post
      (bnd w1 fun u => bnd w2 fun v => bnd w3 fun k1 => bnd (putL xs k1 u) fun ys => bnd (w4 ys) fun k2 => bnd (putL ys k2 v) w5) :=
  PSs.imp (pss_cons cc (PSs.ex hr)) fun D σ H ⟨F, P, S, hw, k⟩ => ⟨F, _, S, hw, fun u hu v1 F1 H1 S1 e1 ok1 => ⟨F1, _, S1, hu, fun v hv v2 F2 H2 S2 e2 ok2 => ⟨(by show 2 ≤ sizeLine; decide), fun p hp => by
  have g : Grow F2 H2 (upd F2 p (.tup [v1, v2])) (upd H2 p (.tup [v1, v2])) := Grow.alloc S2.fh hp
  have S3 := S2.grow g
  obtain ⟨g1, _, _, _, _, _⟩ := S3.own hi hj
  refine ⟨p, [v1, v2], rfl, SqT.of upd_same, rfl, v1, [v2], rfl, ⟨.ref a0, g1, _, _, S3, hv, fun k1 hk1 vk F4 H4 S4 e4 ok4 => ?_⟩⟩
  obtain ⟨_, _, vs, h3, h4, h5⟩ := S4.own hi hj
  obtain ⟨l1, hl1, pl1⟩ := putL_of hk1
  refine ⟨a0, vs, k1, l1, rfl, ok4, h3, by rw [h5.length]; exact hl1, v2, [], rfl, ?_⟩
  have S5 := S4.change (ow' := oLst r (xs.set l1 u)) (o' := .lst (vs.set l1 v1)) hj ⟨_, rfl, by rw [List.length_set]; exact h4, Paired.setR (r.mono ((e2.trans g.f).trans e4) ok1) h5⟩
  have hjl : j < os.length := (List.getElem?_eq_some_iff.mp hj).1
  have hj5 : (os.set j (a0, oLst r (xs.set l1 u)))[j]? = some (a0, oLst r (xs.set l1 u)) := List.getElem?_set_self hjl
  obtain ⟨g5, _, _, _, _, _⟩ := S5.own hi hj5
  refine ⟨.ref a0, g5, xs.set l1 u, F4, _, S5, pl1, fun k2 hk2 vk2 F6 H6 S6 e6 ok6 => ?_⟩
  obtain ⟨_, _, vs6, h63, h64, h65⟩ := S6.own hi hj5
  obtain ⟨l2, hl2, pl2⟩ := putL_of hk2
  refine ⟨a0, vs6, k2, l2, rfl, ok6, h63, by rw [h65.length]; exact hl2, rfl, ?_⟩
  have S7 := S6.change (ow' := oLst r ((xs.set l1 u).set l2 v)) (o' := .lst (vs6.set l2 v2)) hj5 ⟨_, rfl, by rw [List.length_set]; exact h64, Paired.setR (r.mono ((g.f.trans e4).trans e6) ok2) h65⟩
  rw [List.set_set] at S7
  exact ⟨_, F6, P, S7, pl2, k⟩⟩⟩⟩
end
end Mi
namespace Mi
open PySem L2 Evl
def tKK (B : Bs) (env : Env) (os : Os) {ι : Type} (sl : ι → Env) (w : W ι) : TA := tAA B env os sl w
def KK (X : Cx) (B : Bs) (env : Env) (os : Os) (kws : List Keyword) {ι : Type} (sl : ι → Env) (w : W ι) : Prop := PK X kws (tKK B env os sl w)
section
variable {X : Cx} {B : Bs} {env : Env} {os : Os} {pos p : Pos} {α β ι κ ρ : Type} {r : Rp α} {sl : κ → Env} {args : ι → Env} {osf : ι → Os} {wf : ι → W ρ} {ro : Rp ρ} {e : Expr} {kws : List Keyword} {x : Str} {k : Nat} {f : Addr} {fd : FuncData} {ps ks : List Str} {g : {α : Type} → List α → List α}
theorem PK.imp {t t' : TA} (h : PK X kws t) (i : ∀ σ H Q, t' σ H Q → t σ H Q) : PK X kws t' := ⟨fun pos pins s σ H Q I q => h.run pos pins s σ H Q I (i _ _ _ q)⟩
theorem PK.ex {ι : Type} {t : ι → TA} (h : ∀ i, PK X kws (t i)) : PK X kws (fun σ H Q => ∃ i, t i σ H Q) := ⟨fun pos pins s σ H Q I ⟨i, q⟩ => (h i).run pos pins s σ H Q I q⟩
theorem kk_nil : KK X B env os [] (fun _ : Unit => []) (ret ()) := PK.imp pk_nil fun σ H Q ⟨F, P, S, hw, k⟩ => k () hw [] F H S (Ex.refl F) .nil
theorem kk_cons {nm : Option Str} {kpos : Pos} {w1 : W α} {w2 : α → W κ} (h : EE X B env os e r w1) (ht : ∀ y, KK X B env os kws sl (w2 y)) : KK X B env os (⟨nm, e, kpos⟩ :: kws) (fun q : α × κ => sv r q.1 :: sl q.2) (bnd w1 fun y => bnd (w2 y) fun i => ret (y, i)) :=
  PK.imp (pk_cons h (PK.ex ht)) fun σ H Q ⟨F, P, S, hw, k⟩ => ⟨F, _, S, hw, fun y hy v F1 H1 S1 e1 ok1 => ⟨y, F1, _, S1, hy, fun i hi vs F2 H2 S2 e2 ok2 => k _ hi (v :: vs) F2 H2 S2 (e1.trans e2) (.cons ⟨v, rfl, r.mono e2 ok1⟩ ok2)⟩⟩
end
theorem OsLe.mem {os : Os} {p : Addr × Own} (h : p ∈ os) : OsLe os [p] := fun q hq => by
  rcases List.mem_cons.mp hq with e | e
  · exact e ▸ h
  · cases e
theorem OsLe.none {os : Os} : OsLe os [] := fun q hq => by cases hq
/-- behind a loop that may be left by return -/
def flEnd {S ρ β : Type} (inj : ρ → β) (k : S → W β) : Fl S ρ → W β
  | .rt x => ret (inj x)
  | .nx s => k s
  | .bk _ => fail
  | .ct _ => fail
@[simp] theorem flEnd_rt {S ρ β : Type} (inj : ρ → β) (k : S → W β) (x : ρ) : flEnd inj k (.rt x) = ret (inj x) := rfl
@[simp] theorem flEnd_nx {S ρ β : Type} (inj : ρ → β) (k : S → W β) (s : S) : flEnd inj k (.nx s) = k s := rfl
section
variable {X : Cx} {B : Bs} {env : Env} {os : Os} {pos : Pos} {α β : Type} {r : Rp α} {f : α → PyData} {n : Nat}
theorem eqv_nil {xs : List α} : PyData.eqv (.list (xs.map f)) (.list []) = xs.isEmpty := by
  cases xs <;> simp [PyData.eqv, PyData.eqvAll]
end
end Mi
namespace Mi
open PySem L2 Evl
section
variable {X : Cx} {B : Bs} {env : Env} {os : Os} {pos : Pos} {α β γ ρ S : Type} {r : Rp α} {s : Rp β} {f : α → PyData} {g : β → PyData} {n m : Nat} {e a b tg : Expr}
theorem t_conv {w w' : W Bool} (h : ET X B env os e w) (q : w' = w) : ET X B env os e w' := q ▸ h
theorem n_conv {w w' : W (List α)} (h : EN X B env os e r w) (q : w' = w) : EN X B env os e r w' := q ▸ h
theorem s_conv {w w' : W (List α)} (h : ES X B env os tg e r w) (q : w' = w) : ES X B env os tg e r w' := q ▸ h
theorem wn_br {α β : Type} (x : α) (f : α → W β) : bnd (ret x) f = f x := funext fun _ => rfl
theorem wn_rb {α : Type} (m : W α) : bnd m ret = m := funext fun _ => rfl
theorem wn_bb {α β γ : Type} (m : W α) (f : α → W β) (g : β → W γ) : bnd (bnd m f) g = bnd m fun x => bnd (f x) g := funext fun _ => rfl
section
variable {w1 : W Int} {w2 : Int → W Int}
theorem t_lt (ha : EE X B env os a rInt w1) (hb : ∀ x, EE X B env os b rInt (w2 x)) : ET X B env os (.Compare a [.Lt] [b] pos) (bnd w1 fun x => bnd (w2 x) fun y => ret (decide (x < y))) := t_cmp op_lt (r2i fun _ _ _ => rfl) (nomark _) ha hb
theorem t_gt (ha : EE X B env os a rInt w1) (hb : ∀ x, EE X B env os b rInt (w2 x)) : ET X B env os (.Compare a [.Gt] [b] pos) (bnd w1 fun x => bnd (w2 x) fun y => ret (decide (y < x))) := t_cmp op_gt (r2i fun _ _ _ => rfl) (nomark _) ha hb
theorem t_ge (ha : EE X B env os a rInt w1) (hb : ∀ x, EE X B env os b rInt (w2 x)) : ET X B env os (.Compare a [.GtE] [b] pos) (bnd w1 fun x => bnd (w2 x) fun y => ret (decide (y ≤ x))) := t_cmp op_ge (r2i fun _ _ _ => rfl) (nomark _) ha hb
theorem t_eqI (ha : EE X B env os a rInt w1) (hb : ∀ x, EE X B env os b rInt (w2 x)) : ET X B env os (.Compare a [.Eq] [b] pos) (bnd w1 fun x => bnd (w2 x) fun y => ret (decide (x = y))) := t_cmp op_eq sem_eqI (nomark _) ha hb
theorem t_neI (ha : EE X B env os a rInt w1) (hb : ∀ x, EE X B env os b rInt (w2 x)) : ET X B env os (.Compare a [.NotEq] [b] pos) (bnd w1 fun x => bnd (w2 x) fun y => ret (!decide (x = y))) := t_cmp op_ne sem_neI (nomark _) ha hb
end
theorem t_eqS {w1 : W Str} {w2 : Str → W Str} (ha : EE X B env os a rStr w1) (hb : ∀ x, EE X B env os b rStr (w2 x)) : ET X B env os (.Compare a [.Eq] [b] pos) (bnd w1 fun x => bnd (w2 x) fun y => ret (decide (x = y))) := t_cmp op_eq sem_eqS (nomark _) ha hb
theorem t_neD {w1 : W α} {w2 : α → W β} (hu : X.A.units + 64 < cLine) (d : DD X.K r f n) (e : DD X.K s g m) (ha : EE X B env os a r w1) (hb : ∀ x, EE X B env os b s (w2 x)) (hn : n ≤ 64 := by decide) (hm : m ≤ 64 := by decide) : ET X B env os (.Compare a [.NotEq] [b] pos) (bnd w1 fun x => bnd (w2 x) fun y => ret (!PyData.eqv (f x) (g y))) := t_cmp (op_neD hu) (sem_neD d e hn hm) (nomark _) ha hb
theorem t_neNilO (i j : Nat) {x : Str} {p1 p2 : Pos} {a : Addr} {xs : List α} (hu : X.A.units + 64 < cLine) (d : DD X.K r f n) (hi : env[i]? = some (sv (rAdr a) ())) (hj : os[j]? = some (a, oLst r xs)) (hn : n + 1 ≤ 64 := by decide) (hN : X.N[i]? = some x := by rfl)
    (hv : Vis X.env.scope x := by first | exact Or.inl rfl | exact Or.inr (Or.inl rfl) | exact Or.inr (Or.inr rfl)) (hd : (x == ("__debug__" : Str)) = false := by decide) (hcd : (x == ("__classdict__" : Str)) = false := by decide) :
    ET X B env os (.Compare (.Name x p1) [.NotEq] [.List [] p2] pos) (ret (!xs.isEmpty)) :=
  PT.imp (pt_cmpR (op_neD hu) (pe_var hN hv hd hcd) (pe_lst pa_nil) (nomark _)) fun σ H Q ⟨F, P, S, hw, k⟩ => by
  obtain ⟨g1, g2, vs, g3, g4, g5⟩ := S.own hi hj
  refine ⟨.ref a, g1, Nat.zero_le _, fun p hp => ?_⟩
  have g : Grow F H (upd F p (.lst [])) (upd H p (.lst [])) := Grow.alloc S.fh hp
  have S2 := S.grow g
  obtain ⟨k1, k2, k3⟩ := dd_all d (F := upd H p (.lst [])) (Paired.imp (fun _ _ => r.mono (g.f.trans S2.fh)) g5)
  refine ⟨.list (xs.map f), .list [], .lst (SqL.of (Ex.new hp _ _ g3)) k1, .lst (SqL.of upd_same) .nil, shaped_of (n := n + 1) (by rw [PyData.canLay0]; exact k2) (by rw [PyData.depth]; omega) hn, by decide, ?_⟩
  rw [eqv_nil]
  exact ⟨_, rfl, k _ hw _ _ S2 g.f⟩
theorem strOk_app {x y : Str} (h1 : PyData.strOk x = true) (h2 : PyData.strOk y = true) : PyData.strOk (x ++ y) = true := by
  unfold PyData.strOk at *
  show (x.cps ++ y.cps).all _ = true
  rw [Array.all_append, h1, h2]
  rfl
theorem Sit.sub {F H : Hp} {σ : L2.St} {os' : Os} (s : Sit B F H σ env os) (h : os'.Sublist os) : Sit B F H σ env os' := ⟨s.fin, s.env, fun p hp => s.ow p (h.subset hp), s.nd.sublist (h.map _)⟩
theorem NxOk.nxS {envS : S → Env} {osS : S → Os} {s : S} (h : EnvLe env (envS s)) (ho : (osS s).Sublist os) : NxOk B (pNx B envS osS) env os s := ⟨fun D q σ F H z => q σ F H ((z.le h).sub ho)⟩
theorem NxOk.flS {osR : Os} {ro : Rp ρ} {envS : S → Env} {osS : S → Os} {s : S} (h : EnvLe env (envS s)) (ho : (osS s).Sublist os) : NxOk B (pFl B osR ro envS osS) env os (.nx s) := ⟨fun D q σ F H z => q σ F H ((z.le h).sub ho)⟩
end
/-- bag(script): a new list of the script's first cells and four ints -/
def spBag (K : PySem.W.Frag) : Sp := fun vs H Q _ => ∃ (a : Addr) (ns : List Int), vs = [.ref a] ∧ SqL K H a (ns.map V.int) ∧ ns.length ≤ sizeLine ∧ ∀ (b c : Addr) (cells : List Int) (m : Int) (H' : Hp), Ex H H' → H b = none → H c = none → b ≠ c → cells.length ≤ sizeLine →
  H' c = some (.lst (cells.map V.int)) → H' b = some (.lst [.ref c, .int 0, .int 0, .int m, .int 0]) → Q (.ref b) H'
section
variable {X : Cx} {B : Bs} {env : Env} {os : Os} {pos pos' p : Pos} {β : Type} {e : Expr} {rest : List Stmt} {post : Post β}
theorem ints_paired {F : Hp} : ∀ xs : List Int, Paired (rInt.ok F) (xs.map V.int) xs
  | [] => .nil
  | _ :: xs => .cons rfl (ints_paired xs)
theorem b_bag (i : Nat) {x bagf : Str} {k : Nat} {f : Addr} {fd : FuncData} {ps : List Str} {xs : List Int} {w : W β} (G : FnOk X.prog X.w X.K X.mg X.base CX0 k f fd ps (spBag X.K)) (hr : Room k X.A) (hm : X.mg bagf = some (.ref f)) (hk : PySem.W.keepIn X.K (.ref f) = true) (hb : Binds X.K fd ps [])
    (he : EE X B env os e (rScr X.K) (ret xs)) (hrest : ∀ b cells, BG X B (env.set i (sv (rAdr b) ())) ((b, oBag cells) :: os) rest post w) (hN : X.N.Nodup) (hi : X.N[i]? = some x := by rfl)
    (hx : Loc X.env.scope x := by first | exact Or.inl rfl | exact Or.inr rfl) (hg : Gl X bagf := by rfl) (hdb : (bagf == ("__debug__" : Str)) = false := by decide)
    (hst : starEach [e] X.env = (false, eval e X.env) :: starEach [] X.env := by rfl) (hpl : (backTo p (starEach [] X.env)).any (·.1) = false := by rfl)
    {p0 : Pos} (hs : swapsWith (.Call (.Name bagf p0) [e] [] p) (some (.Name x pos')) pos.line X.env = pure false := by rfl) (hf : X.fn x = true ∨ X.env.scope.names.lookup x = some .local := by first | exact .inl rfl | exact .inr rfl | assumption) :
    BG X B env os (.Assign [.Name x pos'] (.Call (.Name bagf p0) [e] [] p) pos :: rest) post w :=
  PSs.imp (pss_cons (ps_set hN hi hx (pe_call G hr hg hm hk hb .nil pass0 (pa_cons he pa_nil hst) hdb hst hpl) hs hf) (PSs.ex fun q : Addr × List Int => hrest q.1 q.2)) fun D σ H ⟨F, P, S, hw, k⟩ => ⟨F, fun z => z = xs, S, rfl, fun z hz v F1 H1 S1 e1 ⟨a, ev, hsq, hl⟩ => by
  subst hz ev
  refine ⟨a, z, rfl, ex_l S1.fh hsq, hl, fun b c cells m H' hex hb0 hc0 hbc hcl hc' hb' => ?_⟩
  have fc : F1 c = none := fresh_back S1.fh hc0
  have fb : F1 b = none := fresh_back S1.fh hb0
  have eF : Ex F1 (upd F1 c (.lst (cells.map V.int))) := Ex.new fc
  have S2 : Sit B (upd F1 c (.lst (cells.map V.int))) H' σ env ((b, oBag cells) :: os) := by
    refine ⟨⟨fun q u hq => ?_, S1.fin.bf.trans eF, S1.fin.mrk.trans eF, S1.fin.bb, fun q hq => ?_, fun q u k1 k2 k3 => ?_⟩, S1.env.mono eF, fun q hq => ?_, ?_⟩
    · by_cases hqc : q = c
      · rw [hqc, upd_same] at hq
        rw [hqc, hc']
        exact hq
      · rw [upd_ne hqc] at hq
        exact hex q u (S1.fh q u hq)
    · obtain ⟨u, hu⟩ := S1.fin.ios q hq
      exact ⟨u, hex q u hu⟩
    · obtain ⟨z1, z2⟩ := S1.fin.keep q u k1 k2 k3
      have hqc : q ≠ c := ne_of_none z1 hc0
      exact ⟨hex q u z1, by rw [upd_ne hqc]; exact z2⟩
    · rcases List.mem_cons.mp hq with e | hq
      · subst e
        refine ⟨by rw [upd_ne hbc]; exact fb, ⟨_, hb', (0, 0, m, 0), _, rfl, .cons ⟨.ref c, rfl, c, _, rfl, upd_same, by rw [List.length_map]; exact hcl, ints_paired cells⟩ (.cons ⟨_, rfl, rfl⟩ (.cons ⟨_, rfl, rfl⟩ (.cons ⟨_, rfl, rfl⟩ (.cons ⟨_, rfl, rfl⟩ .nil))))⟩, .inl (S1.fin.fresh hb0)⟩
      · obtain ⟨z1, ⟨u, z2, z3⟩, z4⟩ := S1.ow q hq
        have hqc : q.1 ≠ c := ne_of_none z2 hc0
        exact ⟨by rw [upd_ne hqc]; exact z1, ⟨u, hex _ _ z2, q.2.mono eF z3⟩, z4⟩
    · rw [List.map_cons]
      refine List.nodup_cons.mpr ⟨fun hm => ?_, S1.nd⟩
      obtain ⟨q, hq, e⟩ := List.mem_map.mp hm
      obtain ⟨_, ⟨u, h2, _⟩, _⟩ := S1.ow q hq
      have e' : q.1 = b := e
      rw [e', hb0] at h2
      cases h2
  exact ⟨(b, cells), _, P, S2.store ⟨_, rfl, rfl⟩, hw, k⟩⟩
end
theorem bag_in {cells : List Int} : ∀ F h, (oBag cells).ok F h → ∃ p : Nat × Int × Int × Int, (oHet (bagS cells p.1 p.2.1 p.2.2.1 p.2.2.2)).ok F h := fun _ _ h => h
theorem bag_out {cells : List Int} {i : Int} {n : Nat} {d m k : Int} (e : i = (n : Int)) : ∀ F h, (oHet [sv (rLst rInt) cells, sv rInt i, sv rInt d, sv rInt m, sv rInt k]).ok F h → (oBag cells).ok F h := fun _ _ h => ⟨(n, d, m, k), by rw [e] at h; exact h⟩
/-- what a turn of the bag's mixing makes; each draw lies below most -/
theorem BG.imp {X : Cx} {B : Bs} {env : Env} {os : Os} {blk : List Stmt} {β : Type} {post : Post β} {w w' : W β} (h : BG X B env os blk post w) (i : ∀ P E, w' P E → w P E) : BG X B env os blk post w' :=
  PSs.imp h fun D σ H ⟨F, P, S, hw, k⟩ => ⟨F, P, S, i _ _ hw, k⟩
theorem mul_small {a b : Int} (h : b.natAbs < 2 ^ 64) : IntMulOk a b := IntMulOk.of_right (intBits_le_64 (by omega) (by omega))
theorem mul_smallL {a b : Int} (h : a.natAbs < 2 ^ 64) : IntMulOk a b := IntMulOk.of_left (intBits_le_64 (by omega) (by omega))
end Mi
namespace Mi
open PySem L2 Evl
def drC (cells : List Int) (n : Nat) (d most : Int) : W Bool := bnd (ret (decide (d < most))) fun x => if x = true then bnd (ret (decide ((n : Int) < (cells.length : Int)))) fun z => ret z else ret false
def drA (cells : List Int) (n : Nat) (m : Int) : W Unit :=
  bnd (bnd (idx cells (n : Int)) fun t => ret t) fun cell => bnd (ret ((n : Int) + 1)) fun i1 => chk (i1 = (n : Int) + 1) <|
  bnd (bnd (mulI m 40639) fun t1 => bnd (modI cell 2147483549) fun t2 => bnd (modI (t1 + t2 + 41) 2147483579) fun t3 => ret t3) fun _ =>
  bnd (bnd (powI 10 18) fun t => bnd (if decide (t ≤ cell) = true then ret cell else ret 0) fun z => ret z) fun _ => ret ()
def drB (d most : Int) : W Int := bnd (bnd (modI d most) fun t => ret t) fun digit => bnd (bnd (divI d most) fun t => ret t) fun _ => bnd (ret digit) fun z => ret z
def drR (m k most : Int) : W Int :=
  bnd (ret (k + 1)) fun k1 => bnd (bnd (mulI k1 8353) fun t => bnd (modI (m + t) 2147483543) fun t => ret t) fun base =>
  bnd (bnd (mulI base base) fun t1 => bnd (modI t1 2147483563) fun t2 => bnd (modI base 41039) fun t3 => bnd (mulI t2 (t3 + 13)) fun t4 => ret t4) fun late =>
  bnd (bnd (mulI 30011 base) fun t1 => bnd (modI (late + t1 + 709) 2147483579) fun t2 => ret t2) fun m1 =>
  bnd (bnd (divI m1 79) fun t1 => bnd (modI m1 9011) fun t2 => bnd (mulI t2 59) fun t3 => bnd (modI (t1 + t3) most) fun t4 => ret t4) fun z => ret z
/-- what the mirror checks may be used -/
theorem b_chk {X : Cx} {B : Bs} {env : Env} {os : Os} {blk : List Stmt} {β : Type} {post : Post β} {w : W β} {c : Prop} (h : c → BG X B env os blk post w) : BG X B env os blk post (chk c w) :=
  ⟨fun pins s σ H D I ⟨F, P, S, ⟨hc, hw⟩, k⟩ => (h hc).run pins s σ H D I ⟨F, P, S, hw, k⟩⟩
theorem modI_of {x y : Int} {P : Int → Prop} {E : Er → Prop} (h : 0 < y) (k : ∀ r, 0 ≤ r → r < y → P r) : modI x y P E := ⟨by omega, k _ (Int.fmod_nonneg_of_pos x h) (Int.fmod_lt_of_pos x h)⟩
theorem divI_of {x y : Int} {P : Int → Prop} {E : Er → Prop} (h : y ≠ 0) (h2 : y.natAbs.log2 < 9000) (k : ∀ r, P r) : divI x y P E := ⟨⟨h, h2⟩, k _⟩
theorem mulI_of {x y : Int} {P : Int → Prop} {E : Er → Prop} (h : IntMulOk x y) (k : P (x * y)) : mulI x y P E := ⟨h, k⟩
theorem drC_of {cells : List Int} {n : Nat} {d most : Int} {P : Bool → Prop} {E : Er → Prop} (h1 : n < cells.length → P true) (h2 : P false) : drC cells n d most P E := by
  unfold drC
  show (if decide (d < most) = true then bnd (ret (decide ((n : Int) < (cells.length : Int)))) fun z => ret z else ret false) P E
  by_cases a : d < most
  · rw [if_pos (decide_eq_true a)]
    show P (decide ((n : Int) < (cells.length : Int)))
    by_cases b : n < cells.length
    · rw [decide_eq_true (show (n : Int) < (cells.length : Int) by omega)]
      exact h1 b
    · rw [decide_eq_false (show ¬ (n : Int) < (cells.length : Int) by omega)]
      exact h2
  · rw [if_neg (by simpa using a)]
    exact h2
theorem idx_nat {α : Type} {xs : List α} {n : Nat} {x : α} (h : xs[n]? = some x) : idx xs (n : Int) = ret x := by
  unfold idx
  rw [atI_nat h]
theorem drA_of {cells : List Int} {n : Nat} {m : Int} {P : Unit → Prop} {E : Er → Prop} (h : n < cells.length) (k : P ()) : drA cells n m P E := by
  unfold drA
  rw [idx_nat (List.getElem?_eq_getElem h)]
  refine ⟨rfl, ?_⟩
  refine mulI_of (mul_small (by decide)) ?_
  refine modI_of (by decide) fun r _ _ => ?_
  refine modI_of (by decide) fun r2 _ _ => ?_
  refine ⟨⟨by decide, by decide, by decide⟩, ?_⟩
  show (if _ then ret _ else ret _ : W Int) (fun _ => P ()) E
  split <;> exact k
theorem drB_of {d most : Int} {P : Int → Prop} {E : Er → Prop} (h : 0 < most) (h2 : most.natAbs.log2 < 9000) (k : ∀ r, 0 ≤ r → r < most → P r) : drB d most P E := by
  unfold drB
  refine modI_of h fun r h1 h3 => ?_
  exact divI_of (by omega) h2 fun _ => k r h1 h3
theorem drR_of {m k most : Int} {P : Int → Prop} {E : Er → Prop} (h : 0 < most) (h2 : most.natAbs.log2 < 9000) (kk : ∀ r, 0 ≤ r → r < most → P r) : drR m k most P E := by
  unfold drR
  refine mulI_of (mul_small (by decide)) ?_
  refine modI_of (by decide) fun base b1 b2 => ?_
  refine mulI_of (mul_small (by omega)) ?_
  refine modI_of (by decide) fun t2 c1 c2 => ?_
  refine modI_of (by decide) fun t3 d1 d2 => ?_
  refine mulI_of (mul_small (by omega)) ?_
  refine mulI_of (mul_smallL (by decide)) ?_
  refine modI_of (by decide) fun m1 e1 e2 => ?_
  refine divI_of (by decide) (by decide) fun q => ?_
  refine modI_of (by decide) fun t5 f1 f2 => ?_
  refine mulI_of (mul_small (by decide)) ?_
  exact modI_of h fun r g1 g2 => kk r g1 g2
end Mi
namespace Mi
open PySem L2 Evl
theorem room100 {k : Nat} {A : Around} (hr : Room k A) : A.units + 100 < cLine := by
  have := hr.un
  omega
theorem guards_deeper {A : Around} {q : Str} {sc : Scope} {n : Nat} {f : Addr} {c : Value} (h : A.guards = some []) : (A.deeper (PyProof.Rows.envOfC q sc n f c)).guards = some [] := h
end Mi
namespace Mi
open PySem L2 Evl
section
variable {X : Cx} {B : Bs} {env : Env} {os : Os} {pos : Pos} {α β : Type} {r : Rp α} {s : Rp β} {f : α → PyData} {n : Nat} {e a : Expr} {rest : List Stmt} {post : Post β}
theorem bg_nx {S ρ : Type} {env : Env} {blk : List Stmt} {rt : ρ → β} {w : S → W β} {s : S} (h : BG X B env os blk post (w s)) : BG X B env os blk post (flEnd rt w (.nx s)) := h
/-- seen by another reading -/
theorem e_map {w : W α} {g : α → β} (hg : ∀ {F v x}, r.ok F v x → s.ok F v (g x)) (h : EE X B env os e r w) : EE X B env os e s (bnd w fun x => ret (g x)) :=
  PE.imp h fun σ H Q ⟨F, P, S, hw, k⟩ => ⟨F, _, S, hw, fun x hx v F1 H1 S1 e1 ok => k _ hx v F1 H1 S1 e1 (hg ok)⟩
theorem e_toD {w : W α} (d : DD X.K r f n) (h : EE X B env os e r w) (hn : n ≤ 30 := by decide) : EE X B env os e (rD X.K) (bnd w fun x => ret (f x)) :=
  e_map (s := rD X.K) (fun {F v x} ok => ⟨(d.ok ok).1, (d.ok ok).2.1, Nat.le_trans (d.ok ok).2.2 hn⟩) h
/-- a part of the script -/
theorem n_sliceScr {w1 : W (List Int)} {w2 w3 : W (Option Int)} {lo hi : Option Expr} {p2 : Pos} (ha : EE X B env os a (rScr X.K) w1) (hl : EO X B env os lo w2) (hh : EO X B env os hi w3) :
    EN X B env os (.Subscript a (.Slice lo hi none p2) pos) rInt (bnd w1 fun x => bnd w2 fun l => bnd w3 fun h => ret (cutL x l h)) :=
  PE.imp (pe_slice sl_list ha hl hh) fun σ H Q ⟨F, P, S, hw, k⟩ => ⟨F, _, S, hw, fun x hx v F1 H1 S1 e1 ⟨p1, q1, h1, z1⟩ => ⟨F1, _, S1, hx, fun l hl' F2 H2 S2 e2 => ⟨F2, _, S2, hl', fun h hh' F3 H3 S3 e3 => by
  exact ⟨p1, x.map V.int, q1, ex_l S3.fh (ex_l e3 (ex_l e2 h1)), fun p hp => k _ hh' p F3 _ (S3.newOwn hp ⟨_, rfl, Nat.le_trans (cutV_length _ l h) (by rw [List.length_map]; exact z1), cut_paired (ints_paired x) l h⟩) ((e1.trans e2).trans e3)⟩⟩⟩⟩
theorem ints_of {F : Hp} : ∀ {vs : List V} {xs : List Int}, Paired (rInt.ok F) vs xs → vs = xs.map V.int
  | _, _, .nil => rfl
  | _, _, .cons h t => by
    rw [List.map_cons, ← ints_of t]
    have h' : _ = V.int _ := h
    rw [h']
/-- what the bag's maker gives back -/
def pBag (B : Bs) : Post (List Int × Int) := fun D x => ∀ (b c : Addr) (H : Hp), Ex B.F H → B.H b = none → B.H c = none → b ≠ c → x.1.length ≤ sizeLine → H c = some (.lst (x.1.map V.int)) → H b = some (.lst [.ref c, .int 0, .int 0, .int x.2, .int 0]) → D.rt (.ref b) H
theorem b_bagR {w1 : W (List Int)} {w2 : List Int → W Int} {m : Expr} {q1 q2 q4 : Nat} {p1 p2 p4 p5 : Pos} (hio : ∀ a, a ∉ B.io) (ha : EN X B env [] a rInt w1) (hm : ∀ x c, EE X B env [(c, oLst rInt x)] m rInt (w2 x))
    (h1 : starEach [a, .Constant (.int 0) q1 p1, .Constant (.int 0) q2 p2, m, .Constant (.int 0) q4 p4] X.env = (false, eval a X.env) :: starEach [.Constant (.int 0) q1 p1, .Constant (.int 0) q2 p2, m, .Constant (.int 0) q4 p4] X.env := by rfl)
    (h2 : starEach [.Constant (.int 0) q1 p1, .Constant (.int 0) q2 p2, m, .Constant (.int 0) q4 p4] X.env = (false, eval (.Constant (.int 0) q1 p1) X.env) :: starEach [.Constant (.int 0) q2 p2, m, .Constant (.int 0) q4 p4] X.env := by rfl)
    (h3 : starEach [.Constant (.int 0) q2 p2, m, .Constant (.int 0) q4 p4] X.env = (false, eval (.Constant (.int 0) q2 p2) X.env) :: starEach [m, .Constant (.int 0) q4 p4] X.env := by rfl)
    (h4 : starEach [m, .Constant (.int 0) q4 p4] X.env = (false, eval m X.env) :: starEach [.Constant (.int 0) q4 p4] X.env := by rfl)
    (h5 : starEach [.Constant (.int 0) q4 p4] X.env = (false, eval (.Constant (.int 0) q4 p4) X.env) :: starEach [] X.env := by rfl) :
    BG X B env [] [.Return (some (.List [a, .Constant (.int 0) q1 p1, .Constant (.int 0) q2 p2, m, .Constant (.int 0) q4 p4] p5)) pos] (pBag B) (bnd w1 fun x => bnd (w2 x) fun y => ret (x, y)) :=
  PSs.imp (pss_one (ps_ret (pe_lst (pa_cons ha (pa_cons pe_int (pa_cons pe_int (pa_cons (PE.ex (ι := List Int × Addr) fun q => hm q.1 q.2) (pa_cons pe_int pa_nil h5) h4) h3) h2) h1)))) fun D σ H ⟨F, P, S, hw, k⟩ =>
  ⟨F, _, S, hw, fun x hx c F1 H1 S1 e1 => ⟨(x, c), F1, _, S1, hx, fun y hy v F2 H2 S2 e2 hv => ⟨by show 5 ≤ sizeLine; decide, fun b hb => by
    have hv' : v = V.int y := hv
    subst hv'
    obtain ⟨z1, ⟨o, z2, vs, z3, z4, z5⟩, z6⟩ := S2.ow (c, oLst rInt x) (List.mem_cons_self)
    subst z3
    have evs := ints_of z5
    subst evs
    have hbc : b ≠ c := fun e => by
      rw [e] at hb
      rw [hb] at z2
      cases z2
    have eb : Ex B.F H2 := S2.fin.bf.trans S2.fh
    refine k (x, y) hy b c _ (eb.trans (Ex.new hb)) (S2.fin.fresh hb) ?_ hbc (by rw [List.length_map] at z4; exact z4) ?_ upd_same
    · rcases z6 with z | z
      · exact z
      · exact absurd z (hio _)
    · rw [upd_ne (Ne.symm hbc)]
      exact z2⟩⟩⟩
theorem forW_of {α S : Type} {f : S → α → W S} {E : Er → Prop} {I : S → Prop} : ∀ {xs : List α} {s : S} {P : S → Prop}, (∀ s x Q, I s → (∀ s', I s' → Q s') → f s x Q E) → I s → (∀ s, I s → P s) → forW f s xs P E
  | [], s, P, hf, hs, hp => hp s hs
  | x :: xs, s, P, hf, hs, hp => hf s x _ hs fun s' h' => forW_of hf h' hp
end
end Mi
namespace Mi
open PySem L2 Evl
/-- every answer of w is one that I allows, and w gives one -/
def Ok {α : Type} (w : W α) (I : α → Prop) : Prop := ∀ (P : α → Prop) (E : Er → Prop), (∀ x, I x → P x) → w P E
section
variable {α β γ S ρ : Type} {I J : α → Prop} {w m : W α}
theorem Ok.ret {x : α} (h : I x) : Ok (ret x) I := fun P E hp => hp x h
theorem Ok.eq {x : α} : Ok (Mi.ret x) (· = x) := fun P E hp => hp x rfl
theorem Ok.bnd {f : α → W β} {I : β → Prop} (h : Ok m J) (k : ∀ x, J x → Ok (f x) I) : Ok (bnd m f) I := fun P E hp => h _ E fun x hx => k x hx P E hp
theorem Ok.chk {c : Prop} (hc : c) (h : Ok w I) : Ok (chk c w) I := fun P E hp => ⟨hc, h P E hp⟩
theorem Ok.noX (h : Ok w I) : Ok (noX w) I := fun P E hp => h P _ hp
theorem Ok.mono (h : Ok w J) (i : ∀ x, J x → I x) : Ok w I := fun P E hp => h P E fun x hx => hp x (i x hx)
theorem Ok.run {P : α → Prop} {E : Er → Prop} (h : Ok w P) : w P E := h P E fun _ hx => hx
theorem Ok.ite {c : Prop} [Decidable c] {w1 w2 : W α} (h1 : c → Ok w1 I) (h2 : ¬ c → Ok w2 I) : Ok (if c then w1 else w2) I := by
  split
  · exact h1 ‹_›
  · exact h2 ‹_›
theorem Ok.bndE {f : α → W β} {I : β → Prop} {x : α} (h : Ok m (· = x)) (k : Ok (f x) I) : Ok (Mi.bnd m f) I := Ok.bnd h fun y hy => by
  subst hy
  exact k
theorem Ok.draw {k : Int} (h0 : 0 < k) (h : k.natAbs.log2 < 9000) : Ok (drawW k) fun r => 0 ≤ r ∧ r < k := fun P E hp => ⟨h0, h, fun r h1 h2 => hp r ⟨h1, h2⟩⟩
theorem Ok.idxN {xs : List α} {n : Nat} {x : α} (h : xs[n]? = some x) : Ok (idx xs (n : Int)) (· = x) := by
  rw [idx_nat h]
  exact Ok.eq
theorem Ok.any {xs : List α} (h0 : 0 < xs.length) (h1 : xs.length < 2 ^ 64) (h : ∀ x ∈ xs, I x) : Ok (anyW xs) I := by
  refine Ok.bnd (Ok.noX (Ok.draw (by omega) ?_)) fun r ⟨r0, r1⟩ => ?_
  · refine Nat.lt_of_lt_of_le (Nat.log2_lt (by omega) |>.mpr (show _ < 2 ^ 64 from ?_)) (by decide)
    omega
  · obtain ⟨n, rfl⟩ := Int.eq_ofNat_of_zero_le r0
    have hn : n < xs.length := by omega
    exact (Ok.idxN (List.getElem?_eq_getElem hn)).mono fun x e => e ▸ h _ (List.getElem_mem hn)
theorem Ok.map {f : α → W β} {g : α → β} : ∀ {xs : List α}, (∀ x ∈ xs, Ok (f x) (· = g x)) → Ok (mapW f xs) (· = xs.map g)
  | [], _ => Ok.eq
  | x :: xs, h => Ok.bndE (h x List.mem_cons_self) (Ok.bndE (Ok.map fun y hy => h y (List.mem_cons_of_mem _ hy)) Ok.eq)
theorem Ok.mapP {f : α → W β} {I : β → Prop} : ∀ {xs : List α}, (∀ x ∈ xs, Ok (f x) I) → Ok (mapW f xs) (fun ys => ys.length = xs.length ∧ ∀ y ∈ ys, I y)
  | [], _ => Ok.ret ⟨rfl, fun _ h => nomatch h⟩
  | x :: xs, h => Ok.bnd (h x List.mem_cons_self) fun y hy => Ok.bnd (Ok.mapP fun z hz => h z (List.mem_cons_of_mem _ hz)) fun ys ⟨h1, h2⟩ => Ok.ret ⟨by simp [h1], fun z hz => by
    rcases List.mem_cons.mp hz with e | hz
    · exact e ▸ hy
    · exact h2 z hz⟩
theorem Ok.filt {c : α → W Bool} {f : α → W β} {p : α → Bool} {g : α → β} : ∀ {xs : List α}, (∀ x ∈ xs, Ok (c x) (· = p x)) → (∀ x ∈ xs, p x = true → Ok (f x) (· = g x)) → Ok (filtW c f xs) (· = (xs.filter p).map g)
  | [], _, _ => Ok.eq
  | x :: xs, h, k => by
    have ih := Ok.filt (xs := xs) (c := c) (f := f) (p := p) (g := g) (fun y hy => h y (List.mem_cons_of_mem _ hy)) fun y hy => k y (List.mem_cons_of_mem _ hy)
    refine Ok.bndE (h x List.mem_cons_self) ?_
    by_cases q : p x = true
    · rw [if_pos q, List.filter_cons_of_pos q]
      exact Ok.bndE (k x List.mem_cons_self q) (Ok.bndE ih Ok.eq)
    · rw [if_neg q, List.filter_cons_of_neg q]
      exact ih
theorem Ok.forW {f : S → α → W S} {J : S → Prop} : ∀ {xs : List α} {s0 : S} (inv : Nat → S → Prop), inv 0 s0 → (∀ k (hk : k < xs.length) s, inv k s → Ok (f s xs[k]) (inv (k + 1))) → (∀ s, inv xs.length s → J s) → Ok (forW f s0 xs) J
  | [], s0, inv, h0, _, h2 => Ok.ret (h2 _ h0)
  | x :: xs, s0, inv, h0, h1, h2 => Ok.bnd (h1 0 (by simp) s0 h0) fun s hs => Ok.forW (fun k => inv (k + 1)) hs (fun k hk s hs => h1 (k + 1) (by simpa using hk) s hs) fun s hs => h2 s hs
theorem Ok.forF {f : S → α → W (Fl S ρ)} {J : Fl S ρ → Prop} : ∀ {xs : List α} {s0 : S} (inv : Nat → S → Prop) (R : ρ → Prop), inv 0 s0 → (∀ k (hk : k < xs.length) s, inv k s → Ok (f s xs[k]) fun r => match r with | .nx s => inv (k + 1) s | .rt z => R z | _ => False) →
    (∀ s, inv xs.length s → J (.nx s)) → (∀ z, R z → J (.rt z)) → Ok (forF f s0 xs) J
  | [], s0, inv, R, h0, _, h2, _ => Ok.ret (h2 _ h0)
  | x :: xs, s0, inv, R, h0, h1, h2, h3 => Ok.bnd (h1 0 (by simp) s0 h0) fun r hr => by
    cases r with
    | nx s => exact Ok.forF (fun k => inv (k + 1)) R hr (fun k hk s hs => h1 (k + 1) (by simpa using hk) s hs) (fun s hs => h2 s hs) h3
    | rt z => exact Ok.ret (h3 z hr)
    | bk s => exact False.elim hr
    | ct s => exact False.elim hr
theorem Ok.mul {x y : Int} {m : Nat} (hx : x.natAbs < 2 ^ m) (hy : y.natAbs < 2 ^ m) (hm : m ≤ 1048576) : Ok (mulI x y) (· = x * y) :=
  Ok.chk (IntMulOk.of_bits (intBits_le_iff.mpr (Nat.lt_of_lt_of_le hx (Nat.pow_le_pow_right (by decide) hm))) (intBits_le_iff.mpr (Nat.lt_of_lt_of_le hy (Nat.pow_le_pow_right (by decide) hm)))) Ok.eq
theorem Ok.mulR {x y : Int} (hy : y.natAbs < 2 ^ 64) : Ok (mulI x y) (· = x * y) := Ok.chk (mul_small hy) Ok.eq
theorem Ok.mulL {x y : Int} (hx : x.natAbs < 2 ^ 64) : Ok (mulI x y) (· = x * y) := Ok.chk (mul_smallL hx) Ok.eq
theorem log2_lt {n m : Nat} (h : n < 2 ^ m) (hm : 0 < m) : n.log2 < m := by
  by_cases e : n = 0
  · subst e
    exact hm
  · exact (Nat.log2_lt e).mpr h
theorem Ok.div {x y : Int} (h : y ≠ 0) (hy : y.natAbs < 2 ^ 9000) : Ok (divI x y) (· = x.fdiv y) := Ok.chk ⟨h, log2_lt hy (by decide)⟩ Ok.eq
theorem Ok.mod {x y : Int} (h : y ≠ 0) : Ok (modI x y) (· = x.fmod y) := Ok.chk h Ok.eq
theorem Ok.rng1 {n : Nat} (h : n ≤ 16777216) : Ok (rng1 (n : Int)) (· = (List.range n).map fun k : Nat => (k : Int)) := by
  refine Ok.chk ⟨by omega, by omega, by omega, by omega, by omega⟩ (Ok.ret ?_)
  unfold rangeI
  rw [show ((n : Int) - 0).toNat = n by omega]
  exact List.map_congr_left fun k _ => by omega
theorem Ok.rng2 {a n : Nat} (h : a ≤ n) (h2 : n ≤ 16777216) : Ok (rng2 (a : Int) (n : Int)) (· = (List.range (n - a)).map fun k : Nat => ((a + k : Nat) : Int)) := by
  refine Ok.chk ⟨by omega, by omega, by omega, by omega, by omega⟩ (Ok.ret ?_)
  unfold rangeI
  rw [show ((n : Int) - (a : Int)).toNat = n - a by omega]
  exact List.map_congr_left fun k _ => by omega
/-- a map over a range -/
theorem Ok.mapR {f : Int → W β} {g : Nat → β} {n a : Nat} (h : ∀ k, k < n → Ok (f ((a + k : Nat) : Int)) (· = g (a + k))) : Ok (mapW f ((List.range n).map fun k : Nat => ((a + k : Nat) : Int))) (· = (List.range n).map fun k => g (a + k)) := by
  refine (Ok.map (g := fun i : Int => g i.toNat) fun x hx => ?_).mono fun ys e => ?_
  · obtain ⟨k, hk, rfl⟩ := List.mem_map.mp hx
    exact h k (List.mem_range.mp hk)
  · rw [e, List.map_map]
    exact List.map_congr_left fun k _ => rfl
theorem Ok.mapR0 {f : Int → W β} {g : Nat → β} {n : Nat} (h : ∀ k, k < n → Ok (f (k : Int)) (· = g k)) : Ok (mapW f ((List.range n).map fun k : Nat => (k : Int))) (· = (List.range n).map g) := by
  refine (Ok.map (g := fun i : Int => g i.toNat) fun x hx => ?_).mono fun ys e => ?_
  · obtain ⟨k, hk, rfl⟩ := List.mem_map.mp hx
    exact h k (List.mem_range.mp hk)
  · rw [e, List.map_map]
    exact List.map_congr_left fun k _ => rfl
end
theorem piled_le {ts : List Str} {m : Nat} (h : ∀ t ∈ ts, t.length ≤ m) : piled ts ≤ ts.length * (m + 2) := by
  induction ts with
  | nil => simp [piled]
  | cons t ts ih =>
    have := ih fun u hu => h u (List.mem_cons_of_mem _ hu)
    have := h t List.mem_cons_self
    rw [piled_cons, List.length_cons, Nat.add_mul]
    omega
theorem textFrom_len_le : ∀ (ts : List Str) (k : Nat) (acc : Str), (textFrom k acc ts).length ≤ acc.length + piled ts
  | [], k, acc => by
    show acc.length ≤ _
    omega
  | t :: r, k, acc => by
    have h := textFrom_len_le r (k + 1) (acc ++ (if k > 0 then ", " else "" : String) ++ t)
    have e : (acc ++ (if k > 0 then ", " else "" : String) ++ t).length = acc.length + (if k > 0 then 2 else 0) + t.length := by
      rw [strLen_append, strLen_append]
      split <;> rfl
    rw [e] at h
    rw [piled_cons]
    show (textFrom (k + 1) _ r).length ≤ _
    have : (if k > 0 then 2 else 0 : Nat) ≤ 2 := by split <;> decide
    omega
theorem listText_len_le (ts : List Str) : (listText ts).length ≤ 2 + piled ts := by
  unfold listText
  rw [strLen_append]
  have := textFrom_len_le ts 0 "["
  have e : ((("[" : String) : Str)).length = 1 := rfl
  have e2 : ((("]" : String) : Str)).length = 1 := rfl
  omega
theorem strOk_str (s : String) : PyData.strOk (Str.ofString s) = true := by
  unfold PyData.strOk
  rw [Str.ofString_eq_toList, ← Array.all_toList, List.all_eq_true]
  intro y hy
  obtain ⟨c, _, rfl⟩ := List.mem_map.mp (by simpa using hy)
  have := c.valid
  simp only [decide_eq_true_eq]
  unfold Char.toNat
  rcases this with h | ⟨_, h⟩
  · exact Nat.lt_trans h (by decide)
  · exact h
theorem textFrom_ok : ∀ (ts : List Str) (k : Nat) (acc : Str), PyData.strOk acc = true → (∀ t ∈ ts, PyData.strOk t = true) → PyData.strOk (textFrom k acc ts) = true
  | [], k, acc, h, _ => h
  | t :: r, k, acc, h, h2 => by
    show PyData.strOk (textFrom (k + 1) _ r) = true
    exact textFrom_ok r (k + 1) _ (strOk_app (strOk_app h (strOk_str _)) (h2 t List.mem_cons_self)) fun u hu => h2 u (List.mem_cons_of_mem _ hu)
theorem listText_ok {ts : List Str} (h : ∀ t ∈ ts, PyData.strOk t = true) : PyData.strOk (listText ts) = true := strOk_app (textFrom_ok ts 0 _ (strOk_str _) h) (strOk_str _)
/-- it can be shown, in at most m signs -/
structure Shw (d : PyData) (m : Nat) : Prop where
  s : d.showable = true
  l : d.shown.length ≤ m
  o : PyData.strOk d.shown = true
theorem Shw.mono {d : PyData} {m n : Nat} (h : Shw d m) (hm : m ≤ n) : Shw d n := ⟨h.s, Nat.le_trans h.l hm, h.o⟩
theorem Shw.int {i : Int} (h : i.natAbs < 2 ^ 1920) : Shw (.int i) 1921 := by
  have q : i.natAbs.log2 < 1920 := log2_lt h (by decide)
  refine ⟨by simp [PyData.showable, q], ?_, ?_⟩
  · rw [PyData.shown]
    exact PyProof.Rows.int_text_len_1921 q
  · rw [PyData.shown]
    exact strOk_str _
theorem Shw.list {ds : List PyData} {m n : Nat} (h : ∀ d ∈ ds, Shw d m) (hn : ds.length ≤ n) : Shw (.list ds) (n * (m + 2) + 2) := by
  have e : ∀ ds : List PyData, PyData.shownAll ds = ds.map PyData.shown := fun ds => by
    induction ds with
    | nil => rfl
    | cons d ds ih => rw [PyData.shownAll, ih, List.map_cons]
  have e2 : ∀ ds : List PyData, (∀ d ∈ ds, d.showable = true) → PyData.showableAll ds = true := fun ds => by
    induction ds with
    | nil => exact fun _ => rfl
    | cons d ds ih => exact fun h => by rw [PyData.showableAll, h d List.mem_cons_self, ih fun u hu => h u (List.mem_cons_of_mem _ hu)]; rfl
  refine ⟨by rw [PyData.showable]; exact e2 ds fun d hd => (h d hd).s, ?_, ?_⟩
  · rw [PyData.shown, e]
    refine Nat.le_trans (listText_len_le _) ?_
    have := piled_le (ts := ds.map PyData.shown) (m := m) fun t ht => by
      obtain ⟨d, hd, rfl⟩ := List.mem_map.mp ht
      exact (h d hd).l
    rw [List.length_map] at this
    have := Nat.mul_le_mul_right (m + 2) hn
    omega
  · rw [PyData.shown, e]
    refine listText_ok fun t ht => ?_
    obtain ⟨d, hd, rfl⟩ := List.mem_map.mp ht
    exact (h d hd).o
end Mi
namespace Mi
open PySem L2 Evl
open PyProof.Rows (envOfC)
theorem c_conv {X : Cx} {B : Bs} {env : Env} {os : Os} {α : Type} {r : Rp α} {st : Stmt} {g : TG} {w w' : W (List α)} (h : PS X st (tAsg (tNew B env os r w) g)) (q : w = w') : PS X st (tAsg (tNew B env os r w') g) := q ▸ h
def Flds (F : Hp) (fs : List (Str × Slot)) (vs : List (Str × V)) : Prop := Paired (fun (p : Str × Slot) (q : Str × V) => p.1 = q.1 ∧ p.2.ok F (some q.2)) fs vs
theorem Flds.mono {F F' : Hp} {fs : List (Str × Slot)} {vs : List (Str × V)} (e : Ex F F') (h : Flds F fs vs) : Flds F' fs vs := Paired.imp (fun p _ ⟨h1, h2⟩ => ⟨h1, p.2.mono e h2⟩) h
theorem Flds.get {F : Hp} {f : Str} {s : Slot} : ∀ {fs : List (Str × Slot)} {vs : List (Str × V)}, Flds F fs vs → fs.lookup f = some s → ∃ v, vs.lookup f = some v ∧ s.ok F (some v)
  | _, _, .nil, h => by cases h
  | (g, s') :: fs, (g', v) :: vs, .cons ⟨e, h1⟩ t, h => by
    have e : g = g' := e
    subst e
    rw [List.lookup_cons] at h ⊢
    cases q : (f == g) with
    | true =>
      rw [q] at h
      cases h
      exact ⟨v, rfl, h1⟩
    | false =>
      rw [q] at h
      exact Flds.get t h
theorem Flds.none {F : Hp} {f : Str} : ∀ {fs : List (Str × Slot)} {vs : List (Str × V)}, Flds F fs vs → fs.lookup f = none → vs.lookup f = none
  | _, _, .nil, h => rfl
  | (g, s') :: fs, (g', v) :: vs, .cons ⟨e, h1⟩ t, h => by
    have e : g = g' := e
    subst e
    rw [List.lookup_cons] at h ⊢
    cases q : (f == g) with
    | true =>
      rw [q] at h
      cases h
    | false =>
      rw [q] at h
      exact Flds.none t h
theorem Flds.len {F : Hp} {fs : List (Str × Slot)} {vs : List (Str × V)} (h : Flds F fs vs) : fs.length = vs.length := Paired.length h
def putS (f : Str) (s : Slot) : List (Str × Slot) → List (Str × Slot)
  | [] => [(f, s)]
  | (g, x) :: r => if g = f then (g, s) :: r else (g, x) :: putS f s r
theorem Flds.put {F : Hp} {f : Str} {s : Slot} {v : V} (hs : s.ok F (some v)) : ∀ {fs : List (Str × Slot)} {vs : List (Str × V)}, Flds F fs vs → Flds F (putS f s fs) (putF f v vs)
  | _, _, .nil => .cons ⟨rfl, hs⟩ .nil
  | (g, x) :: fs, (g', y) :: vs, .cons ⟨e, h1⟩ t => by
    have e : g = g' := e
    subst e
    unfold putS putF
    by_cases q : g = f
    · rw [if_pos q, if_pos q]
      exact .cons ⟨rfl, hs⟩ t
    · rw [if_neg q, if_neg q]
      exact .cons ⟨rfl, h1⟩ (Flds.put hs t)
/-- an object that will not change: its class, its fields by name -/
def rObj {α : Type} (C : Addr) (fl : α → List (Str × Slot)) : Rp α := ⟨fun F v x => ∃ a dx vs, v = .ref a ∧ F a = some (.ins C dx vs) ∧ Flds F (fl x) vs, fun e ⟨a, dx, vs, h1, h2, h3⟩ => ⟨a, dx, vs, h1, e _ _ h2, h3.mono e⟩⟩
/-- one that is being made -/
def oObj (C : Addr) (fs : List (Str × Slot)) : Own := ⟨fun F o => ∃ dx vs, o = .ins C dx vs ∧ Flds F fs vs, fun e ⟨dx, vs, h1, h2⟩ => ⟨dx, vs, h1, h2.mono e⟩⟩
section
variable {X : Cx} {B : Bs} {env : Env} {os : Os} {pos : Pos} {α β γ : Type} {r : Rp α} {s : Rp β} {C : Addr} {fl : α → List (Str × Slot)} {f : Str} {e : Expr} {rest : List Stmt} {post : Post β}
/-- e.f -/
theorem e_fld {w : W α} {g : α → β} (c : Cls X.K C) (n : NoAttr X.K C f) (he : EE X B env os e (rObj C fl) w) (hg : ∀ x, (fl x).lookup f = some (sv s (g x)) := by exact fun _ => rfl) (hb : attributeBase e f X.env (eval e X.env) = eval e X.env := by rfl) :
    EE X B env os (.Attribute e f pos) s (bnd w fun x => ret (g x)) :=
  PE.imp (pe_fld he hb) fun σ H Q ⟨F, P, S, hw, k⟩ => ⟨F, _, S, hw, fun x hx v F1 H1 S1 e1 ⟨a, dx, vs, ev, ha, hf⟩ => by
    obtain ⟨u, h1, u', h2, h3⟩ := hf.get (hg x)
    cases h2
    exact ⟨a, C, dx, vs, _, ev, S1.fh _ _ ha, c, n, h1, k _ hx _ F1 H1 S1 e1 h3⟩⟩
theorem Sit.obj {F H : Hp} {σ : L2.St} {i j : Nat} {a : Addr} {fs : List (Str × Slot)} (S : Sit B F H σ env os) (hi : env[i]? = some (sv (rAdr a) ())) (hj : os[j]? = some (a, oObj C fs)) : σ[i]? = some (some (.ref a)) ∧ F a = none ∧ ∃ dx vs, H a = some (.ins C dx vs) ∧ Flds F fs vs := by
  obtain ⟨ov, g1, v, g2, g3⟩ := S.env.get hi
  have g3' : v = .ref a := g3
  subst g2 g3'
  obtain ⟨z1, ⟨o, z2, dx, vs, z3, z5⟩, _⟩ := S.ow _ (List.mem_of_getElem? hj)
  subst z3
  exact ⟨g1, z1, dx, vs, z2, z5⟩
/-- self.f, self being made -/
theorem e_fldO (i j : Nat) {x : Str} {p2 : Pos} {a : Addr} {fs : List (Str × Slot)} {y : β} (c : Cls X.K C) (n : NoAttr X.K C f) (hi : env[i]? = some (sv (rAdr a) ())) (hj : os[j]? = some (a, oObj C fs)) (hl : fs.lookup f = some (sv s y)) (hN : X.N[i]? = some x := by rfl)
    (hv : Vis X.env.scope x := by first | exact Or.inl rfl | exact Or.inr (Or.inl rfl) | exact Or.inr (Or.inr rfl)) (hd : (x == ("__debug__" : Str)) = false := by decide) (hcd : (x == ("__classdict__" : Str)) = false := by decide)
    (hb : attributeBase (.Name x p2) f X.env (eval (.Name x p2) X.env) = eval (.Name x p2) X.env := by rfl) :
    EE X B env os (.Attribute (.Name x p2) f pos) s (ret y) :=
  PE.imp (pe_fld (pe_var hN hv hd hcd) hb) fun σ H Q ⟨F, P, S, hw, k⟩ => by
  obtain ⟨g1, g2, dx, vs, g3, g5⟩ := S.obj hi hj
  obtain ⟨u, h1, u', h2, h3⟩ := g5.get hl
  cases h2
  exact ⟨.ref a, g1, a, C, dx, vs, u, rfl, g3, c, n, h1, k _ hw _ F H S (Ex.refl F) h3⟩
/-- self.f = e, self being made -/
theorem b_fldO (i j : Nat) {x : Str} {p1 p2 : Pos} {a : Addr} {fs : List (Str × Slot)} {w : W α} {w2 : α → W β} (c : Cls X.K C) (n : NoAttr X.K C f) (hi : env[i]? = some (sv (rAdr a) ())) (hj : os[j]? = some (a, oObj C fs)) (he : EE X B env os e r w)
    (hr : ∀ y, BG X B env (os.set j (a, oObj C (putS f (sv r y) fs))) rest post (w2 y)) (hz : decide (fs.length < 1000) = true := by rfl) (hN : X.N[i]? = some x := by rfl)
    (hv : Vis X.env.scope x := by first | exact Or.inl rfl | exact Or.inr (Or.inl rfl) | exact Or.inr (Or.inr rfl)) (hd : (x == ("__debug__" : Str)) = false := by decide) (hcd : (x == ("__classdict__" : Str)) = false := by decide)
    (hs : swapsWith e (some (.Attribute (.Name x p1) f p2)) pos.line X.env = pure false := by rfl) :
    BG X B env os (.Assign [.Attribute (.Name x p1) f p2] e pos :: rest) post (bnd w w2) :=
  PSs.imp (pss_cons (ps_fld (pe_var hN hv hd hcd) he hs) (PSs.ex hr)) fun D σ H ⟨F, P, S, hw, k⟩ => ⟨F, _, S, hw, fun y hy v F1 H1 S1 e1 ok => by
  obtain ⟨g1, g2, dx, vs, g3, g5⟩ := S1.obj hi hj
  refine ⟨.ref a, g1, a, C, dx, vs, rfl, g3, c, n, ?_, y, F1, P, S1.change hj ⟨dx, _, rfl, Flds.put (s := sv r y) ⟨v, rfl, ok⟩ g5⟩, hy, k⟩
  rw [← g5.len]
  exact of_decide_eq_true hz⟩
end
/-- a made object's promise: the arguments by slots; the mirror gives the fields -/
def spI {ι ρ : Type} (C : Addr) (args : ι → Env) (w : ι → W ρ) (fl : ρ → List (Str × Slot)) : Sp := fun vs H Q _ => ∃ (i : ι) (F : Hp) (P : ρ → Prop) (x dx : Addr) (us : List V), vs = .ref x :: us ∧ Ex F H ∧ F x = none ∧ H x = some (.ins C dx []) ∧ EnvOk F (args i) (us.map some) ∧
  w i P (fun _ => False) ∧ ∀ r, P r → ∀ F' H', Fn (bs0 F H [(x, oObj C [])]) F' H' → OsOk (bs0 F H [(x, oObj C [])]) F' H' [(x, oObj C (fl r))] → Q .non H'
def pIn {ρ : Type} (B : Bs) (C x : Addr) (fl : ρ → List (Str × Slot)) : Post ρ := fun D r => (∀ F H, Fn B F H → OsOk B F H [(x, oObj C (fl r))] → D.rt .non H) ∧ ∀ σ F H, Fn B F H → OsOk B F H [(x, oObj C (fl r))] → D.nx σ H
theorem NxOk.init {B : Bs} {C x : Addr} {ρ : Type} {fl : ρ → List (Str × Slot)} {r : ρ} {env : Env} {os : Os} (ho : OsW os [(x, oObj C (fl r))]) : NxOk B (pIn B C x fl) env os r := ⟨fun D q σ F H z => q.2 σ F H z.fin (ho.ok z)⟩
section
variable {P : Program} {w : World} {K : PySem.W.Frag} {mg : Str → Option Value} {base : Heap} {k : Nat} {f C : Addr} {fd : FuncData} {ps N : List Str} {ι ρ : Type} {args : ι → Env} {wf : ι → W ρ} {fl : ρ → List (Str × Slot)}
theorem spI_len (hl : ∀ i, (args i).length + 1 = ps.length) : ∀ vs H Q E, spI C args wf fl vs H Q E → vs.length = ps.length := fun vs H Q E ⟨i, F, P, x, dx, us, ev, _, _, _, he, _⟩ => by
  have := he.len
  rw [List.length_map] at this
  rw [ev, List.length_cons, ← this, hl i]
theorem initW {x qual : Str} {st : Stmt} (F : Fun K x qual st f fd) (S : FnScope N ps (defScope st)) (hl : ∀ i, (args i).length + 1 = ps.length)
    (body : ∀ (cdv : Value) (A : Around) (outer : List PySem.Env) (s : Shared) (H : Hp) (E : XK) (B : Bs) (a : Addr) (i : ι), Room k (A.deeper (envOfC qual (defScope st) s.heap.objs.size f cdv)) →
      BG (cxOf CX0 P w K mg base N qual (defScope st) f cdv A outer s H E).nox B (entry (sv (rAdr a) () :: args i) (N.length - ps.length)) [(a, oObj C [])] (defBody st) (pIn B C a fl) (wf i)) : FnOk P w K mg base CX0 (k + 1) f fd ps (spI C args wf fl) := by
  refine F.ok S (spI_len hl) fun cdv A outer s H vs Q E hr hsp => ?_
  have hvl := spI_len hl vs H Q E hsp
  obtain ⟨i, F0, P0, a, dx, us, ev, fh, fa, ha, he, hw, hk⟩ := hsp
  subst ev
  have ow : ∀ p ∈ ([(a, oObj C [])] : Os), F0 p.1 = none ∧ ∃ o, H p.1 = some o ∧ p.2.ok F0 o := fun p hp => by
    rw [List.mem_singleton.mp hp]
    exact ⟨fa, _, ha, dx, [], rfl, .nil⟩
  refine ⟨_, body cdv A outer s H E (bs0 F0 H [(a, oObj C [])]) a i hr, F0, P0, ⟨bs0_start fh ow, ?_, fun p hp => ?_, by simp⟩, hw, fun y hy => ⟨fun F' H' fn ow => hk y hy F' H' fn ow, fun σ F' H' fn ow => hk y hy F' H' fn ow⟩⟩
  · rw [← hvl]
    exact entry_ok (.cons ⟨_, rfl, rfl⟩ he)
  · obtain ⟨h1, o, h2, h3⟩ := ow p hp
    exact ⟨h1, ⟨o, h2, h3⟩, .inr (List.mem_map_of_mem hp)⟩
end
theorem Sit.backI {B : Bs} {F F' H H' : Hp} {σ : L2.St} {env : Env} {os : Os} {x : Addr} {o o2 : Own} (S : Sit B F H σ env ((x, o) :: os)) (fn : Fn (bs0 F H [(x, o)]) F' H') (ow : OsOk (bs0 F H [(x, o)]) F' H' [(x, o2)]) : Sit B F' H' σ env ((x, o2) :: os) := by
  have e : Ex F F' := fn.bf
  obtain ⟨z1, ⟨ob, z2, z3⟩, z4⟩ := S.ow (x, o) (List.mem_cons_self)
  have z1 : F x = none := z1
  obtain ⟨y1, ⟨ob2, y2, y3⟩, _⟩ := ow (x, o2) (List.mem_cons_self)
  have nd := S.nd
  rw [List.map_cons] at nd
  obtain ⟨nd1, nd2⟩ := List.nodup_cons.mp nd
  have nin : ∀ a, a ≠ x → a ∉ ([(x, o)] : Os).map (·.1) := fun a h hm => h (by simpa using hm)
  refine ⟨⟨fn.fh, S.fin.bf.trans e, S.fin.mrk.trans e, S.fin.bb, fun a ha => ?_, fun a u h1 h2 h3 => ?_⟩, S.env.mono e, fun p hp => ?_, ?_⟩
  · by_cases hx : a = x
    · subst hx
      exact ⟨ob2, y2⟩
    · obtain ⟨u, hu⟩ := S.fin.ios a ha
      cases ef : F a with
      | none => exact ⟨u, (fn.keep a u ef hu (nin a hx)).1⟩
      | some q => exact ⟨q, fn.fh a q (e a q ef)⟩
  · obtain ⟨k1, k2⟩ := S.fin.keep a u h1 h2 h3
    refine fn.keep a u k2 k1 (nin a ?_)
    rintro rfl
    rcases z4 with q | q
    · have q' : B.H a = none := q
      rw [h2] at q'
      cases q'
    · exact h3 q
  · rcases List.mem_cons.mp hp with ep | hp
    · subst ep
      exact ⟨y1, ⟨ob2, y2, y3⟩, z4⟩
    · obtain ⟨h1, ⟨u, h2, h3⟩, h4⟩ := S.ow p (List.mem_cons_of_mem _ hp)
      have hx : p.1 ≠ x := fun z => by
        have hm := List.mem_map_of_mem (f := Prod.fst) hp
        rw [z] at hm
        exact nd1 hm
      obtain ⟨k1, k2⟩ := fn.keep p.1 u h1 h2 (nin _ hx)
      exact ⟨k2, ⟨u, k1, p.2.mono e h3⟩, h4⟩
  · rw [List.map_cons]
    exact nd
end Mi
namespace Mi
open PySem L2 Evl
open PyProof.Rows (Call_ boot_enumerate)
def IteT (K : PySem.W.Frag) (a : Addr) : It :=
  ⟨fun i H => ∃ (vs : List V) (v : V), SqT K H a vs ∧ vs[i]? = some v,
   fun i H u H' => ∃ T v, u = .ref T ∧ H T = none ∧ H' = upd H T (.tup [.int (i : Nat), v]) ∧ ∀ vs, SqT K H a vs → vs[i]? = some v,
   fun i H => ∃ vs : List V, SqT K H a vs ∧ vs.length ≤ i⟩
def EnT (a e it : Addr) (i : Nat) (h : Heap) : Prop := (∃ old, IsEnum h e it ((i : Nat) : Int) old) ∧ h.IsTupleIter it a i ∧ e ≠ it
theorem turn_enumT {P : Program} {w : World} {K : PySem.W.Frag} {elts : List Expr} {kk : Nat} {tpos : Pos} (a e it : Addr) : Turn P w K (.Tuple elts kk tpos) (IteT K a) [e, it] e (EnT a e it) where
  mem := List.mem_cons_self
  obj := by
    rintro i h ⟨⟨old, h1⟩, ⟨o, h2, h3, h4⟩, _⟩ b hb
    rcases List.mem_cons.mp hb with q | q
    · exact ⟨_, q ▸ h1, fun v z => by cases z⟩
    · exact ⟨o, (List.mem_singleton.mp q) ▸ h2, fun v z => by rw [h4] at z; cases z⟩
  keep := by
    rintro i h h' ⟨⟨old, h1⟩, ⟨o, h2, h3, h4⟩, hne⟩ k
    exact ⟨⟨old, k e List.mem_cons_self _ h1⟩, ⟨o, k it (by simp) _ h2, h3, h4⟩, hne⟩
  item := by
    intro X hP hw hK hc i pins s σ H E I hf st ⟨vs, v, hq, hv⟩
    subst hP hw hK
    obtain ⟨⟨old, h1⟩, h2, hne⟩ := st
    obtain ⟨its, rv, p, hz⟩ := I.tuple hq
    obtain ⟨u, hu, ru⟩ := rv.get hv
    have hit : a ≠ it := fun z => by
      obtain ⟨o1, q1, q2, _⟩ := h2
      obtain ⟨o2, q3, q4, _⟩ := p
      rw [z, q1] at q3
      cases q3
      rw [q2] at q4
      exact absurd q4 (by decide)
    have hE : e ≠ a := fun z => by
      obtain ⟨o2, q3, q4, _⟩ := p
      have q1 := h1
      rw [z] at q1
      have q5 := Option.some.inj (q1.symm.trans q3)
      rw [← q5] at q4
      have q4 : Value.type "enumerate" = Value.type "tuple" := q4
      exact absurd q4 (by decide)
    have D := Draws.tuple (prog := X.prog) (w := X.w) (A := X.A.in1) (I.ok.hd hc) it a hit its.toArray
    have lt1 : e < s.heap.objs.size := Heap.lt_size h1
    have lt2 : it < s.heap.objs.size := let ⟨_, q, _⟩ := h2; Heap.lt_size q
    have hi : i < its.toArray.size := by
      rw [List.size_toArray]
      exact (List.getElem?_eq_some_iff.mp hu).1
    refine wpAny_pyNext_enum_itemC D h1 ⟨h2, p⟩ hi hne (by simp [hne, hE]) fun x h' tk hP ho hs hT hsz hk => ?_
    have ex : x = u := by
      have q : its[i]? = some x := by simpa using hP
      rw [q] at hu
      exact Option.some.inj hu
    subst ex
    refine ⟨_, rfl, wpAny_letOwnedTupleGo_enum (s := { s with heap := h', toks := tk + 1 }) ho fun h2' he' sb => ?_⟩
    have hT2 : h2'.get? s.heap.objs.size = some { cls := .type "tuple", data := .seq #[.int i tk, x] } := (sb.2 _ (Nat.ne_of_gt lt1)).trans hT
    have new : ObjOk X.prog X.w (upd H s.heap.objs.size (.tup [.int (i : Nat), v])) h2' s.heap.objs.size (.tup [.int (i : Nat), v]) := ⟨Nat.le_of_lt (by show 2 < sizeLine; decide), [.int i tk, x], .cons ⟨_, rfl⟩ (.cons ru .nil), _, hT2, rfl, _, rfl⟩
    have kept : ∀ b ob, b ∉ [e, it] → s.heap.get? b = some ob → h2'.get? b = some ob := fun b ob hb q => by
      have b1 : b ≠ e := fun z => hb (by simp [z])
      have b2 : b ≠ it := fun z => hb (by simp [z])
      exact (sb.2 b b1).trans (hk b ob b1 b2 q)
    have I1 : Inv X pins σ (upd H s.heap.objs.size (.tup [.int (i : Nat), v])) { s with heap := h2', toks := tk + 1 } := I.turnedNew (ch := [e, it]) kept hf (Nat.le_refl _) new
    refine ⟨.ref s.heap.objs.size, _, I1, rfl, ⟨_, v, rfl, I.hok.fresh (Nat.le_refl _), rfl, fun ys hy => by rw [I.tuple_inj hy hq]; exact hv⟩, ⟨⟨x, ?_⟩, ?_, hne⟩, fun b hb => ?_⟩
    · rw [show ((i + 1 : Nat) : Int) = (i : Int) + 1 from by omega]
      exact he'
    · obtain ⟨o, q1, q2⟩ := hs.1
      exact ⟨o, (sb.2 it (Ne.symm hne)).trans q1, q2⟩
    · have hb' : b < s.heap.objs.size := by
        rcases List.mem_cons.mp hb with z | z
        · exact z ▸ lt1
        · exact (List.mem_singleton.mp z) ▸ lt2
      rw [upd_ne (Nat.ne_of_lt hb')]
      exact (hf b hb).1
  done := by
    intro X hP hw hK hc i pins s σ H E I hf st ⟨vs, hq, hv⟩
    subst hP hw hK
    obtain ⟨⟨old, h1⟩, h2, hne⟩ := st
    obtain ⟨its, rv, p, hz⟩ := I.tuple hq
    obtain ⟨f0, f1, f2, f3, f4, f5⟩ := hf it (by simp)
    have hl := rv.length
    have ty : s.TypeIs (.ref e) "enumerate" := ⟨_, h1, rfl⟩
    unfold pyNext
    refine wpAny_bind (wpAny_attempt ?_)
    refine wpAny_callSpecial?_slot (name := Str.ofString "__next__") ty F.slot_enumerate_next ?_
    refine wpAny_call_entry F.slot_enumerate_next ty F.entry_enumerate_next ?_ (F.args_enumerate_next_1 _)
    show wpAny _ _ (field (.ref e) 2 >>= fun x => _) _ _ s
    refine wpAny_bind (wpAny_field (x := .ref it) h1 rfl rfl ?_)
    refine wpAny_bind (wpAny_nextOf_tuple_end (I.ok.hd hc) h2 p (by simp; omega) fun h' x eb ⟨o, ho, hcls⟩ => ?_)
    refine wpAny_bind (wpAny_isInstance (T := "StopIteration") (b := true) ⟨o, ho, hcls⟩ isSubtype_stop (wpAny_pure ⟨rfl, ?_⟩))
    exact I.turned (t' := s.toks) (fun b o hb q => eb b o hb q) f0 f1 f3 f4 f5
  self := fun A i s Q E st h => by
    obtain ⟨⟨old, h1⟩, _⟩ := st
    exact wpAny_pyIter_enum h1 h
/-- enumerate(v) begins: the iterator of v, the enumerate object -/
abbrev enumObj (it : Addr) : Obj := { cls := .type "enumerate", data := .fields #[.none, .bool false, .ref it, rawInt 0, .none, .none] }
theorem meets_enum1 {v : Value} {o : Obj} {G : Heap → Prop} (B : Begins v o G) :
    Meets (Builtin.«enumerate.__new__» ⟨[.type "enumerate", v], []⟩) (fun _ R s => G s.heap ∧ R (.ok (.ret (.ref (s.heap.push o).objs.size))) { s with heap := (s.heap.push o).push (enumObj s.heap.objs.size) }) :=
  .of_wp fun prog w A R s ⟨g0, k0⟩ => by
    obtain ⟨h0, g0', d0, t0, o0⟩ := s
    have sub0 := sub_enumerate
    have it0 : ∀ {A' : Around} {E : Value → Shared → Prop} {Q : Value → Shared → Prop}, Q (.ref h0.objs.size) ⟨h0.push o, g0', d0, t0, o0⟩ → wpAny (model prog w) A' (pyIter v) Q E ⟨h0, g0', d0, t0, o0⟩ := fun q => B.iter prog w _ _ ⟨h0, g0', d0, t0, o0⟩ _ g0 q
    wp_walk using it0
    refine wpAny_stack_any fun st => wpAny_pure ?_
    split
    · rename_i c _ _ _ _ _
      by_cases hc : (c == Value.type "enumerate") = true
      · wp_walk using it0
        exact ⟨_, rfl, k0⟩
      · wp_walk using it0
        exact ⟨_, rfl, k0⟩
    · wp_walk using it0
      exact ⟨_, rfl, k0⟩
theorem call_enum1 {prog : Program} {w : World} {A : Around} {E : Value → Shared → Prop} {s : Shared} {v : Value} {o : Obj} {G : Heap → Prop} {Q : Value → Shared → Prop} (B : Begins v o G) (hG : G s.heap)
    (k : ∀ h', IsEnum h' (s.heap.objs.size + 1) s.heap.objs.size 0 .none → h'.get? s.heap.objs.size = some o → (∀ b ob, s.heap.get? b = some ob → h'.get? b = some ob) → Q (.ref (s.heap.objs.size + 1)) { s with heap := h' }) :
    wpAny (model prog w) A (call (.type "enumerate") [v]) Q E s := by
  refine callType_new F.called_enumerate (by decide) (F.typeCall_enumerate_1 _) (F.newCall_enumerate_1 _) (fun obj => F.args_object_init_2 obj _) F.entry_enumerate_new (meets_enum1 B) ⟨hG, ?_⟩
  have sz : (s.heap.push o).objs.size = s.heap.objs.size + 1 := Heap.size_push _ _
  have isE : IsEnum ((s.heap.push o).push (enumObj s.heap.objs.size)) (s.heap.objs.size + 1) s.heap.objs.size 0 .none := by
    have z := Heap.get?_push_size (s.heap.push o) (o := enumObj s.heap.objs.size) rfl
    rwa [sz] at z
  show _ ∧ _
  rw [sz]
  exact ⟨⟨_, isE, rfl⟩, k _ isE (Heap.get?_push_of_some _ (Heap.get?_push_size _ B.free)) fun b ob x => Heap.get?_push_of_some _ (Heap.get?_push_of_some _ x)⟩
def iEnumT (K : PySem.W.Frag) (ta : TA) : TI := fun σ H R => ta σ H fun vs H1 => ∃ a xs, vs = [.ref a] ∧ SqT K H1 a xs ∧ R (IteT K a) H1
theorem pi_enumT {X : Cx} {e : Expr} {ta : TA} {p pos tpos : Pos} {elts : List Expr} {kk : Nat} (hg : Gl X "enumerate") (hm : X.mg "enumerate" = none) (ha : PA X [e] ta) (hs : starEach [e] X.env = [(false, eval e X.env)] := by rfl) :
    PI X (.Tuple elts kk tpos) (.Call (.Name "enumerate" p) [e] [] pos) (iEnumT X.K ta) := by
  refine ⟨fun pins s σ H R I h => ?_⟩
  refine Call_ (ld_blt I hg hm boot_enumerate (PyProof.Rows.callWith_type1 (thn (ha.run pos pins s σ H _ I h) fun us s1 ⟨vs, H1, I1, rv, qv⟩ => ?_) hs rfl))
  obtain ⟨a, xs, rfl, hq, q⟩ := qv
  obtain ⟨u, rfl, ru⟩ : ∃ u, us = [u] ∧ RelV (.ref a) u := by
    cases rv with
    | cons r t =>
      cases t
      exact ⟨_, rfl, r⟩
  obtain rfl : u = Value.ref a := ru
  obtain ⟨its, rv', p', hz⟩ := I1.tuple hq
  refine call_enum1 (begins_tuple a its.toArray) p' fun h' he hi hk => wpAny_pyIter_enum he ?_
  have I2 : Inv X pins σ H1 { s1 with heap := h' } := I1.kept (t' := s1.toks) hk
  refine ⟨_, [s1.heap.objs.size + 1, s1.heap.objs.size], _, _, H1, rfl, I2, turn_enumT a _ _, ⟨⟨.none, he⟩, ⟨_, hi, rfl, rfl⟩, Nat.succ_ne_self _⟩, fun b hb => ?_, q⟩
  have le : s1.heap.objs.size ≤ b := by
    rcases List.mem_cons.mp hb with z | z
    · rw [z]; exact Nat.le_succ _
    · rw [List.mem_singleton.mp z]; exact Nat.le_refl _
  exact I1.fpOk le (I1.hok.fresh le)
section
variable {X : Cx} {B : Bs} {env : Env} {os : Os} {pos : Pos} {α β γ : Type} {r : Rp α} {s : Rp β} {t : Rp γ} {e a b c : Expr}
theorem s_enumT {p tpos : Pos} {elts : List Expr} {kk : Nat} {w : W (List α)} (ha : EE X B env os a (rTup X.K r) w) (hm : X.mg "enumerate" = none) (hg : Gl X "enumerate" := by rfl) (hs : starEach [a] X.env = [(false, eval a X.env)] := by rfl)
    (he : starEach [a] X.env = (false, eval a X.env) :: starEach [] X.env := by rfl) :
    ES X B env os (.Tuple elts kk tpos) (.Call (.Name "enumerate" p) [a] [] pos) (rT2 X.K rInt r) (bnd w fun x => ret ((rangeI 0 x.length).zip x)) :=
  PI.imp (pi_enumT hg hm (pa_cons ha pa_nil he) hs) fun σ H R ⟨F, P, S, hw, k⟩ => ⟨F, _, S, hw, fun x hx v F1 H1 S1 e1 ⟨p1, vs, q1, h1, z1, ok1⟩ => by
  subst q1
  refine ⟨p1, vs, rfl, ex_t S1.fh h1, ?_⟩
  have l1 := ok1.length
  have lr : (rangeI 0 (x.length : Int)).length = x.length := by rw [rangeI_len]; omega
  have lz : ((rangeI 0 (x.length : Int)).zip x).length = vs.length := by rw [List.length_zip, lr, l1]; exact Nat.min_self _
  refine k _ hx _ F1 H1 S1 e1 ⟨fun i F3 H3 x1 x2 hi => ?_, fun i F3 H3 u H4 z x1 x2 yy hz => ?_, fun i F3 H3 x1 x2 hi => ?_⟩ (by rw [lz]; exact z1)
  · rw [lz] at hi
    exact ⟨vs, vs[i], ex_t x2 (ex_t x1 h1), List.getElem?_eq_getElem hi⟩
  · obtain ⟨T, v2, ev, hT, eH, y1⟩ := yy
    subst ev eH
    obtain ⟨z1', z2'⟩ := z
    have hz' := List.getElem?_zip_eq_some.mp hz
    obtain ⟨v, hv, rv⟩ := Paired.get ok1 hz'.2
    have q1 := y1 vs (ex_t x2 (ex_t x1 h1))
    rw [q1] at hv
    cases hv
    have hi : z1' = (i : Int) := by
      have h := hz'.1
      unfold rangeI at h
      rw [List.getElem?_map] at h
      obtain ⟨m, hm, em⟩ := Option.map_eq_some_iff.mp h
      rw [List.getElem?_range (by have := (List.getElem?_eq_some_iff.mp hm).1; simpa using this)] at hm
      have := Option.some.inj hm
      omega
    have g : Grow F3 H3 (upd F3 T (.tup [.int (i : Nat), v2])) (upd H3 T (.tup [.int (i : Nat), v2])) := Grow.alloc x2 hT
    exact ⟨_, g, T, _, v2, rfl, SqT.of upd_same, (by show V.int _ = V.int _; rw [hi]), r.mono (x1.trans g.f) rv⟩
  · rw [lz] at hi
    exact ⟨vs, ex_t x2 (ex_t x1 h1), hi⟩⟩
end
end Mi
namespace Mi
open PySem L2 Evl
section
variable {X : Cx} {B : Bs} {env : Env} {os : Os} {pos p : Pos} {α β γ ι ρ : Type} {r : Rp α} {s : Rp β} {t : Rp γ} {e a b c o : Expr} {es : List Expr} {rest : List Stmt} {post : Post β}
/-- what type all of a kind have -/
def TyR (K : PySem.W.Frag) {α : Type} (r : Rp α) (t : Value) : Prop := ∀ (F H : Hp) (v : V) (x : α), r.ok F v x → Ex F H → TyX K H v t
theorem ty_int {K : PySem.W.Frag} : TyR K rInt (.type "int") := fun F H v x e _ => by
  have e : v = .int x := e
  rw [e]
  exact .base (.int x)
theorem ty_lst {K : PySem.W.Frag} {r : Rp α} : TyR K (rLst r) (.type "list") := fun F H v x ⟨a, vs, e, h, _⟩ q => by
  rw [e]
  exact .base (.lst (q _ _ h))
/-- isinstance(e, T), T a built-in type -/
theorem e_isB {w : W α} {t : Value} {x : Str} {T : String} {k : Bool} {p1 p2 : Pos} (ty : TyR X.K r t) (hk : PySem.W.kitOne X.K t (.type T) = some k) (ha : EE X B env os a r w) (hm : X.mg "isinstance" = none) (hx : X.mg x = none)
    (hv : bootBuiltins x = some (.type T) := by decide +kernel) (hn : x ≠ "__name__" := by decide) (hd : (x == ("__debug__" : Str)) = false := by decide)
    (hg : Gl X "isinstance" := by rfl) (hgx : Gl X x := by rfl) (hs : starEach [a, .Name x p2] X.env = (false, eval a X.env) :: starEach [.Name x p2] X.env := by rfl) (hs2 : starEach [.Name x p2] X.env = (false, eval (.Name x p2) X.env) :: starEach [] X.env := by rfl) (hpl : (backTo pos (starEach [.Name x p2] X.env)).any (·.1) = false := by rfl) :
    EE X B env os (.Call (.Name "isinstance" p1) [a, .Name x p2] [] pos) rBool (bnd w fun _ => ret k) :=
  PE.imp (pe_callB call_isi hg hm (by decide +kernel) (pa_cons ha (pa_cons (pe_bltn (v := .ty T) hgx hx hv rfl hn hd) pa_nil hs2) hs) (by decide) (by decide) hs hpl) fun σ H Q ⟨F, P, S, hw, kk⟩ => ⟨F, _, S, hw, fun x hx v F1 H1 S1 e1 ok =>
    ⟨v, .ty T, t, .type T, k, rfl, .ty T, ty F1 H1 v x ok S1.fh, hk, kk k hx (.bl k) F1 H1 S1 e1 rfl⟩⟩
end
end Mi
namespace Mi
open PySem L2 Evl
section
variable {X : Cx} {B : Bs} {env : Env} {os : Os} {pos p : Pos} {α β γ : Type} {r : Rp α} {s : Rp β} {e a b c tg : Expr} {es : List Expr} {rest : List Stmt} {post : Post β}
theorem e_min2 {w1 : W Int} {w2 : Int → W Int} (hc : X.calm = true) (ha : EE X B env os a rInt w1) (hb : ∀ x, EE X B env os b rInt (w2 x)) (hm : X.mg "min" = none) (hg : Gl X "min" := by rfl) (he : starEach [a, b] X.env = (false, eval a X.env) :: starEach [b] X.env := by rfl) (he2 : starEach [b] X.env = (false, eval b X.env) :: starEach [] X.env := by rfl)
    (hpl : (backTo pos (starEach [b] X.env)).any (·.1) = false := by rfl) : EE X B env os (.Call (.Name "min" p) [a, b] [] pos) rInt (bnd w1 fun x => bnd (w2 x) fun y => ret (if y < x then y else x)) :=
  PE.imp (pe_callB (call_min2 hc) hg hm (by decide +kernel) (pa_cons ha (pa_cons (PE.ex hb) pa_nil he2) he) (by decide) (by decide) he hpl) fun σ H Q ⟨F, P, S, hw, k⟩ => ⟨F, _, S, hw, fun x hx v F1 H1 S1 e1 ok1 => ⟨x, F1, _, S1, hx, fun y hy u F2 H2 S2 e2 ok2 =>
    ⟨x, y, by rw [show v = .int x from ok1, show u = .int y from ok2], k _ hy _ F2 H2 S2 (e1.trans e2) rfl⟩⟩⟩
end
end Mi
namespace Mi
open PySem L2 Evl
section
variable {α β γ S : Type}
theorem Ok.while {c : S → W Bool} {b : S → W S} {J : S → Prop} (inv : S → Prop) (m : S → Nat) (step : ∀ s, inv s → ∃ v : Bool, Ok (c s) (· = v) ∧ (v = true → Ok (b s) fun s' => inv s' ∧ m s' < m s) ∧ (v = false → J s)) : ∀ {s0 : S}, inv s0 → Ok (whileW c b s0) J := by
  intro s0 h0 P E hp
  have all : ∀ (k : Nat) (s : S), m s < k → inv s → whileN c b k s P E := by
    intro k
    induction k with
    | zero => exact fun s h => absurd h (Nat.not_lt_zero _)
    | succ k ih =>
      intro s hk hs
      obtain ⟨v, h1, h2, h3⟩ := step s hs
      refine h1 _ E fun x hx => ?_
      subst hx
      cases x with
      | false => exact hp _ (h3 rfl)
      | true => exact h2 rfl _ E fun s' ⟨q1, q2⟩ => ih s' (by omega) q1
  exact ⟨_, all _ s0 (Nat.lt_succ_self _) h0⟩
/-- what a text shows -/
theorem hex_ok (c : Nat) : ∀ d ∈ (Nat.toDigits 16 c).map Char.toNat, d < 0x110000 := fun d hd => by
  obtain ⟨ch, _, rfl⟩ := List.mem_map.mp hd
  have := ch.valid
  unfold Char.toNat
  rcases this with h | ⟨_, h⟩
  · exact Nat.lt_trans h (by decide)
  · exact h
theorem reprChar_ok {q c : Nat} (hc : c < 0x110000) : ∀ d ∈ Builtin.Str.reprChar q c, d < 0x110000 := by
  intro d hd
  have small : ∀ {l : List Nat}, (∀ x ∈ l, x < 0x110000) → d ∈ l → d < 0x110000 := fun h m => h d m
  unfold Builtin.Str.reprChar at hd
  have hexs : ∀ (n : Nat), d ∈ List.replicate n 48 ++ (Nat.toDigits 16 c).map Char.toNat → d < 0x110000 := fun n m => by
    rcases List.mem_append.mp m with m | m
    · rw [(List.mem_replicate.mp m).2]
      decide
    · exact hex_ok c d m
  dsimp only at hd
  split at hd
  · exact small (fun x hx => by simp at hx; rcases hx with rfl | rfl <;> omega) hd
  · split at hd
    · exact small (fun x hx => by simp at hx; rcases hx with rfl | rfl <;> decide) hd
    · split at hd
      · exact small (fun x hx => by simp at hx; rcases hx with rfl | rfl <;> decide) hd
      · split at hd
        · exact small (fun x hx => by simp at hx; rcases hx with rfl | rfl <;> decide) hd
        · split at hd
          · rw [List.mem_singleton.mp hd]
            exact hc
          · split at hd
            · rcases List.mem_append.mp hd with m | m
              · exact small (fun x hx => by simp at hx; rcases hx with rfl | rfl <;> decide) m
              · exact hexs _ m
            · split at hd
              · rcases List.mem_append.mp hd with m | m
                · exact small (fun x hx => by simp at hx; rcases hx with rfl | rfl <;> decide) m
                · exact hexs _ m
              · rcases List.mem_append.mp hd with m | m
                · exact small (fun x hx => by simp at hx; rcases hx with rfl | rfl <;> decide) m
                · exact hexs _ m
theorem reprText_okS {x : Str} (h : PyData.strOk x = true) : PyData.strOk (reprText x) = true := by
  have hx : ∀ c ∈ x.cps.toList, c < 0x110000 := fun c hc => by
    unfold PyData.strOk at h
    rw [← Array.all_toList, List.all_eq_true] at h
    exact of_decide_eq_true (h c hc)
  have hq : reprQuote x < 0x110000 := by
    unfold reprQuote
    split <;> decide
  have acc : ∀ (l : List Nat) (a : Array Nat), (∀ c ∈ l, c < 0x110000) → (∀ c ∈ a.toList, c < 0x110000) → ∀ c ∈ (l.foldl (fun out c => out ++ (Builtin.Str.reprChar (reprQuote x) c).toArray) a).toList, c < 0x110000 := by
    intro l
    induction l with
    | nil => exact fun a _ h2 => h2
    | cons c l ih =>
      intro a h1 h2
      refine ih _ (fun d hd => h1 d (List.mem_cons_of_mem _ hd)) fun d hd => ?_
      simp only [Array.toList_append] at hd
      rcases List.mem_append.mp hd with m | m
      · exact h2 d m
      · exact reprChar_ok (h1 c List.mem_cons_self) d m
  unfold PyData.strOk
  rw [← Array.all_toList, List.all_eq_true]
  intro d hd
  refine decide_eq_true ?_
  unfold reprText at hd
  rw [Array.toList_push, ← Array.foldl_toList] at hd
  rcases List.mem_append.mp hd with m | m
  · exact acc _ _ hx (fun c hc => by simp at hc; rw [hc]; exact hq) d m
  · rw [List.mem_singleton.mp m]
    exact hq
theorem Shw.str {x : Str} {n : Nat} (h : PyData.strOk x = true) (hn : x.length ≤ n) : Shw (.str x) (10 * n + 2) := by
  refine ⟨by simp [PyData.showable], ?_, ?_⟩
  · rw [PyData.shown]
    have hx : ∀ c ∈ x.cps.toList, c < 16 ^ 8 := fun c hc => by
      unfold PyData.strOk at h
      rw [← Array.all_toList, List.all_eq_true] at h
      have := of_decide_eq_true (h c hc)
      omega
    have := StrLaws.reprText_len x hx
    omega
  · rw [PyData.shown]
    exact reprText_okS h
end
end Mi
namespace Mi
open PySem L2 Evl NdefX
open PyProof.Rows (envOfC)
section
variable {P : Program} {w : World} {K : PySem.W.Frag} {mg : Str → Option Value} {base : Heap} {C f cc : Addr} {F : NF} {fd : FuncData} {N ps : List Str}
theorem loadName_blt {X : Cx} {E : Value → Shared → Prop} {pins : List (Addr × Obj)} {s : Shared} {σ : L2.St} {H : Hp} {x : Str} {u : Value} {Q : Value → Shared → Prop} (I : Inv X pins σ H s) (hg : X.env.kindOf x = some .globalImplicit) (hm : X.mg x = none) (hv : bootBuiltins x = some u) (h : Q u s)
    (hn : x ≠ "__name__" := by decide) : wpAny (model X.prog X.w) X.A (loadName X.env x) Q E s := by
  obtain ⟨mb, h1, h2⟩ := I.mod.blt
  exact PySem.W.ks_loadName_global I.ok.kind hg (Calls.loadGlobal_builtin (by rw [I.ok.glob]; exact I.mod.glob.keeps I.bk) hm (by rw [I.ok.blt]; exact h1.keeps I.bk) ((h2 x hn).trans hv) h)
/-- what an own exception's __init__ with one field leaves -/
def spE1 (C : Addr) (f1 code : Str) : Sp := fun vs H Q _ => ∃ (a : Addr) (x : V), vs = [.ref a, x] ∧ H a = some (exo a C none) ∧ ∀ dx, H dx = none → dx ≠ a → Q .non (upd (upd (upd H dx (exd dx [(f1, x)])) a (exo a C (some dx))) dx (exd dx [("code", .str code), (f1, x)]))
/-- the first statement's form -/
structure SupOk (F : NF) (f : Addr) (e : Expr) (t : Str) (pos : Pos) : Prop where
  ok : ∃ (j : Nat) (p0 p1 p2 p3 p4 : Pos), e = .Call (.Attribute (.Call (.Name "super" p0) [] [] p1) "__init__" p2) [.Constant (.str t) j p3] [] p4 ∧ ∀ L : Addr,
    (∃ pl : Sem Bool, eval (.Call (.Attribute (.Call (.Name "super" p0) [] [] p1) "__init__" p2) [.Constant (.str t) j p3] [] p4) (envF F f L) = (do
      let ov ← attributeBase (.Call (.Name "super" p0) [] [] p1) "__init__" (envF F f L) (eval (.Call (.Name "super" p0) [] [] p1) (envF F f L))
      standAt p2.atName
      let (f', first) ← holding [ov] (getMethod ov "__init__" pl)
      callWith p4 f' first (backTo p4 (starEach [.Constant (.str t) j p3] (envF F f L))) [])) ∧ interactive (envF F f L) = false ∧ swapsWith e none pos.line (envF F f L) = pure false
end
end Mi
namespace Mi
open PySem L2 Evl NdefX
open PyProof.Rows (envOfC)
end Mi
namespace PySem.W
open PySem PySem.Spec PySem.Calls PyProof.Rows
/-- a lambda's words, its defaults at dV -/
abbrev lmFn (q : Str) (params : Arguments) (body : Expr) (scope : Scope) (cl : List (Str × Addr)) (dV pm cdv ct : Value) : FuncData :=
  { name := "<lambda>", qualname := q, params, body := .expr body, scope, globals := mainGlobals, closure := cl, defaults := dV, kwdefaults := .none, doc := .none, pyModule := pm, annotations := none, code := cdv, closureTuple := ct, builtins := builtinsNs }
section
variable {M : Model} {A : Around} {E : Value → Shared → Prop} {s : Shared} {name qual : Str} {params : Arguments} {body : Expr} {scope : Scope} {env : Env} {c P : Addr} {ps : Array Value} {pos : Pos} {firstLine : Nat} {mg : Str → Option Value}
  {clos : List (Str × Addr)} {Q : Value → Shared → Prop} {dV : Value}
theorem lm_makeTail (hcl : closureFor scope env = pure clos) (hge0 : env.globals = mainGlobals) (hg : s.heap.Ns mainGlobals mg) (hcode : env.code = .ref c) (C : CodeHd s.heap c P) (hP : s.heap.get? P = some (tabObj ps)) (ht : TriplesOk ps.toList)
    (hnf : codeAmong pos ps.toList = none) (hgP : mainGlobals ≠ P) (hb : s.heap.BuiltinsAt mg P)
    (h : ∀ c' ctv h' tk, Heap.ExtBut P s.heap h' → s.heap.objs.size ≤ c' → c' < h'.objs.size → h'.CodeRec (.ref c') qual → h'.get? P = some (tabObj (ps ++ #[rawInt pos.line, rawInt pos.col, .ref c'])) →
      Q (.ref h'.objs.size) { s with heap := h'.push { cls := .type "function", data := .func (lmFn qual params body scope clos dV ((mg "__name__").getD .none) (.ref c') ctv) }, toks := tk }) :
    wpAny M A (makeTail "<lambda>" qual params (.expr body) scope env dV .none none pos firstLine) Q E s := by
  obtain ⟨bm, ob, hbm, hne0, _, hneP, hbo, hcls, hdict, hdata⟩ := hb
  unfold makeTail
  rw [hcl, hge0]
  refine wpAny_bind (wpAny_pure ?_)
  cases clos with
  | nil =>
    simp only [List.isEmpty_nil, if_true]
    refine wpAny_bind (wpAny_pure ?_)
    refine wpAny_bind (wpAny_functionCodeX hcode (C.code hP ht) (C.tab hP) hnf fun c' h' tk hx hge hlt _ hrec htb _ => ?_)
    have hg' := hg.extBut hx hgP
    refine wpAny_bind (wpAny_builtinsFor hg' hbm hne0 (hx _ _ hneP hbo) hcls hdict hdata ?_)
    refine wpAny_bind (wpAny_nsGet hg' ?_)
    exact wpAny_bind (wpAny_pure (wpAny_newObj_type (h c' .none h' tk hx hge hlt hrec htb.2) (by size_fits)))
  | cons q r =>
    simp only [List.isEmpty_cons, Bool.false_eq_true, if_false]
    refine wpAny_bind (wpAny_newTextTuple ?_)
    refine wpAny_bind (wpAny_functionCodeX hcode ((C.keeps fun b o e => Heap.get?_push_of_some _ e).code (Heap.get?_push_of_some _ hP) ht) ((C.keeps fun b o e => Heap.get?_push_of_some _ e).tab (Heap.get?_push_of_some _ hP)) hnf fun c' h' tk hx hge hlt _ hrec htb _ => ?_)
    have hg' := (hg.push _).extBut hx hgP
    have hx' : Heap.ExtBut P s.heap h' := fun b o hb' e => hx b o hb' (Heap.get?_push_of_some _ e)
    have hge' : s.heap.objs.size ≤ c' := Nat.le_trans (by rw [Heap.size_push]; omega) hge
    refine wpAny_bind (wpAny_builtinsFor hg' hbm hne0 (hx' _ _ hneP hbo) hcls hdict hdata ?_)
    refine wpAny_bind (wpAny_nsGet hg' ?_)
    exact wpAny_bind (wpAny_pure (wpAny_newObj_type (h c' _ h' tk hx' hge' hlt hrec htb.2) (by size_fits)))
theorem lm_makeTailHit {cv : Value} (hcl : closureFor scope env = pure clos) (hge0 : env.globals = mainGlobals) (hg : s.heap.Ns mainGlobals mg) (hcode : env.code = .ref c) (C : CodeHd s.heap c P) (hP : s.heap.get? P = some (tabObj ps)) (ht : TriplesOk ps.toList)
    (hf : codeAmong pos ps.toList = some cv) (hb : s.heap.BuiltinsAt mg P)
    (h : ∀ (ctv : Value) (h' : Heap) (tk : Tok), (∀ b o, s.heap.get? b = some o → h'.get? b = some o) → s.heap.objs.size ≤ h'.objs.size →
      Q (.ref h'.objs.size) { s with heap := h'.push { cls := .type "function", data := .func (lmFn qual params body scope clos dV ((mg "__name__").getD .none) cv ctv) }, toks := tk }) :
    wpAny M A (makeTail "<lambda>" qual params (.expr body) scope env dV .none none pos firstLine) Q E s := by
  obtain ⟨bm, ob, hbm, hne0, _, hneP, hbo, hcls, hdict, hdata⟩ := hb
  unfold makeTail
  rw [hcl, hge0]
  refine wpAny_bind (wpAny_pure ?_)
  cases clos with
  | nil =>
    simp only [List.isEmpty_nil, if_true]
    refine wpAny_bind (wpAny_pure ?_)
    refine wpAny_bind (wpAny_functionCode_hit hcode (C.code hP ht) hf ?_)
    refine wpAny_bind (wpAny_builtinsFor hg hbm hne0 hbo hcls hdict hdata ?_)
    refine wpAny_bind (wpAny_nsGet hg ?_)
    exact wpAny_bind (wpAny_pure (wpAny_newObj_type (h .none s.heap s.toks (fun _ _ e => e) (Nat.le_refl _)) (by size_fits)))
  | cons q r =>
    simp only [List.isEmpty_cons, Bool.false_eq_true, if_false]
    refine wpAny_bind (wpAny_newTextTuple ?_)
    refine wpAny_bind (wpAny_functionCode_hit hcode ((C.keeps fun b o e => Heap.get?_push_of_some _ e).code (Heap.get?_push_of_some _ hP) ht) hf ?_)
    refine wpAny_bind (wpAny_builtinsFor (hg.push _) hbm hne0 (Heap.get?_push_of_some _ hbo) hcls hdict hdata ?_)
    refine wpAny_bind (wpAny_nsGet (hg.push _) ?_)
    have hsz : ∀ oT : Obj, s.heap.objs.size ≤ (s.heap.push oT).objs.size := fun oT => by rw [Heap.size_push]; omega
    exact wpAny_bind (wpAny_pure (wpAny_newObj_type (h _ _ s.toks (fun b o e => Heap.get?_push_of_some _ e) (hsz _)) (by size_fits)))
end
end PySem.W
namespace Mi
open PySem L2 Evl LamX
open PyProof.Rows (envOfC)
/-- a lambda's object at g -/
structure LamD where
  q : Str
  params : Arguments
  body : Expr
  scope : Scope
  cl : List (Str × Addr)
def LamO (g c' : Addr) (D : LamD) (dV : Value) : HO := .ext fun h => ∃ (pm ctv : Value), h.get? g = some ({ cls := .type "function", data := .func (PySem.W.lmFn D.q D.params D.body D.scope D.cl dV pm (.ref c') ctv) } : Obj)
/-- the table of the running def's lambdas -/
def oTab (q : Str) : Own := ⟨fun F o => ∃ ps : Array Value, o = .tbl ps ∧ TriplesOk ps.toList ∧ ∀ (pos : Pos) (cv : Value), codeAmong pos ps.toList = some cv → ∃ c, cv = .ref c ∧ F c = some (CodeO c q), fun e ⟨ps, h1, h2, h3⟩ => ⟨ps, h1, h2, fun pos cv h => let ⟨c, a, b⟩ := h3 pos cv h; ⟨c, a, e _ _ b⟩⟩⟩
/-- what the defaults are: none, or one that is 0 -/
def DfOk (F : Hp) (df : Bool) (dV : Value) : Prop := if df then ∃ td, dV = .ref td ∧ F td = some (.tup [.int 0]) else dV = .none
/-- a lambda just made, seen from the def that made it -/
def rLam (D : LamD) (df : Bool) : Rp Unit := ⟨fun F v _ => ∃ g c' dV, v = .ref g ∧ F g = some (LamO g c' D dV) ∧ F c' = some (CodeO c' D.q) ∧ DfOk F df dV, fun {F F' v x} e ⟨g, c', dV, h1, h2, h3, h4⟩ => ⟨g, c', dV, h1, e _ _ h2, e _ _ h3, by
  unfold DfOk at h4 ⊢
  cases df with
  | true =>
    obtain ⟨td, a, b⟩ := h4
    exact ⟨td, a, e _ _ b⟩
  | false => exact h4⟩⟩
theorem upd_comm {H : Hp} {a b : Addr} {o u : HO} (h : a ≠ b) : upd (upd H a o) b u = upd (upd H b u) a o := by
  funext x
  by_cases h1 : x = a
  · subst h1
    rw [upd_ne h, upd_same, upd_same]
  · rw [upd_ne h1]
    by_cases h2 : x = b
    · subst h2
      rw [upd_same, upd_same]
    · rw [upd_ne h2, upd_ne h2, upd_ne h1]
theorem lamO_ok {P : Program} {w : World} {H : Hp} {h : Heap} {g c' : Addr} {D : LamD} {dV pm ctv : Value} (e : h.get? g = some ({ cls := .type "function", data := .func (PySem.W.lmFn D.q D.params D.body D.scope D.cl dV pm (.ref c') ctv) } : Obj)) : ObjOk P w H h g (LamO g c' D dV) :=
  ⟨⟨pm, ctv, e⟩, ⟨_, e⟩, fun h1 h2 ⟨pm, ctv, z⟩ st => ⟨pm, ctv, st _ z⟩⟩
section
variable {X : Cx} {B : Bs} {env : Env} {os : Os}
/-- the making, the defaults being at hand -/
theorem lam_core {pins : List (Addr × Obj)} {s : Shared} {σ : L2.St} {F H : Hp} {Q : Value → Shared → Prop} {c P : Addr} {params : Arguments} {body : Expr} {scope : Scope} {pos : Pos} {dV : Value} {df : Bool} {j : Nat}
    (TB : TabB X.base X.mg c P) (hcode : X.env.code = .ref c) (hj : os[j]? = some (P, oTab (X.env.qual ++ "<lambda>"))) (hfree : ∀ y ∈ scope.names, y.2 = .free → ∃ c, X.env.cells.lookup y.1 = some c)
    (I : Inv X pins σ H s) (S : Sit B F H σ env os) (hd : DfOk F df dV)
    (k : ∀ g F' H' s', Inv X pins σ H' s' → Sit B F' H' σ env os → Ex F F' → (rLam ⟨X.env.qual ++ "<lambda>", params, body, scope, cloFrom X.env.cells scope.names []⟩ df).ok F' (.ref g) () → Q (.ref g) s') :
    wpAny (model X.prog X.w) X.A (makeTail "<lambda>" (X.env.qual ++ "<lambda>") params (.expr body) scope X.env dV .none none pos pos.line) Q X.xe s := by
  obtain ⟨z1, ⟨o, z2, ps, z3, ht, ha⟩, z4⟩ := S.ow _ (List.mem_of_getElem? hj)
  subst z3
  have hP : H P = some (.tbl ps) := z2
  have hP' : s.heap.get? P = some { cls := .none, data := .fields ps } := I.hok P _ hP
  have bP : s.heap.BuiltinsAt X.mg P := TB.bm.keeps I.bk
  cases hc : codeAmong pos ps.toList with
  | none =>
    refine PySem.W.lm_makeTail (mg := X.mg) (c := c) (P := P) (ps := ps) (closure_ok hfree) I.ok.glob (I.mod.glob.keeps I.bk) hcode (TB.code.keeps I.bk) hP' ht hc TB.gP bP fun c' ctv h' tk hx hge hlt hrec htb => ?_
    obtain ⟨c2, oc, vs, t, e2, hoc, hdd, hv⟩ := hrec
    cases e2
    have nC : H c' = none := I.hok.fresh hge
    have nPc : P ≠ c' := ne_of_none hP nC
    have I1 := inv_table (t' := tk) (more := #[rawInt pos.line, rawInt pos.col, .ref c']) (h' := h') I hP (fun b o hb e => hx b o hb e) htb hge ⟨oc, vs, t, hoc, hdd, hv⟩
    have g : Grow F H (upd F c' (CodeO c' (X.env.qual ++ "<lambda>"))) (upd H c' (CodeO c' (X.env.qual ++ "<lambda>"))) := Grow.alloc S.fh nC
    have S1 := S.grow g
    have eL : (ps ++ #[rawInt pos.line, rawInt pos.col, .ref c']).toList = ps.toList ++ [rawInt pos.line, rawInt pos.col, .ref c'] := by simp
    have S2 := S1.change (ow' := oTab (X.env.qual ++ "<lambda>")) (o' := .tbl (ps ++ #[rawInt pos.line, rawInt pos.col, .ref c'])) hj ⟨_, rfl, by rw [eL]; exact PySem.TriplesOk_snoc _ _ _ _ ht, fun p' cv hcv => by
      rw [eL] at hcv
      rcases among_app _ ht hcv with z | z
      · obtain ⟨c0, e1, e2⟩ := ha p' cv z
        exact ⟨c0, e1, g.f _ _ e2⟩
      · exact ⟨c', z, upd_same⟩⟩
    rw [set_same hj] at S2
    rw [upd_comm nPc] at I1
    have nF := I1.hok.fresh (Nat.le_refl _)
    have I2 := I1.laid (t' := tk) (a := h'.objs.size) (o := LamO h'.objs.size c' ⟨X.env.qual ++ "<lambda>", params, body, scope, cloFrom X.env.cells scope.names []⟩ dV) (h' := h'.push { cls := .type "function", data := .func (PySem.W.lmFn (X.env.qual ++ "<lambda>") params body scope (cloFrom X.env.cells scope.names []) dV ((X.mg "__name__").getD .none) (.ref c') ctv) })
      (fun b o e => Heap.get?_push_of_some _ e) (Nat.le_refl _) (lamO_ok (D := ⟨X.env.qual ++ "<lambda>", params, body, scope, cloFrom X.env.cells scope.names []⟩) (Heap.get?_push_size _ rfl))
    have g2 := Grow.alloc (o := LamO h'.objs.size c' ⟨X.env.qual ++ "<lambda>", params, body, scope, cloFrom X.env.cells scope.names []⟩ dV) S2.fh nF
    have S3 := S2.grow g2
    refine k _ _ _ _ I2 S3 (g.f.trans g2.f) ⟨_, c', dV, rfl, upd_same, ?_, ?_⟩
    · exact g2.f _ _ upd_same
    · unfold DfOk at hd ⊢
      cases df with
      | true =>
        obtain ⟨td, a, b⟩ := hd
        exact ⟨td, a, g2.f _ _ (g.f _ _ b)⟩
      | false => exact hd
  | some cv =>
    obtain ⟨c', e, hco⟩ := ha pos cv hc
    subst e
    refine PySem.W.lm_makeTailHit (mg := X.mg) (c := c) (P := P) (ps := ps) (closure_ok hfree) I.ok.glob (I.mod.glob.keeps I.bk) hcode (TB.code.keeps I.bk) hP' ht hc bP fun ctv h' tk hx hsz => ?_
    have I1 : Inv X pins σ H { s with heap := h', toks := tk } := I.kept hx
    have nF : H h'.objs.size = none := I1.hok.fresh (Nat.le_refl _)
    have I2 := I1.laid (t' := tk) (a := h'.objs.size) (o := LamO h'.objs.size c' ⟨X.env.qual ++ "<lambda>", params, body, scope, cloFrom X.env.cells scope.names []⟩ dV) (h' := h'.push { cls := .type "function", data := .func (PySem.W.lmFn (X.env.qual ++ "<lambda>") params body scope (cloFrom X.env.cells scope.names []) dV ((X.mg "__name__").getD .none) (.ref c') ctv) })
      (fun b o e => Heap.get?_push_of_some _ e) (Nat.le_refl _) (lamO_ok (D := ⟨X.env.qual ++ "<lambda>", params, body, scope, cloFrom X.env.cells scope.names []⟩) (Heap.get?_push_size _ rfl))
    have g2 := Grow.alloc (o := LamO h'.objs.size c' ⟨X.env.qual ++ "<lambda>", params, body, scope, cloFrom X.env.cells scope.names []⟩ dV) S.fh nF
    have S3 := S.grow g2
    refine k _ _ _ _ I2 S3 g2.f ⟨_, c', dV, rfl, upd_same, g2.f _ _ hco, ?_⟩
    unfold DfOk at hd ⊢
    cases df with
    | true =>
      obtain ⟨td, a, b⟩ := hd
      exact ⟨td, a, g2.f _ _ b⟩
    | false => exact hd
theorem e_lam0 {c P : Addr} {params : Arguments} {body : Expr} {scope : Scope} {pos : Pos} (j : Nat) (TB : TabB X.base X.mg c P) (hcode : X.env.code = .ref c) (hj : os[j]? = some (P, oTab (X.env.qual ++ "<lambda>"))) (L : ∀ y ∈ scope.names, y.2 = .free → X.env.scope.names.lookup y.1 = some .cell ∨ X.env.scope.names.lookup y.1 = some .free) (hdef : defaultsOf params X.env = ([], []) := by rfl) :
    EE X B env os (.Lambda params body scope pos) (rLam ⟨X.env.qual ++ "<lambda>", params, body, scope, cloFrom X.env.cells scope.names []⟩ false) (ret ()) :=
  ⟨fun pins s σ H Q I ⟨F, P, S, hw, k⟩ => by
    refine PySem.W.kla_eval hdef ?_
    rw [makeFunction_eq]
    simp only [List.zip_nil_right, List.filterMap_nil, List.isEmpty_nil, if_true, pure_bind]
    exact lam_core (df := false) TB hcode hj (fun y hy e => (L y hy e).elim (fun z => I.ok.has _ (.inl z)) fun z => I.ok.has _ (.inr z)) I S rfl fun g F' H' s' I' S' e ok => ⟨.ref g, H', I', rfl, k () hw _ F' H' S' e ok⟩⟩
theorem e_lam1 {c P : Addr} {params : Arguments} {body : Expr} {scope : Scope} {pos dp : Pos} {di : Nat} (j : Nat) (TB : TabB X.base X.mg c P) (hcode : X.env.code = .ref c) (hj : os[j]? = some (P, oTab (X.env.qual ++ "<lambda>"))) (L : ∀ y ∈ scope.names, y.2 = .free → X.env.scope.names.lookup y.1 = some .cell ∨ X.env.scope.names.lookup y.1 = some .free)
    (hdef : defaultsOf params X.env = ([eval (.Constant (.int 0) di dp) X.env], []) := by rfl) :
    EE X B env os (.Lambda params body scope pos) (rLam ⟨X.env.qual ++ "<lambda>", params, body, scope, cloFrom X.env.cells scope.names []⟩ true) (ret ()) :=
  ⟨fun pins s σ H Q I ⟨F, P, S, hw, k⟩ => by
    rw [arm_eval_Lambda, hdef]
    show wpAny _ _ (do let dv ← evalAll [eval (.Constant (.int 0) di dp) X.env]; let kdv ← holding dv (evalAllOpt []); makeFunction "<lambda>" (X.env.qual ++ "<lambda>") params (.expr body) scope X.env dv kdv [] pos pos.line) _ _ _
    refine wpAny_bind ?_
    unfold evalAll
    refine wpAny_bind (thn (pe_int.run pins s σ H (fun v H1 => v = .int 0 ∧ H1 = H) I ⟨rfl, rfl⟩) fun u s1 ⟨v, H1, I1, r1, e1, e2⟩ => ?_)
    subst e1 e2
    unfold evalAll
    refine wpAny_bind (wpAny_holding (wpAny_pure (wpAny_pure ?_)))
    refine wpAny_bind (wpAny_holding (wpAny_pure ?_))
    rw [makeFunction_eq]
    simp only [List.zip_nil_right, List.filterMap_nil, List.isEmpty_nil, List.isEmpty_cons, if_true, pure_bind]
    refine wpAny_bind ?_
    refine wpAny_newTextTuple ?_
    have nT : H1 s1.heap.objs.size = none := I1.hok.fresh (Nat.le_refl _)
    have I2 := I1.laid (t' := s1.toks) (a := s1.heap.objs.size) (o := .tup [.int 0]) (h' := s1.heap.push { cls := .type "tuple", data := .seq [u].toArray }) (fun b o e => Heap.get?_push_of_some _ e) (Nat.le_refl _)
      ⟨by show 1 ≤ sizeLine; rw [sizeLine_eq]; omega, [u], .cons r1 .nil, by
        exact ⟨_, Heap.get?_push_size _ rfl, rfl, _, rfl⟩⟩
    have g := Grow.alloc (o := .tup [.int 0]) S.fh nT
    have S2 := S.grow g
    refine lam_core (df := true) TB hcode hj (fun y hy e => (L y hy e).elim (fun z => I.ok.has _ (.inl z)) fun z => I.ok.has _ (.inr z)) I2 S2 ⟨_, rfl, upd_same⟩ fun gg F' H' s' I' S' e ok => ⟨.ref gg, H', I', rfl, k () hw _ F' H' S' (g.f.trans e) ok⟩⟩
end
end Mi
namespace Mi
open PySem L2 Evl
open PyProof.Rows (envOfC)
/-- own exceptions: the code, the class, the name of the field beside the code; own objects that may lie in an exception, by their numbers -/
structure ETab where
  l : List (String × Addr × Option Str)
  ob : Nat → Rp Unit
instance : Membership (String × Addr × Option Str) ETab := ⟨fun t x => x ∈ t.l⟩
/-- an own object among data -/
def oD (n : Nat) : PyData := .dict [(.int n, .none)]
def rX (K : PySem.W.Frag) (tb : ETab) : Rp PyData := ⟨fun F v d => (rD K).ok F v d ∨ ∃ n, d = oD n ∧ (tb.ob n).ok F v (), fun e h => h.elim (fun q => .inl ((rD K).mono e q)) fun ⟨n, q1, q2⟩ => .inr ⟨n, q1, (tb.ob n).mono e q2⟩⟩
def ErAt (K : PySem.W.Frag) (tb : ETab) (F : Hp) (e : Er) (cls : Value) (d : Option Addr) : Prop :=
  ∃ (C : Addr) (fo : Option Str) (dd : Addr) (fs : List (Str × V)), (e.cls, C, fo) ∈ tb ∧ cls = .ref C ∧ d = some dd ∧ F dd = some (.xd fs) ∧ fs.lookup ("code" : Str) = some (V.str (Str.ofString e.cls)) ∧
    (match fo with | none => e.vals = [] | some f => ∃ (v : V) (x : PyData), e.vals = [x] ∧ fs.lookup f = some v ∧ (rX K tb).ok F v x)
theorem ErAt.mono {K : PySem.W.Frag} {tb : ETab} {F F' : Hp} {e : Er} {cls : Value} {d : Option Addr} (x : Ex F F') (h : ErAt K tb F e cls d) : ErAt K tb F' e cls d := by
  obtain ⟨C, fo, dd, fs, h1, h2, h3, h4, h5, h6⟩ := h
  refine ⟨C, fo, dd, fs, h1, h2, h3, x _ _ h4, h5, ?_⟩
  cases fo with
  | none => exact h6
  | some f =>
    obtain ⟨v, y, a, b, c⟩ := h6
    exact ⟨v, y, a, b, (rX K tb).mono x c⟩
/-- the wish of what is raised -/
def eB (K : PySem.W.Frag) (tb : ETab) (B : Bs) : XK := fun cls d H => ∃ e F, B.E0 e ∧ Fn (B.at B.F) F H ∧ ErAt K tb F e cls d
abbrev wB (K : PySem.W.Frag) (tb : ETab) (B : Bs) : WX := fun cls d _ H => eB K tb B cls d H
theorem Fn.low {B : Bs} {F H : Hp} (s : Fn B F H) : Fn (B.at B.F) F H := ⟨s.fh, s.bf, s.bf, s.bb, s.ios, s.keep⟩
/-- behind a call that raised: the caller's base -/
theorem Sit.backE {B : Bs} {F F' H H' : Hp} {σ : L2.St} {env : Env} {os osf : Os} (S : Sit B F H σ env os) (ho : OsLe os osf) (fn : Fn (bs0 F H osf) F' H') : Fn (B.at B.F) F' H' := by
  have e : Ex F F' := fn.bf
  have apart : ∀ a, (∀ p ∈ osf, p.1 ≠ a) → a ∉ osf.map (·.1) := fun a h hm => by
    obtain ⟨p, hp, ep⟩ := List.mem_map.mp hm
    exact h p hp ep
  refine ⟨fn.fh, S.fin.bf.trans e, S.fin.bf.trans e, S.fin.bb, fun a ha => ?_, fun a o h1 h2 h3 => ?_⟩
  · obtain ⟨o, hoa⟩ := S.fin.ios a ha
    by_cases hm : a ∈ osf.map (·.1)
    · exact fn.ios a hm
    · cases ef : F a with
      | none => exact ⟨o, (fn.keep a o ef hoa hm).1⟩
      | some u => exact ⟨u, fn.fh a u (e a u ef)⟩
  · obtain ⟨k1, k2⟩ := S.fin.keep a o h1 h2 h3
    refine fn.keep a o k2 k1 (apart a fun p hp ep => ?_)
    rcases (S.ow p (ho p hp)).2.2 with q | q
    · rw [ep, h2] at q
      cases q
    · exact h3 (ep ▸ q)
/-- a def's promise that may raise -/
def spX (K : PySem.W.Frag) (tb : ETab) {ι ρ : Type} (args : ι → Env) (os : ι → Os) (w : ι → W ρ) (ro : Rp ρ) : Sp := fun vs H Q E => ∃ (i : ι) (F : Hp) (P : ρ → Prop) (PE : Er → Prop), Ex F H ∧ EnvOk F (args i) (vs.map some) ∧ (∀ p ∈ os i, F p.1 = none ∧ ∃ o, H p.1 = some o ∧ p.2.ok F o) ∧ ((os i).map (·.1)).Nodup ∧
  w i P PE ∧ (∀ x, P x → ∀ v F' H', Fn (bs0 F H (os i)) F' H' → OsOk (bs0 F H (os i)) F' H' (os i) → ro.ok F' v x → Q v H') ∧ ∀ e, PE e → ∀ cls d F' H', Fn (bs0 F H (os i)) F' H' → ErAt K tb F' e cls d → E cls d H'
section
variable {P : Program} {w : World} {K : PySem.W.Frag} {tb : ETab} {mg : Str → Option Value} {base : Heap} {k : Nat} {f : Addr} {fd : FuncData} {ps N : List Str} {ι ρ : Type} {args : ι → Env} {os : ι → Os} {wf : ι → W ρ} {ro : Rp ρ}
theorem spX_len (hl : ∀ i, (args i).length = ps.length) : ∀ vs H Q E, spX K tb args os wf ro vs H Q E → vs.length = ps.length := fun vs H Q E ⟨i, F, P, PE, _, he, _⟩ => by
  have := he.len
  rw [List.length_map, hl i] at this
  exact this.symm
theorem okX {x qual : Str} {st : Stmt} (F : Fun K x qual st f fd) (S : FnScope N ps (defScope st)) (hl : ∀ i, (args i).length = ps.length)
    (body : ∀ (cdv : Value) (A : Around) (outer : List PySem.Env) (s : Shared) (H : Hp) (E : XK) (B : Bs) (i : ι), Room k (A.deeper (envOfC qual (defScope st) s.heap.objs.size f cdv)) →
      Takes (cxOf (L2.CX P w) P w K mg base N qual (defScope st) f cdv A outer s H E) (wB K tb B) → PassesOwn (model P w) (A.deeper (envOfC qual (defScope st) s.heap.objs.size f cdv)) (envOfC qual (defScope st) s.heap.objs.size f cdv) (cxOf (L2.CX P w) P w K mg base N qual (defScope st) f cdv A outer s H E).xe →
      BG (cxOf (L2.CX P w) P w K mg base N qual (defScope st) f cdv A outer s H E) B (entry (args i) (N.length - ps.length)) (os i) (defBody st) (pFn B (os i) ro) (wf i)) : FnOk P w K mg base (L2.CX P w) (k + 1) f fd ps (spX K tb args os wf ro) := by
  refine F.okX S (spX_len hl) fun cdv A outer s H vs Q E hr hsp => ?_
  have hvl := spX_len hl vs H Q E hsp
  obtain ⟨i, F0, P0, PE, fh, he, ho, nd, hw, hk, hx⟩ := hsp
  refine ⟨_, body cdv A outer s H E { bs0 F0 H (os i) with E0 := PE } i hr ((takes_of rfl rfl rfl rfl).imp fun cls d σ H' ⟨e, F', h1, h2, h3⟩ => hx e h1 cls d F' H' ⟨h2.fh, h2.bf, h2.mrk, h2.bb, h2.ios, h2.keep⟩ h3) (passes_of rfl),
    F0, P0, ⟨?_, ?_, fun p hp => ?_, nd⟩, hw, fun y hy => ⟨fun v F' H' fn ow ok => hk y hy v F' H' ⟨fn.fh, fn.bf, fn.mrk, fn.bb, fn.ios, fn.keep⟩ ow ok, fun σ F' H' fn ow ok => hk y hy .non F' H' ⟨fn.fh, fn.bf, fn.mrk, fn.bb, fn.ios, fn.keep⟩ ow ok⟩⟩
  · have z := bs0_start fh ho
    exact ⟨z.fh, z.bf, z.mrk, z.bb, z.ios, z.keep⟩
  · rw [← hvl]
    exact entry_ok he
  · obtain ⟨h1, o, h2, h3⟩ := ho p hp
    exact ⟨h1, ⟨o, h2, h3⟩, .inr (List.mem_map_of_mem hp)⟩
end
section
variable {X : Cx} {B : Bs} {env : Env} {os : Os} {tb : ETab} {pos p pos2 : Pos} {α β ι ρ : Type} {r : Rp α} {args : ι → Env} {osf : ι → Os} {wf : ι → W ρ} {ro : Rp ρ} {e : Expr} {es : List Expr} {rest : List Stmt} {post : Post β} {x : Str} {k : Nat} {f C : Addr} {fd : FuncData} {ps : List Str}
/-- f(e, ..), f a def that may raise -/
theorem passB (tk : Takes X (wB X.K tb B)) : Passes (L2.CX X.prog X.w) X (eB X.K tb B) := passes_call tk fun _ _ _ _ h => h
end
def spIX (K : PySem.W.Frag) (tb : ETab) {ι ρ : Type} (C : Addr) (args : ι → Env) (w : ι → W ρ) (fl : ρ → List (Str × Slot)) : Sp := fun vs H Q E => ∃ (i : ι) (F : Hp) (P : ρ → Prop) (PE : Er → Prop) (x dx : Addr) (us : List V), vs = .ref x :: us ∧ Ex F H ∧ F x = none ∧ H x = some (.ins C dx []) ∧ EnvOk F (args i) (us.map some) ∧
  w i P PE ∧ (∀ r, P r → ∀ F' H', Fn (bs0 F H [(x, oObj C [])]) F' H' → OsOk (bs0 F H [(x, oObj C [])]) F' H' [(x, oObj C (fl r))] → Q .non H') ∧ ∀ e, PE e → ∀ cls d F' H', Fn (bs0 F H [(x, oObj C [])]) F' H' → ErAt K tb F' e cls d → E cls d H'
section
variable {P : Program} {w : World} {K : PySem.W.Frag} {tb : ETab} {mg : Str → Option Value} {base : Heap} {k : Nat} {f C : Addr} {fd : FuncData} {ps N : List Str} {ι ρ α : Type} {r : Rp α} {args : ι → Env} {wf : ι → W ρ} {wl : List α → W ρ} {fl : ρ → List (Str × Slot)}
/-- the body of such a def -/
theorem bodyIX {A : Around} {outer : List PySem.Env} {s : Shared} {H : Hp} {E : XK} {Q : VK} {vs : List V} {qual : Str} {sc : Scope} {cdv : Value} {blk : List Stmt} (hl : ∀ i, (args i).length + 1 = ps.length) (hsp : spIX K tb C args wf fl vs H Q E)
    (body : ∀ (B : Bs) (a : Addr) (i : ι), Takes (cxOf (L2.CX P w) P w K mg base N qual sc f cdv A outer s H E) (wB K tb B) →
      BG (cxOf (L2.CX P w) P w K mg base N qual sc f cdv A outer s H E) B (entry (sv (rAdr a) () :: args i) (N.length - ps.length)) [(a, oObj C [])] blk (pIn B C a fl) (wf i)) :
    ∃ t, PSs (cxOf (L2.CX P w) P w K mg base N qual sc f cdv A outer s H E) blk t ∧ t { nx := fun _ H' => Q .non H', rt := Q } (L2.start N vs) H := by
  obtain ⟨i, F0, P0, PE, a, dx, us, ev, fh, fa, ha, he, hw, hk, hx⟩ := hsp
  subst ev
  have ow : ∀ p ∈ ([(a, oObj C [])] : Os), F0 p.1 = none ∧ ∃ o, H p.1 = some o ∧ p.2.ok F0 o := fun p hp => by
    rw [List.mem_singleton.mp hp]
    exact ⟨fa, _, ha, dx, [], rfl, .nil⟩
  have hvl : (V.ref a :: us).length = ps.length := by
    have := he.len
    rw [List.length_map] at this
    rw [List.length_cons, ← this, hl i]
  refine ⟨_, body { bs0 F0 H [(a, oObj C [])] with E0 := PE } a i ((takes_of rfl rfl rfl rfl).imp fun cls d σ H' ⟨e, F', h1, h2, h3⟩ => hx e h1 cls d F' H' ⟨h2.fh, h2.bf, h2.mrk, h2.bb, h2.ios, h2.keep⟩ h3),
    F0, P0, ⟨?_, ?_, fun p hp => ?_, by simp⟩, hw, fun y hy => ⟨fun F' H' fn ow => hk y hy F' H' ⟨fn.fh, fn.bf, fn.mrk, fn.bb, fn.ios, fn.keep⟩ ow, fun σ F' H' fn ow => hk y hy F' H' ⟨fn.fh, fn.bf, fn.mrk, fn.bb, fn.ios, fn.keep⟩ ow⟩⟩
  · have z := bs0_start fh ow
    exact ⟨z.fh, z.bf, z.mrk, z.bb, z.ios, z.keep⟩
  · rw [← hvl]
    exact entry_ok (.cons ⟨_, rfl, rfl⟩ he)
  · obtain ⟨h1, o, h2, h3⟩ := ow p hp
    exact ⟨h1, ⟨o, h2, h3⟩, .inr (List.mem_map_of_mem hp)⟩
theorem initX {x qual : Str} {st : Stmt} (F : Fun K x qual st f fd) (S : FnScope N ps (defScope st)) (hl : ∀ i, (args i).length + 1 = ps.length)
    (body : ∀ (cdv : Value) (A : Around) (outer : List PySem.Env) (s : Shared) (H : Hp) (E : XK) (B : Bs) (a : Addr) (i : ι), Room k (A.deeper (envOfC qual (defScope st) s.heap.objs.size f cdv)) → Takes (cxOf (L2.CX P w) P w K mg base N qual (defScope st) f cdv A outer s H E) (wB K tb B) →
      BG (cxOf (L2.CX P w) P w K mg base N qual (defScope st) f cdv A outer s H E) B (entry (sv (rAdr a) () :: args i) (N.length - ps.length)) [(a, oObj C [])] (defBody st) (pIn B C a fl) (wf i)) : FnOk P w K mg base (L2.CX P w) (k + 1) f fd ps (spIX K tb C args wf fl) :=
  F.okX S (fun vs H Q E ⟨i, F, P, PE, x, dx, us, ev, _, _, _, he, _⟩ => by
    have := he.len
    rw [List.length_map] at this
    rw [ev, List.length_cons, ← this, hl i]) fun cdv A outer s H vs Q E hr hsp => bodyIX hl hsp fun B a i tk => body cdv A outer s H E B a i hr tk
end
section
variable {X : Cx} {B : Bs} {env : Env} {os : Os} {tb : ETab} {pos p : Pos} {ρ α : Type} {r : Rp α} {wf : List α → W ρ} {fl : ρ → List (Str × Slot)} {e : Expr} {es : List Expr} {x : Str} {k : Nat} {f C : Addr}
theorem Sit.backEI {F F' H H' : Hp} {σ : L2.St} {x : Addr} {o : Own} (S : Sit B F H σ env ((x, o) :: os)) (hx : B.H x = none) (fn : Fn (bs0 F H [(x, o)]) F' H') : Fn (B.at B.F) F' H' := by
  have e : Ex F F' := fn.bf
  have nin : ∀ a, a ≠ x → a ∉ ([(x, o)] : Os).map (·.1) := fun a h hm => h (by simpa using hm)
  refine ⟨fn.fh, S.fin.bf.trans e, S.fin.bf.trans e, S.fin.bb, fun a ha => ?_, fun a u h1 h2 h3 => ?_⟩
  · obtain ⟨u, hu⟩ := S.fin.ios a ha
    by_cases hax : a = x
    · subst hax
      obtain ⟨q, hq⟩ := fn.ios a (by simp)
      exact ⟨q, hq⟩
    · cases ef : F a with
      | none => exact ⟨u, (fn.keep a u ef hu (nin a hax)).1⟩
      | some q => exact ⟨q, fn.fh a q (e a q ef)⟩
  · obtain ⟨k1, k2⟩ := S.fin.keep a u h1 h2 h3
    refine fn.keep a u k2 k1 (nin a ?_)
    rintro rfl
    rw [hx] at h2
    cases h2
end
end Mi
namespace Mi
open PySem L2 Evl LamX
open PyProof.Rows (envOfC)
def cellHO (c : Addr) (o : Obj) : HO := .ext fun h => h.get? c = some o
def addC (Z : Addr → Option Obj) (H : Hp) : Hp := fun b => match Z b with | some o => some (cellHO b o) | none => H b
def remC (Z : Addr → Option Obj) (H : Hp) : Hp := fun b => match Z b with | some _ => none | none => H b
section
variable {Z : Addr → Option Obj} {F H F' H' : Hp} {P : Program} {w : World} {h h' : Heap} {b : Addr} {o : Obj}
theorem addC_some (e : Z b = some o) : addC Z H b = some (cellHO b o) := by
  unfold addC
  rw [e]
theorem addC_none (e : Z b = none) : addC Z H b = H b := by
  unfold addC
  rw [e]
theorem remC_some (e : Z b = some o) : remC Z H b = none := by
  unfold remC
  rw [e]
theorem remC_none (e : Z b = none) : remC Z H b = H b := by
  unfold remC
  rw [e]
theorem remC_of {u : HO} (e : remC Z H b = some u) : Z b = none ∧ H b = some u := by
  unfold remC at e
  cases q : Z b with
  | none =>
    rw [q] at e
    exact ⟨rfl, e⟩
  | some o =>
    rw [q] at e
    cases e
theorem addC_of {u : HO} (e : addC Z H b = some u) : (Z b = none ∧ H b = some u) ∨ ∃ o, Z b = some o ∧ u = cellHO b o := by
  unfold addC at e
  cases q : Z b with
  | none =>
    rw [q] at e
    exact .inl ⟨rfl, e⟩
  | some o =>
    rw [q] at e
    cases e
    exact .inr ⟨o, rfl, rfl⟩
theorem ex_add (hz : ∀ b o, Z b = some o → F b = none) : Ex F (addC Z F) := fun b u e => by
  cases q : Z b with
  | none => rw [addC_none q]; exact e
  | some o => rw [hz b o q] at e; cases e
theorem ex_addC (e : Ex F F') : Ex (addC Z F) (addC Z F') := fun b u h => by
  rcases addC_of h with ⟨q, z⟩ | ⟨o, q, z⟩
  · rw [addC_none q]; exact e _ _ z
  · rw [addC_some q, z]
theorem ex_remC (e : Ex F F') : Ex (remC Z F) (remC Z F') := fun b u h => by
  obtain ⟨q, z⟩ := remC_of h
  rw [remC_none q]
  exact e _ _ z
theorem hok_add (k : HOk P w H h) (hz : ∀ b o, Z b = some o → h.get? b = some o ∧ H b = none) : HOk P w (addC Z H) h := fun b u e => by
  rcases addC_of e with ⟨q, z⟩ | ⟨o, q, z⟩
  · exact (k b u z).stay (fun _ _ _ y => y) (fun c y => by
      cases qc : Z c with
      | none => rw [addC_none qc]; exact y
      | some o => rw [(hz c o qc).2] at y; cases y) fun c xs y => by
      cases qc : Z c with
      | none => rw [addC_none qc]; exact y
      | some o => rw [(hz c o qc).2] at y; cases y
  · subst z
    exact ⟨(hz b o q).1, ⟨o, (hz b o q).1⟩, fun h1 h2 y st => st _ y⟩
theorem hok_rem (k : HOk P w H h) (hz : ∀ b o, Z b = some o → H b = some (cellHO b o)) : HOk P w (remC Z H) h := fun b u e => by
  obtain ⟨q, z⟩ := remC_of e
  exact (k b u z).stay (fun _ _ _ y => y) (fun c y => by
      cases qc : Z c with
      | none => rw [remC_none qc]; exact y
      | some o => rw [hz c o qc] at y; cases y) fun c xs y => by
      cases qc : Z c with
      | none => rw [remC_none qc]; exact y
      | some o => rw [hz c o qc] at y; cases y
theorem cell_at (k : HOk P w H h) (e : H b = some (cellHO b o)) : h.get? b = some o := by
  have x : ObjOk P w H h b (.ext fun h => h.get? b = some o) := k b _ e
  exact x.1
/-- into the closure's own frame -/
theorem env0_rem {K : PySem.W.Frag} {mg : Str → Option Value} {base : Heap} {A : Around} {outer : List PySem.Env} {s : Shared} (e0 : Env0 P w K mg base A outer s H) (hz : ∀ b o, Z b = some o → H b = some (cellHO b o)) : Env0 P w K mg base A outer s (remC Z H) :=
  ⟨e0.frames, e0.mod, fun b o e => ⟨(e0.bs b o e).1, by
    cases q : Z b with
    | none => rw [remC_none q]; exact (e0.bs b o e).2
    | some o => exact remC_some q⟩, e0.bsz, e0.funs, fun b hb => by
    cases q : Z b with
    | none => rw [remC_none q]; exact e0.frf b hb
    | some o => exact remC_some q, hok_rem e0.hok hz, e0.bare⟩
theorem env0_add {K : PySem.W.Frag} {mg : Str → Option Value} {base : Heap} {A : Around} {outer : List PySem.Env} {s : Shared} (e0 : Env0 P w K mg base A outer s H) (hz : ∀ b o, Z b = some o → s.heap.get? b = some o ∧ H b = none ∧ b ∉ frs outer ∧ base.get? b = none) : Env0 P w K mg base A outer s (addC Z H) :=
  ⟨e0.frames, e0.mod, fun b o e => ⟨(e0.bs b o e).1, by
    cases q : Z b with
    | none => rw [addC_none q]; exact (e0.bs b o e).2
    | some o => rw [(hz b o q).2.2.2] at e; cases e⟩, e0.bsz, e0.funs, fun b hb => by
    cases q : Z b with
    | none => rw [addC_none q]; exact e0.frf b hb
    | some o => exact absurd hb (hz b o q).2.2.1, hok_add e0.hok fun b o q => ⟨(hz b o q).1, (hz b o q).2.1⟩, e0.bare⟩
/-- behind the closure's run: the cells tracked again -/
theorem un_add {fs : List Addr} (un : Un fs [] (remC Z H) H' h h') (hz : ∀ b o, Z b = some o → H b = some (cellHO b o)) : Un fs [] H (addC Z H') h h' := by
  have nZ : ∀ b u, H b = some u → (∀ φ, u ≠ .ext φ) → Z b = none := fun b u e n => by
    cases q : Z b with
    | none => rfl
    | some o =>
      rw [hz b o q] at e
      cases e
      exact absurd rfl (n _)
  have nN : ∀ b, H b = none → Z b = none := fun b e => by
    cases q : Z b with
    | none => rfl
    | some o => rw [hz b o q] at e; cases e
  refine ⟨fun b o q n => un.keep b o q (by rw [remC_none (nN b n)]; exact n), fun b o q n => un.slot b o q (by rw [remC_none (nN b n)]; exact n), fun b o q n hx => ?_, un.there, fun b xs q => ?_, fun b o u q => ?_, fun b ps q => ?_⟩
  · rw [addC_none (nN b n)]
    exact un.free b o q (by rw [remC_none (nN b n)]; exact n) hx
  · have z := nZ b _ q (fun φ z => by cases z)
    rw [addC_none z]
    exact un.tups b xs (by rw [remC_none z]; exact q)
  · have z := nZ b _ q (fun φ z => by cases z)
    rw [addC_none z]
    exact un.frzs b o u (by rw [remC_none z]; exact q)
  · have z := nZ b _ q (fun φ z => by cases z)
    rw [addC_none z]
    exact un.tbls b ps (by rw [remC_none z]; exact q)
/-- behind a call with the cells tracked: they are let go -/
theorem un_rem {fs : List Addr} (un : Un fs [] (addC Z H) H' h h') (hok : HOk P w H' h') (hz : ∀ b o, Z b = some o → h.get? b = some o ∧ H b = none ∧ b ∉ fs) (hk : ∀ b o, Z b = some o → H' b = some (cellHO b o)) : Un fs [] H (remC Z H') h h' := by
  have at_ : ∀ b u, H b = some u → addC Z H b = some u := fun b u e => by
    cases q : Z b with
    | none => rw [addC_none q]; exact e
    | some o => rw [(hz b o q).2.1] at e; cases e
  have out : ∀ b u, H' b = some u → (∀ φ, u ≠ .ext φ) → remC Z H' b = some u := fun b u e n => by
    cases q : Z b with
    | none => rw [remC_none q]; exact e
    | some o =>
      rw [hk b o q] at e
      cases e
      exact absurd rfl (n _)
  refine ⟨fun b o q n hf hx => ?_, fun b o q n hf hx => ?_, fun b o q n hx => ?_, un.there, fun b xs q => out b _ (un.tups b xs (at_ _ _ q)) (fun φ z => by cases z), fun b o u q => out b _ (un.frzs b o u (at_ _ _ q)) (fun φ z => by cases z), fun b ps q => ?_⟩
  · cases z : Z b with
    | none => exact un.keep b o q (by rw [addC_none z]; exact n) hf hx
    | some o' =>
      have e1 := (hz b o' z).1
      rw [q] at e1
      cases e1
      exact cell_at hok (hk b o z)
  · cases z : Z b with
    | none => exact un.slot b o q (by rw [addC_none z]; exact n) hf hx
    | some o' => exact absurd hf (hz b o' z).2.2
  · cases z : Z b with
    | none => rw [remC_none z]; exact un.free b o q (by rw [addC_none z]; exact n) hx
    | some o' => exact remC_some z
  · obtain ⟨m, e⟩ := un.tbls b ps (at_ _ _ q)
    exact ⟨m, out b _ e (fun φ z => by cases z)⟩
theorem fn_rem (fn : Fn (bs0 (addC Z F) (addC Z H) []) F' H') (fh : Ex F H) (hz : ∀ b o, Z b = some o → H b = none) : Fn (bs0 F H []) (remC Z F') (remC Z H') := by
  have zF : ∀ b u, F b = some u → Z b = none := fun b u e => by
    cases q : Z b with
    | none => rfl
    | some o => rw [fresh_back fh (hz b o q)] at e; cases e
  have bf : Ex F (remC Z F') := fun b u e => by
    rw [remC_none (zF b u e)]
    exact fn.bf b u (by show addC Z F b = _; rw [addC_none (zF b u e)]; exact e)
  refine ⟨ex_remC fn.fh, bf, bf, fh, fun a ha => (by cases ha), fun a o h1 h2 h3 => ?_⟩
  have q : Z a = none := by
    cases q : Z a with
    | none => rfl
    | some u => rw [show (bs0 F H []).H a = H a from rfl, hz a u q] at h2; cases h2
  rw [remC_none q, remC_none q]
  exact fn.keep a o (by show addC Z F a = none; rw [addC_none q]; exact h1) (by show addC Z H a = _; rw [addC_none q]; exact h2) (by simp)
theorem fn_add (fn : Fn (bs0 (remC Z F) (remC Z H) []) F' H') (fh : Ex F H) (hz : ∀ b o, Z b = some o → F b = some (cellHO b o)) (hf : ∀ b o, Z b = some o → H' b = none) : Fn (bs0 F H []) (addC Z F') (addC Z H') := by
  have bf : Ex F (addC Z F') := fun b u e => by
    cases q : Z b with
    | none => rw [addC_none q]; exact fn.bf b u (by show remC Z F b = _; rw [remC_none q]; exact e)
    | some o =>
      rw [hz b o q] at e
      rw [addC_some q, e]
  refine ⟨ex_addC fn.fh, bf, bf, fh, fun a ha => (by cases ha), fun a o h1 h2 h3 => ?_⟩
  have q : Z a = none := by
    cases q : Z a with
    | none => rfl
    | some u => rw [show (bs0 F H []).F a = F a from rfl, hz a u q] at h1; cases h1
  rw [addC_none q, addC_none q]
  exact fn.keep a o (by show remC Z F a = none; rw [remC_none q]; exact h1) (by show remC Z H a = _; rw [remC_none q]; exact h2) (by simp)
theorem cx_add {outer : List PySem.Env} {s s' : Shared} {E E' : XK} {u : Value} (c : L2.CX P w outer (remC Z H) s E u s') (hz : ∀ b o, Z b = some o → H b = some (cellHO b o)) (hok : HOk P w H s.heap) (hfr : ∀ b o, Z b = some o → b ∉ frs outer) (hE : ∀ cls d H', (∀ b o, Z b = some o → H' b = none) → E cls d H' → E' cls d (addC Z H')) : L2.CX P w outer H s E' u s' := by
  obtain ⟨a, B, H', cls, d, rfl, fl, hokB, ub, na, os, ag, hE0⟩ := c
  have nN : ∀ b, H b = none → Z b = none := fun b e => by
    cases q : Z b with
    | none => rfl
    | some o => rw [hz b o q] at e; cases e
  have nZ : ∀ b u, H b = some u → (∀ φ, u ≠ .ext φ) → Z b = none := fun b u e n => by
    cases q : Z b with
    | none => rfl
    | some o =>
      rw [hz b o q] at e
      cases e
      exact absurd rfl (n _)
  have hB : ∀ b o, Z b = some o → B.get? b = some o ∧ H' b = none := fun b o q => by
    have e1 := cell_at hok (hz b o q)
    exact ⟨ub.keep b o e1 (remC_some q) (hfr b o q), ub.free b o e1 (remC_some q)⟩
  refine ⟨a, B, addC Z H', cls, d, rfl, fl, hok_add hokB hB, ⟨fun b o q n hf => ub.keep b o q (by rw [remC_none (nN b n)]; exact n) hf, ub.slot, fun b o q n => by rw [addC_none (nN b n)]; exact ub.free b o q (by rw [remC_none (nN b n)]; exact n), ub.there, fun b xs q => ?_, fun b o u q => ?_, fun b ps q => ?_⟩, ?_, os, ag, hE _ _ _ (fun b o q => (hB b o q).2) hE0⟩
  · have z := nZ b _ q (fun φ z => by cases z)
    rw [addC_none z]
    exact ub.tups b xs (by rw [remC_none z]; exact q)
  · have z := nZ b _ q (fun φ z => by cases z)
    rw [addC_none z]
    exact ub.frzs b o u (by rw [remC_none z]; exact q)
  · have z := nZ b _ q (fun φ z => by cases z)
    rw [addC_none z]
    exact ub.tbls b ps (by rw [remC_none z]; exact q)
  · have hza : Z a = none := by
      cases q : Z a with
      | none => rfl
      | some o =>
        have e1 := (hB a o q).1
        rw [fl.2.1] at e1
        cases e1
    rw [addC_none hza]
    exact na
end
end Mi
namespace Mi
open PySem L2 Evl LamX
open PyProof.Rows (envOfC)
/-- a lambda's names: ps its parameters; else captured ones and globals -/
structure LamS2 (sc scope : Scope) (ps : List Str) : Prop where
  kind : scope.kind = .function
  co : scope.isCoroutine = false
  gen : scope.isGenerator = false
  nocell : ∀ y ∈ scope.names, y.2 ≠ .cell
  loc : ∀ y ∈ scope.names, y.2 = .local → y.1 ∈ ps
  par : ∀ y ∈ ps, scope.names.lookup y = some .local
  free : ∀ y ∈ scope.names, y.2 = .free → sc.names.lookup y.1 = some .cell ∨ sc.names.lookup y.1 = some .free
def lamS2B (sc scope : Scope) (ps : List Str) : Bool :=
  decide (scope.kind = .function) && !scope.isCoroutine && !scope.isGenerator && scope.names.all (fun y => !decide (y.2 = .cell)) && scope.names.all (fun y => !decide (y.2 = .local) || decide (y.1 ∈ ps)) && ps.all (fun y => decide (scope.names.lookup y = some .local)) &&
    scope.names.all (fun y => !decide (y.2 = .free) || decide (sc.names.lookup y.1 = some .cell) || decide (sc.names.lookup y.1 = some .free))
theorem lamS2_by {sc scope : Scope} {ps : List Str} (h : lamS2B sc scope ps = true) : LamS2 sc scope ps := by
  unfold lamS2B at h
  simp only [Bool.and_eq_true, Bool.or_eq_true, Bool.not_eq_true', decide_eq_true_eq, decide_eq_false_iff_not, List.all_eq_true] at h
  obtain ⟨⟨⟨⟨⟨⟨h1, h2⟩, h3⟩, h4⟩, h5⟩, h6⟩, h7⟩ := h
  refine ⟨h1, h2, h3, h4, fun y hy e => (h5 y hy).elim (fun z => absurd e z) id, h6, fun y hy e => ?_⟩
  rcases h7 y hy with (z | z) | z
  · exact absurd e z
  · exact .inl z
  · exact .inr z
theorem LamS2.has {X : Cx} {scope : Scope} {ps : List Str} (L : LamS2 X.env.scope scope ps) (ok : X.Ok) : ∀ y ∈ scope.names, y.2 = .free → ∃ c, X.env.cells.lookup y.1 = some c := fun y hy e => by
  rcases L.free y hy e with k | k
  · exact ok.has _ (.inl k)
  · exact ok.has _ (.inr k)
section
variable {X : Cx} {pins : List (Addr × Obj)} {σ : L2.St} {H HZ : Hp} {s s1 : Shared}
/-- the state at the entry of a lambda's frame -/
theorem lam_inv {A : Around} {outer : List PySem.Env} {E : XK} {scope : Scope} {f c' : Addr} {h₁ : Heap} {tk : Nat} {ps : List Str} {us : List Value} (ok : X.Ok) (L : LamS2 X.env.scope scope ps) (e0 : Env0 X.prog X.w X.K X.mg X.base A outer s1 HZ) (hd : A.handled = none)
    (hns : h₁.Ns s1.heap.objs.size fun y => (ps.zip us).reverse.lookup y) (kp : ∀ b o, s1.heap.get? b = some o → h₁.get? b = some o)
    (hc : ∀ y c, X.env.cells.lookup y = some c → HZ c = none ∧ ∃ v, s1.heap.IsCell c v)
    (hl : ∀ (i : Nat) (y : Str) (v : V), X.N[i]? = some y → σ[i]? = some (some v) → Vis scope y → scope.names.lookup y = some .free ∧ ∃ c u, X.env.cells.lookup y = some c ∧ RelV v u ∧ s1.heap.IsCell c (some u)) (hlen : σ.length = X.N.length) :
    Inv (lamCx X A outer s1 HZ E scope f c') [] σ HZ { s1 with heap := h₁, toks := tk } := by
  have hfree := L.has ok
  have cm : ∀ {y c}, (cloFrom X.env.cells scope.names []).lookup y = some c → X.env.cells.lookup y = some c := fun {y c} e => by
    rcases cloFrom_mem (PySem.mem_of_lookup e) with hm | ⟨h1, h2⟩
    · cases hm
    · obtain ⟨c1, hc⟩ := hfree _ h1 rfl
      have hc : X.env.cells.lookup y = some c1 := hc
      have e2 : c = c1 := by
        rw [h2, hc] <;> rfl
      rw [e2]
      exact hc
  have look : ∀ {y}, scope.names.lookup y = some .free → ∃ c, (cloFrom X.env.cells scope.names []).lookup y = some c := fun {y} hl => by
    have hy : (y, NameKind.free) ∈ scope.names := PySem.mem_of_lookup hl
    exact mem_lookup (cloFrom_has (cells := X.env.cells) (acc := []) hy)
  have cellK : ∀ {c : Addr} {v : Option Value}, s1.heap.IsCell c v → h₁.IsCell c v := fun {c v} ⟨o, ho, hd⟩ => ⟨_, kp _ _ ho, hd⟩
  have noA : ∀ b : Addr, b ∉ (lamCx X A outer s1 HZ E scope f c').ex := fun b z => absurd (show b ∈ ([] : List Addr) from z) (by simp)
  refine ⟨⟨e0.mod, L.kind, rfl, rfl, Nat.le_refl _, fun y z c e1 e2 => ok.inj y z c (cm e1) (cm e2), fun y hy => ?_, fun y c z _ => ?_, fun _ => hd, Around.frames_deeper e0.frames, .inr ⟨rfl, rfl⟩, fun b z => absurd z (noA b), e0.bs, e0.bsz, fun b _ _ => noA b,
      fun b z => absurd z (noA b), e0.funs, e0.frf⟩,
    rfl, e0.bare, Un.kept kp, ⟨_, hns, fun i y v e1 e2 e3 => ?_⟩, fun y c e => ?_, e0.hok.fresh (Nat.le_refl _), fun y c e => (hc y c (cm e)).1, fun q hq => absurd (show q ∈ ([] : List (Addr × Obj)) ++ [] from hq) (by simp), e0.hok.kept kp, hlen⟩
  · have hy : scope.names.lookup y = some .cell ∨ scope.names.lookup y = some .free := hy
    rcases hy with hy | hy
    · exact absurd rfl (L.nocell _ (PySem.mem_of_lookup hy))
    · exact look hy
  · have z : false = true := z
    cases z
  · obtain ⟨k, c, u, h1, h2, h3⟩ := hl i y v e1 e2 e3
    obtain ⟨c2, hc2⟩ := look k
    have := cm hc2
    rw [h1] at this
    cases this
    exact ⟨u, h2, .inr ⟨.inr k, c, hc2, cellK h3⟩⟩
  · obtain ⟨v, z⟩ := (hc y c (cm e)).2
    exact ⟨v, cellK z⟩
end
/-- the promise of a call without arguments -/
def spC (K : PySem.W.Frag) (tb : ETab) {ρ : Type} (w : W ρ) (r : Rp ρ) (F H : Hp) (Q : VK) (E : XK) : Prop := ∃ (P : ρ → Prop) (PE : Er → Prop), w P PE ∧ (∀ x, P x → ∀ v F' H', Fn (bs0 F H []) F' H' → r.ok F' v x → Q v H') ∧ ∀ e, PE e → ∀ cls d F' H', Fn (bs0 F H []) F' H' → ErAt K tb F' e cls d → E cls d H'
/-- a function to be called without arguments, by its mirror -/
def rClo (P : Program) (w : World) (K : PySem.W.Frag) (mg : Str → Option Value) (base : Heap) (tb : ETab) (k : Nat) {ρ : Type} (r : Rp ρ) : Rp (W ρ) :=
  ⟨fun F v wf => ∃ (g : Addr) (φ : Heap → Prop), v = .ref g ∧ F g = some (.ext φ) ∧ (∀ h, φ h → PySem.W.FnAt g h) ∧ ∀ (A : Around) (outer : List PySem.Env) (s : Shared) (F' H : Hp) (Q : VK) (E : XK), Ex F F' → Ex F' H → Room k A → Env0 P w K mg base A outer s H → spC K tb wf r F' H Q E →
    codeAny (model P w) A (.call (.ref g) ⟨[], []⟩) (CR (L2.CX P w) outer P w H s Q E) s, fun e ⟨g, φ, h1, h2, h3, h4⟩ => ⟨g, φ, h1, e _ _ h2, h3, fun A o s F' H Q E e1 => h4 A o s F' H Q E (e.trans e1)⟩⟩
section
variable {X : Cx} {B : Bs} {env : Env} {os : Os} {tb : ETab} {ρ : Type} {r : Rp ρ}
/-- x(), x a name that holds one -/
theorem e_callClo (i : Nat) {k : Nat} {x : Str} {p pos : Pos} {wf : W ρ} (tk : Takes X (wB X.K tb B)) (hr : Room k X.A) (he : env[i]? = some (sv (rClo X.prog X.w X.K X.mg X.base tb k r) wf) := by rfl) (hN : X.N[i]? = some x := by rfl) (hv : Vis X.env.scope x := by first | exact Or.inl rfl | exact Or.inr (Or.inl rfl) | exact Or.inr (Or.inr rfl))
    (hd : (x == ("__debug__" : Str)) = false := by decide) (hcd : (x == ("__classdict__" : Str)) = false := by decide) : EE X B env os (.Call (.Name x p) [] [] pos) r wf := by
  refine ⟨fun pins s σ H Q I ⟨F, P, S, hw, k⟩ => ?_⟩
  obtain ⟨ov, h1, v, h2, g, φ, ev, hg, hφ, run⟩ := S.env.get he
  subst h2 ev
  refine wpAny_Call_Name_kw (thn ((pe_var (pos := p) hN hv hd hcd).run pins s σ H (fun v H1 => v = .ref g ∧ H1 = H) I ⟨.ref g, h1, rfl, rfl⟩) fun u s1 ⟨v, H1, I1, r1, e1, e2⟩ => ?_)
  subst e1 e2
  obtain rfl : u = Value.ref g := r1
  have hx : ObjOk X.prog X.w H1 s1.heap g (.ext φ) := I1.hok g _ (S.fh _ _ hg)
  refine PySem.W.callWith_F0 (hφ _ hx.1) ?_
  refine wpAny_call (codeAny_mono (run X.A X.stack s1 F H1 Q (eB X.K tb B) (Ex.refl F) S.fh hr I1.env0 ⟨P, B.E0, hw, fun y hy v F' H' fn ok => ?_, fun e he cls d F' H' fn er => ⟨e, F', he, S.backE OsLe.none fn, er⟩⟩) fun res s' hq => ?_)
  · exact k y hy v F' H' (S.back OsLe.none fn (fun p hp => by cases hp)) fn.bf ok
  · cases res with
    | error e => exact passB tk pins σ H1 s1 e s' I1 hq
    | ok fl =>
      cases fl with
      | ret u => exact I1.after hq
      | next => exact False.elim hq
      | brk => exact False.elim hq
      | cont => exact False.elim hq
end
open Classical in
noncomputable def cellZ (X : Cx) (h : Heap) : Addr → Option Obj := fun b => if ∃ y, X.env.cells.lookup y = some b then h.get? b else none
theorem cellZ_of {X : Cx} {h : Heap} {b : Addr} {o : Obj} (e : cellZ X h b = some o) : (∃ y, X.env.cells.lookup y = some b) ∧ h.get? b = some o := by
  unfold cellZ at e
  split at e
  · rename_i q
    exact ⟨q, e⟩
  · cases e
theorem cellZ_at {X : Cx} {h : Heap} {y : Str} {c : Addr} (e : X.env.cells.lookup y = some c) : cellZ X h c = h.get? c := by
  unfold cellZ
  rw [if_pos ⟨y, e⟩]
/-- how its parameters are bound: none, or one by its default -/
def LamBind (D : LamD) (df : Bool) (ps : List Str) : Prop :=
  if df then ps.length = 1 ∧ ∀ (td : Addr) (pm cv ct : Value), ∃ k, bindArgs (PySem.W.lmFn D.q D.params D.body D.scope D.cl (.ref td) pm cv ct) ⟨[], []⟩ = seqItems? (.ref td) >>= k ∧ ∀ u, k (some #[u]) = pure (ps.zip [u])
  else ps = [] ∧ ∀ (pm cv ct : Value), bindArgs (PySem.W.lmFn D.q D.params D.body D.scope D.cl .none pm cv ct) ⟨[], []⟩ = pure []
theorem wipe_none {σ : L2.St} {vs : List Nat} {i : Nat} {v : V} (h : (wipe σ vs)[i]? = some (some v)) : i ∉ vs ∧ σ[i]? = some (some v) := by
  induction vs with
  | nil => exact ⟨by simp, h⟩
  | cons a vs ih =>
    have h' : ((wipe σ vs).set a none)[i]? = some (some v) := h
    rw [List.getElem?_set] at h'
    split at h'
    · split at h' <;> cases h'
    · rename_i hne
      obtain ⟨h1, h2⟩ := ih h'
      exact ⟨fun z => by
        rcases List.mem_cons.mp z with e | e
        · exact hne e.symm
        · exact h1 e, h2⟩
theorem wipe_len {σ : L2.St} : ∀ vs : List Nat, (wipe σ vs).length = σ.length
  | [] => rfl
  | a :: vs => by
    show ((wipe σ vs).set a none).length = _
    rw [List.length_set, wipe_len vs]
section
variable {X : Cx} {B : Bs} {env : Env} {os : Os} {tb : ETab} {ρ : Type} {r : Rp ρ}
theorem clo_of {pins : List (Addr × Obj)} {σ : L2.St} {F H : Hp} {s : Shared} {v : V} {params : Arguments} {body : Expr} {scope : Scope} {df : Bool} {ps : List Str} {vs : List Nat} {k : Nat} {wf : W ρ} (I : Inv X pins σ H s) (S : Sit B F H σ env os)
    (hv : (rLam ⟨X.env.qual ++ "<lambda>", params, body, scope, cloFrom X.env.cells scope.names []⟩ df).ok F v ())
    (L : LamS2 X.env.scope scope ps) (hb : LamBind ⟨X.env.qual ++ "<lambda>", params, body, scope, cloFrom X.env.cells scope.names []⟩ df ps) (hvs : ∀ p ∈ ps, ∀ i, X.N[i]? = some p → i ∈ vs)
    (hbody : ∀ (A : Around) (outer : List PySem.Env) (s1 : Shared) (H1 : Hp) (E : XK) (f c' : Addr) (B' : Bs), Room k (A.deeper (lamEnv X scope s1.heap.objs.size f c')) → Takes (lamCx X A outer s1 H1 E scope f c') (wB X.K tb B') → EE (lamCx X A outer s1 H1 E scope f c') B' (wipeE env vs) [] body r wf) :
    (rClo X.prog X.w X.K X.mg X.base tb (k + 1) r).ok (addC (cellZ X s.heap) F) v wf := by
  obtain ⟨g, c', dV, ev, hg, hco, hd⟩ := hv
  have zH : ∀ b o, cellZ X s.heap b = some o → H b = none := fun b o e => let ⟨⟨y, h1⟩, _⟩ := cellZ_of e; I.freeC y b h1
  have zF : ∀ b u, F b = some u → cellZ X s.heap b = none := fun b u e => by
    cases z : cellZ X s.heap b with
    | none => rfl
    | some o => rw [fresh_back S.fh (zH b o z)] at e; cases e
  refine ⟨g, _, ev, (addC_none (zF _ _ hg)).trans hg, fun h ⟨pm, ctv, e⟩ => ⟨_, _, _, _, e⟩, fun A outer s1 F' H1 Q E e1 fh1 hr e0 ⟨P', PE, hw, hk, hx⟩ => ?_⟩
  have zF1 : ∀ b o, cellZ X s.heap b = some o → F' b = some (cellHO b o) := fun b o e => e1 _ _ (addC_some e)
  have zH1 : ∀ b o, cellZ X s.heap b = some o → H1 b = some (cellHO b o) := fun b o e => fh1 _ _ (zF1 b o e)
  have up : ∀ b u, F b = some u → F' b = some u := fun b u e => e1 _ _ ((addC_none (zF b u e)).trans e)
  have exm : Ex F (remC (cellZ X s.heap) F') := fun b u e => by rw [remC_none (zF b u e)]; exact up b u e
  have e0m := env0_rem e0 zH1
  have nfr : ∀ b o, cellZ X s.heap b = some o → b ∉ frs outer := fun b o e hb => by
    have := e0.frf b hb
    rw [zH1 b o e] at this
    cases this
  have atc : ∀ y c, X.env.cells.lookup y = some c → ∃ o, cellZ X s.heap c = some o ∧ s.heap.get? c = some o ∧ s1.heap.get? c = some o := fun y c e => by
    obtain ⟨v, o, ho, _⟩ := I.cell y c e
    have z : cellZ X s.heap c = some o := (cellZ_at e).trans ho
    exact ⟨o, z, ho, cell_at e0.hok (zH1 c o z)⟩
  obtain ⟨pm, ctv, ho⟩ : ∃ (pm ctv : Value), s1.heap.get? g = some ({ cls := .type "function", data := .func (PySem.W.lmFn (X.env.qual ++ "<lambda>") params body scope (cloFrom X.env.cells scope.names []) dV pm (.ref c') ctv) } : Obj) := by
    have x := e0.hok g _ (fh1 _ _ (up _ _ hg))
    exact x.1
  have hcode : s1.heap.CodeRec (.ref c') (X.env.qual ++ "<lambda>") := NdefX.codeO_at e0.hok (fh1 _ _ (up _ _ hco))
  obtain ⟨us, vs', rv, hul, hbind⟩ : ∃ (us : List Value) (vs' : List V), Vals vs' us ∧ us.length = ps.length ∧ ∀ (M : Model) (A : Around) (Q : List (Str × Value) → Shared → Prop) (E : Value → Shared → Prop), Q (ps.zip us) s1 → wpAny M A (bindArgs (PySem.W.lmFn (X.env.qual ++ "<lambda>") params body scope (cloFrom X.env.cells scope.names []) dV pm (.ref c') ctv) ⟨[], []⟩) Q E s1 := by
    unfold LamBind at hb
    unfold DfOk at hd
    cases df with
    | false =>
      obtain ⟨h1, h2⟩ := hb
      subst h1
      have hd : dV = .none := hd
      subst hd
      exact ⟨[], [], .nil, rfl, fun M A Q E q => by rw [h2]; exact wpAny_pure q⟩
    | true =>
      obtain ⟨h1, h2⟩ := hb
      obtain ⟨td, e1', e2'⟩ := hd
      subst e1'
      obtain ⟨kk, h3, h4⟩ := h2 td pm (.ref c') ctv
      have x := e0.hok td _ (fh1 _ _ (up _ _ e2'))
      obtain ⟨_, its, rv, o, ho', _, n, hod⟩ := x
      have hl := rv.length
      match its, rv, hod with
      | [u], rv, hod =>
        refine ⟨[u], [.int 0], rv, by rw [h1]; rfl, fun M A Q E q => ?_⟩
        rw [h3]
        refine wpAny_bind (wpAny_seqItems ho' hod ?_)
        have h5 := h4 u
        have h6 : kk (some ([u] : List Value).toArray) = pure (ps.zip [u]) := h5
        rw [h6]
        exact wpAny_pure q
  have lim : s1.heap.NoLimit := e0.mod.nolimit.keeps fun b o e => (e0.bs b o e).1
  refine PySem.W.kla_callFunE hr.depth ho rfl L.co L.gen rfl hcode ?_
  refine hbind _ _ _ _ (wpAny_newFunctionEnv L.nocell (fun ⟨n, _⟩ hy => L.par n (List.of_mem_zip hy).1) (fun h₁ hns hsb => ⟨lim.fresh _ hsb, ?_⟩) L.kind)
  show codeAny _ _ (.expr body (lamEnv X scope s1.heap.objs.size g c')) _ _
  have kp : ∀ b o, s1.heap.get? b = some o → h₁.get? b = some o := fun b o e => hsb.extBut b o (Nat.ne_of_lt (Heap.lt_size e)) (Heap.get?_push_of_some _ e)
  obtain ⟨B', hB'⟩ : ∃ B' : Bs, B' = { bs0 (remC (cellZ X s.heap) F') (remC (cellZ X s.heap) H1) [] with E0 := PE } := ⟨_, rfl⟩
  have J := lam_inv (s1 := s1) (f := g) (c' := c') (E := eB X.K tb B') (σ := wipe σ vs) (tk := s1.toks + (ps.zip us).length) I.ok L e0m hr.hd hns kp (fun y c e => by
      obtain ⟨o, z1, z2, z3⟩ := atc y c e
      obtain ⟨v, o', ho', hd'⟩ := I.cell y c e
      rw [z2] at ho'
      cases ho'
      exact ⟨remC_some z1, v, _, z3, hd'⟩) (fun i y v hy hi hvis => by
      obtain ⟨h1, h2⟩ := wipe_none hi
      have hf : scope.names.lookup y = some .free := by
        rcases hvis with k | k | k
        · exact absurd (hvs y (L.loc _ (PySem.mem_of_lookup k) rfl) i hy) h1
        · exact absurd rfl (L.nocell _ (PySem.mem_of_lookup k))
        · exact k
      obtain ⟨m, hn, hl⟩ := I.loc
      have hvis' : Vis X.env.scope y := (L.free _ (PySem.mem_of_lookup hf) rfl).elim (fun k => .inr (.inl k)) (fun k => .inr (.inr k))
      obtain ⟨u, ru, lu⟩ := hl i y v hy h2 hvis'
      refine ⟨hf, ?_⟩
      rcases lu with ⟨k', _⟩ | ⟨_, c, hc, o, ho2, hd2⟩
      · have k' : X.env.scope.names.lookup y = some .local := k'
        rcases L.free _ (PySem.mem_of_lookup hf) rfl with k2 | k2 <;> rw [show X.env.scope.names.lookup y = _ from k2] at k' <;> cases k'
      · obtain ⟨o', z1, z2, z3⟩ := atc y c hc
        rw [ho2] at z2
        cases z2
        exact ⟨c, u, hc, ru, _, z3, hd2⟩) (by rw [wipe_len]; exact I.len)
  have hbd := hbody A outer s1 (remC (cellZ X s.heap) H1) (eB X.K tb B') g c' B' (hr.deeper _) ((takes_of rfl rfl rfl rfl).imp fun cls d σ' H' h => h)
  have cur : ∀ {H' : Hp} {s' : Shared}, Un (frs outer) [] (remC (cellZ X s.heap) H1) H' s1.heap s'.heap → ∀ b o, cellZ X s.heap b = some o → s'.heap.get? b = some o ∧ H' b = none := fun {H' s'} un b o z => by
    have e := cell_at e0.hok (zH1 b o z)
    exact ⟨un.keep b o e (remC_some z) (nfr b o z) (by simp), un.free b o e (remC_some z) (by simp)⟩
  refine PySem.W.kla_codeExpr (wpAny_mono (hbd.run [] _ _ _ (fun v H2 => ∃ x F2, P' x ∧ Fn (bs0 (remC (cellZ X s.heap) F') (remC (cellZ X s.heap) H1) []) F2 H2 ∧ r.ok F2 v x) J ⟨remC (cellZ X s.heap) F', P', ?_, ?_, fun z hz v F2 H2 S2 e2 okz => ?_⟩) (fun u s' hq => ?_) fun e s' he => ?_)
  · subst hB'
    exact ⟨⟨ex_remC fh1, Ex.refl _, Ex.refl _, ex_remC fh1, fun a ha => (by cases ha), fun a o h1 h2 h3 => ⟨h2, h1⟩⟩, (S.env.mono exm).wipe vs, fun p hp => (by cases hp), List.nodup_nil⟩
  · subst hB'
    exact hw
  · subst hB'
    have f := S2.fin
    exact ⟨z, F2, hz, ⟨f.fh, f.bf, f.mrk, f.bb, f.ios, f.keep⟩, okz⟩
  · obtain ⟨v', H2, J', rv', x, F2, px, fn, okx⟩ := hq
    have cu := cur J'.base
    refine ⟨v', addC (cellZ X s.heap) H2, J'.os, J'.bare, un_add J'.base zH1, hok_add J'.hok cu, rv', hk x px v' (addC (cellZ X s.heap) F2) _ (fn_add fn fh1 zF1 fun b o z => (cu b o z).2) (r.mono (ex_add fun b o z => fresh_back fn.fh (cu b o z).2) okx)⟩
  · have conv : ∀ (e' : Value) (s'' : Shared), L2.CX X.prog X.w outer (remC (cellZ X s.heap) H1) s1 (eB X.K tb B') e' s'' → L2.CX X.prog X.w outer H1 s1 E e' s'' := fun e' s'' c => cx_add c zH1 e0.hok nfr fun cls d H' hfree ⟨er, F2, h1, h2, h3⟩ => by
      subst hB'
      exact hx er h1 cls d (addC (cellZ X s.heap) F2) _ (fn_add ⟨h2.fh, h2.bf, h2.mrk, h2.bb, h2.ios, h2.keep⟩ fh1 zF1 hfree) (h3.mono (ex_add fun b o z => fresh_back h2.fh (hfree b o z)))
    exact wpAny_mono he (fun _ s'' c => conv _ _ c) fun e' s'' c => conv _ _ c
end
/-- what stands for x leans on no object that is told by what is true of it -/
def PlR {α : Type} (r : Rp α) : Prop := ∀ (F F' : Hp) (v : V) (x : α), (∀ a o, F a = some o → (∀ φ, o ≠ .ext φ) → F' a = some o) → r.ok F v x → r.ok F' v x
theorem pl_str : PlR rStr := fun _ _ _ _ _ h => h
section
variable {α β : Type} {r : Rp α} {s : Rp β} {K : PySem.W.Frag}
theorem pl_lst (h : PlR r) : PlR (rLst r) := fun F F' v x e ⟨a, vs, h1, h2, h3, h4⟩ => ⟨a, vs, h1, e _ _ h2 (fun φ z => by cases z), h3, Paired.imp (fun _ _ q => h F F' _ _ e q) h4⟩
theorem sqt_pl {F F' : Hp} {a : Addr} {vs : List V} (e : ∀ a o, F a = some o → (∀ φ, o ≠ .ext φ) → F' a = some o) (h : SqT K F a vs) : SqT K F' a vs := by
  rcases h with (h | ⟨o, h⟩) | h
  · exact .inl (.inl (e _ _ h (fun φ z => by cases z)))
  · exact .inl (.inr ⟨o, e _ _ h (fun φ z => by cases z)⟩)
  · exact .inr h
theorem sql_pl {F F' : Hp} {a : Addr} {vs : List V} (e : ∀ a o, F a = some o → (∀ φ, o ≠ .ext φ) → F' a = some o) (h : SqL K F a vs) : SqL K F' a vs := by
  rcases h with (h | ⟨o, h⟩) | h
  · exact .inl (.inl (e _ _ h (fun φ z => by cases z)))
  · exact .inl (.inr ⟨o, e _ _ h (fun φ z => by cases z)⟩)
  · exact .inr h
theorem pl_t2 (h : PlR r) (k : PlR s) : PlR (rT2 K r s) := fun F F' v x e ⟨a, v1, v2, h1, h2, h3, h4⟩ => ⟨a, v1, v2, h1, sqt_pl e h2, h _ _ _ _ e h3, k _ _ _ _ e h4⟩
theorem pl_D : PlR (rD K) := fun F F' v d e ⟨h, hc⟩ => ⟨by
  refine (show ∀ {v d}, Dp K F v d → Dp K F' v d from ?_) h
  intro v d h
  exact Dp.rec (K := K) (H := F) (motive_1 := fun v d _ => Dp K F' v d) (motive_2 := fun vs ds _ => DpAll K F' vs ds) .non .bl .int .str (fun h1 _ ih => .lst (sql_pl e h1) ih) (fun h1 _ ih => .tup (sqt_pl e h1) ih) .nil (fun _ _ i1 i2 => .cons i1 i2) h, hc⟩
end
section
variable {X : Cx} {B : Bs} {env : Env} {os : Os} {tb : ETab} {ι ρ : Type} {args : ι → Env} {wf : ι → W ρ} {ro : Rp ρ} {k : Nat} {f : Addr} {fd : FuncData} {ps : List Str}
theorem callC {pins : List (Addr × Obj)} {σ : L2.St} {F H : Hp} {s : Shared} {us : List Value} {vs : List V} {P : ρ → Prop} {Q : VK} (G : FnOk X.prog X.w X.K X.mg X.base CX0 k f fd ps (spW args (fun _ => []) wf ro)) (hr : Room k X.A) (hb : Binds X.K fd ps [])
    (hstk : X.stack = X.env :: X.outer) (hfr : X.env.frame = some X.env.locals) (hfn : ∀ x, X.fn x = true) (I : Inv X pins σ H s) (S : Sit B F H σ env os) (r : Vals vs us) (i : ι) (hargs : EnvOk (addC (cellZ X s.heap) F) (args i) (vs.map some)) (hw : wf i P (fun _ => False)) (pl : PlR ro)
    (kk : ∀ z, P z → ∀ v F' H', Sit B F' H' σ env os → Ex F F' → ro.ok F' v z → Q v H') : wpAny (model X.prog X.w) X.A (call (.ref f) us) (EP X pins σ Q) X.xe s := by
  have zok : ∀ b o, cellZ X s.heap b = some o → s.heap.get? b = some o ∧ H b = none ∧ b ∉ frs X.stack ∧ X.base.get? b = none := fun b o e => by
    obtain ⟨⟨y, h1⟩, h2⟩ := cellZ_of e
    have above := I.ok.cab y b (hfn y) h1
    refine ⟨h2, I.freeC y b h1, fun hm => ?_, ?_⟩
    · rw [hstk] at hm
      obtain ⟨en, hen, q⟩ := List.mem_filterMap.mp hm
      rcases List.mem_cons.mp hen with z | z
      · subst z
        rw [hfr] at q
        have q : X.env.locals = b := Option.some.inj q
        obtain ⟨m, ⟨oL, es, ep, e1, e2, _⟩, _⟩ := I.loc
        obtain ⟨v, oc, e3, e4⟩ := I.cell y b h1
        rw [q, e3] at e1
        cases e1
        rw [e4] at e2
        cases e2
      · obtain ⟨_, o', e', _⟩ := I.ok.funs.mem (List.mem_filterMap.mpr ⟨en, z, q⟩)
        exact absurd (Heap.lt_size e') (Nat.not_lt.mpr above)
    · cases z : X.base.get? b with
      | none => rfl
      | some o' => exact absurd (Heap.lt_size (I.ok.bs b o' z).1) (Nat.not_lt.mpr above)
  have zH : ∀ b o, cellZ X s.heap b = some o → H b = none := fun b o e => (zok b o e).2.1
  have e0 := env0_add I.env0 zok
  have hsp : spW args (fun _ => []) wf ro vs (addC (cellZ X s.heap) H) (fun v H' => (∀ b o, cellZ X s.heap b = some o → H' b = some (cellHO b o)) ∧ Q v (remC (cellZ X s.heap) H')) E0 := by
    refine ⟨i, addC (cellZ X s.heap) F, P, ex_addC S.fh, hargs, fun p hp => (by cases hp), List.nodup_nil, hw, fun x hx v F' H' fn ow ok => ⟨fun b o e => fn.fh _ _ (fn.bf _ _ (addC_some e)), ?_⟩⟩
    have f2 := fn_rem fn S.fh zH
    refine kk x hx v _ _ (S.back OsLe.none f2 (fun p hp => by cases hp)) f2.bf (pl _ _ _ _ (fun a o e n => ?_) ok)
    cases q : cellZ X s.heap a with
    | none => rw [remC_none q]; exact e
    | some o' =>
      have z := fn.bf _ _ (addC_some (H := F) q)
      rw [z] at e
      cases e
      exact absurd rfl (n _)
  have hl : us.length = ps.length := by rw [← r.length]; exact G.len _ _ _ _ hsp
  have b := hb s us I.kIn (by rw [List.append_nil]; exact hl)
  rw [List.append_nil] at b
  refine wpAny_call (codeAny_mono (G.run X.A X.stack s (addC (cellZ X s.heap) H) ⟨us, []⟩ us vs _ E0 hr e0 b r hsp) fun res s' hq => ?_)
  cases res with
  | error e => exact False.elim hq
  | ok fl =>
    cases fl with
    | ret u =>
      obtain ⟨v, H', os', bare, un, hok, rv, hc, q⟩ := hq
      exact I.after ⟨v, remC (cellZ X s.heap) H', os', bare, un_rem un hok (fun b o e => ⟨(zok b o e).1, (zok b o e).2.1, (zok b o e).2.2.1⟩) hc, hok_rem hok hc, rv, q⟩
    | next => exact False.elim hq
    | brk => exact False.elim hq
    | cont => exact False.elim hq
/-- f(e), e a list of lambdas or one: lifted to closures -/
theorem e_callC {x : Str} {e : Expr} {p pos : Pos} {α : Type} {rr : Rp α} {w : W α} (i : ι) (G : FnOk X.prog X.w X.K X.mg X.base CX0 k f fd ps (spW args (fun _ => []) wf ro)) (hr : Room k X.A) (hm : X.mg x = some (.ref f)) (hk : PySem.W.keepIn X.K (.ref f) = true) (hb : Binds X.K fd ps [])
    (ha : EE X B env os e rr w) (hstk : X.stack = X.env :: X.outer) (hfr : X.env.frame = some X.env.locals) (hfn : ∀ x, X.fn x = true) (pl : PlR ro)
    (conv : ∀ (pins : List (Addr × Obj)) (σ : L2.St) (F H : Hp) (s : Shared) (v : V) (y : α), Inv X pins σ H s → Sit B F H σ env os → rr.ok F v y → EnvOk (addC (cellZ X s.heap) F) (args i) [some v])
    (hg : Gl X x := by rfl) (hdb : (x == ("__debug__" : Str)) = false := by decide) (he : starEach [e] X.env = (false, eval e X.env) :: starEach [] X.env := by rfl) (hpl : (backTo pos (starEach [] X.env)).any (·.1) = false := by rfl) :
    EE X B env os (.Call (.Name x p) [e] [] pos) ro (bnd w fun _ => noX (wf i)) := by
  refine ⟨fun pins s σ H Q I ⟨F, P, S, hw, kk⟩ => ?_⟩
  refine wpAny_Call_Name_kw (ld_glob I hg hm ?_ hdb)
  have pa : PA X [e] (tCons (tOf B env os rr w) tNil) := pa_cons ha pa_nil he
  refine PySem.W.callWith_K (h₀ := X.base) I.ok.mod.kin hk (thn (pa.run pos pins s σ H (fun vs H1 => ∃ v F1 y, vs = [v] ∧ Sit B F1 H1 σ env os ∧ Ex F F1 ∧ rr.ok F1 v y ∧ noX (wf i) P B.E0) I ⟨F, _, S, hw, fun y hy v F1 H1 S1 e1 ok => ⟨v, F1, y, rfl, S1, e1, ok, hy⟩⟩) fun us s1 ⟨vs, H1, I1, r, v, F1, y, ev, S1, e1, ok, hw1⟩ => ⟨I1.kIn, ?_⟩) he hpl
  subst ev
  exact callC G hr hb hstk hfr hfn I1 S1 r i (conv pins σ F1 H1 s1 v y I1 S1 ok) hw1 pl fun z hz v F' H' S' e' ok' => kk z hz v F' H' S' (e1.trans e') ok'
end
end Mi
namespace Mi
open PySem L2 Evl
open PyProof.Rows (envOfC)
theorem flyingZ_keeps {B h h' : Heap} {l : List PySem.Env} {a : Addr} {Z : Obj → Prop} (R : HandSPX.FlyingZ B l a Z h) (k : ∀ b o, h.get? b = some o → h'.get? b = some o) : HandSPX.FlyingZ B l a Z h' := by
  obtain ⟨f1, f2, f3, oe, ws, T, oT, ts, he, hc, hd, h1, hn, hne, hT, hdT, h3⟩ := R
  exact ⟨fun b o q => k b o (f1 b o q), f2, f3.of_keeps fun b o q _ => ⟨o, k b o q, rfl⟩, oe, ws, T, oT, ts, k _ _ he, hc, hd, h1, hn, hne, k _ _ hT, hdT, h3⟩
/-- what the clause 'except (x1, x2) as n' wishes, where it takes all that comes -/
def wTup (K : PySem.W.Frag) (c1 c2 : Value) (i : Nat) (ts : Addr → Obj → Value → Option Addr → TS) (D : Ends) : WX := fun cls d σ H =>
  PySem.W.exmAny K cls [c1, c2] = some true ∧ ∀ a oe, H a = none → Zc cls d oe → (∃ vs, oe.data = .fields vs) → ts a oe cls d { nx := fun σ' H' => D.nx (σ'.set i none) H', rt := D.rt, bk := fun σ' H' => D.bk (σ'.set i none) H', ct := fun σ' H' => D.ct (σ'.set i none) H' } (σ.set i (some (.ref a))) H
section
variable {X : Cx} {x1 x2 n : Str} {c1 c2 : Value} {i kk : Nat} {body suite : List Stmt} {b₀ : Stmt} {np1 np2 tp pos pos' : Pos} {tb : WX → TS} {ts : Addr → Obj → Value → Option Addr → TS} {hds : List ExceptHandler}
theorem ps_try_tup2 (hs : X.stack = X.env :: X.outer) (hf : X.env.frame = some X.env.locals) (hN : X.N.Nodup) (hi : X.N[i]? = some n) (hln : X.env.kindOf n = some .local) (hc1 : Names X x1 c1) (hc2 : Names X x2 c2)
    (hb : ∀ (W : WX) (pn : List (Addr × Obj)) (xe : Value → Shared → Prop), Takes (X.tr pn xe) W → PassesOwn (model X.prog X.w) X.A X.env xe → PSs (X.tr pn xe) body (tb W))
    (hsu : ∀ (a : Addr) (oe : Obj) (cls : Value) (d : Option Addr) (pn : List (Addr × Obj)), Zc cls d oe → (∃ vs, oe.data = .fields vs) → PSs (X.suite a ((a, oe) :: pn)) (b₀ :: suite) (ts a oe cls d)) :
    PS X (.Try body (.ExceptHandler (some (.Tuple [.Name x1 np1, .Name x2 np2] kk tp)) (some n) (b₀ :: suite) pos' :: hds) [] [] pos) (fun D σ H => tb (wTup X.K c1 c2 i ts D) D σ H) := by
  refine ⟨fun pins s σ H D I h => ?_⟩
  have ok := I.ok
  have hfr : X.A.frames = some (X.env :: X.outer) := by rw [ok.frames, hs]
  have hloc : Loc X.env.scope n := .inl hln
  refine wpAny_Try_except ?_
  refine wpAny_mono ((hb (wTup X.K c1 c2 i ts D) (X.pn ++ pins) (fun e s₁ => wpAny (model X.prog X.w) X.A (noteFrame e X.env) (fun _ s₂ => wpAny (model X.prog X.w) X.A (setFlight e none) (fun _ s₃ =>
    wpAny (model X.prog X.w) X.A (handleBy e X.env (.ExceptHandler (some (.Tuple [.Name x1 np1, .Name x2 np2] kk tp)) (some n) (b₀ :: suite) pos' :: hds)) (SP X pins D) X.xe s₃) X.xe s₂) X.xe s₁) (fun u s' xx => ?_) PassesOwn.looking).run [] s σ H D (I.toTry _) h) (fun f s1 hsp => ?_) (fun e s1 he => he)
  · -- the catch
    obtain ⟨a, B, sI, pins', σ', H', cls, d, rfl, J', nb, up, sky, na, os, ag, hb1, hyes⟩ := xx
    have J : Inv X pins σ' H' sI := J'.ofTry ok
    have sky' : Sky B (X.env :: X.outer) a (Zc cls d) X.env.locals s'.heap := by rw [← hs]; exact sky
    show wpAny (model X.prog X.w) X.A (noteFrame (.ref a) X.env) _ _ _
    refine Sky.land Zc.steady hfr hf sky' fun h3 fl3 up3 => ?_
    have J3 : Inv X pins σ' H' { s' with heap := h3 } := J.landed nb fl3.1 (up.trans up3) os ag
    obtain ⟨oe3, vs3, he3, hz3, hd3⟩ := fl3.there
    have notFr : ∀ {h : Heap} {o : Obj} {vs : Array Value}, h.FunFrames B (X.env :: X.outer) → h.get? a = some o → o.data = .fields vs → a ∉ frs (X.env :: X.outer) := fun {h o vs} ff e dd hm => by
      obtain ⟨_, o', e', hnf⟩ := ff.mem hm
      rw [e] at e'; cases e'
      exact hnf _ dd
    have nfr := notFr fl3.2.2.1 he3 hd3
    have nL : a ≠ X.env.locals := fun z => nfr (List.mem_filterMap.mpr ⟨X.env, List.mem_cons_self, by rw [hf, z]⟩)
    have nF : a ∉ X.fs := fun hm => by
      obtain ⟨e, he, q⟩ := List.mem_filterMap.mp hm
      exact nfr (List.mem_filterMap.mpr ⟨e, List.mem_cons_of_mem _ he, q⟩)
    have S3 := J3.suite he3 hd3 na nL nF
    refine wpAny_handleBy_cons (codeAny_handlers_test ?_) (by intro q; cases q)
    have LT : PySem.W.Looks (model X.prog X.w) h3 (typeOf (.ref a)) cls := fun A Q E s k q => wpAny_typeOf_ref (k _ _ he3) (by rw [hz3.1]; exact q)
    have test : ∀ {x : Str} {c : Value} {np : Pos} {Q : Value → Shared → Prop} {E : Value → Shared → Prop}, Names X x c → Q c { s' with heap := h3 } → wpAny (model X.prog X.w) (X.A.mark (some (.ref a))) (eval (.Name x np) X.env) Q E { s' with heap := h3 } := fun {x c np Q E} hc q => by
      obtain ⟨hg, hdbg, hm | ⟨hm, hv, hnn⟩⟩ := hc
      · exact ld_glob (X := X.suite a ((a, oe3) :: (X.pn ++ pins))) S3 hg hm q hdbg
      · exact ld_blt (X := X.suite a ((a, oe3) :: (X.pn ++ pins))) S3 hg hm hv q hnn hdbg
    refine wpAny_Tuple ?_
    refine wpAny_items_cons (test hc1 ?_)
    refine wpAny_items_cons (test hc2 ?_)
    refine wpAny_items_nil ⟨by size_fits, ?_⟩
    have kp : ∀ q o, h3.get? q = some o → (h3.push { cls := .type "tuple", data := .seq [c1, c2].toArray }).get? q = some o := fun _ _ z => Heap.get?_push_of_some _ z
    have LM := PySem.W.exm_tup2 (M := model X.prog X.w) (J3.kIn.keeps kp) (LT.keeps kp) (Heap.get?_push_size h3 rfl) hb1
    refine LM.here ?_
    have fl3' := flyingZ_keeps fl3 kp
    have up3' := up3.trans (Heap.UpToSlots.of_keeps kp)
    refine codeAny_handlers_suite_as ?_
    refine HandSPX.lands_againZ (s := { s' with heap := h3.push { cls := .type "tuple", data := .seq [c1, c2].toArray } }) fl3' fun h4 fl4 up4 => ?_
    have J4 : Inv X pins σ' H' { s' with heap := h4 } := J.landed nb fl4.1 ((up.trans up3').trans up4) os ag
    obtain ⟨oe4, vs4, he4, hz4, hd4⟩ := fl4.there
    have S4 := J4.suite he4 hd4 na nL nF
    refine store_ok (X := X.suite a ((a, oe4) :: (X.pn ++ pins))) (v := .ref a) S4 hN hi hloc rfl (fun s5 S5 => ?_) (.inr hln)
    refine wpAny_mono ((hsu a oe4 cls d (X.pn ++ pins) hz4 ⟨_, hd4⟩).run [] s5 _ H' _ S5 (hyes a oe4 na hz4 ⟨_, hd4⟩)) (fun f s6 hsp => ?_) (fun _ _ z => False.elim z)
    have end_ : ∀ {σ6 : L2.St} {H6 : Hp} {Q : Shared → Prop}, Inv (X.suite a ((a, oe4) :: (X.pn ++ pins))) [] σ6 H6 s6 → (∀ s7, Inv X pins (σ6.set i none) H6 s7 → Q s7) →
        wpAny (model X.prog X.w) X.A (do bindName X.env n .none; unbindBehindTheSuite X.env n pos') (fun _ s7 => Q s7) X.xe s6 := fun {σ6 H6 Q} S6 hq => gone_ok (S6.unsuite ok) hN hi hln hq
    cases f with
    | next =>
      obtain ⟨σ6, H6, S6, q6⟩ := hsp
      exact end_ S6 fun s7 J7 => ⟨_, _, J7, q6⟩
    | brk =>
      obtain ⟨σ6, H6, S6, q6⟩ := hsp
      exact end_ S6 fun s7 J7 => ⟨_, _, J7, q6⟩
    | cont =>
      obtain ⟨σ6, H6, S6, q6⟩ := hsp
      exact end_ S6 fun s7 J7 => ⟨_, _, J7, q6⟩
    | ret u =>
      obtain ⟨v6, σ6, H6, S6, r6, q6⟩ := hsp
      exact end_ S6 fun s7 J7 => ⟨_, _, _, J7, r6, q6⟩
  · cases f with
    | next =>
      obtain ⟨σ', H', J', q⟩ := hsp
      exact wpAny_execs_nil ⟨σ', H', J'.ofTry ok, q⟩
    | brk =>
      obtain ⟨σ', H', J', q⟩ := hsp
      exact ⟨σ', H', J'.ofTry ok, q⟩
    | cont =>
      obtain ⟨σ', H', J', q⟩ := hsp
      exact ⟨σ', H', J'.ofTry ok, q⟩
    | ret u =>
      obtain ⟨v, σ', H', J', r, q⟩ := hsp
      exact ⟨v, σ', H', J'.ofTry ok, r, q⟩
end
end Mi
namespace Mi
open PySem L2 Evl
open PyProof.Rows (envOfC)
section
variable {X : Cx} {B : Bs} {env : Env} {os : Os} {pos : Pos} {α β : Type} {r : Rp α} {a b : Expr} {es : List Expr}
/-- (e, ..) of one kind -/
theorem e_tupL {w : W (List α)} {kk : Nat} (h : AL X B env os es r w) (hz : es.length ≤ sizeLine := by decide) : EE X B env os (.Tuple es kk pos) (rTup X.K r) w := PE.imp (pe_tup h) fun σ H Q ⟨F, P, S, hw, k⟩ => ⟨F, P, S, hw, fun xs hx vs F' H' S' e' ok hl =>
  ⟨by rw [hl]; exact hz, fun p hp => by
    have g : Grow F' H' (upd F' p (.tup vs)) (upd H' p (.tup vs)) := Grow.alloc S'.fh hp
    exact k xs hx (.ref p) _ _ (S'.grow g) (e'.trans g.f) ⟨p, vs, rfl, SqT.of upd_same, by rw [hl]; exact hz, Paired.imp (fun _ _ => r.mono g.f) ok⟩⟩⟩
/-- in a tuple, a list of texts or numbers -/
theorem inV_str (x : Str) (ys : List Str) : inV (.str x) (ys.map V.str) = decide (x ∈ ys) := by
  induction ys with
  | nil => rfl
  | cons y ys ih =>
    unfold inV at ih ⊢
    rw [List.map_cons, List.any_cons, ih]
    show ((y == x) || _) = _
    rw [Bool.eq_iff_iff, Bool.or_eq_true, beq_iff_eq, decide_eq_true_eq, decide_eq_true_eq, List.mem_cons]
    exact ⟨fun h => h.elim (fun e => .inl e.symm) .inr, fun h => h.elim (fun e => .inl e.symm) .inr⟩
theorem strs_map {F : Hp} : ∀ {vs : List V} {xs : List Str}, Paired (rStr.ok F) vs xs → vs = xs.map V.str
  | _, _, .nil => rfl
  | _, _, .cons h t => by
    rw [List.map_cons, ← strs_map t, h.1]
theorem sem_inST {K : PySem.W.Frag} : R2T (rIn K false) rStr (rTup K rStr) rBool (fun x ys => ret (decide (x ∈ ys))) := fun F H v u x ys P E Q fh o1 ⟨p, vs, e1, h1, h2, h3⟩ hw k => by
  have e := strs_map h3
  subst e
  refine ⟨p, _, e1, .inr (ex_t fh h1), by rw [o1.1]; rfl, by simp [flatV], ?_⟩
  show Q (.bl (inV v (ys.map V.str))) H
  rw [o1.1, inV_str]
  exact k _ hw _ F H (Grow.refl fh) rfl
theorem t_inST {w1 : W Str} {w2 : Str → W (List Str)} (ha : EE X B env os a rStr w1) (hb : ∀ x, EE X B env os b (rTup X.K rStr) (w2 x)) (hm : behindInMarks .In b = false := by rfl) : ET X B env os (.Compare a [.In] [b] pos) (bnd w1 fun x => bnd (w2 x) fun y => ret (decide (x ∈ y))) := t_cmp op_in_seq sem_inST hm ha hb
end
/-- the exception at p, pinned while it is handled -/
def rExc (K : PySem.W.Frag) (tb : ETab) (p : Addr × Obj) : Rp Er := ⟨fun F v e => v = .ref p.1 ∧ (∃ vs, p.2.data = .fields vs) ∧ ∃ cls d, Zc cls d p.2 ∧ ErAt K tb F e cls d, fun x ⟨h1, h2, cls, d, h3, h4⟩ => ⟨h1, h2, cls, d, h3, h4.mono x⟩⟩
abbrev FTab := List (String × Option Str)
structure TbOk (K : PySem.W.Frag) (tb : ETab) (ft : FTab) : Prop where
  xf : ∀ t ∈ tb, XfC K t.2.1
  nc : ∀ t ∈ tb, PySem.W.findIn K (.ref t.2.1) "code" = some none
  nf : ∀ t ∈ tb, ∀ f, t.2.2 = some f → PySem.W.findIn K (.ref t.2.1) f = some none
  st : ∀ t ∈ tb, (Str.ofString t.1).length ≤ sizeLine ∧ PyData.strOk (Str.ofString t.1) = true
  ft : ∀ t ∈ tb, ft.lookup t.1 = some t.2.2
def excF (ft : FTab) (e : Er) (f : Str) : W PyData := chk (ft.lookup e.cls = some (some f)) (ret (e.vals.headD .none))
section
variable {X : Cx} {B : Bs} {env : Env} {os : Os} {pos : Pos} {tb : ETab} {ft : FTab} {q : Addr × Obj}
theorem pe_xfP {e : Expr} {te : TE} {n : Str} (hp : q ∈ X.pn) (he : PE X e te) (hb : attributeBase e n X.env (eval e X.env) = eval e X.env := by rfl) :
    PE X (.Attribute e n pos) (fun σ H Q => te σ H fun x H1 => x = .ref q.1 ∧ ∃ (C : Addr) (d : Option Addr), XfC X.K C ∧ PySem.W.findIn X.K (.ref C) n = some none ∧ Zc (.ref C) d q.2 ∧ (∃ vs, q.2.data = .fields vs) ∧ ∃ (dd : Addr) (fs : List (Str × V)) (v : V), d = some dd ∧ H1 dd = some (.xd fs) ∧ fs.lookup n = some v ∧ Q v H1) := by
  refine ⟨fun pins s σ H Q I h => ?_⟩
  refine attr_of hb (thn (he.run pins s σ H _ I h) fun u s1 hh => ?_)
  obtain ⟨x, H1, I1, rx, ex, C, d, T, hno, hz, hf, dd, fs, v, ed, ea, l, q'⟩ := hh
  subst ex
  obtain rfl : u = Value.ref q.1 := rx
  subst ed
  obtain ⟨ha, _⟩ := I1.pin q (List.mem_append_left _ hp)
  obtain ⟨vs, hd⟩ := hf
  have hx : ObjOk X.prog X.w H1 s1.heap dd (.xd fs) := I1.hok dd _ ea
  obtain ⟨mA, hns, hr⟩ := hx
  obtain ⟨od, ho, hl⟩ := lookIn_ns hns
  obtain ⟨u, hu, ru⟩ := RelO.some_of (v := v) (o := mA n) (by rw [← l]; exact hr n)
  have J : PySem.W.InstAt s1.heap q.1 q.2 C (some od) := ⟨ha, hz.1, by unfold PySem.W.notCls; rw [hd] <;> rfl, by rw [hz.2]; exact ho⟩
  exact HandSPX.exc_get I1.kIn J T.ga T.gg T.exC (PySem.W.findObj_own T.hdC hno rfl (by rw [hl, hu])) (handed_of ru) ⟨v, H1, I1.tok _, ru, q'⟩
theorem e_excCode (i : Nat) {x : Str} {p1 : Pos} {e : Er} (hp : q ∈ X.pn) (T : TbOk X.K tb ft) (he : env[i]? = some (sv (rExc X.K tb q) e) := by rfl) (hN : X.N[i]? = some x := by rfl) (hv : Vis X.env.scope x := by first | exact Or.inl rfl | exact Or.inr (Or.inl rfl) | exact Or.inr (Or.inr rfl))
    (hd : (x == ("__debug__" : Str)) = false := by decide) (hcd : (x == ("__classdict__" : Str)) = false := by decide) (hb : attributeBase (.Name x p1) "code" X.env (eval (.Name x p1) X.env) = eval (.Name x p1) X.env := by rfl) :
    EE X B env os (.Attribute (.Name x p1) "code" pos) rStr (ret (Str.ofString e.cls)) :=
  PE.imp (pe_xfP hp (pe_var hN hv hd hcd) hb) fun σ H Q ⟨F, P, S, hw, k⟩ => by
    obtain ⟨ov, h1, v, h2, h3, hf, cls, d, hz, C, fo, dd, fs, m1, m2, m3, m4, m5, m6⟩ := S.env.get he
    subst h2 h3 m2
    exact ⟨_, h1, rfl, C, d, T.xf _ m1, T.nc _ m1, hz, hf, dd, fs, _, m3, S.fh _ _ m4, m5, k _ hw _ F H S (Ex.refl F) ⟨rfl, (T.st _ m1).1, (T.st _ m1).2⟩⟩
theorem e_excFldX (i : Nat) {x f : Str} {p1 : Pos} {e : Er} (hp : q ∈ X.pn) (T : TbOk X.K tb ft) (he : env[i]? = some (sv (rExc X.K tb q) e) := by rfl) (hN : X.N[i]? = some x := by rfl) (hv : Vis X.env.scope x := by first | exact Or.inl rfl | exact Or.inr (Or.inl rfl) | exact Or.inr (Or.inr rfl))
    (hd : (x == ("__debug__" : Str)) = false := by decide) (hcd : (x == ("__classdict__" : Str)) = false := by decide) (hb : attributeBase (.Name x p1) f X.env (eval (.Name x p1) X.env) = eval (.Name x p1) X.env := by rfl) :
    EE X B env os (.Attribute (.Name x p1) f pos) (rX X.K tb) (excF ft e f) :=
  PE.imp (pe_xfP hp (pe_var hN hv hd hcd) hb) fun σ H Q ⟨F, P, S, ⟨hc, hw⟩, k⟩ => by
    obtain ⟨ov, h1, v, h2, h3, hf, cls, d, hz, C, fo, dd, fs, m1, m2, m3, m4, m5, m6⟩ := S.env.get he
    subst h2 h3 m2
    have e1 := T.ft _ m1
    rw [hc] at e1
    have e1 : some (some f) = some fo := e1
    cases e1
    obtain ⟨v, y, z1, z2, z3⟩ := m6
    rw [z1] at hw
    exact ⟨_, h1, rfl, C, d, T.xf _ m1, T.nf _ m1 f rfl, hz, hf, dd, fs, v, m3, S.fh _ _ m4, z2, k _ hw v F H S (Ex.refl F) z3⟩
end
structure FnS (P : Program) (w : World) (K : PySem.W.Frag) (mg : Str → Option Value) (base : Heap) (k : Nat) (f : Addr) (fd : FuncData) (ps : List Str) (sp : Addr × Obj → Sp) : Prop where
  len : ∀ p vs H Q E, sp p vs H Q E → vs.length = ps.length
  run : ∀ (A : Around) (outer : List PySem.Env) (s : Shared) (H : Hp) (args : Args) (us : List Value) (vs : List V) (Q : VK) (p : Addr × Obj), L2H.RoomH k A → L2H.PinOk outer H s p → Env0 P w K mg base A outer s H → BindsTo s fd args (ps.zip us) → Vals vs us → sp p vs H Q E0 →
    codeAny (model P w) A (.call (.ref f) args) (CR CX0 outer P w H s Q E0) s
section
variable {P : Program} {w : World} {K : PySem.W.Frag} {mg : Str → Option Value} {base : Heap} {k : Nat} {f : Addr} {fd : FuncData} {ps N : List Str} {ι ρ : Type} {args : Addr × Obj → ι → Env} {wf : ι → W ρ} {ro : Rp ρ}
theorem okS {x qual : Str} {st : Stmt} (F : Fun K x qual st f fd) (S : FnScope N ps (defScope st)) (hl : ∀ p i, (args p i).length = ps.length)
    (body : ∀ (cdv : Value) (A : Around) (outer : List PySem.Env) (s : Shared) (H : Hp) (B : Bs) (p : Addr × Obj) (i : ι),
      BG (L2H.cxH CX0 P w K mg base N qual (defScope st) f cdv A outer s H E0 p) B (entry (args p i) (N.length - ps.length)) [] (defBody st) (pFn B [] ro) (wf i)) : FnS P w K mg base (k + 1) f fd ps (fun p => spW (args p) (fun _ => []) wf ro) := by
  obtain ⟨oc, od, kV, doc, pm, an, cdv, ct, osl, rfl, lk, hcd⟩ := F.ex
  refine ⟨fun p => spW_len (hl p), fun A outer s H args' us vs Q p hr hpin e0 hb r hsp => ?_⟩
  have hvl := spW_len (hl p) vs H Q E0 hsp
  have KX : K.In s.heap := e0.mod.kin.keeps fun b o e => (e0.bs b o e).1
  have lim : s.heap.NoLimit := e0.mod.nolimit.keeps fun b o e => (e0.bs b o e).1
  have hkind : ∀ y ∈ ps.zip us, (defScope st).names.lookup y.1 = some .local ∨ ((defScope st).names.lookup y.1 = some .cell ∧ ((cellsFrom (s.heap.objs.size + 1) (defScope st).names []).lookup y.1).isSome = true) := fun ⟨n, v⟩ hy => by
    rcases S.par n (List.of_mem_zip hy).1 with q | q
    · exact .inl q
    · exact .inr ⟨q, PySem.W.cellsFrom_some _ _ _ (.inl q)⟩
  obtain ⟨i, F0, P0, fh, he, ho, nd, hw, hk⟩ := hsp
  refine codeAny_call_function hr.depth (KX _ _ lk) rfl S.co S.gen rfl (PySem.W.codeRec_of KX hcd) (hb _ _ _ _ ?_)
  refine wpAny_newFunctionEnv_cells S.kind hkind fun env he' s1 x => ?_
  subst he'
  refine ⟨lim.keeps x.toInCall.keep, codeAny_func ?_⟩
  have I : Inv (L2H.cxH CX0 P w K mg base N qual (defScope st) f cdv A outer s H E0 p) [] (L2.start N vs) H s1 := L2H.inv_startH S hpin e0 hvl r x
  refine wpAny_mono ((body cdv A outer s H (bs0 F0 H []) p i).run [] s1 (L2.start N vs) H { nx := fun _ H' => Q .non H', rt := Q } I ⟨F0, P0, ⟨bs0_start fh ho, by rw [← hvl]; exact entry_ok he, fun p hp => (by cases hp), List.nodup_nil⟩, hw,
    fun y hy => ⟨fun v F' H' fn ow ok => hk y hy v F' H' fn ow ok, fun σ F' H' fn ow ok => hk y hy .non F' H' fn ow ok⟩⟩) (fun fl s' hs => ?_) fun e s' hs => hs
  have fin : ∀ {σ' : L2.St} {H' : Hp} {v : V} {u : Value}, Inv (L2H.cxH CX0 P w K mg base N qual (defScope st) f cdv A outer s H E0 p) [] σ' H' s' → RelV v u → Q v H' → CE outer P w H s Q u s' :=
    fun {σ' H' v u} J rv q => ⟨v, H', J.os, J.bare, J.base, J.hok, rv, q⟩
  cases fl with
  | ret u =>
    obtain ⟨v, σ', H', J, rv, q⟩ := hs
    exact fin J rv q
  | next =>
    obtain ⟨σ', H', J, q⟩ := hs
    exact fin (v := V.non) (u := Value.none) J rfl q
  | brk =>
    obtain ⟨_, _, _, q⟩ := hs
    exact False.elim q
  | cont =>
    obtain ⟨_, _, _, q⟩ := hs
    exact False.elim q
end
section
variable {X : Cx} {B : Bs} {env : Env} {os : Os} {pos p : Pos} {ι ρ : Type} {args : Addr × Obj → ι → Env} {wf : ι → W ρ} {ro : Rp ρ} {e : Expr} {es : List Expr} {x : Str} {k : Nat} {f : Addr} {fd : FuncData} {ps : List Str} {q : Addr × Obj}
theorem e_callS {w : W ι} (G : FnS X.prog X.w X.K X.mg X.base k f fd ps (fun p => spW (args p) (fun _ => []) wf ro)) (hp : q ∈ X.pn) (hr : L2H.RoomH k X.A) (hm : X.mg x = some (.ref f)) (hk : PySem.W.keepIn X.K (.ref f) = true) (hb : Binds X.K fd ps [])
    (ha : AA X B env os (e :: es) (args q) w) (hg : Gl X x := by rfl) (hdb : (x == ("__debug__" : Str)) = false := by decide)
    (he : starEach (e :: es) X.env = (false, eval e X.env) :: starEach es X.env := by rfl) (hpl : (backTo pos (starEach es X.env)).any (·.1) = false := by rfl) :
    EE X B env os (.Call (.Name x p) (e :: es) [] pos) ro (bnd w fun i => noX (wf i)) := by
  refine ⟨fun pins s σ H Q I h => ?_⟩
  refine wpAny_Call_Name_kw (ld_glob I hg hm ?_ hdb)
  refine PySem.W.callWith_K (h₀ := X.base) I.ok.mod.kin hk (thn (ha.run pos pins s σ H _ I (call_back (args := args q) (osf := fun _ => []) (fun _ => OsLe.none) (fun _ => List.nodup_nil) h)) fun us s1 ⟨vs, H1, I1, r, qq⟩ => ⟨I1.kIn, ?_⟩) he hpl
  show wpAny _ _ (call (.ref f) us) _ _ _
  have hl : us.length = ps.length := by rw [← r.length]; exact G.len q _ _ _ _ qq
  have b := hb s1 us I1.kIn (by rw [List.append_nil]; exact hl)
  rw [List.append_nil] at b
  have P1 := I1.pin q (List.mem_append_left _ hp)
  have hpin : L2H.PinOk X.stack H1 s1 q := ⟨P1.1, P1.2.1, fun hm => (List.mem_cons.mp (I1.stkSub q.1 hm)).elim P1.2.2.1 P1.2.2.2.1, P1.2.2.2.2⟩
  refine wpAny_call (codeAny_mono (G.run X.A X.stack s1 H1 ⟨us, []⟩ us vs Q q hr hpin I1.env0 b r qq) fun res s' hq => ?_)
  cases res with
  | error e => exact False.elim hq
  | ok fl =>
    cases fl with
    | ret u => exact I1.after hq
    | next => exact False.elim hq
    | brk => exact False.elim hq
    | cont => exact False.elim hq
end
end Mi
namespace Mi
open PySem L2 Evl
open PyProof.Rows (envOfC)
/-- try: w1, what is raised goes to w2 -/
def tryW {α : Type} (w1 : W α) (w2 : Er → W α) : W α := fun P E => w1 P fun e => w2 e P E
theorem takes_len {X : Cx} {W W' : WX} (t : Takes X W) (h : ∀ c d σ H, σ.length = X.N.length → W' c d σ H → W c d σ H) : Takes X W' := fun u s' ⟨a, B, sI, pins, σ, H, cls, d, e, I, nb, up, sky, na, os, ag, w⟩ =>
  t u s' ⟨a, B, sI, pins, σ, H, cls, d, e, I, nb, up, sky, na, os, ag, h _ _ _ _ I.len w⟩
theorem env_sa {F : Hp} : ∀ {σ : L2.St} {n : Nat}, σ.length = n → EnvOk F (List.replicate n sa) σ
  | [], _, h => by subst h; exact .nil
  | o :: σ, _, h => by
    subst h
    rw [List.length_cons, List.replicate_succ]
    exact .cons trivial (env_sa rfl)
section
variable {P : Program} {w : World} {K : PySem.W.Frag} {tb : ETab} {mg : Str → Option Value} {base : Heap} {k : Nat} {f C1 C2 : Addr} {fd : FuncData} {ps N : List Str} {ι ρ : Type} {args : ι → Env} {w1 : ι → W ρ} {w2 : Er → W ρ} {ro : Rp ρ}
theorem tryFn {x qual x1 x2 n : Str} {st b₀ : Stmt} {body suite : List Stmt} {hds : List ExceptHandler} {np1 np2 tp pos' pos : Pos} {kk i : Nat} (F : Fun K x qual st f fd) (S : FnScope N ps (defScope st)) (hl : ∀ i, (args i).length = ps.length)
    (hblk : defBody st = [.Try body (.ExceptHandler (some (.Tuple [.Name x1 np1, .Name x2 np2] kk tp)) (some n) (b₀ :: suite) pos' :: hds) [] [] pos]) (hi : N[i]? = some n) (hln : (defScope st).names.lookup n = some .local)
    (g1 : (defScope st).names.lookup x1 = some .globalImplicit) (g2 : (defScope st).names.lookup x2 = some .globalImplicit) (d1 : (x1 == ("__debug__" : Str)) = false) (d2 : (x2 == ("__debug__" : Str)) = false) (m1 : mg x1 = some (.ref C1)) (m2 : mg x2 = some (.ref C2))
    (hall : ∀ t ∈ tb, PySem.W.exmAny K (.ref t.2.1) [.ref C1, .ref C2] = some true)
    (hbody : ∀ (cdv : Value) (A : Around) (outer : List PySem.Env) (s : Shared) (H : Hp) (E : XK) (pn : List (Addr × Obj)) (xe : Value → Shared → Prop) (B : Bs) (i0 : ι), Room k (A.deeper (envOfC qual (defScope st) s.heap.objs.size f cdv)) →
      Takes ((cxOf CX0 P w K mg base N qual (defScope st) f cdv A outer s H E).nox.tr pn xe) (wB K tb B) → BG ((cxOf CX0 P w K mg base N qual (defScope st) f cdv A outer s H E).nox.tr pn xe) B (entry (args i0) (N.length - ps.length)) [] body (pFn B [] ro) (w1 i0))
    (hsuite : ∀ (cdv : Value) (A : Around) (outer : List PySem.Env) (s : Shared) (H : Hp) (E : XK) (a : Addr) (oe : Obj) (pn : List (Addr × Obj)) (B : Bs) (e : Er), Room k (A.deeper (envOfC qual (defScope st) s.heap.objs.size f cdv)) →
      BG ((cxOf CX0 P w K mg base N qual (defScope st) f cdv A outer s H E).nox.suite a ((a, oe) :: pn)) B ((List.replicate N.length sa).set i (sv (rExc K tb (a, oe)) e)) [] (b₀ :: suite) (pFn B [] ro) (w2 e)) :
    FnOk P w K mg base CX0 (k + 1) f fd ps (spW args (fun _ => []) (fun i0 => tryW (w1 i0) w2) ro) := by
  refine F.ok S (spW_len hl) fun cdv A outer s H vs Q E hr hsp => ?_
  have hvl := spW_len hl vs H Q E hsp
  obtain ⟨i0, F0, P0, fh, he, ho, nd, hw, hk⟩ := hsp
  obtain ⟨X, hX⟩ : ∃ X, X = (cxOf CX0 P w K mg base N qual (defScope st) f cdv A outer s H E).nox := ⟨_, rfl⟩
  obtain ⟨B1, hB1⟩ : ∃ B1 : Bs, B1 = { bs0 F0 H [] with E0 := fun e => w2 e P0 fun _ => False } := ⟨_, rfl⟩
  have fn1 : ∀ F' H', Fn B1 F' H' → Fn (bs0 F0 H []) F' H' := fun F' H' f => by
    subst hB1
    exact ⟨f.fh, f.bf, f.mrk, f.bb, f.ios, f.keep⟩
  have key : PSs X (defBody st) (fun D σ H' => D = { nx := fun _ H' => Q .non H', rt := Q } ∧ tBG B1 (entry (args i0) (N.length - ps.length)) [] (pFn B1 [] ro) (w1 i0) D σ H') := by
    rw [hblk]
    suffices one : PS X (.Try body (.ExceptHandler (some (.Tuple [.Name x1 np1, .Name x2 np2] kk tp)) (some n) (b₀ :: suite) pos' :: hds) [] [] pos) (fun D σ H' => D = { nx := fun _ H' => Q .non H', rt := Q } ∧ tBG B1 (entry (args i0) (N.length - ps.length)) [] (pFn B1 [] ro) (w1 i0) D σ H')
      from PSs.imp (pss_one one) fun _ _ _ q => q
    refine ⟨fun pins s' σ H' D I ⟨eD, h⟩ => ?_⟩
    refine (ps_try_tup2 (X := X) (i := i) (c1 := .ref C1) (c2 := .ref C2) (tb := fun W D σ H' => (∀ cls d σ H', σ.length = X.N.length → wB K tb B1 cls d σ H' → W cls d σ H') ∧ tBG B1 (entry (args i0) (N.length - ps.length)) [] (pFn B1 [] ro) (w1 i0) D σ H')
      (ts := fun a oe cls d => fun D σ H' => ∃ e, tBG (bs0 F0 H []) ((List.replicate N.length sa).set i (sv (rExc K tb (a, oe)) e)) [] (pFn (bs0 F0 H []) [] ro) (w2 e) D σ H') (by subst hX; rfl) (by subst hX; rfl) (by subst hX; exact S.nd) (by subst hX; exact hi) (by subst hX; exact hln) (by subst hX; exact ⟨g1, d1, .inl m1⟩) (by subst hX; exact ⟨g2, d2, .inl m2⟩)
      (fun W pn xe tk _ => ?_) (fun a oe cls d pn hz hv => ?_)).run pins s' σ H' D I ⟨?_, h⟩
    · refine ⟨fun pins s' σ H' D I ⟨hW, h⟩ => ?_⟩
      subst hX
      exact (hbody cdv A outer s H E pn xe B1 i0 hr (takes_len tk hW)).run pins s' σ H' D I h
    · refine PSs.ex fun e => ?_
      subst hX
      exact hsuite cdv A outer s H E a oe pn _ e hr
    · rintro cls d σ2 H2 hlen ⟨e, F2, h1, h2, h3⟩
      have h2' := fn1 F2 H2 (by subst hB1; exact ⟨h2.fh, h2.bf, h2.bf, h2.bb, h2.ios, h2.keep⟩)
      have h1' : w2 e P0 fun _ => False := by
        subst hB1
        exact h1
      obtain ⟨C, fo, dd, fs, q1, q2, q3⟩ := id h3
      refine ⟨by rw [q2, show X.K = K by subst hX; rfl]; exact hall _ q1, fun a oe na hz hv => ⟨e, F2, P0, ⟨h2', ?_, fun p hp => (by cases hp), List.nodup_nil⟩, h1', fun y hy => ?_⟩⟩
      · have hN : X.N.length = N.length := by
          subst hX
          rfl
        exact EnvOk.set (s := sv (rExc K tb (a, oe)) e) ⟨_, rfl, rfl, hv, cls, d, hz, h3⟩ (env_sa (by rw [hlen, hN]))
      · subst eD
        exact ⟨fun v F' H' fn ow ok => hk y hy v F' H' fn ow ok, fun σ F' H' fn ow ok => hk y hy .non F' H' fn ow ok⟩
  rw [hX] at key
  refine ⟨_, key, ⟨rfl, F0, P0, ⟨?_, ?_, fun p hp => (by cases hp), List.nodup_nil⟩, ?_, fun y hy => ⟨fun v F' H' fn ow ok => hk y hy v F' H' (fn1 _ _ fn) (fun p hp => by cases hp) ok, fun σ F' H' fn ow ok => hk y hy .non F' H' (fn1 _ _ fn) (fun p hp => by cases hp) ok⟩⟩⟩
  · have z := bs0_start (os := []) fh (fun p hp => by cases hp)
    subst hB1
    exact ⟨z.fh, z.bf, z.mrk, z.bb, z.ios, z.keep⟩
  · rw [← hvl]
    exact entry_ok he
  · subst hB1
    exact hw
end
end Mi
namespace Mi
open PySem L2 Evl LamX
open PyProof.Rows (envOfC IntsAre AllBare)
theorem sqL_but {K : PySem.W.Frag} {H : Hp} {P a : Addr} {xs : List V} {ps : Array Value} (hP : H P = some (.tbl ps)) (h : SqL K H a xs) : SqL K (del H P) a xs := by
  have ne : ∀ o, H a = some o → o ≠ .tbl ps → a ≠ P := fun o e n z => by
    subst z
    rw [hP] at e
    exact n (Option.some.inj e).symm
  rcases h with (h | ⟨o, h⟩) | h
  · exact .inl (.inl ((del_ne (ne _ h (by intro z; cases z))).trans h))
  · exact .inl (.inr ⟨o, (del_ne (ne _ h (by intro z; cases z))).trans h⟩)
  · exact .inr h
theorem law_runT {P : Program} {w : World} {K : PySem.W.Frag} {mg mb : Str → Option Value} {k : Nat} {fa a c T : Addr} {fd : FuncData} {x : Str} {sp : Sp} {s : Shared} {vs : List Value}
    (KX : K.In s.heap) (hns : s.heap.Ns mainGlobals mg) (hb : s.heap.Ns builtinsNs mb) (hbb : ∀ x : Str, x ≠ "__name__" → mb x = bootBuiltins x) (hlim : s.heap.NoLimit) (hg : s.gens = #[])
    (hT : s.heap.get? T = some { cls := .none, data := .fields #[] }) (nT : K.lookup T = none) (C : PySem.W.CodeHd s.heap c T)
    (hbm : ∃ (bm : Addr) (ob : Obj), mg "__builtins__" = some (.ref bm) ∧ bm ≠ builtinsNs ∧ s.heap.get? bm = some ob ∧ ob.cls = .type "module" ∧ ob.dict = some builtinsNs ∧ ob.data = .plain)
    (ha : s.heap.get? a = some { cls := .type "list", data := .seq vs.toArray }) (hr : Room k callerA)
    (F : ∀ base : Heap, K.In base → base.Ns mainGlobals mg → TabB base mg c T → FnG P w K mg base CX0 k fa fd [x] sp) (hbind : ∀ (s : Shared) (u : Value), BindsTo s fd ⟨[u], []⟩ [(x, u)])
    {H : Hp} (hH : H T = some (.tbl #[])) (hO : ∀ b, H b = none ∨ b = T ∨ ∃ o xs, H b = some (.frz o (.lst xs))) (hok : HOk P w H s.heap) (hA : ∀ b, H b ≠ none → b = T ∨ b = a ∧ K.lookup a = none) (hsp : sp [.ref a] H (fun v _ => v = .bl true) fun _ _ _ => False) :
    codeAny (model P w) callerA (.call (.ref fa) ⟨[.ref a], []⟩) (fun r s' => r = .ok (.ret (.bool true)) ∧ OldK s.heap s'.heap ∧ s'.os = s.os ∧ AllBare s'.gens) s := by
  have noD : ∀ {b : Addr} {o : Obj}, s.heap.get? b = some o → (∀ vs n, o.data ≠ .seq vs n) → o.data ≠ .fields #[] → H b = none := fun {b o} e h1 h2 => by
    cases q : H b with
    | none => rfl
    | some u =>
      rcases hA b (by rw [q]; simp) with e' | ⟨e', _⟩
      · rw [e', hT] at e
        cases e
        exact (h2 rfl).elim
      · rw [e', ha] at e
        cases e
        exact (h1 _ _ rfl).elim
  have here : ∀ {b : Addr} {o : Obj}, s.heap.get? b = some o → H b = none → (hidT s.heap H).get? b = some o := fun e n => hidT_get e n
  have ns_ : ∀ {b : Addr} {m : Str → Option Value}, s.heap.Ns b m → (hidT s.heap H).Ns b m := fun {b m} ⟨o, es, ep, e, d, r⟩ => by
    refine ⟨o, es, ep, here e (noD e (fun vs n z => ?_) fun z => ?_), d, r⟩ <;> rw [d] at z <;> cases z
  have kin : K.In (hidT s.heap H) := fun b o e => here (KX b o e) (by
    cases q : H b with
    | none => rfl
    | some u =>
      rcases hA b (by rw [q]; simp) with e' | ⟨e', n⟩
      · rw [e', nT] at e
        cases e
      · rw [e', n] at e
        cases e)
  have md : L2.Mod K mg (hidT s.heap H) := ⟨kin, ns_ hns, ⟨mb, ns_ hb, hbb⟩, hlim.elim fun mc hm => ⟨mc, ns_ hm.1, hm.2⟩⟩
  have TB : TabB (hidT s.heap H) mg c T := by
    refine ⟨?_, ?_, fun z => ?_⟩
    · obtain ⟨o, us, file, tf, flags, tg, inF, text, tt, e1, r1, r2, r3, r4, r5, r6, r7, r8, hne⟩ := C
      refine ⟨o, us, file, tf, flags, tg, inF, text, tt, here e1 (noD e1 (fun vs n z => ?_) fun z => ?_), r1, r2, r3, r4, r5, r6, r7, r8, hne⟩
      · rw [r2] at z
        cases z
      · rw [r2] at z
        cases z
        simp at r3
    · obtain ⟨bm, ob, b1, b2, b3, b4, b5, b6⟩ := hbm
      have nG : bm ≠ mainGlobals := fun q => by
        obtain ⟨o, es, ep, e, hd, _⟩ := hns
        rw [q, e] at b3
        cases b3
        rw [hd] at b6
        cases b6
      have nP : bm ≠ T := fun q => by
        rw [q, hT] at b3
        cases b3
        cases b6
      refine ⟨bm, ob, b1, b2, nG, nP, here b3 (noD b3 (fun vs n z => ?_) fun z => ?_), b4, b5, b6⟩ <;> rw [b6] at z <;> cases z
    · obtain ⟨o, es, ep, e, hd, _⟩ := hns
      rw [z, hT] at e
      cases e
      cases hd
  have e0 : Env0 P w K mg (hidT s.heap H) callerA [] s H :=
    { frames := rfl, mod := md, bs := fun b o e => of_hidT e, bsz := Nat.le_of_eq (hidT_size _ _), funs := trivial, frf := fun b hb => (by cases hb), hok := hok, bare := .of_eq hg }
  refine codeAny_mono ((F _ kin (ns_ hns) TB).go callerA [] s H ⟨[.ref a], []⟩ [.ref a] [.ref a] _ _ rfl hr e0 (hbind s (.ref a)) (.cons rfl .nil) hsp) fun r s' h => ?_
  cases r with
  | error e => exact False.elim h
  | ok fl =>
    cases fl with
    | next => exact False.elim h
    | brk => exact False.elim h
    | cont => exact False.elim h
    | ret u =>
      obtain ⟨v, H', os, bare, un, hok', rv, q⟩ := h
      have q : v = .bl true := q
      subst q
      have rv : u = Value.bool true := rv
      subst rv
      have key : ∀ b o, b ≠ T → s.heap.get? b = some o → s'.heap.get? b = some o := fun b o nb e => by
        cases q : H b with
        | none => exact un.keep b o e q (fun z => by cases z) (fun z => by cases z)
        | some u =>
          rcases hO b with z | z | ⟨ob, xs, z⟩
          · rw [q] at z
            cases z
          · exact absurd z nb
          · have e1 := (hok b _ z).1
            have e2 := (hok' b _ (un.frzs b ob _ z)).1
            rw [e] at e1
            cases e1
            exact e2
      obtain ⟨more, hm⟩ : ∃ more : Array Value, s'.heap.get? T = some { cls := .none, data := .fields more } := by
        obtain ⟨more, z⟩ := un.tbls T #[] hH
        exact ⟨_, hok' T _ z⟩
      refine ⟨rfl, ⟨fun b o e => ?_, fun b o e => ?_⟩, os, bare⟩
      · by_cases hb : b = T
        · subst hb
          rw [hT] at e
          cases e
          exact .inr (.inl ⟨(C.tab hT).isCodeTable, rfl, #[], more, rfl, by rw [Array.empty_append]; exact hm⟩)
        · exact .inl (key b o hb e)
      · by_cases hb : b = T
        · subst hb
          exact ⟨_, hm⟩
        · exact ⟨o, key b o hb e⟩
theorem law_callGT {P : Program} {w : World} {K : PySem.W.Frag} {mg mb : Str → Option Value} {k : Nat} {fa a c T : Addr} {fd : FuncData} {x : Str} {sp : Sp} {s : Shared} {vs : List Value} {ns : List Int}
    (KX : K.In s.heap) (hns : s.heap.Ns mainGlobals mg) (hb : s.heap.Ns builtinsNs mb) (hbb : ∀ x : Str, x ≠ "__name__" → mb x = bootBuiltins x) (hlim : s.heap.NoLimit) (hg : s.gens = #[])
    (hT : s.heap.get? T = some { cls := .none, data := .fields #[] }) (nT : K.lookup T = none) (C : PySem.W.CodeHd s.heap c T)
    (hbm : ∃ (bm : Addr) (ob : Obj), mg "__builtins__" = some (.ref bm) ∧ bm ≠ builtinsNs ∧ s.heap.get? bm = some ob ∧ ob.cls = .type "module" ∧ ob.dict = some builtinsNs ∧ ob.data = .plain)
    (ha : s.heap.get? a = some { cls := .type "list", data := .seq vs.toArray }) (hi : IntsAre vs ns) (hl : ns.length ≤ sizeLine) (hr : Room k callerA)
    (F : ∀ base : Heap, K.In base → base.Ns mainGlobals mg → TabB base mg c T → FnG P w K mg base CX0 k fa fd [x] sp) (hbind : ∀ (s : Shared) (u : Value), BindsTo s fd ⟨[u], []⟩ [(x, u)])
    (hsp : ∀ H : Hp, H T = some (.tbl #[]) → SqL K H a (ns.map V.int) → sp [.ref a] H (fun v _ => v = .bl true) fun _ _ _ => False) :
    codeAny (model P w) callerA (.call (.ref fa) ⟨[.ref a], []⟩) (fun r s' => r = .ok (.ret (.bool true)) ∧ OldK s.heap s'.heap ∧ s'.os = s.os ∧ AllBare s'.gens) s := by
  have rv := vals_ints hi
  have lenV := hi.length
  have aT : a ≠ T := fun z => by
    subst z
    rw [ha] at hT
    have z' : Data.seq vs.toArray _ = Data.fields #[] := congrArg Obj.data (Option.some.inj hT)
    cases z'
  cases hk : K.lookup a with
  | some o =>
    have e := (KX a o hk).symm.trans ha
    have e' := Option.some.inj e
    subst e'
    obtain ⟨H, eH⟩ : ∃ H : Hp, H = fun b => if b = T then some (HO.tbl #[]) else none := ⟨_, rfl⟩
    have at_ : ∀ b, H b = if b = T then some (HO.tbl #[]) else none := fun b => by rw [eH]
    have at_T : H T = some (.tbl #[]) := (at_ T).trans (if_pos rfl)
    refine law_runT KX hns hb hbb hlim hg hT nT C hbm ha hr F hbind at_T (fun b => ?_) (fun b u z => ?_) (fun b z => ?_) (hsp _ at_T (.inr ⟨_, vs.toArray, _, hk, rfl, rfl, rfl, ?_, ?_⟩))
    · by_cases h : b = T
      · exact .inr (.inl h)
      · exact .inl ((at_ b).trans (if_neg h))
    · by_cases h : b = T
      · subst h
        cases at_T.symm.trans z
        exact hT
      · cases ((at_ b).trans (if_neg h)).symm.trans z
    · by_cases h : b = T
      · exact .inl h
      · exact absurd ((at_ b).trans (if_neg h)) z
    · rw [List.size_toArray, lenV]
      exact hl
    · exact rv
  | none =>
    obtain ⟨H, eH⟩ : ∃ H : Hp, H = fun b => if b = a then some (HO.frz { cls := .type "list", data := .seq vs.toArray } (.lst (ns.map V.int))) else if b = T then some (HO.tbl #[]) else none := ⟨_, rfl⟩
    have at_ : ∀ b, H b = if b = a then some (HO.frz { cls := .type "list", data := .seq vs.toArray } (.lst (ns.map V.int))) else if b = T then some (HO.tbl #[]) else none := fun b => by rw [eH]
    have at_T : H T = some (.tbl #[]) := (at_ T).trans ((if_neg (Ne.symm aT)).trans (if_pos rfl))
    have at_a : H a = some (HO.frz { cls := .type "list", data := .seq vs.toArray } (.lst (ns.map V.int))) := (at_ a).trans (if_pos rfl)
    refine law_runT KX hns hb hbb hlim hg hT nT C hbm ha hr F hbind at_T (fun b => ?_) (fun b u z => ?_) (fun b z => ?_) (hsp _ at_T (.inl (.inr ⟨_, at_a⟩)))
    · by_cases h : b = a
      · exact .inr (.inr ⟨_, _, by rw [h]; exact at_a⟩)
      · by_cases h2 : b = T
        · exact .inr (.inl h2)
        · exact .inl ((((at_ b).trans (if_neg h))).trans (if_neg h2))
    · by_cases h : b = a
      · subst h
        cases at_a.symm.trans z
        exact ⟨ha, by rw [List.length_map]; exact hl, vs, _, rv, ha⟩
      · have z1 := ((at_ b).trans (if_neg h)).symm.trans z
        by_cases h2 : b = T
        · subst h2
          cases at_T.symm.trans z
          exact hT
        · cases (if_neg h2).symm.trans z1
    · by_cases h : b = a
      · exact .inr ⟨h, hk⟩
      · by_cases h2 : b = T
        · exact .inl h2
        · exact absurd ((((at_ b).trans (if_neg h))).trans (if_neg h2)) z
/-- the goal that the head leaves -/
theorem walk_GT {l : PySem.W.OpenLaw} {n k : Nat} {q : Program} {loose : List Str} {XP : (Str → Option Value) → Heap → Prop} {YP : World → Heap → Prop} {d : DefRec} {K : Params → PySem.W.Frag} {sp : PySem.W.Frag → Addr → Sp} {x : Str} {ts : List Addr}
    (hn : l.most = some n) (hn2 : n ≤ sizeLine) (hdf : d.params.defaults = []) (hr : Room k callerA) (hY : ∀ (w : World) (h : Heap), YP w h → (K w.params).In h ∧ ∀ P ∈ ts, h.get? P = some { cls := .none, data := .fields #[] })
    (F : ∀ (w : World) (mg : Str → Option Value) (fa : Addr) (h : Heap), (K w.params).In h → h.Ns mainGlobals mg → mg d.name = some (.ref fa) →
      ∃ (fd : FuncData) (c T : Addr), T ∈ ts ∧ PySem.W.codeHdIn (K w.params) c T = true ∧ (K w.params).lookup T = none ∧ (∀ (s : Shared) (u : Value), BindsTo s fd ⟨[u], []⟩ [(x, u)]) ∧ ∀ base : Heap, (K w.params).In base → base.Ns mainGlobals mg → TabB base mg c T → FnG l.prog w (K w.params) mg base CX0 k fa fd [x] (sp (K w.params) T))
    (hsp : ∀ (K : PySem.W.Frag) (H : Hp) (a T : Addr) (ns : List Int), ns.length ≤ n → H T = some (.tbl #[]) → SqL K H a (ns.map V.int) → sp K T [.ref a] H (fun v _ => v = .bl true) fun _ _ _ => False) :
    PySem.W.WalkO q loose XP YP l.row.toRowW d [] (fun f vs => PySem.call f vs) :=
  Att.attach_callB hn hdf fun w s₀ s₁ mg mb fa o pm cd doc a vs ns G Y ho hd hcd hmg hobj hints hlen hbits hg => by
    obtain ⟨KX, ht⟩ := hY w _ Y
    obtain ⟨fd, c, T, hm, hc, nT, hb, hF⟩ := F w mg fa _ KX G.T.g hmg
    exact law_callGT KX G.T.g G.T.b G.T.builtins G.T.nolimit hg (ht T hm) nT (PySem.W.codeHd_of_K KX hc) G.T.bmain hobj hints (Nat.le_trans hlen hn2) hr hF hb fun H hH hS => hsp _ H a T ns hlen hH hS
/-- the law's promise, one's own table beside the script -/
theorem sp_tab {K : PySem.W.Frag} {H : Hp} {a T : Addr} {ns : List Int} {q : Str} {wf : List Int → W Bool} (hl : ns.length ≤ 63) (hT : H T = some (.tbl #[])) (hS : SqL K H a (ns.map V.int)) (ht : wf ns (fun x => x = true) fun _ => False) :
    spW (fun i : List Int × Unit => [sv (rScr K) i.1]) (fun _ => [(T, oTab q)]) (fun i => wf i.1) rBool [.ref a] H (fun v _ => v = .bl true) fun _ _ _ => False :=
  ⟨(ns, ()), del H T, fun x => x = true, fun b u e => by
    by_cases h : b = T
    · subst h
      rw [del_same] at e
      cases e
    · rw [del_ne h] at e
      exact e, .cons ⟨_, rfl, a, rfl, sqL_but hT hS, Nat.le_trans hl (by decide)⟩ .nil, fun p hp => by
    rw [List.mem_singleton.mp hp]
    exact ⟨del_same, _, hT, #[], rfl, trivial, fun pos cv h => by cases h⟩, by simp, ht, fun x hx v F' H' _ _ ok => by subst hx; exact ok⟩
end Mi
namespace Mi
open PySem L2 Evl
end Mi
namespace Mi
open PySem L2 Evl
open PyProof.Rows (envOfC)
section
variable {X : Cx} {B : Bs} {env : Env} {os : Os} {pos : Pos} {α β γ : Type} {r : Rp α} {s : Rp β} {a b c o e : Expr} {es : List Expr} {rest : List Stmt} {post : Post β}
def tyD : PyData → String
  | .none => "NoneType"
  | .bool _ => "bool"
  | .int _ => "int"
  | .str _ => "str"
  | .list _ => "list"
  | .tuple _ => "tuple"
  | .dict _ => "dict"
theorem ty_D {K : PySem.W.Frag} {F H : Hp} {v : V} {d : PyData} (h : (rD K).ok F v d) (q : Ex F H) : TyX K H v (.type (tyD d)) := by
  obtain ⟨h, _⟩ := h
  cases h with
  | non => exact .base .non
  | bl b => exact .base (.bl b)
  | int i => exact .base (.int i)
  | str x => exact .base (.str x)
  | lst h _ =>
    rcases h with (h | ⟨o, h⟩) | ⟨o, its, n, hk, hc, _⟩
    · exact .base (.lst (q _ _ h))
    · exact .base (.frz (q _ _ h))
    · exact .kList hk hc
  | tup h _ =>
    rcases h with (h | ⟨o, h⟩) | ⟨o, its, n, hk, hc, _⟩
    · exact .base (.tup (q _ _ h))
    · exact .fTuple (q _ _ h)
    · exact .kTuple hk hc
theorem e_isBD {w : W PyData} {x : Str} {T : String} {k : String → Bool} {p1 p2 : Pos} (hk : ∀ d, PySem.W.kitOne X.K (.type (tyD d)) (.type T) = some (k (tyD d))) (ha : EE X B env os a (rD X.K) w) (hm : X.mg "isinstance" = none) (hx : X.mg x = none)
    (hv : bootBuiltins x = some (.type T) := by decide +kernel) (hn : x ≠ "__name__" := by decide) (hd : (x == ("__debug__" : Str)) = false := by decide)
    (hg : Gl X "isinstance" := by rfl) (hgx : Gl X x := by rfl) (hs : starEach [a, .Name x p2] X.env = (false, eval a X.env) :: starEach [.Name x p2] X.env := by rfl) (hs2 : starEach [.Name x p2] X.env = (false, eval (.Name x p2) X.env) :: starEach [] X.env := by rfl) (hpl : (backTo pos (starEach [.Name x p2] X.env)).any (·.1) = false := by rfl) :
    EE X B env os (.Call (.Name "isinstance" p1) [a, .Name x p2] [] pos) rBool (bnd w fun d => ret (k (tyD d))) :=
  PE.imp (pe_callB call_isi hg hm (by decide +kernel) (pa_cons ha (pa_cons (pe_bltn (v := .ty T) hgx hx hv rfl hn hd) pa_nil hs2) hs) (by decide) (by decide) hs hpl) fun σ H Q ⟨F, P, S, hw, kk⟩ => ⟨F, _, S, hw, fun d hd v F1 H1 S1 e1 ok =>
    ⟨v, .ty T, _, .type T, k (tyD d), rfl, .ty T, ty_D ok S1.fh, hk d, kk _ hd (.bl _) F1 H1 S1 e1 rfl⟩⟩
def tyInt (t : String) : Bool := t == "int" || t == "bool"
theorem kd_int {K : PySem.W.Frag} (d : PyData) : PySem.W.kitOne K (.type (tyD d)) (.type "int") = some (tyInt (tyD d)) := by
  cases d <;> (dsimp only [tyD]; exact kit_ty (by decide +kernel))
theorem kd_bool {K : PySem.W.Frag} (d : PyData) : PySem.W.kitOne K (.type (tyD d)) (.type "bool") = some (tyD d == "bool") := by
  cases d <;> (dsimp only [tyD]; exact kit_ty (by decide +kernel))
theorem kd_list {K : PySem.W.Frag} (d : PyData) : PySem.W.kitOne K (.type (tyD d)) (.type "list") = some (tyD d == "list") := by
  cases d <;> (dsimp only [tyD]; exact kit_ty (by decide +kernel))
theorem kd_tuple {K : PySem.W.Frag} (d : PyData) : PySem.W.kitOne K (.type (tyD d)) (.type "tuple") = some (tyD d == "tuple") := by
  cases d <;> (dsimp only [tyD]; exact kit_ty (by decide +kernel))
end
end Mi
namespace Mi
open PySem L2 Evl LamX
open PyProof.Rows (envOfC)
end Mi
namespace Mi
open PySem L2 Evl LamX
open PyProof.Rows (envOfC)
def LamsOk (F : Hp) (vs : List V) (Ds : List (LamD × Bool)) : Prop := Paired (fun v (D : LamD × Bool) => (rLam D.1 D.2).ok F v ()) vs Ds
theorem LamsOk.mono {F F' : Hp} (e : Ex F F') : ∀ {vs : List V} {Ds : List (LamD × Bool)}, LamsOk F vs Ds → LamsOk F' vs Ds := fun h => Paired.imp (fun v D => (rLam D.1 D.2).mono e) h
def rLamL (Ds : List (LamD × Bool)) : Rp Unit := ⟨fun F v _ => ∃ a vs, v = .ref a ∧ F a = some (.lst vs) ∧ vs.length ≤ sizeLine ∧ LamsOk F vs Ds, fun e ⟨a, vs, h1, h2, h3, h4⟩ => ⟨a, vs, h1, e _ _ h2, h3, h4.mono e⟩⟩
def oLams (Ds : List (LamD × Bool)) : Own := ⟨fun F o => ∃ vs, o = .lst vs ∧ vs.length ≤ sizeLine ∧ LamsOk F vs Ds, fun e ⟨vs, h1, h2, h3⟩ => ⟨vs, h1, h2, h3.mono e⟩⟩
def LL (X : Cx) (B : Bs) (env : Env) (os : Os) (es : List Expr) (Ds : List (LamD × Bool)) : Prop := PA X es fun σ H Q => ∃ F, Sit B F H σ env os ∧ ∀ vs F' H', Sit B F' H' σ env os → Ex F F' → LamsOk F' vs Ds → Q vs H'
section
variable {X : Cx} {B : Bs} {env : Env} {os : Os} {pos p : Pos} {e : Expr} {es : List Expr} {D : LamD} {df : Bool} {Ds : List (LamD × Bool)}
theorem ll_nil : LL X B env os [] [] := PA.imp pa_nil fun σ H Q ⟨F, S, k⟩ => k [] F H S (Ex.refl F) .nil
theorem ll_cons (h : EE X B env os e (rLam D df) (ret ())) (ht : LL X B env os es Ds) (hs : starEach (e :: es) X.env = (false, eval e X.env) :: starEach es X.env := by rfl) : LL X B env os (e :: es) ((D, df) :: Ds) :=
  PA.imp (pa_cons h ht hs) fun σ H Q ⟨F, S, k⟩ => ⟨F, fun _ => True, S, trivial, fun _ _ v F1 H1 S1 e1 ok1 => ⟨F1, S1, fun vs F2 H2 S2 e2 ok2 => k (v :: vs) F2 H2 S2 (e1.trans e2) (.cons ((rLam D df).mono e2 ok1) ok2)⟩⟩
theorem e_lams (h : LL X B env os es Ds) (hz : Ds.length ≤ sizeLine := by decide) : EE X B env os (.List es pos) (rLamL Ds) (ret ()) := PE.imp (pe_lst h) fun σ H Q ⟨F, P, S, hw, k⟩ => ⟨F, S, fun vs F' H' S' e' ok =>
  have hl : vs.length ≤ sizeLine := by rw [ok.length]; exact hz
  ⟨hl, fun p hp => by
    obtain ⟨F2, o, e2, h1, ⟨vs', h2, h3, h4⟩, S2⟩ := (S'.newOwn (ow := oLams Ds) hp ⟨vs, rfl, hl, ok⟩).freeze
    subst h2
    exact k () hw (.ref p) F2 _ S2 (e'.trans e2) ⟨p, vs', rfl, h1, h3, h4⟩⟩⟩
end
/-- each of them as a closure -/
theorem clos_ok {P : Program} {w : World} {K : PySem.W.Frag} {mg : Str → Option Value} {base : Heap} {tb : ETab} {k : Nat} {ρ : Type} {r : Rp ρ} {X : Cx} {s : Shared} {F H : Hp} {σ : L2.St} {B : Bs} {env : Env} {os : Os} {pins : List (Addr × Obj)} {v : V} {u : Unit} {Ds : List (LamD × Bool)} {wfs : List (W ρ)} (I : Inv X pins σ H s) (S : Sit B F H σ env os) (hv : (rLamL Ds).ok F v u)
    (hz : Paired (fun (D : LamD × Bool) (wf : W ρ) => ∀ v, (rLam D.1 D.2).ok F v () → (rClo P w K mg base tb k r).ok (addC (cellZ X s.heap) F) v wf) Ds wfs) : EnvOk (addC (cellZ X s.heap) F) [sv (rLst (rClo P w K mg base tb k r)) wfs] [some v] := by
  obtain ⟨a, vs, ev, hF, hl, hp⟩ := hv
  have na : cellZ X s.heap a = none := by
    cases z : cellZ X s.heap a with
    | none => rfl
    | some o =>
      obtain ⟨⟨y, h1⟩, _⟩ := cellZ_of z
      have := I.freeC y a h1
      rw [S.fh _ _ hF] at this
      cases this
  refine .cons ⟨v, rfl, a, vs, ev, (addC_none na).trans hF, hl, ?_⟩ .nil
  clear hl ev hF na
  induction hp generalizing wfs with
  | nil =>
    cases hz
    exact .nil
  | cons h t ih =>
    cases hz with
    | cons h2 t2 => exact .cons (h2 _ h) (ih t2)
section
variable {P : Program} {w : World} {K : PySem.W.Frag} {mg : Str → Option Value} {base : Heap} {k : Nat} {f : Addr} {fd : FuncData} {ps N : List Str} {ι ρ : Type} {args : ι → Env} {os : ι → Os} {wf : ι → W ρ} {ro : Rp ρ}
theorem fnWc {x qual : Str} {st : Stmt} {c : Addr} (F : Fun K x qual st f fd) (hfd : fd.code = .ref c) (S : FnScope N ps (defScope st)) (hl : ∀ i, (args i).length = ps.length)
    (body : ∀ (A : Around) (outer : List PySem.Env) (s : Shared) (H : Hp) (E : XK) (B : Bs) (i : ι), Room k (A.deeper (envOfC qual (defScope st) s.heap.objs.size f (.ref c))) → A.guards = some [] →
      BG (cxOf CX0 P w K mg base N qual (defScope st) f (.ref c) A outer s H E).nox B (entry (args i) (N.length - ps.length)) (os i) (defBody st) (pFn B (os i) ro) (wf i)) : FnG P w K mg base CX0 (k + 1) f fd ps (spW args os wf ro) := by
  obtain ⟨oc, od, kV, doc, pm, an, cdv, ct, osl, rfl, lk, hcd⟩ := F.ex
  have hfd : cdv = .ref c := hfd
  subst hfd
  refine ⟨spW_len hl, fun A outer s H args us vs Q E hgu hr e0 hb r hsp => ?_⟩
  have hln := spW_len hl _ _ _ _ hsp
  have hvl := hln
  obtain ⟨i, F0, P0, fh, he, ho, nd, hw, hk⟩ := hsp
  have hk0 : ∀ b o, base.get? b = some o → s.heap.get? b = some o := fun b o e => (e0.bs b o e).1
  have KX := e0.mod.kin.keeps hk0
  refine codeAny_call_function hr.depth (KX _ _ lk) rfl S.co S.gen rfl (PySem.W.codeRec_of KX hcd) (hb _ _ _ _ ?_)
  refine wpAny_newFunctionEnv_cells S.kind (fun ⟨n, v⟩ hy => ?_) fun env he' s1 x => ?_
  · rcases S.par n (List.of_mem_zip hy).1 with q | q
    · exact .inl q
    · exact .inr ⟨q, PySem.W.cellsFrom_some _ _ _ (.inl q)⟩
  subst he'
  refine ⟨(e0.mod.nolimit.keeps hk0).keeps x.toInCall.keep, codeAny_func ?_⟩
  have ht := body A outer s H E (bs0 F0 H (os i)) i (hr.deeper _) hgu
  have I := inv_start (CX := CX0) (E := E) S hr.hd e0 hln r x
  refine wpAny_mono (ht.nox.run [] s1 (L2.start N vs) H { nx := fun _ H' => Q .non H', rt := Q } I ⟨F0, P0, ⟨bs0_start fh ho, ?_, fun p hp => ?_, nd⟩, hw, fun y hy => ⟨fun v F' H' fn ow ok => hk y hy v F' H' fn ow ok, fun σ F' H' fn ow ok => hk y hy .non F' H' fn ow ok⟩⟩) (fun fl s' hs => ?_) fun e s' hs => hs
  · rw [← hvl]
    exact entry_ok he
  · obtain ⟨h1, o, h2, h3⟩ := ho p hp
    exact ⟨h1, ⟨o, h2, h3⟩, .inr (List.mem_map_of_mem hp)⟩
  cases fl with
  | ret u =>
    obtain ⟨v, σ', H', J, rv, q⟩ := hs
    exact ⟨v, H', J.os, J.bare, J.base, J.hok, rv, q⟩
  | next =>
    obtain ⟨σ', H', J, q⟩ := hs
    exact ⟨.non, H', J.os, J.bare, J.base, J.hok, rfl, q⟩
  | brk =>
    obtain ⟨_, _, _, q⟩ := hs
    exact False.elim q
  | cont =>
    obtain ⟨_, _, _, q⟩ := hs
    exact False.elim q
end
end Mi
namespace Mi
open PySem L2 Evl LamX
theorem lamBind0 {D : LamD} {ps : List Str} (h1 : ps = []) (h2 : ∀ (pm cv ct : Value), bindArgs (PySem.W.lmFn D.q D.params D.body D.scope D.cl .none pm cv ct) ⟨[], []⟩ = pure []) : LamBind D false ps := by
  unfold LamBind
  exact ⟨h1, h2⟩
theorem lamBind1 {D : LamD} {ps : List Str} (h1 : ps.length = 1) (h2 : ∀ (td : Addr) (pm cv ct : Value), ∃ k, bindArgs (PySem.W.lmFn D.q D.params D.body D.scope D.cl (.ref td) pm cv ct) ⟨[], []⟩ = seqItems? (.ref td) >>= k ∧ ∀ u, k (some #[u]) = pure (ps.zip [u])) : LamBind D true ps := by
  unfold LamBind
  exact ⟨h1, h2⟩
def hvsB (N ps : List Str) (vs : List Nat) : Bool := (List.range N.length).all fun i => ps.all fun p => N[i]? != some p || vs.contains i
theorem hvs_by {N ps : List Str} {vs : List Nat} (h : hvsB N ps vs = true) : ∀ p ∈ ps, ∀ i, N[i]? = some p → i ∈ vs := fun p hp i e => by
  unfold hvsB at h
  rw [List.all_eq_true] at h
  have hi : i < N.length := by
    rcases Nat.lt_or_ge i N.length with q | q
    · exact q
    · rw [List.getElem?_eq_none q] at e
      cases e
  have h1 := List.all_eq_true.mp (h i (List.mem_range.mpr hi)) p hp
  rw [e] at h1
  simpa using h1
theorem fm_nil {α : Type} {p : α → Prop} : ∀ x ∈ ([] : List α), p x := fun _ h => by cases h
theorem fm_cons {α : Type} {p : α → Prop} {a : α} {l : List α} (h : p a) (t : ∀ x ∈ l, p x) : ∀ x ∈ a :: l, p x := fun x hx => by
  rcases List.mem_cons.mp hx with e | e
  · rw [e]
    exact h
  · exact t x e
end Mi
namespace Mi
open PySem L2 Evl
section
variable {X : Cx} {B : Bs} {env : Env} {os : Os} {pos p : Pos} {α β γ ρ : Type} {s : Rp β} {t : Rp γ} {o e e2 : Expr} {k : Nat} {f C : Addr} {fd : FuncData} {ps : List Str} {m : Str} {fl : α → List (Str × Slot)} {ro : Rp ρ} {apos : Pos} {tb : ETab}
theorem e_la0 {c P : Addr} {params : Arguments} {body : Expr} {scope : Scope} (j : Nat) (TB : LamX.TabB X.base X.mg c P) (hcode : X.env.code = .ref c) (hj : os[j]? = some (P, oTab (X.env.qual ++ "<lambda>"))) (L : ∀ y ∈ scope.names, y.2 = .free → X.env.scope.names.lookup y.1 = some .cell ∨ X.env.scope.names.lookup y.1 = some .free) (h1 : params.defaults = [] := by rfl) (h2 : params.kw_defaults = [] := by rfl) :
    EE X B env os (.Lambda params body scope pos) (rLam ⟨X.env.qual ++ "<lambda>", params, body, scope, cloFrom X.env.cells scope.names []⟩ false) (ret ()) := e_lam0 j TB hcode hj L (by rw [defaultsOf_eq, h1, h2]; rfl)
theorem e_la1 {c P : Addr} {params : Arguments} {body : Expr} {scope : Scope} {dp : Pos} {di : Nat} (j : Nat) (TB : LamX.TabB X.base X.mg c P) (hcode : X.env.code = .ref c) (hj : os[j]? = some (P, oTab (X.env.qual ++ "<lambda>"))) (L : ∀ y ∈ scope.names, y.2 = .free → X.env.scope.names.lookup y.1 = some .cell ∨ X.env.scope.names.lookup y.1 = some .free) (h1 : params.defaults = [.Constant (.int 0) di dp] := by rfl) (h2 : params.kw_defaults = [] := by rfl) :
    EE X B env os (.Lambda params body scope pos) (rLam ⟨X.env.qual ++ "<lambda>", params, body, scope, cloFrom X.env.cells scope.names []⟩ true) (ret ()) := e_lam1 (di := di) (dp := dp) j TB hcode hj L (by rw [defaultsOf_eq, h1, h2]; rfl)
end
end Mi
namespace Mi
open PySem L2 Evl LamX
section
variable {X : Cx} {B : Bs} {env : Env} {os : Os} {tb : ETab} {ι ρ σ' : Type} {wf : List (W σ') × Unit → W ρ} {ro : Rp ρ} {r : Rp σ'} {k kc : Nat} {f : Addr} {fd : FuncData} {ps : List Str}
/-- f(x), x a name that holds a list of lambdas -/
theorem e_callL {x y : Str} {p1 p2 pos : Pos} {Ds : List (LamD × Bool)} {u : Unit} (j : Nat) (wfs : List (W σ')) (he : env[j]? = some (sv (rLamL Ds) u)) (G : FnOk X.prog X.w X.K X.mg X.base CX0 k f fd ps (spW (fun i : List (W σ') × Unit => [sv (rLst (rClo X.prog X.w X.K X.mg X.base tb kc r)) i.1]) (fun _ => []) wf ro)) (hr : Room k X.A) (hm : X.mg x = some (.ref f)) (hk : PySem.W.keepIn X.K (.ref f) = true) (hb : Binds X.K fd ps [])
    (hstk : X.stack = X.env :: X.outer) (hfr : X.env.frame = some X.env.locals) (hfn : ∀ x, X.fn x = true) (pl : PlR ro)
    (conv : ∀ (pins : List (Addr × Obj)) (σ : L2.St) (F H : Hp) (s : Shared), Inv X pins σ H s → Sit B F H σ env os → Paired (fun (D : LamD × Bool) (wf : W σ') => ∀ v, (rLam D.1 D.2).ok F v () → (rClo X.prog X.w X.K X.mg X.base tb kc r).ok (addC (cellZ X s.heap) F) v wf) Ds wfs)
    (hN : X.N[j]? = some y := by rfl) (hv : Vis X.env.scope y := by first | exact Or.inl rfl | exact Or.inr (Or.inl rfl) | exact Or.inr (Or.inr rfl)) (hd2 : (y == ("__debug__" : Str)) = false := by decide) (hcd : (y == ("__classdict__" : Str)) = false := by decide)
    (hg : Gl X x := by rfl) (hdb : (x == ("__debug__" : Str)) = false := by decide) (hs : starEach [Expr.Name y p2] X.env = (false, eval (Expr.Name y p2) X.env) :: starEach [] X.env := by rfl) (hpl : (backTo pos (starEach [] X.env)).any (·.1) = false := by rfl) :
    EE X B env os (.Call (.Name x p1) [.Name y p2] [] pos) ro (noX (wf (wfs, ()))) :=
  e_conv (e_callC (wfs, ()) G hr hm hk hb (e_name j he hN hv hd2 hcd) hstk hfr hfn pl (fun pins σ F H s v y I S ok => clos_ok I S ok (conv pins σ F H s I S)) hg hdb hs hpl) rfl
end
end Mi
namespace Mi
open PySem L2 Evl
def optW {α : Type} : Option α → W α
  | some x => ret x
  | none => fail
end Mi
namespace Mi
open PySem L2 Evl
theorem dpAll_paired {K : PySem.W.Frag} {F : Hp} : ∀ {ds : List PyData} {vs : List V}, DpAll K F vs ds → Paired (Dp K F) vs ds
  | [], _, h => by
    cases h
    exact .nil
  | d :: ds, _, h => by
    cases h with
    | cons h t => exact .cons h (dpAll_paired t)
theorem depthAll_mem : ∀ {ds : List PyData} {d : PyData}, d ∈ ds → d.depth ≤ PyData.depthAll ds
  | d :: ds, e, h => by
    rw [PyData.depthAll]
    rcases List.mem_cons.mp h with z | z
    · rw [z]
      omega
    · have := depthAll_mem z
      omega
def lenD : PyData → W Int
  | .str s => chk (s.length ≤ sizeLine) (ret (s.length : Int))
  | .list ds => ret (ds.length : Int)
  | .tuple ds => ret (ds.length : Int)
  | _ => fail
section
variable {X : Cx} {B : Bs} {env : Env} {os : Os} {pos p : Pos} {a b e : Expr} {rest : List Stmt} {α β : Type} {post : Post β}
theorem e_lenD {w : W PyData} (ha : EE X B env os a (rD X.K) w) (hm : X.mg "len" = none) (hg : Gl X "len" := by rfl) (he : starEach [a] X.env = (false, eval a X.env) :: starEach [] X.env := by rfl) (hpl : (backTo pos (starEach [] X.env)).any (·.1) = false := by rfl) :
    EE X B env os (.Call (.Name "len" p) [a] [] pos) rInt (bnd w lenD) :=
  PE.imp (pe_callB call_len hg hm PySem.boot_len (pa_cons ha pa_nil he) (by decide) (by decide) he hpl) fun σ H Q ⟨F, P, S, hw, kk⟩ => ⟨F, _, S, hw, fun d hd v F1 H1 S1 e1 ⟨ok, h2, h3⟩ => by
    have hd : lenD d P B.E0 := hd
    cases ok with
    | non => exact False.elim hd
    | bl b => exact False.elim hd
    | int i => exact False.elim hd
    | str x => exact ⟨_, x.length, rfl, ⟨hd.1, rfl⟩, kk _ hd.2 (.int _) F1 H1 S1 e1 rfl⟩
    | @lst a1 vs ds h t =>
      have hl := (dpAll_paired t).length
      refine ⟨_, ds.length, rfl, .inl ⟨vs, ex_l S1.fh h, hl.symm⟩, kk _ hd (.int _) F1 H1 S1 e1 rfl⟩
    | @tup a1 vs ds h t =>
      have hl := (dpAll_paired t).length
      refine ⟨_, ds.length, rfl, .inr ⟨vs, ex_t S1.fh h, hl.symm⟩, kk _ hd (.int _) F1 H1 S1 e1 rfl⟩⟩
/-- isinstance(e, (T1, T2)) -/
theorem e_isTD {w : W PyData} {x1 x2 : Str} {T1 T2 : String} {k : String → Bool} {p1 p2 p3 p4 : Pos} {kk0 : Nat} (hk : ∀ d, PySem.W.kitAny X.K (.type (tyD d)) [.type T1, .type T2] = some (k (tyD d))) (ha : EE X B env os a (rD X.K) w) (hm : X.mg "isinstance" = none) (hx1 : X.mg x1 = none) (hx2 : X.mg x2 = none)
    (hv1 : bootBuiltins x1 = some (.type T1) := by decide +kernel) (hn1 : x1 ≠ "__name__" := by decide) (hd1 : (x1 == ("__debug__" : Str)) = false := by decide) (hv2 : bootBuiltins x2 = some (.type T2) := by decide +kernel) (hn2 : x2 ≠ "__name__" := by decide) (hd2 : (x2 == ("__debug__" : Str)) = false := by decide)
    (hg : Gl X "isinstance" := by rfl) (hg1 : Gl X x1 := by rfl) (hg2 : Gl X x2 := by rfl) (hs : starEach [a, .Tuple [.Name x1 p2, .Name x2 p3] kk0 p4] X.env = (false, eval a X.env) :: starEach [.Tuple [.Name x1 p2, .Name x2 p3] kk0 p4] X.env := by rfl) (hs2 : starEach [.Tuple [.Name x1 p2, .Name x2 p3] kk0 p4] X.env = (false, eval (.Tuple [.Name x1 p2, .Name x2 p3] kk0 p4) X.env) :: starEach [] X.env := by rfl)
    (hs3 : starEach [.Name x1 p2, .Name x2 p3] X.env = (false, eval (.Name x1 p2) X.env) :: starEach [.Name x2 p3] X.env := by rfl) (hs4 : starEach [.Name x2 p3] X.env = (false, eval (.Name x2 p3) X.env) :: starEach [] X.env := by rfl) (hpl : (backTo pos (starEach [.Tuple [.Name x1 p2, .Name x2 p3] kk0 p4] X.env)).any (·.1) = false := by rfl) :
    EE X B env os (.Call (.Name "isinstance" p1) [a, .Tuple [.Name x1 p2, .Name x2 p3] kk0 p4] [] pos) rBool (bnd w fun d => ret (k (tyD d))) :=
  PE.imp (pe_callB call_isiT hg hm (by decide +kernel) (pa_cons ha (pa_cons (pe_tup (pa_cons (pe_bltn (v := .ty T1) hg1 hx1 hv1 rfl hn1 hd1) (pa_cons (pe_bltn (v := .ty T2) hg2 hx2 hv2 rfl hn2 hd2) pa_nil hs4) hs3)) pa_nil hs2) hs) (by decide) (by decide) hs hpl) fun σ H Q ⟨F, P, S, hw, kk⟩ => ⟨F, _, S, hw, fun d hd v F1 H1 S1 e1 ok => ⟨by show 2 ≤ sizeLine; decide, fun q hq => by
    have g : Grow F1 H1 (upd F1 q (.tup [.ty T1, .ty T2])) (upd H1 q (.tup [.ty T1, .ty T2])) := Grow.alloc S1.fh hq
    exact ⟨v, q, [.ty T1, .ty T2], _, [.type T1, .type T2], k (tyD d), rfl, upd_same, .cons (.ty T1) (.cons (.ty T2) .nil), ty_D ((rD X.K).mono g.f ok) (S1.grow g).fh, hk d, kk _ hd (.bl _) _ _ (S1.grow g) (e1.trans g.f) rfl⟩⟩⟩
end
end Mi
namespace Mi
open PySem L2 Evl
theorem kt_lt {K : PySem.W.Frag} (d : PyData) : PySem.W.kitAny K (.type (tyD d)) [.type "list", .type "tuple"] = some (tyD d == "list" || tyD d == "tuple") := by
  unfold PySem.W.kitAny PySem.W.kitAny PySem.W.kitAny
  rw [kd_list, kd_tuple]
  cases d <;> rfl
end Mi
namespace Mi
open PySem L2 Evl
end Mi
namespace Mi
open PySem L2 Evl
end Mi
namespace Mi
open PySem L2 Evl
end Mi
namespace Mi
open PySem L2 Evl
end Mi
namespace Mi
open PySem L2 Evl
end Mi
namespace Mi
open PySem L2 Evl
end Mi
namespace Mi
open PySem L2 Evl
theorem EnvOk.app {F : Hp} : ∀ {e e' : Env} {σ τ : L2.St}, EnvOk F e σ → EnvOk F e' τ → EnvOk F (e ++ e') (σ ++ τ)
  | _, _, _, _, .nil, h' => h'
  | _, _, _, _, .cons h t, h' => .cons h (EnvOk.app t h')
end Mi
namespace Mi
open PySem L2 Evl
def pick {α : Type} (ix : List Nat) (l : List α) : List α := ix.filterMap fun j => l[j]?
theorem Paired.pick {α β : Type} {R : α → β → Prop} {l : List α} {m : List β} (h : Paired R l m) : ∀ ix : List Nat, Paired R (Mi.pick ix l) (Mi.pick ix m)
  | [] => .nil
  | j :: ix => by
    have ih := Paired.pick h ix
    unfold Mi.pick at ih ⊢
    rw [List.filterMap_cons, List.filterMap_cons]
    cases e : m[j]? with
    | none =>
      have e2 : l[j]? = none := by
        rw [List.getElem?_eq_none_iff] at e ⊢
        rw [h.length]
        exact e
      rw [e2]
      exact ih
    | some y =>
      obtain ⟨x, h1, h2⟩ := Paired.get h e
      rw [h1]
      exact .cons h2 ih
theorem pick_map {α β : Type} (f : α → β) (l : List α) : ∀ ix : List Nat, pick ix (l.map f) = (pick ix l).map f
  | [] => rfl
  | j :: ix => by
    have ih := pick_map f l ix
    unfold pick at ih ⊢
    rw [List.filterMap_cons, List.filterMap_cons, List.getElem?_map]
    cases e : l[j]? with
    | none => exact ih
    | some y =>
      rw [Option.map_some, List.map_cons, ih]
/-- how a def binds: f0 values handed in ahead (self), n by place, those of the keywords ks, the written defaults dvs -/
def CB (K : PySem.W.Frag) (fd : FuncData) (ps : List Str) (f0 n : Nat) (ks : List Str) (ix : List Nat) (dvs : List V) : Prop :=
  ∃ ds : List Value, Vals dvs ds ∧ ∀ (s : Shared) (fs us ws : List Value), K.In s.heap → fs.length = f0 → us.length = n → ws.length = ks.length → BindsTo s fd ⟨fs ++ us, ks.zip ws⟩ (ps.zip (fs ++ pick ix (us ++ ws ++ ds)))
theorem CB.kbn {K : PySem.W.Frag} {fd : FuncData} {ps : List Str} {f0 n : Nat} {ks : List Str} {ix : List Nat} {dvs : List V} (h : CB K fd ps f0 n ks ix dvs) :
    ∃ g, KBn K fd ps (f0 + n) ks g fun vs zs => vs.take f0 ++ pick ix (vs.drop f0 ++ zs ++ dvs) := by
  obtain ⟨ds, rd, h⟩ := h
  refine ⟨fun us ws => us.take f0 ++ pick ix (us.drop f0 ++ ws ++ ds), ⟨fun s us ws X l1 l2 => ?_, fun r rz => (r.take f0).append (Paired.pick (((r.drop f0).append rz).append rd) ix)⟩⟩
  have z := h s (us.take f0) (us.drop f0) ws X (by rw [List.length_take]; omega) (by rw [List.length_drop]; omega) l2
  rwa [List.take_append_drop] at z
/-- the handing over -/
structure HA (X : Cx) (es : List Expr) (kws : List Keyword) (pos : Pos) (ks : List Str) (t : L2.St → Hp → (List V → List V → Hp → Prop) → Prop) : Prop where
  run : ∀ (pins : List (Addr × Obj)) (s : Shared) (σ : L2.St) (H : Hp) (Q : List V → List V → Hp → Prop) (f : Value) (first : List Value) (R : Value → Shared → Prop), PySem.W.keepIn X.K f = true → Inv X pins σ H s → t σ H Q →
    (∀ us ws vs zs H1 s1, Inv X pins σ H1 s1 → Vals vs us → Vals zs ws → Q vs zs H1 → wpAny (model X.prog X.w) X.A (call f (first ++ us) (ks.zip ws)) R X.xe s1) →
    wpAny (model X.prog X.w) X.A (callWith pos f first (backTo pos (starEach es X.env)) (backToKw pos (keywordEach kws X.env))) R X.xe s
def tHA (B : Bs) (env : Env) (os : Os) {κ : Type} (n m : Nat) (ar : κ → Env) (w : W κ) : L2.St → Hp → (List V → List V → Hp → Prop) → Prop := fun σ H Q => ∃ F P, Sit B F H σ env os ∧ w P B.E0 ∧ ∀ q, P q → ∀ vs zs F' H', Sit B F' H' σ env os → Ex F F' → vs.length = n → zs.length = m → EnvOk F' (ar q) ((vs ++ zs).map some) → Q vs zs H'
def HH (X : Cx) (B : Bs) (env : Env) (os : Os) (es : List Expr) (kws : List Keyword) (pos : Pos) (n : Nat) (ks : List Str) {κ : Type} (ar : κ → Env) (w : W κ) : Prop := HA X es kws pos ks (tHA B env os n ks.length ar w)
section
variable {X : Cx} {B : Bs} {env : Env} {os : Os} {pos p : Pos} {κ κ2 : Type} {e : Expr} {es : List Expr} {kws : List Keyword} {n : Nat} {ks : List Str} {ar : κ → Env} {ar2 : κ2 → Env}
theorem hh_none : HH X B env os [] [] pos 0 [] (fun _ : Unit => []) (ret ()) :=
  ⟨fun pins s σ H Q f first R hk I ⟨F, P, S, hw, k⟩ hq => PySem.W.callWith_K0 I.kIn hk (hq [] [] [] [] H s I .nil .nil (k () hw [] [] F H S (Ex.refl F) rfl rfl .nil))⟩
theorem hh_pos {w : W κ} (ha : AA X B env os (e :: es) ar w) (hn : ∀ q, (ar q).length = n) (he : starEach (e :: es) X.env = (false, eval e X.env) :: starEach es X.env := by rfl) (hpl : (backTo pos (starEach es X.env)).any (·.1) = false := by rfl) :
    HH X B env os (e :: es) [] pos n [] ar w :=
  ⟨fun pins s σ H Q f first R hk I ⟨F, P, S, hw, k⟩ hq => PySem.W.callWith_K (h₀ := X.base) I.ok.mod.kin hk (thn (ha.run pos pins s σ H (fun vs H1 => Q vs [] H1) I ⟨F, P, S, hw, fun q hq vs F1 H1 S1 e1 ok => by
    have l := ok.len
    rw [List.length_map, hn q] at l
    exact k q hq vs [] F1 H1 S1 e1 l.symm rfl (by rw [List.append_nil]; exact ok)⟩) fun us s1 ⟨vs, H1, I1, r, q⟩ => ⟨I1.kIn, hq us [] vs [] H1 s1 I1 r .nil q⟩) he hpl⟩
theorem hh_kw0 {w : W κ} (hkw : KK X B env os kws ar w) (hn : ∀ q, (ar q).length = ks.length) (hall : (backToKw pos (keywordEach kws X.env)).all (·.1.isSome) = true := by rfl) (hks : (backToKw pos (keywordEach kws X.env)).filterMap (·.1) = ks := by rfl)
    (hpl : ((backTo pos (starEach [] X.env)).any (·.1) || (backToKw pos (keywordEach kws X.env)).any (·.1.isNone)) = false := by rfl) : HH X B env os [] kws pos 0 ks ar w :=
  ⟨fun pins s σ H Q f first R hk I ⟨F, P, S, hw, k⟩ hq => PySem.W.callWith_KW0 (h₀ := X.base) I.ok.mod.kin hk hall (thn (hkw.run pos pins s σ H (fun zs H1 => Q [] zs H1) I ⟨F, P, S, hw, fun q hq zs F1 H1 S1 e1 ok => by
    have l := ok.len
    rw [List.length_map, hn q] at l
    exact k q hq [] zs F1 H1 S1 e1 rfl l.symm ok⟩) fun ws s1 ⟨zs, H1, I1, r, q⟩ => ⟨I1.kIn, by rw [hks]; exact hq [] ws [] zs H1 s1 I1 .nil r q⟩) hpl⟩
end
structure Res (ρ : Type) where
  k : ρ → Hp → L2.St → VK → Prop
  mono : ∀ {F F' : Hp} {x : ρ} {σ : L2.St} {Q : VK}, Ex F F' → k x F σ Q → k x F' σ Q
def resV (B : Bs) (env : Env) (os : Os) {ρ : Type} (r : Rp ρ) : Res ρ := ⟨fun x F σ Q => ∀ v F' H', Sit B F' H' σ env os → Ex F F' → r.ok F' v x → Q v H', fun e h v F' H' S e' => h v F' H' S (e.trans e')⟩
/-- a def's promise, read at a call -/
structure SpF (sp : Sp) (E : XK) (B : Bs) (env : Env) (os : Os) {ι ρ : Type} (args : ι → Env) (wf : ι → W ρ) (R : Res ρ) : Prop where
  ok : ∀ {F H : Hp} {σ : L2.St} {vs : List V} {i : ι} {P : ρ → Prop} {Q : VK}, Sit B F H σ env os → EnvOk F (args i) (vs.map some) → wf i P B.E0 → (∀ z, P z → R.k z F σ Q) → sp vs H Q E
section
variable {X : Cx} {B : Bs} {env : Env} {os : Os} {tb : ETab} {ι ρ α : Type} {args : ι → Env} {osf : ι → Os} {wf : ι → W ρ} {ro : Rp ρ}
theorem spf_W (ho : ∀ i, OsLe os (osf i)) (hnd : ∀ i, ((osf i).map (·.1)).Nodup) : SpF (spW args osf wf ro) E0 B env os args (fun i => noX (wf i)) (resV B env os ro) :=
  ⟨fun {F H σ vs i P Q} S ok hw k => ⟨i, F, P, S.fh, ok, fun p hp => by
    obtain ⟨h1, h2, _⟩ := S.ow p (ho i p hp)
    exact ⟨h1, h2⟩, hnd i, hw, fun y hy v F2 H2 fn ow okv => k y hy v F2 H2 (S.back (ho i) fn ow) fn.bf okv⟩⟩
theorem spf_W0 : SpF (spW args (fun _ => []) wf ro) E0 B env os args (fun i => noX (wf i)) (resV B env os ro) := spf_W (fun _ => OsLe.none) fun _ => List.nodup_nil
theorem spf_X (ho : ∀ i, OsLe os (osf i)) (hnd : ∀ i, ((osf i).map (·.1)).Nodup) : SpF (spX X.K tb args osf wf ro) (eB X.K tb B) B env os args wf (resV B env os ro) :=
  ⟨fun {F H σ vs i P Q} S ok hw k => ⟨i, F, P, B.E0, S.fh, ok, fun p hp => by
    obtain ⟨h1, h2, _⟩ := S.ow p (ho i p hp)
    exact ⟨h1, h2⟩, hnd i, hw, fun y hy v F2 H2 fn ow okv => k y hy v F2 H2 (S.back (ho i) fn ow) fn.bf okv, fun e he cls d F2 H2 fn er => ⟨e, F2, he, S.backE (ho i) fn, er⟩⟩⟩
theorem spf_X0 : SpF (spX X.K tb args (fun _ => []) wf ro) (eB X.K tb B) B env os args wf (resV B env os ro) := spf_X (fun _ => OsLe.none) fun _ => List.nodup_nil
end
section
variable {X : Cx} {CX : CXT} {B : Bs} {env : Env} {os : Os} {pos p apos : Pos} {ι κ ρ α β : Type} {e o : Expr} {es : List Expr} {kws : List Keyword} {n k : Nat} {ks : List Str} {ix : List Nat} {dvs : List V} {dfl : Env} {ar : κ → Env} {f C pa : Addr} {fd : FuncData} {ps : List Str} {sp : Sp} {E : XK} {x m : Str} {R : Res ρ} {args : ι → Env} {wf : ι → W ρ} {conv : κ → ι} {mc : Value}
def ER (X : Cx) (B : Bs) (env : Env) (os : Os) (e : Expr) {ρ : Type} (R : Res ρ) (w : W ρ) : Prop := PE X e fun σ H Q => ∃ F P, Sit B F H σ env os ∧ w P B.E0 ∧ ∀ x, P x → R.k x F σ Q
theorem er_V {r : Rp ρ} {w : W ρ} (h : ER X B env os e (resV B env os r) w) : EE X B env os e r w := h
theorem env_pick {F : Hp} {vs zs : List V} {q : κ} (ok : EnvOk F (ar q) ((vs ++ zs).map some)) (hd : ∀ F, EnvOk F dfl (dvs.map some)) : EnvOk F (pick ix (ar q ++ dfl)) ((pick ix (vs ++ zs ++ dvs)).map some) := by
  rw [← pick_map, List.map_append]
  exact Paired.pick (EnvOk.app ok (hd F)) ix
/-- f(..) -/
theorem e_callZ {w : W κ} (G : FnOk X.prog X.w X.K X.mg X.base CX k f fd ps sp) (hx : Passes CX X E) (hs : SpF sp E B env os args wf R) (hr : Room k X.A) (hm : X.mg x = some (.ref f)) (hk : PySem.W.keepIn X.K (.ref f) = true) (hb : CB X.K fd ps 0 n ks ix dvs) (hd : ∀ F, EnvOk F dfl (dvs.map some))
    (hh : HH X B env os es kws pos n ks ar w) (hc : ∀ q, args (conv q) = pick ix (ar q ++ dfl)) (hg : Gl X x := by rfl) (hdb : (x == ("__debug__" : Str)) = false := by decide) :
    ER X B env os (.Call (.Name x p) es kws pos) R (bnd w fun q => wf (conv q)) := by
  refine ⟨fun pins s σ H Q I ⟨F, P, S, hw, kk⟩ => ?_⟩
  refine wpAny_Call_Name_kw (ld_glob I hg hm ?_ hdb)
  obtain ⟨g, hb⟩ := hb.kbn
  refine hh.run pins s σ H (fun vs zs H1 => vs.length = n ∧ zs.length = ks.length ∧ sp (pick ix (vs ++ zs ++ dvs)) H1 Q E) (.ref f) [] _ hk I ⟨F, _, S, hw, fun q hq vs zs F1 H1 S1 e1 l1 l2 ok => ⟨l1, l2, hs.ok S1 (i := conv q) (by rw [hc q]; exact env_pick ok hd) hq fun z hz => R.mono e1 (kk z hz)⟩⟩ fun us ws vs zs H1 s1 I1 r rz ⟨l1, l2, q⟩ => ?_
  rw [show 0 + n = n from Nat.zero_add n] at hb
  exact run_fnN G hr hb hx I1 r rz l1 l2 q
/-- o.m(..) -/
theorem e_methZ {args : α × ι → Env} {wf : α × ι → W ρ} {fl : α → List (Str × Slot)} {w1 : W α} {w2 : α → W κ} {pl : Sem Bool} (G : FnOk X.prog X.w X.K X.mg X.base CX k f fd ps sp) (hx : Passes CX X E) (hs : SpF sp E B env os args wf R) (hr : Room k X.A) (cl : Cls X.K C) (hm : Meth X.K C m f) (hb : CB X.K fd ps 1 n ks ix dvs) (hd : ∀ F, EnvOk F dfl (dvs.map some))
    (ho : EE X B env os o (rObj C fl) w1) (hh : ∀ x, HH X B env os es kws pos n ks ar (w2 x)) (hc : ∀ x q, args (x, conv q) = sv (rObj C fl) x :: pick ix (ar q ++ dfl)) (hn : ∀ x, (fl x).lookup m = none := by exact fun _ => rfl)
    (ht : eval (.Call (.Attribute o m apos) es kws pos) X.env = (do
      let ov ← eval o X.env
      standAt apos.atName
      let (f, first) ← holding [ov] (getMethod ov m pl)
      callWith pos f first (backTo pos (starEach es X.env)) (backToKw pos (keywordEach kws X.env))) := by rfl) :
    ER X B env os (.Call (.Attribute o m apos) es kws pos) R (bnd w1 fun x => bnd (w2 x) fun q => wf (x, conv q)) := by
  refine ⟨fun pins s σ H Q I ⟨F, P, S, hw, kk⟩ => ?_⟩
  refine PySem.W.methodCall_KW (pl := pl) (thn (ho.run pins s σ H (fun v H1 => ∃ x F1, Sit B F1 H1 σ env os ∧ Ex F F1 ∧ (rObj C fl).ok F1 v x ∧ (bnd (w2 x) fun i => wf (x, conv i)) P B.E0) I ⟨F, _, S, hw, fun x hx v F1 H1 S1 e1 ok => ⟨x, F1, S1, e1, ok, hx⟩⟩) fun u s1 ⟨v, H1, I1, rx, x, F1, S1, e1, ⟨y, dx, fs, ev, hy, hf⟩, hx1⟩ => ?_) ht
  subst ev
  obtain rfl : u = Value.ref y := rx
  refine getmeth_ok I1 (S1.fh _ _ hy) cl hm (hf.none (hn x)) ?_
  obtain ⟨g, hb⟩ := hb.kbn
  refine (hh x).run pins s1 σ H1 (fun vs zs H2 => vs.length = n ∧ zs.length = ks.length ∧ sp (.ref y :: pick ix (vs ++ zs ++ dvs)) H2 Q E) (.ref f) [.ref y] _ hm.kp I1 ⟨F1, _, S1, hx1, fun q hq vs zs F2 H2 S2 e2 l1 l2 ok => ⟨l1, l2, hs.ok S2 (i := (x, conv q)) (by
    rw [hc x q]
    exact .cons ⟨_, rfl, y, dx, fs, rfl, e2 _ _ hy, hf.mono e2⟩ (env_pick ok hd)) hq fun z hz => R.mono (e1.trans e2) (kk z hz)⟩⟩ fun us ws vs zs H2 s2 I2 r rz ⟨l1, l2, q⟩ => ?_
  exact run_fnN (us := .ref y :: us) (vs := .ref y :: vs) G hr hb hx I2 (.cons rfl r) rz (by rw [List.length_cons, l1]; omega) l2 q
end
structure SpM (sp : Sp) (E : XK) (B : Bs) (env : Env) (os : Os) (C : Addr) {ι ρ : Type} (args : ι → Env) (wf : ι → W ρ) (fl : ρ → List (Str × Slot)) : Prop where
  ok : ∀ {F H : Hp} {σ : L2.St} {vs : List V} {i : ι} {P : ρ → Prop} {Q : VK}, Sit B F H σ env os → EnvOk F (args i) (vs.map some) → wf i P B.E0 → (∀ z, P z → ∀ v F' H', Sit B F' H' σ env os → Ex F F' → (rObj C fl).ok F' v z → Q v H') →
    ∀ x dx, H x = none → H dx = none → dx ≠ x → sp (.ref x :: vs) (upd (upd H dx (.own x)) x (.ins C dx [])) (fun v H2 => v = .non ∧ Q (.ref x) H2) E
section
variable {X : Cx} {CX : CXT} {B : Bs} {env : Env} {os : Os} {tb : ETab} {pos p : Pos} {ι κ ρ : Type} {es : List Expr} {kws : List Keyword} {n k : Nat} {ks : List Str} {ix : List Nat} {dvs : List V} {dfl : Env} {ar : κ → Env} {f C : Addr} {fd : FuncData} {ps : List Str} {sp : Sp} {E : XK} {x : Str} {args : ι → Env} {wf : ι → W ρ} {conv : κ → ι} {fl : ρ → List (Str × Slot)}
theorem spm_W : SpM (spI C args wf fl) E0 B env os C args (fun i => noX (wf i)) fl := ⟨fun {F H σ vs i P Q} S ok hw k x dx hx hdx hne => by
  have g : Grow F H (upd F dx (.own x)) (upd H dx (.own x)) := Grow.alloc S.fh hdx
  have S1 := S.grow g
  have hx1 : upd H dx (.own x) x = none := by rw [upd_ne (Ne.symm hne)]; exact hx
  have S2 := S1.newOwn (o := .ins C dx []) (ow := oObj C []) hx1 ⟨dx, [], rfl, .nil⟩
  refine ⟨i, upd F dx (.own x), P, x, dx, vs, rfl, S2.fh, ?_, upd_same, ok.mono g.f, hw, fun r hr F' H' fn ow => ⟨rfl, ?_⟩⟩
  · exact (S2.ow (x, oObj C []) List.mem_cons_self).1
  · obtain ⟨F2, o, e2, h1, ⟨dx', vs', h2, h3⟩, S4⟩ := (S2.backI fn ow).freeze
    subst h2
    exact k r hr (.ref x) F2 H' S4 ((g.f.trans fn.bf).trans e2) ⟨x, dx', vs', rfl, h1, h3⟩⟩
theorem spm_X : SpM (spIX X.K tb C args wf fl) (eB X.K tb B) B env os C args wf fl := ⟨fun {F H σ vs i P Q} S ok hw k x dx hx hdx hne => by
  have g : Grow F H (upd F dx (.own x)) (upd H dx (.own x)) := Grow.alloc S.fh hdx
  have S1 := S.grow g
  have hx1 : upd H dx (.own x) x = none := by rw [upd_ne (Ne.symm hne)]; exact hx
  have S2 := S1.newOwn (o := .ins C dx []) (ow := oObj C []) hx1 ⟨dx, [], rfl, .nil⟩
  refine ⟨i, upd F dx (.own x), P, B.E0, x, dx, vs, rfl, S2.fh, ?_, upd_same, ok.mono g.f, hw, fun r hr F' H' fn ow => ⟨rfl, ?_⟩, fun e he cls d F' H' fn er => ⟨e, F', he, S2.backEI (S1.fin.fresh hx1) fn, er⟩⟩
  · exact (S2.ow (x, oObj C []) List.mem_cons_self).1
  · obtain ⟨F2, o, e2, h1, ⟨dx', vs', h2, h3⟩, S4⟩ := (S2.backI fn ow).freeze
    subst h2
    exact k r hr (.ref x) F2 H' S4 ((g.f.trans fn.bf).trans e2) ⟨x, dx', vs', rfl, h1, h3⟩⟩
/-- C(..) -/
theorem e_makeZ {w : W κ} (M : Mk X.K C f) (G : FnOk X.prog X.w X.K X.mg X.base CX k f fd ps sp) (hx : Passes CX X E) (hs : SpM sp E B env os C args wf fl) (hr : Room (k + 1) X.A) (hm : X.mg x = some (.ref C)) (hb : CB X.K fd ps 1 n ks ix dvs) (hd : ∀ F, EnvOk F dfl (dvs.map some))
    (hh : HH X B env os es kws pos n ks ar w) (hc : ∀ q, args (conv q) = pick ix (ar q ++ dfl)) (hg : Gl X x := by rfl) (hdb : (x == ("__debug__" : Str)) = false := by decide) :
    EE X B env os (.Call (.Name x p) es kws pos) (rObj C fl) (bnd w fun q => wf (conv q)) := by
  refine ⟨fun pins s σ H Q I ⟨F, P, S, hw, kk⟩ => ?_⟩
  refine wpAny_Call_Name_kw (ld_glob I hg hm ?_ hdb)
  obtain ⟨g, hb⟩ := hb.kbn
  rw [show 1 + n = n + 1 from Nat.add_comm 1 n] at hb
  refine hh.run pins s σ H (fun vs zs H1 => vs.length = n ∧ zs.length = ks.length ∧ ∀ x dx, H1 x = none → H1 dx = none → dx ≠ x → sp (.ref x :: pick ix (vs ++ zs ++ dvs)) (upd (upd H1 dx (.own x)) x (.ins C dx [])) (fun v H2 => v = .non ∧ Q (.ref x) H2) E) (.ref C) [] _ M.kp I ⟨F, _, S, hw, fun q hq vs zs F1 H1 S1 e1 l1 l2 ok => ⟨l1, l2, hs.ok S1 (i := conv q) (by rw [hc q]; exact env_pick ok hd) hq fun z hz v F' H' S' e' ok' => kk z hz v F' H' S' (e1.trans e') ok'⟩⟩ fun us ws vs zs H1 s1 I1 r rz ⟨l1, l2, q⟩ => ?_
  exact run_makeN M G hr hb hx I1 r rz l1 l2 q
end
/-- the words of a def, whatever its defaults -/
structure FunE (K : PySem.W.Frag) (x qual : Str) (st : Stmt) (f : Addr) (fd : FuncData) : Prop where
  ex : ∃ (oc : Value) (od : Option Addr) (dV kV doc pm : Value) (an : Option Addr) (cdv ct : Value) (osl : Array (Option Value)),
    fd = PySem.W.fnOf x qual (defArgs st) (defBody st) (defScope st) dV kV doc pm an cdv ct ∧ K.lookup f = some ⟨oc, od, .func fd, osl⟩ ∧ PySem.W.codeIn K cdv qual = true
  kp : PySem.W.keepIn K (.ref f) = true
theorem cb_of {K : PySem.W.Frag} {fd : FuncData} {ps : List Str} {f0 n : Nat} {ks : List Str} {ix : List Nat} (h : ∀ fs us ws : List Value, fs.length = f0 → us.length = n → ws.length = ks.length → bindArgs fd ⟨fs ++ us, ks.zip ws⟩ = pure (ps.zip (fs ++ pick ix (us ++ ws ++ [])))) : CB K fd ps f0 n ks ix [] :=
  ⟨[], .nil, fun s fs us ws _ h0 h1 h2 => .of_eq (h fs us ws h0 h1 h2)⟩
end Mi
namespace Mi
open PySem L2 Evl
open PyProof.Rows (envOfC Call_ boot_enumerate)
def rDk (K : PySem.W.Frag) (n : Nat) : Rp PyData := ⟨fun F v d => (rD K).ok F v d ∧ d.depth ≤ n, fun e h => ⟨(rD K).mono e h.1, h.2⟩⟩
theorem dd_Dk {K : PySem.W.Frag} {n : Nat} : DD K (rDk K n) id n := ⟨fun h => ⟨h.1.1, h.1.2.1, h.2⟩⟩
section
variable {X : Cx} {B : Bs} {env : Env} {os : Os} {pos p : Pos} {α β γ : Type} {r : Rp α} {s : Rp β} {f : α → PyData} {n m : Nat} {a b c e tg : Expr} {es : List Expr}
theorem e_upD {w : W PyData} (h : EE X B env os e (rDk X.K n) w) : EE X B env os e (rD X.K) w := PE.imp h fun σ H Q ⟨F, P, S, hw, k⟩ => ⟨F, P, S, hw, fun d hd v F' H' S' e' ok => k d hd v F' H' S' e' ok.1⟩
theorem dk_of (d : DD X.K r f n) (hn : n ≤ m) (h3 : m ≤ 30) {F : Hp} {v : V} {x : α} (ok : r.ok F v x) : (rDk X.K m).ok F v (f x) := ⟨⟨(d.ok ok).1, (d.ok ok).2.1, Nat.le_trans (d.ok ok).2.2 (Nat.le_trans hn h3)⟩, Nat.le_trans (d.ok ok).2.2 hn⟩
theorem e_toDk {w : W α} (d : DD X.K r f n) (h : EE X B env os e r w) (hn : n ≤ m := by decide) (h3 : m ≤ 30 := by decide) : EE X B env os e (rDk X.K m) (bnd w fun x => ret (f x)) := e_map (s := rDk X.K m) (fun ok => dk_of d hn h3 ok) h
end
section
variable {X : Cx} {B : Bs} {env : Env} {os : Os} {pos p : Pos} {α β γ : Type} {r : Rp α} {s : Rp β} {f : α → PyData} {n : Nat} {a b c e tg : Expr}
theorem lst_map {g : α → β} (hg : ∀ {F v x}, r.ok F v x → s.ok F v (g x)) {F : Hp} {v : V} {xs : List α} (h : (rLst r).ok F v xs) : (rLst s).ok F v (xs.map g) := by
  obtain ⟨p, vs, e1, h1, h2, h3⟩ := h
  refine ⟨p, vs, e1, h1, h2, ?_⟩
  clear e1 h1 h2
  induction h3 with
  | nil => exact .nil
  | cons h t ih => exact .cons (hg h) ih
/-- a list of things as a list of data -/
theorem e_lstD {w : W (List α)} (d : DD X.K r f n) (h : EE X B env os e (rLst r) w) (hn : n ≤ 30 := by decide) : EE X B env os e (rLst (rD X.K)) (bnd w fun xs => ret (xs.map f)) :=
  e_map (s := rLst (rD X.K)) (fun ok => lst_map (s := rD X.K) (fun ok => ⟨(d.ok ok).1, (d.ok ok).2.1, Nat.le_trans (d.ok ok).2.2 hn⟩) ok) h
theorem e_lstDk {w : W (List α)} {m : Nat} (d : DD X.K r f n) (h : EE X B env os e (rLst r) w) (hn : n ≤ m := by decide) (h3 : m ≤ 30 := by decide) : EE X B env os e (rLst (rDk X.K m)) (bnd w fun xs => ret (xs.map f)) :=
  e_map (s := rLst (rDk X.K m)) (fun ok => lst_map (s := rDk X.K m) (fun ok => dk_of d hn h3 ok) ok) h
end
section
variable {X : Cx} {B : Bs} {env : Env} {os : Os} {pos p : Pos} {α β γ : Type} {r : Rp α} {s : Rp β} {a b c e tg : Expr}
def seqD : PyData → W (List PyData)
  | .list ds => chk (ds.length ≤ sizeLine) (ret ds)
  | .tuple ds => chk (ds.length ≤ sizeLine) (ret ds)
  | _ => fail
def iLT (K : PySem.W.Frag) (te : TE) : TI := fun σ H R => te σ H fun x H1 => ∃ a, x = .ref a ∧ (((∃ xs, SqL K H1 a xs) ∧ R (Itl K a) H1) ∨ ((∃ xs, SqT K H1 a xs) ∧ R (Itt K a) H1))
theorem pi_LT {l : Expr} {tl : TE} (hl : PE X l tl) : PI X tg l (iLT X.K tl) := by
  refine ⟨fun pins s σ H R I h => ?_⟩
  refine thn (hl.run pins s σ H _ I h) fun v s1 ⟨x, H1, I1, r1, q1⟩ => ?_
  obtain ⟨a, e, q⟩ := q1
  subst e
  cases r1
  rcases q with ⟨⟨xs, hq⟩, q⟩ | ⟨⟨xs, hq⟩, q⟩
  · obtain ⟨its, rv, p, hz⟩ := I1.list hq
    refine wpAny_pyIter_list p.isList ?_
    refine ⟨s1.heap.objs.size, [s1.heap.objs.size], _, _, H1, rfl, I1.kept (t' := s1.toks) fun b o e => Heap.get?_push_of_some _ e, turn_list a _, ⟨_, Heap.get?_push_size _ rfl, rfl, rfl⟩, fun b hb => ?_, q⟩
    have e : b = s1.heap.objs.size := by simpa using hb
    subst e
    exact I1.fpOk (Nat.le_refl _) (I1.hok.fresh (Nat.le_refl _))
  · obtain ⟨its, rv, p, hz⟩ := I1.tuple hq
    refine wpAny_pyIter_tuple (show s1.heap.IsTuple a its.toArray from p) ?_
    refine ⟨s1.heap.objs.size, [s1.heap.objs.size], _, _, H1, rfl, I1.kept (t' := s1.toks) fun b o e => Heap.get?_push_of_some _ e, turn_tuple a _, ⟨_, Heap.get?_push_size _ rfl, rfl, rfl⟩, fun b hb => ?_, q⟩
    have e : b = s1.heap.objs.size := by simpa using hb
    subst e
    exact I1.fpOk (Nat.le_refl _) (I1.hok.fresh (Nat.le_refl _))
theorem rD_item {K : PySem.W.Frag} {F F' : Hp} {vs : List V} {ds : List PyData} {i : Nat} {v : V} {d : PyData} (e : Ex F F') (h : Paired (Dp K F) vs ds) (hc : PyData.canLayAll0 ds = true) (hp : PyData.depthAll ds ≤ 29) (hv : vs[i]? = some v) (hd : ds[i]? = some d) : (rD K).ok F' v d := by
  have hm := List.mem_of_getElem? hd
  obtain ⟨u, h1, h2⟩ := Paired.get h hd
  rw [h1] at hv
  cases hv
  exact (rD K).mono e ⟨h2, PyData.canLay0_of_mem _ _ hc hm, Nat.le_trans (depthAll_mem hm) (by omega)⟩
theorem walks_L {K : PySem.W.Frag} {F : Hp} {p : Addr} {vs : List V} {ds : List PyData} (h1 : SqL K F p vs) (t : Paired (Dp K F) vs ds) (hc : PyData.canLayAll0 ds = true) (hp : PyData.depthAll ds ≤ 29) : Walks (Itl K p) F (rD K) ds :=
  ⟨fun i F1 H1 x1 x2 hi => ⟨vs, vs[i]'(by rw [t.length]; exact hi), ex_l x2 (ex_l x1 h1), List.getElem?_eq_getElem _⟩, fun i F1 H1 u H2 x x1 x2 y hx => by
    obtain ⟨e2, y⟩ := y
    subst e2
    exact ⟨F1, Grow.refl x2, rD_item x1 t hc hp (y vs (ex_l x2 (ex_l x1 h1))) hx⟩, fun i F1 H1 x1 x2 hi => ⟨vs, ex_l x2 (ex_l x1 h1), by rw [t.length]; exact hi⟩⟩
theorem walks_T {K : PySem.W.Frag} {F : Hp} {p : Addr} {vs : List V} {ds : List PyData} (h1 : SqT K F p vs) (t : Paired (Dp K F) vs ds) (hc : PyData.canLayAll0 ds = true) (hp : PyData.depthAll ds ≤ 29) : Walks (Itt K p) F (rD K) ds :=
  ⟨fun i F1 H1 x1 x2 hi => ⟨vs, vs[i]'(by rw [t.length]; exact hi), ex_t x2 (ex_t x1 h1), List.getElem?_eq_getElem _⟩, fun i F1 H1 u H2 x x1 x2 y hx => by
    obtain ⟨e2, y⟩ := y
    subst e2
    exact ⟨F1, Grow.refl x2, rD_item x1 t hc hp (y vs (ex_t x2 (ex_t x1 h1))) hx⟩, fun i F1 H1 x1 x2 hi => ⟨vs, ex_t x2 (ex_t x1 h1), by rw [t.length]; exact hi⟩⟩
theorem s_seqD {w : W PyData} (h : EE X B env os e (rD X.K) w) : ES X B env os tg e (rD X.K) (bnd w seqD) := PI.imp (pi_LT h) fun σ H R ⟨F, P, S, hw, k⟩ => ⟨F, _, S, hw, fun d hd v F' H' S' e' ⟨ok, c, dp⟩ => by
  have hd : seqD d P B.E0 := hd
  cases ok with
  | non => exact False.elim hd
  | bl b => exact False.elim hd
  | int i => exact False.elim hd
  | str x => exact False.elim hd
  | @lst p vs ds h t =>
    rw [PyData.depth] at dp
    have t := dpAll_paired t
    exact ⟨p, rfl, .inl ⟨⟨vs, ex_l S'.fh h⟩, k ds hd.2 _ F' H' S' e' (walks_L h t (by simpa only [PyData.canLay0] using c) (by omega)) hd.1⟩⟩
  | @tup p vs ds h t =>
    rw [PyData.depth] at dp
    have t := dpAll_paired t
    exact ⟨p, rfl, .inr ⟨⟨vs, ex_t S'.fh h⟩, k ds hd.2 _ F' H' S' e' (walks_T h t (by simpa only [PyData.canLay0] using c) (by omega)) hd.1⟩⟩⟩
theorem enum_at {ds : List α} {i : Nat} {z : Int × α} (h : ((rangeI 0 (ds.length : Int)).zip ds)[i]? = some z) : z.1 = (i : Int) ∧ ds[i]? = some z.2 := by
  obtain ⟨z1, z2⟩ := z
  have hz' := List.getElem?_zip_eq_some.mp h
  refine ⟨?_, hz'.2⟩
  have h := hz'.1
  unfold rangeI at h
  rw [List.getElem?_map] at h
  obtain ⟨m, hm, em⟩ := Option.map_eq_some_iff.mp h
  rw [List.getElem?_range (by have := (List.getElem?_eq_some_iff.mp hm).1; simpa using this)] at hm
  have := Option.some.inj hm
  show z1 = _
  omega
theorem enum_len {ds : List α} : ((rangeI 0 (ds.length : Int)).zip ds).length = ds.length := by
  have lr : (rangeI 0 (ds.length : Int)).length = ds.length := by rw [rangeI_len]; omega
  rw [List.length_zip, lr]
  exact Nat.min_self _
end
section
variable {P : Program} {w : World} {K : PySem.W.Frag} {mg : Str → Option Value} {base : Heap} {tb : ETab} {k : Nat} {f C : Addr} {fd : FuncData} {ps N : List Str} {ι ρ : Type} {args : ι → Env} {os : ι → Os} {wf : ι → W ρ} {ro : Rp ρ} {fl : ρ → List (Str × Slot)}
theorem FunE.ok {CX : CXT} {x qual : Str} {st : Stmt} {sp : Sp} (F : FunE K x qual st f fd) (S : FnScope N ps (defScope st)) (len : ∀ vs H Q E, sp vs H Q E → vs.length = ps.length)
    (hbody : ∀ (cdv : Value) (A : Around) (outer : List PySem.Env) (s : Shared) (H : Hp) (vs : List V) (Q : VK) (E : XK), Room k (A.deeper (envOfC qual (defScope st) s.heap.objs.size f cdv)) → sp vs H Q E →
      ∃ t, PSs (cxOf CX P w K mg base N qual (defScope st) f cdv A outer s H E) (defBody st) t ∧ t { nx := fun _ H' => Q .non H', rt := Q } (L2.start N vs) H) : FnOk P w K mg base CX (k + 1) f fd ps sp := by
  obtain ⟨oc, od, dV, kV, doc, pm, an, cdv, ct, osl, rfl, lk, hcd⟩ := F.ex
  exact fn_of lk hcd S len fun A outer s H vs Q E hr hsp => hbody cdv A outer s H vs Q E hr hsp
end
section
variable {X : Cx} {B : Bs} {env : Env} {os : Os} {ρ : Type} {r : Rp ρ} {K : PySem.W.Frag} {tb : ETab} {k : Nat} {P : Program} {w : World} {mg : Str → Option Value} {base : Heap}
theorem clo1_ok {s : Shared} {F : Hp} {v : V} {u : Unit} {D : LamD} {df : Bool} {wf : W ρ} (hv : (rLam D df).ok F v u) (hz : ∀ v, (rLam D df).ok F v () → (rClo P w K mg base tb k r).ok (addC (cellZ X s.heap) F) v wf) : EnvOk (addC (cellZ X s.heap) F) [sv (rClo P w K mg base tb k r) wf] [some v] := .cons ⟨v, rfl, hz v hv⟩ .nil
end
end Mi
namespace Mi
open PySem L2 Evl
end Mi
namespace Mi
open PySem L2 Evl
end Mi
namespace Mi
open PySem L2 Evl NdefX
open PyProof.Rows (envOfC)
open PySem.Builtin.ObjectAttr PySem.Builtin
/-- a builtin exception at the foot: its name, those of its __new__ and __init__, its mro -/
structure Foot (nameB newB initB : String) (tl : List Value) : Prop where
  base : PySem.ExcBaseFacts nameB newB initB tl
  lets : ∀ me : Value, refuseLoop me "__setattr__" tl = pure ()
  objT : tl.contains (Value.type "object") = true
  kxs : PySem.W.KxsFacts nameB initB
  nmW : (nameB == "type") = false
theorem foot_value : Foot "ValueError" "ValueError.__new__" "ValueError.__init__" PySem.HandSPX.veTail := ⟨F.excBase_ValueError, fun me => F.store_ValueError.passes me, by decide +kernel, PySem.W.kxs_ValueError, by decide⟩
/-- a class's mro behind itself: own classes, then the foot's -/
def Refs (tl l : List Value) : Prop := ∃ cs : List Addr, l = cs.map Value.ref ++ tl
section
variable {tl l : List Value}
theorem Refs.has (h : Refs tl l) (T : String) : l.contains (Value.type T) = tl.contains (Value.type T) := by
  obtain ⟨cs, rfl⟩ := h
  induction cs with
  | nil => rfl
  | cons c cs ih =>
    rw [List.map_cons, List.cons_append, List.contains_cons, ih]
    rfl
theorem Refs.lets (h : Refs tl l) {me : Value} (k : refuseLoop me "__setattr__" tl = pure ()) : refuseLoop me "__setattr__" l = pure () := by
  obtain ⟨cs, rfl⟩ := h
  induction cs with
  | nil => exact k
  | cons c cs ih =>
    rw [List.map_cons, List.cons_append]
    rw [PySem.refuseLoop_ref]
    exact ih
theorem Refs.cons (h : Refs tl l) (c : Addr) : Refs tl (Value.ref c :: l) := by
  obtain ⟨cs, rfl⟩ := h
  exact ⟨c :: cs, rfl⟩
theorem Refs.some (h : Refs tl l) (k : tl.contains (Value.type "object") = true) : l.isEmpty = false := by
  obtain ⟨cs, rfl⟩ := h
  cases cs with
  | cons c cs => rfl
  | nil => cases tl with
    | nil => cases k
    | cons a b => rfl
end
section
variable {prog : Program} {wd : World} {Ar : Around} {Ans : Result → Shared → Prop} {hh : Heap} {gs : Array GenState} {dr : Drawn} {tk0 : Nat} {oss : OsState} {K : PySem.W.Frag} {fld : Str} {tk : Tok} {val : Value} {a C dx : Addr} {fvs : Array Value} {cda : ClassData} {tl : List Value}
theorem exg_first (inK : K.In hh) (at_ : hh.get? a = Option.some { cls := Value.ref C, data := Data.fields fvs }) (cin : PySem.W.clsIn K C = Option.some cda) (rf : Refs tl cda.mro) (ob : tl.contains (Value.type "object") = true)
    (lets : ∀ me : Value, refuseLoop me "__setattr__" tl = pure ()) (hasD : cda.hasDict = true) (free : PySem.W.findIn K (Value.ref C) fld = Option.some none)
    (fin : ∀ h2 tk2 d2, (∀ b o, b ≠ a → hh.get? b = Option.some o → h2.get? b = Option.some o) → hh.objs.size ≤ d2 → d2 ≠ a → h2.get? a = Option.some { cls := Value.ref C, dict := Option.some d2, data := Data.fields fvs } →
      h2.Ns1 d2 (fun y => if y = fld then Option.some val else none) → Ans (.ok (.ret .none)) ⟨h2, gs, dr, tk2, oss⟩) :
    codeAny (model prog wd) Ar (.call (.builtin "object.__setattr__") ⟨[Value.ref a, Value.str fld tk, val], []⟩) Ans ⟨hh, gs, dr, tk0, oss⟩ := by
  have inst : PySem.W.InstAt hh a { cls := Value.ref C, data := Data.fields fvs } C none := ⟨at_, rfl, rfl, trivial⟩
  have fresh : a ≠ hh.objs.size := Nat.ne_of_lt (Heap.lt_size at_)
  have cont : cda.mro.contains (Value.type "object") = true := (rf.has "object").trans ob
  have inM : PySem.W.mroIn K C (Value.type "object") = Option.some true := by
    unfold PySem.W.mroIn
    rw [cin, Option.bind_some]
    rw [if_neg (by rw [rf.some ob]; decide), cont]
  have isO : PySem.W.Looks (model prog wd) hh (isInstance (Value.ref a) (Value.type "object")) true := inst.type.andThen (PySem.W.looks_mroIn inK inM)
  have so := F.store_object
  have lm : PySem.W.Looks (model prog wd) hh (mroOf (Value.ref C)) cda.mro := (PySem.W.looks_clsIn inK cin).andThen .now
  have lt : PySem.W.Looks (model prog wd) hh (storeTaker? none) none := .now
  have lc : PySem.W.Looks (model prog wd) hh (classData C) cda := PySem.W.looks_clsIn inK cin
  have lf := PySem.W.looks_findIn (M := model prog wd) inK free
  refine codeAny_call_builtin so.slot.plain so.entry ?_
  refine @PySem.W.check_slot (model prog wd) _ _ ⟨hh, gs, dr, tk0, oss⟩ "object.__setattr__" "object" "__setattr__" (Value.ref a) [Value.str fld tk, val] [] _ so.kind so.split isO (so.args (Value.ref a) (Value.str fld tk) val) ?_
  rw [PySem.W.osa_eq, PySem.refuse_eq]
  refine wpAny_bind (wpAny_bind (inst.type.at ?_))
  refine wpAny_bind (lm.at ?_)
  rw [rf.lets (lets _)]
  refine wpAny_pure ?_
  refine wpAny_bind (inst.type.at (wpAny_bind (lf.at ?_)))
  refine wpAny_bind (lt.at ?_)
  show wpAny _ _ (storeInOwnDict (Value.ref a) (Value.ref C) (Value.str fld tk) fld val false) _ _ _
  obtain ⟨c1, c2, c3, c4, c5, c6, c7, c8, c9, c10, c11⟩ := cda
  have hasD : c6 = true := hasD
  subst hasD
  unfold storeInOwnDict ownDictForStores
  repeat (first | with_reducible refine PySem.HandSPX.store_in_new ?_ ?_ | with_reducible refine wpAny_loadPart_at at_ ?_ | with_reducible refine lc.at ?_ | wp_step)
  · have e0 := Heap.get?_push_at (h := hh) (o := ({ cls := .type "dict", data := .dict #[] } : Obj)) rfl rfl
    exact ⟨_, #[], _, (Heap.get?_update_ne _ _ _ _ (Ne.symm fresh)).trans e0, rfl, fun e he => absurd he (by simp), fun _ => rfl⟩
  · intro h2 tk2 ns sb
    have at2 : (hh.push { cls := .type "dict", data := .dict #[] }).get? a = Option.some { cls := Value.ref C, data := Data.fields fvs } := Heap.get?_push_of_some _ at_
    refine fin h2 tk2 hh.objs.size (fun b o nb eb => ?_) (Nat.le_refl _) (Ne.symm fresh) ?_ ns
    · have lb : b ≠ hh.objs.size := Nat.ne_of_lt (Heap.lt_size eb)
      rw [sb.2 b lb, Heap.get?_update_ne _ _ _ _ nb]
      exact Heap.get?_push_of_some _ eb
    · rw [sb.2 a fresh]
      exact Heap.get?_update_self _ at2 rfl
theorem exg_more {m0 : Str → Option Value} {nl : List Str} (inK : K.In hh) (at_ : hh.get? a = Option.some { cls := Value.ref C, dict := Option.some dx, data := Data.fields fvs }) (ns0 : hh.Ns1 dx m0) (wi : Within m0 nl) (few : nl.length ≤ 1000)
    (cin : PySem.W.clsIn K C = Option.some cda) (rf : Refs tl cda.mro) (ob : tl.contains (Value.type "object") = true) (lets : ∀ me : Value, refuseLoop me "__setattr__" tl = pure ()) (hasD : cda.hasDict = true) (free : PySem.W.findIn K (Value.ref C) fld = Option.some none)
    (fin : ∀ h2 tk2, (∀ b o, b ≠ dx → hh.get? b = Option.some o → h2.get? b = Option.some o) → h2.Ns1 dx (fun y => if y = fld then Option.some val else m0 y) → Ans (.ok (.ret .none)) ⟨h2, gs, dr, tk2, oss⟩) :
    codeAny (model prog wd) Ar (.call (.builtin "object.__setattr__") ⟨[Value.ref a, Value.str fld tk, val], []⟩) Ans ⟨hh, gs, dr, tk0, oss⟩ := by
  obtain ⟨od, _, _, edx, _, _⟩ := ns0.count wi
  have inst : PySem.W.InstAt hh a { cls := Value.ref C, dict := Option.some dx, data := Data.fields fvs } C (Option.some od) := ⟨at_, rfl, rfl, edx⟩
  have cont : cda.mro.contains (Value.type "object") = true := (rf.has "object").trans ob
  have inM : PySem.W.mroIn K C (Value.type "object") = Option.some true := by
    unfold PySem.W.mroIn
    rw [cin, Option.bind_some]
    rw [if_neg (by rw [rf.some ob]; decide), cont]
  have isO : PySem.W.Looks (model prog wd) hh (isInstance (Value.ref a) (Value.type "object")) true := inst.type.andThen (PySem.W.looks_mroIn inK inM)
  have so := F.store_object
  have lm : PySem.W.Looks (model prog wd) hh (mroOf (Value.ref C)) cda.mro := (PySem.W.looks_clsIn inK cin).andThen .now
  have lt : PySem.W.Looks (model prog wd) hh (storeTaker? none) none := .now
  have lc : PySem.W.Looks (model prog wd) hh (classData C) cda := PySem.W.looks_clsIn inK cin
  have lf := PySem.W.looks_findIn (M := model prog wd) inK free
  refine codeAny_call_builtin so.slot.plain so.entry ?_
  refine @PySem.W.check_slot (model prog wd) _ _ ⟨hh, gs, dr, tk0, oss⟩ "object.__setattr__" "object" "__setattr__" (Value.ref a) [Value.str fld tk, val] [] _ so.kind so.split isO (so.args (Value.ref a) (Value.str fld tk) val) ?_
  rw [PySem.W.osa_eq, PySem.refuse_eq]
  refine wpAny_bind (wpAny_bind (inst.type.at ?_))
  refine wpAny_bind (lm.at ?_)
  rw [rf.lets (lets _)]
  refine wpAny_pure ?_
  refine wpAny_bind (inst.type.at (wpAny_bind (lf.at ?_)))
  refine wpAny_bind (lt.at ?_)
  show wpAny _ _ (storeInOwnDict (Value.ref a) (Value.ref C) (Value.str fld tk) fld val false) _ _ _
  obtain ⟨c1, c2, c3, c4, c5, c6, c7, c8, c9, c10, c11⟩ := cda
  have hasD : c6 = true := hasD
  subst hasD
  unfold storeInOwnDict ownDictForStores
  repeat (first | with_reducible refine PySem.OEX.store_in_old ns0 wi few ?_ | with_reducible refine wpAny_loadPart_at at_ ?_ | with_reducible refine lc.at ?_ | wp_step)
  intro h2 tk2 ns sb
  refine fin h2 tk2 (fun b o nb eb => ?_) ns
  rw [sb.2 b nb]
  exact eb
end
end Mi
namespace Mi
open PySem L2 Evl NdefX
open PyProof.Rows (envOfC)
/-- what the written part says of such a class -/
structure OexG (K : PySem.W.Frag) (C : Addr) (newB : String) (tl : List Value) : Prop where
  obj : ∃ nm q N bs bm sn sub ab col dd k0 k1 k2 k3 k5, K.lookup C = some (excClassObj nm q C N bs bm true sn sub ab col dd k0 k1 k2 k3 k5 newB) ∧ Refs tl bm
  sets : PySem.W.findIn K (.ref C) "__setattr__" = some (some (.builtin "object.__setattr__"))
  isE : PySem.W.subIn K (.ref C) (.type "BaseException") = some true
  ty : PySem.W.typeIn K (.ref C) = some (.type "type")
  kp : PySem.W.keepIn K (.ref C) = true
section
variable {X : Cx} {pins : List (Addr × Obj)} {σ : L2.St} {H : Hp} {s : Shared} {a C dx : Addr} {fld : Str} {y : V} {u : Value} {fs : List (Str × V)} {Q : Unit → Shared → Prop} {E : Value → Shared → Prop} {A : Around} {nameB newB initB : String} {tl : List Value}
theorem OexG.data (T : OexG X.K C newB tl) : ∃ cda : ClassData, PySem.W.clsIn X.K C = some cda ∧ Refs tl cda.mro ∧ cda.hasDict = true := by
  obtain ⟨nm, q, N, bs, bm, sn, sub, ab, col, dd, k0, k1, k2, k3, k5, look, rf⟩ := T.obj
  refine ⟨{ name := nm, bases := bs, mro := .ref C :: bm, ns := N, qualname := q, hasDict := true, slotNames := sn, subclasses := sub, abstract := ab, collection := col, hasDel := false }, ?_, rf.cons C, rfl⟩
  unfold PySem.W.clsIn
  rw [look] <;> rfl
/-- the first field -/
theorem fld_first (ft : Foot nameB newB initB tl) (T : OexG X.K C newB tl) (I : Inv X pins σ H s) (ea : H a = some (exo a C none)) (free : PySem.W.findIn X.K (.ref C) fld = some none) (ry : RelV y u)
    (fin : ∀ d2 s2, H d2 = none → d2 ≠ a → Inv X pins σ (upd (upd H d2 (exd d2 [(fld, y)])) a (exo a C (some d2))) s2 → Q () s2) : wpAny (model X.prog X.w) A (setAttr (.ref a) fld u) Q E s := by
  obtain ⟨cda, cin, rf, hasD⟩ := T.data
  obtain ⟨tp, there⟩ := exo_at I.hok ea
  obtain ⟨hh, gs, dr, tk0, oss⟩ := s
  refine PySem.W.set_plain (od := none) I.kIn ⟨there, rfl, rfl, trivial⟩ T.sets ?_
  refine exg_first I.kIn there cin rf ft.objT ft.lets hasD free fun h2 tk2 d2 kept ge ne at2 ns2 => ?_
  have nd2 : H d2 = none := I.hok.fresh ge
  have offD : ∀ {b : Addr} {o : Obj}, hh.get? b = some o → b ≠ d2 := fun {b o} z => Nat.ne_of_lt (Nat.lt_of_lt_of_le (Heap.lt_size z) ge)
  have offA : ∀ {b : Addr}, H b = none → b ≠ a := fun {b} z e => by
    rw [e, ea] at z
    cases z
  have same : ∀ {b : Addr}, b ≠ a → b ≠ d2 → upd (upd H d2 (exd d2 [(fld, y)])) a (exo a C (some d2)) b = H b := fun {b} h1 h2 => by rw [upd_ne h1, upd_ne h2]
  have un : Un X.fs [] H (upd (upd H d2 (exd d2 [(fld, y)])) a (exo a C (some d2))) hh h2 := by
    refine ⟨fun b o z n _ _ => kept b o (offA n) z, fun b o z n _ _ => ⟨o.slots, kept b o (offA n) z⟩, fun b o z n _ => (same (offA n) (offD z)).trans n, fun b o z _ => ?_, fun b xs z => ?_, fun b o v z => ?_, fun b ps z => ⟨#[], ?_⟩⟩
    · by_cases e : b = a
      · exact ⟨_, e ▸ at2⟩
      · exact ⟨o, kept b o e z⟩
    · exact (same (at_ne ea z exo_tup) (ne_of_none z nd2)).trans z
    · exact (same (at_ne ea z exo_frz) (ne_of_none z nd2)).trans z
    · rw [same (at_ne ea z exo_tbl) (ne_of_none z nd2), z, Array.append_empty]
  refine fin d2 _ nd2 ne (I.un (t' := tk2) un fun b o z => ?_)
  by_cases e1 : b = a
  · subst e1
    rw [upd_same] at z
    cases z
    exact exo_ok at2
  rw [upd_ne e1] at z
  by_cases e2 : b = d2
  · subst e2
    rw [upd_same] at z
    cases z
    exact exd_ok ns2 (relO_put (fs := []) ry fun _ => trivial)
  rw [upd_ne e2] at z
  refine (I.hok b o z).stay (fun c v hc w => kept c v (fun e => ?_) w) (fun c hc => (same (at_ne ea hc exo_own) (ne_of_none hc nd2)).trans hc) fun c xs hc => (same (at_ne ea hc exo_tup) (ne_of_none hc nd2)).trans hc
  rcases hc with hc | hc
  · exact e1 (hc ▸ e)
  · exact at_ne ea hc exo_own e
/-- a further field -/
theorem fld_more (ft : Foot nameB newB initB tl) (T : OexG X.K C newB tl) (I : Inv X pins σ H s) (ea : H a = some (exo a C (some dx))) (ed : H dx = some (exd dx fs)) (few : fs.length ≤ 900) (free : PySem.W.findIn X.K (.ref C) fld = some none) (ry : RelV y u)
    (fin : ∀ s2, Inv X pins σ (upd H dx (exd dx ((fld, y) :: fs))) s2 → Q () s2) : wpAny (model X.prog X.w) A (setAttr (.ref a) fld u) Q E s := by
  obtain ⟨cda, cin, rf, hasD⟩ := T.data
  obtain ⟨tp, there⟩ := exo_at I.hok ea
  obtain ⟨mA, ns1, rel⟩ := exd_at I.hok ed
  obtain ⟨hh, gs, dr, tk0, oss⟩ := s
  have wi := within_of rel
  obtain ⟨od, _, _, eod, _, _⟩ := ns1.count wi
  refine PySem.W.set_plain (od := some od) I.kIn ⟨there, rfl, rfl, eod⟩ T.sets ?_
  refine exg_more I.kIn there ns1 wi (by rw [List.length_map]; omega) cin rf ft.objT ft.lets hasD free fun h2 tk2 kept ns2 => ?_
  have is2 : ∃ o, h2.get? dx = some o := let ⟨o, _, _, e, _⟩ := ns2; ⟨o, e⟩
  exact fin _ (I.write (t' := tk2) (x := dx) (e := dx) (o := exd dx ((fld, y) :: fs)) (by rw [ed]; trivial) (.inl rfl) kept is2 (exd_ok ns2 (relO_put ry rel)))
end
/-- self.f = e in such an __init__ -/
def tFld (K : PySem.W.Frag) (newB : String) (tl : List Value) (f : Str) (to te : TE) : TS := fun D σ H => te σ H fun y H1 => to σ H1 fun x H2 => ∃ a C : Addr, x = .ref a ∧ OexG K C newB tl ∧ PySem.W.findIn K (.ref C) f = some none ∧
  ((H2 a = some (exo a C none) ∧ ∀ d2, H2 d2 = none → d2 ≠ a → D.nx σ (upd (upd H2 d2 (exd d2 [(f, y)])) a (exo a C (some d2)))) ∨
    ∃ (d2 : Addr) (fs : List (Str × V)), H2 a = some (exo a C (some d2)) ∧ H2 d2 = some (exd d2 fs) ∧ fs.length ≤ 900 ∧ D.nx σ (upd H2 d2 (exd d2 ((f, y) :: fs))))
section
variable {X : Cx} {o e : Expr} {es : List Expr} {to te : TE} {ta : TA} {f : Str} {p p' pos : Pos} {nameB newB initB : String} {tl : List Value}
theorem ps_fld (ft : Foot nameB newB initB tl) (ho : PE X o to) (he : PE X e te) (hs : swapsWith e (some (.Attribute o f p')) pos.line X.env = pure false := by rfl) : PS X (.Assign [.Attribute o f p'] e pos) (tFld X.K newB tl f to te) := by
  refine ⟨fun pins s σ H D I h => ?_⟩
  refine plainObj_wpAny_Assign_Attribute (thn (he.run pins s σ H _ I h) fun v s1 ⟨y, H1, I1, r1, q1⟩ => ?_) hs
  refine thn (ho.run pins s1 σ H1 _ I1 q1) fun u s2 ⟨x, H2, I2, r2, a, C, ex, T, free, q⟩ => ?_
  subst ex
  obtain rfl : u = Value.ref a := r2
  rcases q with ⟨ea, q⟩ | ⟨d2, fs, ea, ed, few, q⟩
  · exact fld_first ft T I2 ea free r1 fun d2 s' n ne J => ⟨σ, _, J, q d2 n ne⟩
  · exact fld_more ft T I2 ea ed few free r1 fun s' J => ⟨σ, _, J, q⟩
theorem mk_oexG {CX : CXT} {C fI : Addr} {k : Nat} {fd : FuncData} {ps : List Str} {sp : Sp} {ds : List Value} {dvs : List V} (ft : Foot nameB newB initB tl) (T : OexG X.K C newB tl) (iC : PySem.W.findIn X.K (.ref C) "__init__" = some (some (.ref fI))) (tI : PySem.W.typeIn X.K (.ref fI) = some (.type "function"))
    (G : FnOk X.prog X.w X.K X.mg X.base CX k fI fd ps sp) (hr : Room (k + 1) X.A) (hb : Binds X.K fd ps ds) (hd : Vals dvs ds) (hx : Passes CX X (fun _ _ _ => False)) {us : List Value} {vs : List V} {pins : List (Addr × Obj)} {σ : L2.St} {H1 : Hp} {Q : XK} {s1 : Shared} (I1 : Inv X pins σ H1 s1) (r1 : Vals vs us) (few : vs.length ≤ 1000)
    (q1 : ∀ a, H1 a = none → sp (.ref a :: (vs ++ dvs)) (upd H1 a (exo a C none)) (fun v H2 => v = .non ∧ ∃ (d : Addr) (fs : List (Str × V)), H2 a = some (exo a C (some d)) ∧ H2 d = some (exd d fs) ∧ H1 d = none ∧ Q (.ref C) (some d) (upd (del H2 a) d (.xd fs))) (fun _ _ _ => False)) :
    wpAny (model X.prog X.w) X.A (call (.ref C) us) (MkP X pins σ Q) X.xe s1 := by
  obtain ⟨nm, q, N, bs, bm, sn, sub, ab, col, dd, k0, k1, k2, k3, k5, look, rf⟩ := T.obj
  obtain ⟨hh, gs, dr, tk0, oss⟩ := s1
  have ge : hh.objs.size ≤ hh.objs.size + 1 := Nat.le_succ _
  have prom := q1 (hh.objs.size + 1) (I1.hok.fresh ge)
  have kept : ∀ b o, hh.get? b = some o → ((hh.push (PySem.W.kdv_tup us)).push (PySem.HandSPX.excO C hh.objs.size)).get? b = some o := fun b o z => Heap.get?_push_of_some _ (Heap.get?_push_of_some _ z)
  have here : ((hh.push (PySem.W.kdv_tup us)).push (PySem.HandSPX.excO C hh.objs.size)).get? (hh.objs.size + 1) = some (PySem.HandSPX.excO C hh.objs.size) := by heap_get
  have I2 := I1.laid (t' := tk0) (a := hh.objs.size + 1) (o := exo (hh.objs.size + 1) C none) (h' := (hh.push (PySem.W.kdv_tup us)).push (PySem.HandSPX.excO C hh.objs.size)) kept ge (exo_ok here)
  have rAll : Vals (V.ref (hh.objs.size + 1) :: (vs ++ dvs)) (Value.ref (hh.objs.size + 1) :: (us ++ ds)) := .cons rfl (r1.append hd)
  have many : (Value.ref (hh.objs.size + 1) :: us ++ ds).length = ps.length := by
    have z := rAll.length
    rw [G.len _ _ _ _ prom] at z
    exact z.symm
  have short : us.length ≤ sizeLine := by
    rw [← Paired.length r1, sizeLine_eq]
    omega
  have runs := G.run _ X.stack _ _ ⟨Value.ref (hh.objs.size + 1) :: us, []⟩ (Value.ref (hh.objs.size + 1) :: (us ++ ds)) _ _ (fun _ _ _ => False) (hr.make C us []) (I2.env0.make C us []) (hb _ (Value.ref (hh.objs.size + 1) :: us) I2.kIn many) rAll prom
  refine wpAny_call (PySem.HandSPX.call_own ft.base (fun Y => rf.has Y) (I1.kIn _ _ look) (PySem.W.looks_findIn I1.kIn iC) (fun self => PySem.W.bind_fn I1.kIn self tI) short (codeAny_mono runs fun r s2 hq => ?_))
  cases r with
  | error er => exact hx pins σ _ _ er s2 I2 hq
  | ok fl =>
    cases fl with
    | next => exact False.elim hq
    | brk => exact False.elim hq
    | cont => exact False.elim hq
    | ret u =>
      obtain ⟨v, H2, os2, bare2, un2, hok2, rv, ev, d, fs, ea, ed, hd1, q2⟩ := hq
      subst ev
      obtain ⟨h2, g2, d2, t2, os'⟩ := s2
      exact ⟨rv, mk_end (raises_own T.isE T.ty) I1 ge kept un2 hok2 os2 bare2 ea ed hd1 q2⟩
theorem pmk_G {CX : CXT} {x : Str} {C fI : Addr} {k : Nat} {fd : FuncData} {ps : List Str} {sp : Sp} {ds : List Value} {dvs : List V} (ft : Foot nameB newB initB tl) (T : OexG X.K C newB tl) (iC : PySem.W.findIn X.K (.ref C) "__init__" = some (some (.ref fI))) (tI : PySem.W.typeIn X.K (.ref fI) = some (.type "function"))
    (G : FnOk X.prog X.w X.K X.mg X.base CX k fI fd ps sp) (hr : Room (k + 1) X.A) (hb : Binds X.K fd ps ds) (hd : Vals dvs ds) (hx : Passes CX X (fun _ _ _ => False)) (hg : Gl X x) (hm : X.mg x = some (.ref C)) (ha : PA X (e :: es) ta)
    (hdb : (x == ("__debug__" : Str)) = false := by decide) (he : starEach (e :: es) X.env = (false, eval e X.env) :: starEach es X.env := by rfl) (hpl : (backTo pos (starEach es X.env)).any (·.1) = false := by rfl) : PMk X (.Call (.Name x p) (e :: es) [] pos) (tMkO C sp dvs ta) := by
  intro pins s σ H Q I h
  refine wpAny_Call_Name_kw (ld_glob I hg hm ?_ hdb)
  exact PySem.W.callWith_K (h₀ := X.base) I.ok.mod.kin T.kp (thn (ha.run pos pins s σ H _ I h) fun us s1 ⟨vs, H1, I1, r1, few, q1⟩ => ⟨I1.kIn, mk_oexG ft T iC tI G hr hb hd hx I1 r1 few q1⟩) he hpl
end
end Mi
namespace Mi
open PySem L2 Evl NdefX
open PyProof.Rows (envOfC)
/-- what the written part says of such a class and of its __init__ at f -/
structure SupG (K : PySem.W.Frag) (prog : Program) (C f : Addr) (F : NF) (fd : FuncData) (cc : Addr) (nameB newB initB : String) (tl : List Value) : Prop where
  ft : Foot nameB newB initB tl
  oex : OexG K C newB tl
  fdE : ∃ kV doc pm ct an, fd = PySem.W.fnX F.name F.qual F.params F.body F.scope [(("__class__" : Str), cc)] .none kV doc pm an (.ref F.c) ct
  look : ∃ oc od osl, K.lookup f = some ⟨oc, od, .func fd, osl⟩
  cl : F.cl = [(("__class__" : Str), cc)]
  cd : PySem.W.codeIn K (.ref F.c) F.qual = true
  cell : ∃ cl cld csl, K.lookup cc = some ⟨cl, cld, .cell (some (.ref C)), csl⟩
  code : ∃ ccl cdd vs ccs file tf, K.lookup F.c = some ⟨ccl, cdd, .fields vs, ccs⟩ ∧ vs[2]? = some (.str file tf) ∧ ((prog.main.file : Str) == file) = true
  opq : PySem.W.nsIn K cStatics "thirdparty.any" = some none
  along : PySem.W.ks_superIn K C C "__init__" = some (some (.builtin initB))
  sub : PySem.W.subIn K (.ref C) (.type nameB) = some true
  mro : PySem.W.mroIn K C (.ref C) = some true
  sup : PySem.W.nsIn K mainGlobals "super" = some none
  top : (prog.main.scope.names.lookup ("super" : Str)).isSome = false
section
variable {P : Program} {w : World} {K : PySem.W.Frag} {mg : Str → Option Value} {base : Heap} {C f cc : Addr} {F : NF} {fd : FuncData} {N ps : List Str} {nameB newB initB : String} {tl : List Value}
theorem super_initG {A : Around} {outer : List PySem.Env} {s0 s : Shared} {H0 H : Hp} {E : XK} {σ : L2.St} {a : Addr} {t : Str} {j : Nat} {p0 p1 p2 p3 p4 pos : Pos} {rest : List Stmt} {Q : Flow → Shared → Prop} {ar : Arg}
    (T : SupG K P C f F fd cc nameB newB initB tl) (hsup : mg "super" = none)
    (I : Inv (ncx CX0 P w K mg base N F f A outer s0 H0 E) [] σ H s) (h0 : N[0]? = some ar.arg) (hs0 : σ[0]? = some (some (.ref a))) (ha : H a = some (exo a C none)) (har : (F.params.posonlyargs ++ F.params.args).head? = some ar)
    (hsc1 : F.scope.names.lookup ("super" : Str) = some .globalImplicit) (hsc2 : F.scope.names.lookup ("__class__" : Str) = some .free) (hsc3 : F.scope.names.lookup ar.arg = some .local)
    {pl : Sem Bool} (he : eval (.Call (.Attribute (.Call (.Name "super" p0) [] [] p1) "__init__" p2) [.Constant (.str t) j p3] [] p4) (envF F f s0.heap.objs.size) = (do
      let ov ← attributeBase (.Call (.Name "super" p0) [] [] p1) "__init__" (envF F f s0.heap.objs.size) (eval (.Call (.Name "super" p0) [] [] p1) (envF F f s0.heap.objs.size))
      standAt p2.atName
      let (f', first) ← holding [ov] (getMethod ov "__init__" pl)
      callWith p4 f' first (backTo p4 (starEach [.Constant (.str t) j p3] (envF F f s0.heap.objs.size))) []))
    (hint : interactive (envF F f s0.heap.objs.size) = false) (hsw : swapsWith (.Call (.Attribute (.Call (.Name "super" p0) [] [] p1) "__init__" p2) [.Constant (.str t) j p3] [] p4) none pos.line (envF F f s0.heap.objs.size) = pure false)
    (hk : ∀ s', Inv (ncx CX0 P w K mg base N F f A outer s0 H0 E) [] σ H s' → wpAny (model P w) (A.deeper (envF F f s0.heap.objs.size)) (execs rest (envF F f s0.heap.objs.size)) Q (ncx CX0 P w K mg base N F f A outer s0 H0 E).xe s') :
    wpAt (model P w) (A.deeper (envF F f s0.heap.objs.size)) (.func F.body (envF F f s0.heap.objs.size))
      (execs (.Expr (.Call (.Attribute (.Call (.Name "super" p0) [] [] p1) "__init__" p2) [.Constant (.str t) j p3] [] p4) pos :: rest) (envF F f s0.heap.objs.size)) Q (ncx CX0 P w K mg base N F f A outer s0 H0 E).xe s := by
  obtain ⟨oc, od, osl, hf⟩ := T.look
  obtain ⟨kV, doc, pm, ct, an, efd⟩ := T.fdE
  obtain ⟨cl, cld, csl, hcell⟩ := T.cell
  obtain ⟨ccl, cdd, vs, ccs, file, tf, hcode, hvs, hfile⟩ := T.code
  obtain ⟨nm, q, NN, bs, bm, sn, sub, ab, col, dd, k0, k1, k2, k3, k5, hC, hbm⟩ := T.oex.obj
  have X := I.kIn
  have hclC : PySem.W.clsIn K C = some { name := nm, bases := bs, mro := .ref C :: bm, ns := NN, qualname := q, hasDict := true, slotNames := sn, subclasses := sub, abstract := ab, collection := col, hasDel := false } := by unfold PySem.W.clsIn; rw [hC] <;> rfl
  refine PySem.ks_wpAt_execs_cons (PySem.ks_wpAt_Expr_any (PySem.ks_wpAt_MethodCall (pl := pl) ?_ he) hint hsw)
  refine PySem.ks_wpAt_super_base (f := f) (cc := F.c) (fd := fd) (ar := ar) (vs := vs) (file := file) (tf := tf) hsc1 hsc2 (by decide) rfl (X _ _ hf) rfl (by rw [efd]; exact har) rfl (X _ _ hcode) rfl hvs hfile T.top ?_
  refine loadName_blt (X := ncx CX0 P w K mg base N F f A outer s0 H0 E) I hsc1 hsup (by decide +kernel) ⟨rfl, ?_⟩
  have hcl : (envF F f s0.heap.objs.size).cells.lookup ("__class__" : Str) = some cc := by
    show F.cl.lookup _ = _
    rw [T.cl]
    rfl
  refine wpAny_loadName_free I.ok.kind hsc2 hcl ⟨_, X _ _ hcell, rfl⟩ ?_
  obtain ⟨m, hns, hl⟩ := I.loc
  obtain ⟨u, ru, lu⟩ := hl 0 ar.arg (.ref a) h0 hs0 (.inl hsc3)
  obtain rfl : u = Value.ref a := ru
  have hma : m ar.arg = some (.ref a) := by
    rcases lu with ⟨_, z⟩ | ⟨z, _⟩
    · exact z
    · rcases z with z | z <;> rw [show (ncx CX0 P w K mg base N F f A outer s0 H0 E).env.kindOf ar.arg = some .local from hsc3] at z <;> cases z
  refine wpAny_loadName_local I.ok.kind hsc3 hns hma ?_
  obtain ⟨t1, ho⟩ := exo_at I.hok ha
  have hD := X _ _ hC
  obtain ⟨hp, g, d, tk, os⟩ := s
  refine PySem.ks_wpAny_isType_cls hD rfl ⟨rfl, ?_⟩
  refine PySem.ks_wpAny_call_super hD rfl ho rfl (fun c e => by cases e) (PySem.W.looks_mroIn X T.mro) fun h1 e1 k1 => ?_
  have I1 := I.kept (t' := tk) (h' := h1) k1
  have X1 := I1.kIn
  have ho1 := k1 _ _ ho
  have hno : PySem.W.Looks (model P w) h1 (opaqueClassAbove (.ref C)) none := PySem.W.looks_opaque X1 T.opq
  have J1 : PySem.W.InstAt h1 a ({ cls := .ref C, dict := none, data := .fields #[.ref t1, .none, .none, .none, .bool false, .none] } : Obj) C none := ⟨ho1, rfl, rfl, trivial⟩
  have hm1 : PySem.W.Looks (model P w) h1 (mroOf (.ref C)) (.ref C :: bm) := fun A Q E s k q => wpAny_bind ((PySem.W.looks_clsIn X1 hclC) A _ E s k (wpAny_pure q))
  have hal := T.along
  unfold PySem.W.ks_superIn at hal
  rw [hclC] at hal
  refine PySem.W.kxs_getMethod T.ft.kxs e1 hno hm1 rfl X1 hal (J1.type.andThen (PySem.W.looks_subIn X1 T.sub)) (PySem.W.ks_ne X1 J1 hclC) (by decide) ?_
  have k2 : ∀ b o, h1.get? b = some o → (h1.push (PySem.W.kxs_mw initB a)).get? b = some o := fun b o e => Heap.get?_push_of_some _ e
  have I2 := I1.kept (t' := tk + 1) k2
  have hu2 : (h1.push (PySem.W.kxs_mw initB a)).get? h1.objs.size = some (PySem.W.kxs_mw initB a) := Heap.get?_push_size _ rfl
  have hst : starEach [Expr.Constant (.str t) j p3] (envF F f s0.heap.objs.size) = (false, eval (Expr.Constant (.str t) j p3) (envF F f s0.heap.objs.size)) :: starEach [] (envF F f s0.heap.objs.size) := rfl
  show wpAny _ _ (callWith p4 (.ref h1.objs.size) [] _ []) _ _ _
  rw [hst]
  refine PySem.W.kxs_callWith (i := initB) (x := a) rfl (Calls.evalArgs_plain ?_)
  have PAc : PA (ncx CX0 P w K mg base N F f A outer s0 H0 E) [Expr.Constant (.str t) j p3] (tCons (tC (.str t)) tNil) := pa_cons pe_str pa_nil
  have hun : H h1.objs.size = none := I1.hok.fresh (Nat.le_refl _)
  have I2p : Inv (ncx CX0 P w K mg base N F f A outer s0 H0 E) [(h1.objs.size, PySem.W.kxs_mw initB a)] σ H ⟨h1.push (PySem.W.kxs_mw initB a), g, d, tk + 1, os⟩ := I2.pins_of fun p hp => by
    rw [List.mem_singleton.mp hp]
    refine ⟨hu2, hun, fun z => ?_, fun z => ?_, fun v => by intro z; cases z⟩
    · exact absurd I1.lt (by rw [← show h1.objs.size = _ from z]; exact Nat.lt_irrefl _)
    · exact I1.nofs (Nat.le_refl _) z
  refine wpAny_mono (PAc.run p4 [(h1.objs.size, PySem.W.kxs_mw initB a)] _ σ H (fun vs H1 => vs = [.str t] ∧ H1 = H) I2p ⟨rfl, rfl⟩) (fun us s3 ⟨vs3, H3, I3, r3, ev3, eH3⟩ => ?_) ?_
  · subst ev3 eH3
    have hu3 := (I3.pin (h1.objs.size, PySem.W.kxs_mw initB a) (List.mem_append_right _ List.mem_cons_self)).1
    obtain ⟨t3, ho3⟩ := exo_at I3.hok ha
    have hC3 := I3.kIn _ _ hC
    have I4 : Inv (ncx CX0 P w K mg base N F f A outer s0 H0 E) [] σ H3 s3 := I3.pins_of fun p hp => by cases hp
    have hlen : us.length ≤ sizeLine := by
      rw [← Paired.length r3]
      show 1 ≤ sizeLine
      rw [sizeLine_eq]
      omega
    obtain ⟨hp3, g3, d3, tk3, os3⟩ := s3
    refine ⟨hu3, ?_⟩
    show wpAny _ _ (call (.ref h1.objs.size) us) _ _ _
    refine wpAny_call (codeAny_of_tree ?_)
    show wpAny _ (A.deeper (envF F f s0.heap.objs.size)).in1 (callAny (.ref h1.objs.size) ⟨us, []⟩) _ _ _
    simp only [callAny]
    refine wpAny_bind (wpAny_load hu3 ?_)
    simp only [PySem.W.kxs_mw, show (Value.type "method-wrapper" == Value.type "method" || Value.type "method-wrapper" == Value.type "builtin_function_or_method" || Value.type "method-wrapper" == Value.type "method-wrapper") = true by decide, if_true]
    refine PySem.W.KFB.if_so (by decide) ?_
    refine wpAny_bind (PySem.W.check_bound_init T.ft.base.toExcCallFacts hC3 ho3 rfl ?_)
    refine wpAny_bind (wpAny_pure (wpAny_pure ?_))
    refine ⟨plainId_quiet T.ft.base.init.plain _, codeAny_builtin T.ft.base.initEntry ?_⟩
    refine PySem.W.exc_init_tree (cls := .ref C) (t0 := t3) (dv := none) (c2 := .none) (c3 := .none) (b4 := .bool false) ho3 hlen fun h' k e' t' => ?_
    have J := I4.write (t' := tk3) (x := a) (e := a) (o := exo a C none) (by rw [ha]; exact True.intro) (.inl rfl) k ⟨_, e'⟩ (exo_ok e')
    have eu : upd H3 a (exo a C none) = H3 := by
      funext b
      by_cases hb : b = a
      · rw [hb, upd_same, ha]
      · rw [upd_ne hb]
    rw [eu] at J
    exact wpAt_of_wpAny (hk _ J)
  · exact fun _ _ x => x
/-- the start of such a def -/
theorem exc_enterG {sp : Sp} {ar : Arg} (T : SupG K P C f F fd cc nameB newB initB tl) (S : NScope N ps ["__class__"] F.scope) (hps : ps[0]? = some ar.arg) (har : (F.params.posonlyargs ++ F.params.args).head? = some ar) (hnil : ∀ y ∈ F.scope.names, y.2 ≠ .cell)
    (len : ∀ vs H Q E, sp vs H Q E → vs.length = ps.length)
    (body : ∀ (A : Around) (outer : List PySem.Env) (s0 : Shared) (H : Hp) (vs : List V) (Q : VK) (E : XK), sp vs H Q E → ∀ s, Inv (ncx CX0 P w K mg base N F f A outer s0 H E) [] (startF N vs [none]) H s →
      wpAt (model P w) (A.deeper (envF F f s0.heap.objs.size)) (.func F.body (envF F f s0.heap.objs.size)) (execs F.body (envF F f s0.heap.objs.size)) (SP (ncx CX0 P w K mg base N F f A outer s0 H E) [] { nx := fun _ H' => Q .non H', rt := Q }) (ncx CX0 P w K mg base N F f A outer s0 H E).xe s) :
    FnOk P w K mg base CX0 1 f fd ps sp := by
  refine ⟨len, fun A outer s H args us vs Q E hr e0 hb r hsp => ?_⟩
  have hl := len _ _ _ _ hsp
  obtain ⟨oc, od, osl, hf⟩ := T.look
  obtain ⟨kV, doc, pm, ct, an, efd⟩ := T.fdE
  obtain ⟨cl, cld, csl, hcell⟩ := T.cell
  have hk0 : ∀ b o, base.get? b = some o → s.heap.get? b = some o := fun b o e => (e0.bs b o e).1
  have KX := e0.mod.kin.keeps hk0
  have hce : callEnv fd s.heap.objs.size f = envF F f s.heap.objs.size := by
    rw [efd]
    show PySem.W.envX _ _ _ _ _ [(("__class__" : Str), cc)] = PySem.W.envX _ _ _ _ _ F.cl
    rw [T.cl]
  refine PySem.ks_codeAny_call_defAt (fd := fd) (body := F.body) (binds := ps.zip us) hr.depth (KX _ _ hf) rfl (e0.mod.nolimit.keeps hk0) (by rw [efd]; exact PySem.W.codeRec_of KX T.cd) (by rw [efd]) hb (by rw [efd]; exact S.nocell)
    (fun ⟨n, _⟩ hy => by rw [efd]; exact S.par n (List.of_mem_zip hy).1) (fun h₁ hns kp => ?_) (by rw [efd]; exact S.co) (by rw [efd]; exact S.gen) (by rw [efd]; exact S.kind)
  rw [hce]
  have hcc : base.get? cc = some ⟨cl, cld, .cell (some (.ref C)), csl⟩ := e0.mod.kin _ _ hcell
  have CA : CellsAt F.cl ["__class__"] [none] s.heap H := by
    rw [T.cl]
    refine ⟨rfl, fun y c e => ?_, fun x y c e1 e2 => ?_, fun i y e => ?_⟩
    · have e' : c = cc := by
        rw [List.lookup_cons] at e
        split at e
        · cases e
          rfl
        · cases e
      subst e'
      exact ⟨(e0.bs _ _ hcc).2, _, _, (e0.bs _ _ hcc).1, rfl⟩
    · rw [List.lookup_cons] at e1 e2
      split at e1
      · split at e2
        · rename_i _ a _ b
          exact (beq_iff_eq.mp a).trans (beq_iff_eq.mp b).symm
        · cases e2
      · cases e1
    · cases i with
      | zero =>
        cases e
        exact ⟨cc, rfl, fun v hv => by cases hv⟩
      | succ i => cases e
  have I : Inv (ncx CX0 P w K mg base N F f A outer s H E) [] (startF N vs [none]) H { s with heap := h₁, toks := s.toks + (ps.zip us).length } := inv_startN S hr.hd e0 hl r CA hns kp
  refine PySem.ks_wpAt_mono (body A outer s H vs Q E hsp _ I) (fun fl s' hs => ?_) fun e s' hs => hs
  have fin : ∀ {σ' : L2.St} {H' : Hp} {v : V} {u : Value}, Inv (ncx CX0 P w K mg base N F f A outer s H E) [] σ' H' s' → L2.RelV v u → Q v H' → CE outer P w H s Q u s' :=
    fun {σ' H' v u} J rv q => ⟨v, H', J.os, J.bare, J.base, J.hok, rv, q⟩
  cases fl with
  | ret u =>
    obtain ⟨v, σ', H', J, rv, q⟩ := hs
    exact fin J rv q
  | next =>
    obtain ⟨σ', H', J, q⟩ := hs
    exact fin (v := V.non) (u := Value.none) J rfl q
  | brk =>
    obtain ⟨_, _, _, q⟩ := hs
    exact False.elim q
  | cont =>
    obtain ⟨_, _, _, q⟩ := hs
    exact False.elim q
end
section
variable {P : Program} {w : World} {K : PySem.W.Frag} {mg : Str → Option Value} {base : Heap} {C f cc : Addr} {F : NF} {fd : FuncData} {N ps : List Str} {nameB newB initB : String} {tl : List Value}
theorem exc_fn1G {f1 code t xn : Str} {e : Expr} {i1 : Nat} {q0 q1 q2 q3 q4 q5 q6 q7 q8 : Pos} {ar : Arg} (T : SupG K P C f F fd cc nameB newB initB tl) (S : NScope N [ar.arg, xn] ["__class__"] F.scope) (hsup : mg "super" = none) (har : (F.params.posonlyargs ++ F.params.args).head? = some ar)
    (hb : F.body = [.Expr e q0, .Assign [.Attribute (.Name ar.arg q1) f1 q2] (.Name xn q3) q4, .Assign [.Attribute (.Name ar.arg q5) "code" q6] (.Constant (.str code) i1 q7) q8]) (he : SupOk F f e t q0)
    (hs1 : F.scope.names.lookup ("super" : Str) = some .globalImplicit) (hs2 : F.scope.names.lookup ("__class__" : Str) = some .free)
    (d1 : (ar.arg == ("__debug__" : Str)) = false) (d2 : (ar.arg == ("__classdict__" : Str)) = false) (d3 : (xn == ("__debug__" : Str)) = false) (d4 : (xn == ("__classdict__" : Str)) = false)
    (n1 : PySem.W.findIn K (.ref C) f1 = some none) (n2 : PySem.W.findIn K (.ref C) "code" = some none)
    (w1 : ∀ L, swapsWith (.Name xn q3) (some (.Attribute (.Name ar.arg q1) f1 q2)) q4.line (envF F f L) = pure false) (w2 : ∀ L, swapsWith (.Constant (.str code) i1 q7) (some (.Attribute (.Name ar.arg q5) "code" q6)) q8.line (envF F f L) = pure false) :
    FnOk P w K mg base CX0 1 f fd [ar.arg, xn] (spE1 C f1 code) := by
  have hpre : N.take 3 = [ar.arg, xn, "__class__"] := S.pre
  have hN0 : N[0]? = some ar.arg := by
    have := congrArg (fun l : List Str => l[0]?) hpre
    simpa [List.getElem?_take] using this
  have hN1 : N[1]? = some xn := by
    have := congrArg (fun l : List Str => l[1]?) hpre
    simpa [List.getElem?_take] using this
  have v1 : F.scope.names.lookup ar.arg = some .local := S.par _ (by simp)
  have v2 : F.scope.names.lookup xn = some .local := S.par _ (by simp)
  refine exc_enterG T S rfl har S.nocell (fun vs H Q E ⟨a, x, e, _⟩ => by rw [e]; rfl) fun A outer s0 H vs Q E ⟨a, x, ev, ha, hq⟩ s I => ?_
  obtain ⟨j, p0, p1, p2, p3, p4, ee, hh⟩ := he.ok
  obtain ⟨⟨pl, h1⟩, h2, h3⟩ := hh s0.heap.objs.size
  subst ee ev
  have hbody : wpAt (model P w) (A.deeper (envF F f s0.heap.objs.size)) (.func F.body (envF F f s0.heap.objs.size))
      (execs (.Expr (.Call (.Attribute (.Call (.Name "super" p0) [] [] p1) "__init__" p2) [.Constant (.str t) j p3] [] p4) q0 :: [.Assign [.Attribute (.Name ar.arg q1) f1 q2] (.Name xn q3) q4, .Assign [.Attribute (.Name ar.arg q5) "code" q6] (.Constant (.str code) i1 q7) q8]) (envF F f s0.heap.objs.size))
      (SP (ncx CX0 P w K mg base N F f A outer s0 H E) [] { nx := fun _ H' => Q .non H', rt := Q }) (ncx CX0 P w K mg base N F f A outer s0 H E).xe s := by
    refine super_initG T hsup I hN0 rfl ha har hs1 hs2 v1 h1 h2 h3 fun s' J => ?_
    have hps : PSs (ncx CX0 P w K mg base N F f A outer s0 H E) [.Assign [.Attribute (.Name ar.arg q1) f1 q2] (.Name xn q3) q4, .Assign [.Attribute (.Name ar.arg q5) "code" q6] (.Constant (.str code) i1 q7) q8] _ :=
      pss_cons (ps_fld T.ft (pe_var (i := 0) hN0 (.inl v1) d1 d2) (pe_var (i := 1) hN1 (.inl v2) d3 d4) (w1 _)) (pss_one (ps_fld T.ft (pe_var (i := 0) hN0 (.inl v1) d1 d2) pe_str (w2 _)))
    refine hps.run [] s' _ H _ J ?_
    refine ⟨x, rfl, .ref a, rfl, a, C, rfl, T.oex, n1, .inl ⟨ha, fun dx hdx hne => ?_⟩⟩
    refine ⟨.ref a, rfl, a, C, rfl, T.oex, n2, .inr ⟨dx, [(f1, x)], upd_same, ?_, by simp, hq dx hdx hne⟩⟩
    rw [upd_ne hne, upd_same]
  rw [← hb] at hbody
  exact hbody
end
end Mi
namespace Mi
open PySem L2 Evl NdefX
open PyProof.Rows (envOfC)
def refsB (tl : List Value) : List Value → Bool
  | .ref c :: r => refsB tl r
  | l => l == tl
theorem refs_by {tl : List Value} : ∀ {l : List Value}, refsB tl l = true → Refs tl l := by
  intro l
  induction l with
  | nil =>
    intro h
    exact ⟨[], (beq_iff_eq.mp h).trans rfl⟩
  | cons a r ih =>
    intro h
    cases a with
    | ref c => exact (ih h).cons c
    | _ => exact ⟨[], (beq_iff_eq.mp h).trans rfl⟩
section
variable {X : Cx} {B : Bs} {env : Env} {os : Os} {tb : ETab} {pos p pos2 : Pos} {α β : Type} {r : Rp α} {e : Expr} {rest : List Stmt} {post : Post β} {x : Str} {f C : Addr} {fd : FuncData} {nameB newB initB : String} {tl : List Value}
theorem b_raise1GX {w : W α} {g : α → PyData} {f1 : Str} {code : String} {xn : Str} {sn : Str} (ft : Foot nameB newB initB tl) (tk : Takes X (wB X.K tb B)) (hc : X.calm = true) (hmem : (code, C, some f1) ∈ tb) (hnc : f1 ≠ "code") (T : OexG X.K C newB tl) (iC : PySem.W.findIn X.K (.ref C) "__init__" = some (some (.ref f))) (tI : PySem.W.typeIn X.K (.ref f) = some (.type "function"))
    (G : FnOk X.prog X.w X.K X.mg X.base CX0 1 f fd [sn, xn] (spE1 C f1 (Str.ofString code))) (hr : Room 2 X.A) (hb : Binds X.K fd [sn, xn] []) (hm : X.mg x = some (.ref C)) (d : ∀ {F : Hp} {v : V} {y : α}, r.ok F v y → (rX X.K tb).ok F v (g y)) (he : EE X B env os e r w)
    (hg : Gl X x := by rfl) (hdb : (x == ("__debug__" : Str)) = false := by decide) (hse : starEach [e] X.env = (false, eval e X.env) :: starEach [] X.env := by rfl) (hpl : (backTo pos (starEach [] X.env)).any (·.1) = false := by rfl) :
    BG X B env os (.Raise (some (.Call (.Name x p) [e] [] pos)) none pos2 :: rest) post (bnd w fun v => thr ⟨code, [g v]⟩) :=
  PSs.imp (pss_cons (ps_raise hc tk (pmk_G ft T iC tI G hr hb .nil pass0 hg hm (pa_cons he pa_nil hse) hdb hse hpl)) pss_never) fun D σ H ⟨F, P, S, hw, k⟩ => ⟨F, _, S, hw, fun y hy v F1 H1 S1 e1 ok => ⟨by show 1 ≤ 1000; omega, fun a ha => by
    refine ⟨a, v, rfl, upd_same, fun dx hdx hne => ⟨rfl, dx, [("code", .str (Str.ofString code)), (f1, v)], ?_, upd_same, ?_, ?_⟩⟩
    · rw [upd_ne (Ne.symm hne), upd_same]
    · rwa [upd_ne hne] at hdx
    have hdx1 : H1 dx = none := by rwa [upd_ne hne] at hdx
    have eH : upd (del (upd (upd (upd (upd H1 a (exo a C none)) dx (exd dx [(f1, v)])) a (exo a C (some dx))) dx (exd dx [("code", .str (Str.ofString code)), (f1, v)])) a) dx (.xd [("code", .str (Str.ofString code)), (f1, v)]) = upd H1 dx (.xd [("code", .str (Str.ofString code)), (f1, v)]) := by
      funext b
      by_cases h1 : b = dx
      · rw [h1, upd_same, upd_same]
      · rw [upd_ne h1, upd_ne h1]
        by_cases h2 : b = a
        · rw [h2, del_same, ha]
        · rw [del_ne h2, upd_ne h1, upd_ne h2, upd_ne h1, upd_ne h2]
    rw [eH]
    have gr : Grow F1 H1 (upd F1 dx (.xd [("code", .str (Str.ofString code)), (f1, v)])) (upd H1 dx (.xd [("code", .str (Str.ofString code)), (f1, v)])) := Grow.alloc S1.fh hdx1
    have S2 := S1.grow gr
    refine ⟨⟨code, [g y]⟩, _, hy, S2.fin.low, C, some f1, dx, _, hmem, rfl, rfl, upd_same, rfl, v, g y, rfl, ?_, (rX X.K tb).mono gr.f (d ok)⟩
    rw [lookup_put, if_neg hnc, lookup_put, if_pos rfl]⟩⟩
theorem b_raise1G {w : W α} {g : α → PyData} {n : Nat} {f1 : Str} {code : String} {xn : Str} {sn : Str} (ft : Foot nameB newB initB tl) (tk : Takes X (wB X.K tb B)) (hc : X.calm = true) (hmem : (code, C, some f1) ∈ tb) (hnc : f1 ≠ "code") (T : OexG X.K C newB tl) (iC : PySem.W.findIn X.K (.ref C) "__init__" = some (some (.ref f))) (tI : PySem.W.typeIn X.K (.ref f) = some (.type "function"))
    (G : FnOk X.prog X.w X.K X.mg X.base CX0 1 f fd [sn, xn] (spE1 C f1 (Str.ofString code))) (hr : Room 2 X.A) (hb : Binds X.K fd [sn, xn] []) (hm : X.mg x = some (.ref C)) (d : DD X.K r g n) (hn : n ≤ 30) (he : EE X B env os e r w)
    (hg : Gl X x := by rfl) (hdb : (x == ("__debug__" : Str)) = false := by decide) (hse : starEach [e] X.env = (false, eval e X.env) :: starEach [] X.env := by rfl) (hpl : (backTo pos (starEach [] X.env)).any (·.1) = false := by rfl) :
    BG X B env os (.Raise (some (.Call (.Name x p) [e] [] pos)) none pos2 :: rest) post (bnd w fun v => thr ⟨code, [g v]⟩) :=
  b_raise1GX ft tk hc hmem hnc T iC tI G hr hb hm (fun ok => by
    have hd := d.ok ok
    exact .inl ⟨hd.1, hd.2.1, Nat.le_trans hd.2.2 hn⟩) he hg hdb hse hpl
end
end Mi
namespace Mi
open PySem L2 Evl
section
variable {X : Cx} {B : Bs} {env : Env} {os : Os} {pos : Pos} {β : Type} {e : Expr} {rest : List Stmt} {post : Post β}
theorem b_augI (i : Nat) {x : Str} {pos' : Pos} {z : Int} {w : W Int} {w2 : Int → W β} {op : Operator} {g : Int → Int → Int} (hop : PIp X op (ipI g)) (hz : env[i]? = some (sv rInt z)) (he : EE X B env os e rInt w) (hr : ∀ y, BG X B (env.set i (sv rInt y)) os rest post (w2 y)) (hN : X.N.Nodup) (hi : X.N[i]? = some x := by rfl)
    (hx : Loc X.env.scope x := by first | exact Or.inl rfl | exact Or.inr rfl) (hf : X.fn x = true ∨ X.env.scope.names.lookup x = some .local := by first | exact .inl rfl | exact .inr rfl | assumption) :
    BG X B env os (.AugAssign (.Name x pos') op e pos :: rest) post (bnd w fun y => bnd (ret (g z y)) w2) :=
  PSs.imp (pss_cons (ps_aug hN hi hx he hop hf) (PSs.ex hr)) fun D σ H ⟨F, P, S, hw, k⟩ => by
  obtain ⟨ov, g1, v, g2, g3⟩ := S.env.get hz
  have g3 : v = .int z := g3
  subst g2 g3
  refine ⟨.int z, g1, F, _, S, hw, fun y hy u F' H' S' _ ok => ?_⟩
  have ok : u = .int y := ok
  subst ok
  exact ⟨z, y, rfl, rfl, g z y, F', P, S'.store ⟨_, rfl, rfl⟩, hy, k⟩
end
end Mi
namespace Mi
open PySem L2 Evl
end Mi
namespace Mi
open PySem L2 Evl
def so {α : Type} (r : Rp α) : Option α → Slot
  | none => sa
  | some x => sv r x
end Mi
namespace PySem.W
open PySem PySem.Spec PySem.Calls PyProof.Rows
end PySem.W
namespace Mi
open PySem L2 Evl
end Mi
namespace PySem.HandSPX
open PySem PySem.Spec PySem.Calls PyProof.Rows
end PySem.HandSPX
namespace Mi
open PySem L2 Evl
end Mi
set_option exponentiation.threshold 2000
namespace Mi
open PySem L2 Evl
def Thr {α : Type} (w : W α) (e : Er) : Prop := ∀ (P : α → Prop) (E : Er → Prop), E e → w P E
theorem Thr.bnd {α β : Type} {m : W α} {f : α → W β} {e : Er} (h : Thr m e) : Thr (Mi.bnd m f) e := fun P E he => h _ E he
theorem Thr.afterP {α β : Type} {m : W α} {f : α → W β} {e : Er} {J : α → Prop} (h : Ok m J) (k : ∀ x, J x → Thr (f x) e) : Thr (Mi.bnd m f) e := fun P E he => h _ E fun y hy => k y hy P E he
theorem Thr.after {α β : Type} {m : W α} {f : α → W β} {e : Er} {x : α} (h : Ok m (· = x)) (k : Thr (f x) e) : Thr (Mi.bnd m f) e := Thr.afterP h fun y hy => by rw [hy]; exact k
theorem Thr.thr {α : Type} {e : Er} : Thr (Mi.thr e : W α) e := fun P E he => he
theorem Thr.retB {α β : Type} {f : α → W β} {e : Er} {x : α} (k : Thr (f x) e) : Thr (Mi.bnd (Mi.ret x) f) e := k
/-- a loop: good turns, then one that raises -/
theorem Thr.forW {α S : Type} {f : S → α → W S} {e : Er} : ∀ {xs ys : List α} {y : α} {s0 : S} (inv : Nat → S → Prop), inv 0 s0 → (∀ k (hk : k < xs.length) s, inv k s → Ok (f s xs[k]) (inv (k + 1))) → (∀ s, inv xs.length s → Thr (f s y) e) → Thr (Mi.forW f s0 (xs ++ y :: ys)) e
  | [], ys, y, s0, inv, h0, h1, h2 => Thr.bnd (h2 _ h0)
  | x :: xs, ys, y, s0, inv, h0, h1, h2 => Thr.afterP (h1 0 (by simp) s0 h0) fun s hs => Thr.forW (fun k => inv (k + 1)) hs (fun k hk s hs => h1 (k + 1) (by simpa using hk) s hs) fun s hs => h2 s hs
theorem zip_at {α : Type} {ds : List α} {k : Nat} (hk : k < ds.length) : ((rangeI 0 (ds.length : Int)).zip ds)[k]'(by rw [enum_len]; exact hk) = ((k : Int), ds[k]) := by
  have h := enum_at (ds := ds) (i := k) (List.getElem?_eq_getElem (l := (rangeI 0 (ds.length : Int)).zip ds) (by rw [enum_len]; exact hk))
  obtain ⟨h1, h2⟩ := h
  rw [List.getElem?_eq_getElem hk] at h2
  exact Prod.ext h1 (Option.some.inj h2).symm
theorem Thr.enum {α S : Type} {f : S → Int × α → W S} {e : Er} {ds : List α} {s0 : S} {i : Nat} (hi : i < ds.length) (inv : Nat → S → Prop) (h0 : inv 0 s0) (h1 : ∀ k (hk : k < i) s, inv k s → Ok (f s ((k : Int), ds[k]'(by omega))) (inv (k + 1))) (h2 : ∀ s, inv i s → Thr (f s ((i : Int), ds[i])) e) :
    Thr (Mi.forW f s0 ((rangeI 0 (ds.length : Int)).zip ds)) e := by
  have hx : i < ((rangeI 0 (ds.length : Int)).zip ds).length := by rw [enum_len]; exact hi
  have e1 : (rangeI 0 (ds.length : Int)).zip ds = ((rangeI 0 (ds.length : Int)).zip ds).take i ++ ((i : Int), ds[i]) :: ((rangeI 0 (ds.length : Int)).zip ds).drop (i + 1) := by
    rw [← zip_at hi, ← List.drop_eq_getElem_cons hx, List.take_append_drop]
  have hl : (((rangeI 0 (ds.length : Int)).zip ds).take i).length = i := by rw [List.length_take]; omega
  rw [e1]
  refine Thr.forW inv h0 (fun k hk s hs => ?_) fun s hs => h2 s (by rw [hl] at hs; exact hs)
  have hk' : k < i := by rw [hl] at hk; exact hk
  rw [List.getElem_take, zip_at (by omega)]
  exact h1 k hk' s hs
theorem join_okS (sep : Str) (hs : PyData.strOk sep = true) : ∀ (ys : List Str), (∀ y ∈ ys, PyData.strOk y = true) → PyData.strOk (Txt.join sep ys) = true := by
  have key : ∀ (ys : List Str) (acc : Array Nat), acc.all (· < 0x110000) = true → (∀ y ∈ ys, PyData.strOk y = true) → (ys.foldl (fun acc p => acc ++ sep.cps ++ p.cps) acc).all (· < 0x110000) = true := by
    intro ys
    induction ys with
    | nil => intro acc h _; exact h
    | cons y ys ih =>
      intro acc h hy
      refine ih _ ?_ fun z hz => hy z (List.mem_cons_of_mem _ hz)
      have h1 : y.cps.all (· < 0x110000) = true := hy y List.mem_cons_self
      have h2 : sep.cps.all (· < 0x110000) = true := hs
      rw [Array.all_append, Array.all_append, h, h1, h2]
      rfl
  intro ys h
  cases ys with
  | nil => exact key [] _ (by show Array.all #[] _ = true; simp) (fun _ z => by cases z)
  | cons y ys => exact key ys _ (h y List.mem_cons_self) fun z hz => h z (List.mem_cons_of_mem _ hz)
theorem shownAll_eq (ds : List PyData) : PyData.shownAll ds = ds.map PyData.shown := by
  induction ds with
  | nil => rfl
  | cons d ds ih => rw [PyData.shownAll, ih, List.map_cons]
theorem showableAll_of (ds : List PyData) (h : ∀ d ∈ ds, d.showable = true) : PyData.showableAll ds = true := by
  induction ds with
  | nil => rfl
  | cons d ds ih =>
    rw [PyData.showableAll, h d List.mem_cons_self, ih fun u hu => h u (List.mem_cons_of_mem _ hu)]
    rfl
theorem Shw.tup {ds : List PyData} {m n : Nat} (h : ∀ d ∈ ds, Shw d m) (hn : ds.length ≤ n) (h0 : ds ≠ []) : Shw (.tuple ds) (n * (m + 2) + 4) := by
  have l1 : (("(" : Str)).length = 1 := rfl
  refine ⟨by rw [PyData.showable]; exact showableAll_of ds fun d hd => (h d hd).s, ?_, ?_⟩
  · rw [PyData.shown, shownAll_eq]
    unfold tupleText
    rw [strLen_append, strLen_append]
    have j := join_length_add (ds.map PyData.shown) (by simpa using h0)
    have p := piled_le (ts := ds.map PyData.shown) (m := m) fun t ht => by
      obtain ⟨d, hd, rfl⟩ := List.mem_map.mp ht
      exact (h d hd).l
    rw [List.length_map] at p
    have q := Nat.mul_le_mul_right (m + 2) hn
    have lz : (Str.ofString (if (ds.map PyData.shown).length == 1 then ",)" else ")")).length ≤ 2 := by split <;> decide
    omega
  · rw [PyData.shown, shownAll_eq]
    unfold tupleText
    refine strOk_app (strOk_app (strOk_str _) ?_) (strOk_str _)
    rw [← StrLaws.glued_eq_join]
    exact join_okS _ (strOk_str _) _ fun t ht => by
      obtain ⟨d, hd, rfl⟩ := List.mem_map.mp ht
      exact (h d hd).o
theorem Shw.bool (b : Bool) : Shw (.bool b) 10 := by
  cases b <;> exact ⟨by decide +kernel, by decide +kernel, by decide +kernel⟩
theorem Shw.none : Shw .none 10 := ⟨by decide +kernel, by decide +kernel, by decide +kernel⟩
section
variable {κ α : Type} [DecidableEq κ]
theorem len_nodup : ∀ {xs ys : List κ}, xs.Nodup → (∀ x ∈ xs, x ∈ ys) → xs.length ≤ ys.length
  | [], _, _, _ => Nat.zero_le _
  | x :: xs, ys, nd, h => by
    obtain ⟨n1, n2⟩ := List.nodup_cons.mp nd
    have hx := h x List.mem_cons_self
    have ih := len_nodup (xs := xs) (ys := ys.erase x) n2 fun y hy => (List.mem_erase_of_ne (show y ≠ x from fun e => n1 (by rw [← e]; exact hy))).mpr (h y (List.mem_cons_of_mem _ hy))
    have := List.length_erase_of_mem hx
    have := List.length_pos_of_mem hx
    rw [List.length_cons]
    omega
end
def whole (d : PyData) : Bool := tyInt (tyD d) && !(tyD d == "bool")
def wholeW (a_value : PyData) : W Bool :=
  bnd (bnd (ret (tyInt (tyD a_value))) fun c1 => if c1 = true then (ret (!(tyD a_value == "bool"))) else ret false) fun z => ret z
theorem whole_ok (d : PyData) : Ok (wholeW d) (· = whole d) := by
  unfold wholeW whole
  refine Ok.bndE ?_ Ok.eq
  rw [bnd_ret]
  cases tyInt (tyD d) with
  | true => rw [if_pos rfl]; exact Ok.eq
  | false => rw [if_neg (by decide)]; exact Ok.eq
abbrev smallS : Str := "abcdefghijklmnopqrstuvwxyz"
def nameS (s : Str) : Bool := decide (1 ≤ s.length) && decide (s.length ≤ 6) && !decide (s ∈ (["n", "sum"] : List Str)) && s.cps.toList.all fun c => decide (c ∈ smallS.cps.toList)
def nameB : PyData → Bool
  | .str s => nameS s
  | _ => false
abbrev lettersS : Str := "abcdefghijklmopqrstuvwxyz"
structure GName (s : Str) : Prop where
  l : s.length = 1 ∨ s.length = 2 ∨ s.length = 4 ∨ s.length = 6
  c : ∀ c ∈ s.cps.toList, c ∈ lettersS.cps.toList
theorem GName.name {s : Str} (h : GName s) : nameS s = true := by
  have hl := h.l
  unfold nameS
  have h1 : decide (1 ≤ s.length) = true := decide_eq_true (by omega)
  have h2 : decide (s.length ≤ 6) = true := decide_eq_true (by omega)
  have h3 : decide (s ∈ (["n", "sum"] : List Str)) = false := decide_eq_false fun hm => by
    simp only [List.mem_cons, List.not_mem_nil, or_false] at hm
    rcases hm with rfl | rfl
    · exact absurd (h.c 110 (by decide +kernel)) (by decide +kernel)
    · exact absurd hl (by decide +kernel)
  rw [h1, h2, h3]
  simp only [Bool.not_false, Bool.and_true, Bool.true_and, List.all_eq_true, decide_eq_true_eq]
  intro c hc
  have : ∀ c ∈ lettersS.cps.toList, c ∈ smallS.cps.toList := by decide +kernel
  exact this c (h.c c hc)
theorem GName.ok {s : Str} (h : GName s) : PyData.strOk s = true := by
  unfold PyData.strOk
  rw [← Array.all_toList, List.all_eq_true]
  intro c hc
  have : ∀ c ∈ lettersS.cps.toList, c < 0x110000 := by decide +kernel
  exact decide_eq_true (this c (h.c c hc))
theorem GName.len {s : Str} (h : GName s) : s.length ≤ 6 := by
  have := h.l
  omega
theorem GName.line {s : Str} (h : GName s) : s.length ≤ sizeLine := Nat.le_trans h.len (by decide)
end Mi
namespace Mi
open PySem L2 Evl
end Mi
namespace Mi
open PySem L2 Evl
end Mi
namespace PySem.W
open PySem PySem.Spec PySem.Calls PyProof.Rows
end PySem.W
namespace Mi
open PySem L2 Evl
open PyProof.Rows (Call_)
end Mi
namespace Mi
open PySem L2 Evl
section
variable {X : Cx} {B : Bs} {env : Env} {os : Os} {α β : Type} {r : Rp α} {t : Rp β} {n m : Nat}
/-- the state behind a comparison -/
def EqAfter (X : Cx) (B : Bs) (env : Env) (os : Os) (pins : List (Addr × Obj)) (σ σ0 : L2.St) (F : Hp) (s' : Shared) : Prop := ∃ F' H', Inv X pins σ H' s' ∧ Sit B F' H' σ0 env os ∧ Ex F F'
def EqS (X : Cx) (n : Nat) (B : Bs) (env : Env) (os : Os) (r : Rp α) (g : α → α → Bool) : Prop :=
  ∀ (A : Around) (pins : List (Addr × Obj)) (s : Shared) (σ σ0 : L2.St) (F H : Hp) (u v : Value) (vx vy : V) (x y : α), Sub X n A → Inv X pins σ H s → Sit B F H σ0 env os → RelV vx u → RelV vy v → r.ok F vx x → r.ok F vy y →
    wpAny (model X.prog X.w) A (eqBool u v) (fun c s' => c = g x y ∧ EqAfter X B env os pins σ σ0 F s') X.xe s
def RefR (r : Rp α) : Prop := ∀ F v x, r.ok F v x → ∃ a, v = .ref a
theorem EqS.mono {g : α → α → Bool} (h : EqS X n B env os r g) (hn : n ≤ m) : EqS X m B env os r g := fun A pins s σ σ0 F H u v vx vy x y sb => h A pins s σ σ0 F H u v vx vy x y (sb.mono hn)
theorem ref_lst : RefR (rLst r) := fun F v x ⟨a, vs, h, _⟩ => ⟨a, h⟩
end
end Mi
namespace Mi
open PySem L2 Evl
open PyProof.Rows (Call_)
end Mi
namespace Mi
open PySem L2 Evl
section
variable {X : Cx} {B : Bs} {env : Env} {os : Os} {pos p : Pos} {ι ρ α β : Type} {a e : Expr} {es : List Expr} {rest : List Stmt} {post : Post β}
/-- a target that takes a value apart -/
theorem b_tgt {st : Stmt} {r : Rp α} {w1 : W α} {w2 : α → W β} {g : TG} {is : List Nat} {envT : Env → α → Env} (c : PS X st (tAsg (tOf B env os r w1) g)) (tgt : TgT g r is envT) (hr : ∀ x, BG X B (envT env x) os rest post (w2 x)) : BG X B env os (st :: rest) post (bnd w1 w2) :=
  PSs.imp (pss_cons c (PSs.ex hr)) fun D σ H ⟨F, P, S, hw, k⟩ => ⟨F, _, S, hw, fun x hx v F1 H1 S1 e1 ok => tgt F1 H1 v x σ env _ ok S1.fh S1.env fun σ' hσ _ => ⟨x, F1, P, ⟨S1.fin, hσ, S1.ow, S1.nd⟩, hx, k⟩⟩
end
end Mi
namespace Mi
open PySem L2 Evl
section
variable {X : Cx} {B : Bs} {env : Env} {os : Os} {pos pos' : Pos} {j : Nat} {α β : Type} {r : Rp α} {e : Expr}
/-- what says whether a value is None -/
def IsN (r : Rp α) (f : α → Bool) : Prop := ∀ F v x, r.ok F v x → decide (v = V.non) = f x
theorem isn_ref (h : RefR r) : IsN r (fun _ => false) := fun F v x ok => by
  obtain ⟨a, rfl⟩ := h F v x ok
  rfl
theorem isn_opt : IsN (rOpt r) (fun x => x.isNone) := fun F v x h => by
  cases x with
  | none =>
    have h : v = .non := h
    subst h
    rfl
  | some y =>
    have h : v ≠ .non ∧ r.ok F v y := h
    exact decide_eq_false h.1
theorem ref_t3 {K : PySem.W.Frag} {γ : Type} {s : Rp β} {t : Rp γ} : RefR (rT3 K r s t) := fun F v x ⟨a, v1, v2, v3, h, _⟩ => ⟨a, h⟩
theorem sem_isN {f : α → Bool} (h : IsN r f) : R2T (fun x y H Q => y = .non ∧ Q (.bl (decide (x = .non))) H) r rNon rBool (fun x _ => ret (f x)) := fun F H v u x y P E Q fh o1 o2 hw k => by
  refine ⟨o2, ?_⟩
  rw [h F v x o1]
  exact k _ hw (.bl _) F H (Grow.refl fh) rfl
theorem sem_notN {f : α → Bool} (h : IsN r f) : R2T (fun x y H Q => y = .non ∧ Q (.bl (!decide (x = .non))) H) r rNon rBool (fun x _ => ret (!f x)) := fun F H v u x y P E Q fh o1 o2 hw k => by
  refine ⟨o2, ?_⟩
  rw [h F v x o1]
  exact k _ hw (.bl _) F H (Grow.refl fh) rfl
theorem t_isN {f : α → Bool} {w : W α} (h : IsN r f) (ha : EE X B env os e r w) : ET X B env os (.Compare e [.Is] [.Constant .none j pos'] pos) (bnd w fun x => bnd (ret ()) fun _ => ret (f x)) := t_cmp op_isN (sem_isN h) (nomark _) ha fun _ => e_non
theorem t_notN {f : α → Bool} {w : W α} (h : IsN r f) (ha : EE X B env os e r w) : ET X B env os (.Compare e [.IsNot] [.Constant .none j pos'] pos) (bnd w fun x => bnd (ret ()) fun _ => ret (!f x)) := t_cmp op_notN (sem_notN h) (nomark _) ha fun _ => e_non
theorem e_toOpt {w : W α} (h : IsN r (fun _ => false)) (ha : EE X B env os e r w) : EE X B env os e (rOpt r) (bnd w fun x => ret (some x)) := e_map (s := rOpt r) (fun {F v x} ok => ⟨of_decide_eq_false (h F v x ok), ok⟩) ha
theorem e_nonOpt {w : W Unit} (ha : EE X B env os e rNon w) : EE X B env os e (rOpt r) (bnd w fun _ => ret none) := e_map (s := rOpt r) (g := fun _ => none) (fun ok => ok) ha
theorem e_unopt {w : W (Option α)} (ha : EE X B env os e (rOpt r) w) : EE X B env os e r (bnd w optW) := PE.imp ha fun σ H Q ⟨F, P, S, hw, k⟩ => ⟨F, _, S, hw, fun x hx v F' H' S' e' ok => by
  cases x with
  | none => exact False.elim hx
  | some y => exact k y hx v F' H' S' e' ok.2⟩
end
end Mi
namespace Mi
open PySem L2 Evl
end Mi
namespace Mi
open PySem L2 Evl
theorem tyX_tup {K : PySem.W.Frag} {H : Hp} {a : Addr} {xs : List V} (h : SqT K H a xs) : TyX K H (.ref a) (.type "tuple") := by
  rcases h with (h | ⟨o, h⟩) | ⟨o, its, n, h1, h2, _⟩
  · exact .base (.tup h)
  · exact .fTuple h
  · exact .kTuple h1 h2
section
variable {K : PySem.W.Frag} {α β γ : Type} {r : Rp α} {s : Rp β} {t : Rp γ}
theorem ty_tup : TyR K (rTup K r) (.type "tuple") := fun F H v x ⟨a, vs, e, h, _⟩ q => by
  rw [e]
  exact tyX_tup (ex_t q h)
end
end Mi
namespace Mi
open PySem L2 Evl
section
variable {X : Cx} {B : Bs} {env : Env} {os : Os} {pos : Pos} {α : Type} {r : Rp α} {a : Expr}
theorem e_isTT {w : W α} {t : Value} {x1 x2 : Str} {T1 T2 : String} {k : Bool} {p1 p2 p3 p4 : Pos} {kk0 : Nat} (ty : TyR X.K r t) (hk : PySem.W.kitAny X.K t [.type T1, .type T2] = some k) (ha : EE X B env os a r w) (hm : X.mg "isinstance" = none) (hx1 : X.mg x1 = none) (hx2 : X.mg x2 = none)
    (hv1 : bootBuiltins x1 = some (.type T1) := by decide +kernel) (hn1 : x1 ≠ "__name__" := by decide) (hd1 : (x1 == ("__debug__" : Str)) = false := by decide) (hv2 : bootBuiltins x2 = some (.type T2) := by decide +kernel) (hn2 : x2 ≠ "__name__" := by decide) (hd2 : (x2 == ("__debug__" : Str)) = false := by decide)
    (hg : Gl X "isinstance" := by rfl) (hg1 : Gl X x1 := by rfl) (hg2 : Gl X x2 := by rfl) (hs : starEach [a, .Tuple [.Name x1 p2, .Name x2 p3] kk0 p4] X.env = (false, eval a X.env) :: starEach [.Tuple [.Name x1 p2, .Name x2 p3] kk0 p4] X.env := by rfl) (hs2 : starEach [.Tuple [.Name x1 p2, .Name x2 p3] kk0 p4] X.env = (false, eval (.Tuple [.Name x1 p2, .Name x2 p3] kk0 p4) X.env) :: starEach [] X.env := by rfl)
    (hs3 : starEach [.Name x1 p2, .Name x2 p3] X.env = (false, eval (.Name x1 p2) X.env) :: starEach [.Name x2 p3] X.env := by rfl) (hs4 : starEach [.Name x2 p3] X.env = (false, eval (.Name x2 p3) X.env) :: starEach [] X.env := by rfl) (hpl : (backTo pos (starEach [.Tuple [.Name x1 p2, .Name x2 p3] kk0 p4] X.env)).any (·.1) = false := by rfl) :
    EE X B env os (.Call (.Name "isinstance" p1) [a, .Tuple [.Name x1 p2, .Name x2 p3] kk0 p4] [] pos) rBool (bnd w fun _ => ret k) :=
  PE.imp (pe_callB call_isiT hg hm (by decide +kernel) (pa_cons ha (pa_cons (pe_tup (pa_cons (pe_bltn (v := .ty T1) hg1 hx1 hv1 rfl hn1 hd1) (pa_cons (pe_bltn (v := .ty T2) hg2 hx2 hv2 rfl hn2 hd2) pa_nil hs4) hs3)) pa_nil hs2) hs) (by decide) (by decide) hs hpl) fun σ H Q ⟨F, P, S, hw, kk⟩ => ⟨F, _, S, hw, fun d hd v F1 H1 S1 e1 ok => ⟨by show 2 ≤ sizeLine; decide, fun q hq => by
    have g : Grow F1 H1 (upd F1 q (.tup [.ty T1, .ty T2])) (upd H1 q (.tup [.ty T1, .ty T2])) := Grow.alloc S1.fh hq
    exact ⟨v, q, [.ty T1, .ty T2], _, [.type T1, .type T2], k, rfl, upd_same, .cons (.ty T1) (.cons (.ty T2) .nil), ty _ _ v d (r.mono g.f ok) (S1.grow g).fh, hk, kk _ hd (.bl _) _ _ (S1.grow g) (e1.trans g.f) rfl⟩⟩⟩
theorem kt_lst {K : PySem.W.Frag} : PySem.W.kitAny K (.type "list") [.type "list", .type "tuple"] = some true := kt_lt (.list [])
theorem kt_tup {K : PySem.W.Frag} : PySem.W.kitAny K (.type "tuple") [.type "list", .type "tuple"] = some true := kt_lt (.tuple [])
theorem e_isLT_lst {w : W (List α)} {p1 p2 p3 p4 : Pos} {kk0 : Nat} (ha : EE X B env os a (rLst r) w) (hm : X.mg "isinstance" = none) (hx1 : X.mg "list" = none) (hx2 : X.mg "tuple" = none)
    (hg : Gl X "isinstance" := by rfl) (hg1 : Gl X "list" := by rfl) (hg2 : Gl X "tuple" := by rfl) (hs : starEach [a, .Tuple [.Name "list" p2, .Name "tuple" p3] kk0 p4] X.env = (false, eval a X.env) :: starEach [.Tuple [.Name "list" p2, .Name "tuple" p3] kk0 p4] X.env := by rfl) (hs2 : starEach [.Tuple [.Name "list" p2, .Name "tuple" p3] kk0 p4] X.env = (false, eval (.Tuple [.Name "list" p2, .Name "tuple" p3] kk0 p4) X.env) :: starEach [] X.env := by rfl)
    (hs3 : starEach [.Name "list" p2, .Name "tuple" p3] X.env = (false, eval (.Name "list" p2) X.env) :: starEach [.Name "tuple" p3] X.env := by rfl) (hs4 : starEach [.Name "tuple" p3] X.env = (false, eval (.Name "tuple" p3) X.env) :: starEach [] X.env := by rfl) (hpl : (backTo pos (starEach [.Tuple [.Name "list" p2, .Name "tuple" p3] kk0 p4] X.env)).any (·.1) = false := by rfl) :
    EE X B env os (.Call (.Name "isinstance" p1) [a, .Tuple [.Name "list" p2, .Name "tuple" p3] kk0 p4] [] pos) rBool (bnd w fun _ => ret true) := e_isTT ty_lst kt_lst ha hm hx1 hx2 (hg := hg) (hg1 := hg1) (hg2 := hg2) (hs := hs) (hs2 := hs2) (hs3 := hs3) (hs4 := hs4) (hpl := hpl)
theorem e_isLT_tup {w : W (List α)} {p1 p2 p3 p4 : Pos} {kk0 : Nat} (ha : EE X B env os a (rTup X.K r) w) (hm : X.mg "isinstance" = none) (hx1 : X.mg "list" = none) (hx2 : X.mg "tuple" = none)
    (hg : Gl X "isinstance" := by rfl) (hg1 : Gl X "list" := by rfl) (hg2 : Gl X "tuple" := by rfl) (hs : starEach [a, .Tuple [.Name "list" p2, .Name "tuple" p3] kk0 p4] X.env = (false, eval a X.env) :: starEach [.Tuple [.Name "list" p2, .Name "tuple" p3] kk0 p4] X.env := by rfl) (hs2 : starEach [.Tuple [.Name "list" p2, .Name "tuple" p3] kk0 p4] X.env = (false, eval (.Tuple [.Name "list" p2, .Name "tuple" p3] kk0 p4) X.env) :: starEach [] X.env := by rfl)
    (hs3 : starEach [.Name "list" p2, .Name "tuple" p3] X.env = (false, eval (.Name "list" p2) X.env) :: starEach [.Name "tuple" p3] X.env := by rfl) (hs4 : starEach [.Name "tuple" p3] X.env = (false, eval (.Name "tuple" p3) X.env) :: starEach [] X.env := by rfl) (hpl : (backTo pos (starEach [.Tuple [.Name "list" p2, .Name "tuple" p3] kk0 p4] X.env)).any (·.1) = false := by rfl) :
    EE X B env os (.Call (.Name "isinstance" p1) [a, .Tuple [.Name "list" p2, .Name "tuple" p3] kk0 p4] [] pos) rBool (bnd w fun _ => ret true) := e_isTT ty_tup kt_tup ha hm hx1 hx2 (hg := hg) (hg1 := hg1) (hg2 := hg2) (hs := hs) (hs2 := hs2) (hs3 := hs3) (hs4 := hs4) (hpl := hpl)
end
end Mi
namespace Mi
open PySem L2 Evl
open PyProof.Rows (envOfC)
end Mi
namespace Mi
open PySem L2 Evl
end Mi
set_option exponentiation.threshold 20000
namespace Mi
open PySem L2 Evl
def Prm (p : Nat) : Prop := 2 ≤ p ∧ ∀ d, d ∣ p → d = 1 ∨ d = p
def divsL (m : Nat) : List Nat := (List.range (m + 1)).filter fun d => decide (0 < d ∧ d ∣ m)
theorem mem_divsL {m d : Nat} (hm : 0 < m) : d ∈ divsL m ↔ d ∣ m := by
  unfold divsL
  rw [List.mem_filter, List.mem_range, decide_eq_true_eq]
  constructor
  · exact fun h => h.2.2
  · intro h
    have := Nat.le_of_dvd hm h
    have h0 : 0 < d := Nat.pos_of_dvd_of_pos h hm
    exact ⟨by omega, h0, h⟩
theorem divsL_sorted (m : Nat) : (divsL m).Pairwise (· < ·) := List.pairwise_lt_range.filter _
theorem divsL_nodup (m : Nat) : (divsL m).Nodup := (divsL_sorted m).imp fun h => Nat.ne_of_lt h
/-- the state of the search: found below low; no number from 2 to low - 1 divides rest -/
structure PInv (m : Nat) (ps : List Nat) (rest low : Nat) : Prop where
  low2 : 2 ≤ low
  rest0 : 0 < rest
  dv : rest ∣ m
  asc : ps.Pairwise (· < ·)
  prm : ∀ p ∈ ps, Prm p ∧ p ∣ m ∧ p < low
  all : ∀ p, Prm p → p ∣ m → p ∈ ps ∨ p ∣ rest
  no : ∀ d, 2 ≤ d → d < low → ¬ d ∣ rest
theorem PInv.len {m rest low : Nat} {ps : List Nat} (h : PInv m ps rest low) : ps.length ≤ low := by
  have := len_nodup (xs := ps) (ys := List.range low) (h.asc.imp fun h => Nat.ne_of_lt h) fun x hx => by
    rw [List.mem_range]
    exact (h.prm x hx).2.2
  rwa [List.length_range] at this
theorem PInv.low {m rest low : Nat} {ps : List Nat} (h : PInv m ps rest low) (hd : low ∣ rest) : Prm low := ⟨h.low2, fun d hd' => by
  refine Classical.byContradiction fun q => ?_
  have hle := Nat.le_of_dvd (by have := h.low2; omega) hd'
  have h0 : d ≠ 0 := by
    rintro rfl
    have := Nat.eq_zero_of_zero_dvd hd'
    have := h.low2
    omega
  have h1 : d ≠ 1 := fun e => q (.inl e)
  have h2 : d ≠ low := fun e => q (.inr e)
  exact h.no d (by omega) (by omega) (Nat.dvd_trans hd' hd)⟩
end Mi
set_option exponentiation.threshold 20000
namespace Mi
open PySem L2 Evl
theorem divsL_few {m : Nat} (hm : 0 < m) (hb : m < 2 ^ 40) : (divsL m).length ≤ 2 ^ 21 := by
  have h1 : ((divsL m).filter fun d => decide (d * d ≤ m)).length ≤ 2 ^ 20 := by
    have := len_nodup (xs := (divsL m).filter fun d => decide (d * d ≤ m)) (ys := List.range (2 ^ 20)) ((divsL_nodup m).filter _) fun x hx => by
      rw [List.mem_filter, decide_eq_true_eq] at hx
      rw [List.mem_range]
      refine Nat.lt_of_not_le fun h => ?_
      have : 2 ^ 20 * 2 ^ 20 ≤ x * x := Nat.mul_le_mul h h
      have e : 2 ^ 20 * 2 ^ 20 = 2 ^ 40 := by decide
      omega
    rwa [List.length_range] at this
  have h2 : ((divsL m).filter fun d => !decide (d * d ≤ m)).length ≤ 2 ^ 20 := by
    have nd : (((divsL m).filter fun d => !decide (d * d ≤ m)).map fun d => m / d).Nodup := by
      rw [List.Nodup, List.pairwise_map]
      refine (List.Pairwise.imp_of_mem ?_ ((divsL_nodup m).filter _))
      intro a b ha hb' hab e
      rw [List.mem_filter] at ha hb'
      have da := (mem_divsL hm).mp ha.1
      have db := (mem_divsL hm).mp hb'.1
      refine hab ?_
      have q1 : m / (m / a) = a := Nat.div_div_self da (by omega)
      have q2 : m / (m / b) = b := Nat.div_div_self db (by omega)
      rw [← q1, ← q2, e]
    have := len_nodup (ys := List.range (2 ^ 20)) nd fun x hx => by
      obtain ⟨d, hd, rfl⟩ := List.mem_map.mp hx
      rw [List.mem_filter] at hd
      have dd := (mem_divsL hm).mp hd.1
      have hlt : m < d * d := by
        have := hd.2
        simpa using this
      rw [List.mem_range]
      obtain ⟨e, he⟩ := dd
      have hd0 : 0 < d := Nat.pos_of_ne_zero fun z => by subst z; omega
      have hq : m / d = e := by rw [he]; exact Nat.mul_div_cancel_left e hd0
      rw [hq]
      have hed : e < d := by
        refine Nat.lt_of_not_le fun h => ?_
        have := Nat.mul_le_mul_left d h
        omega
      refine Nat.lt_of_not_le fun h => ?_
      have : 2 ^ 20 * 2 ^ 20 ≤ d * e := Nat.mul_le_mul (by omega) h
      have e : 2 ^ 20 * 2 ^ 20 = 2 ^ 40 := by decide
      omega
    rwa [List.length_map, List.length_range] at this
  have h3 : (divsL m).length = ((divsL m).filter fun d => decide (d * d ≤ m)).length + ((divsL m).filter fun d => !decide (d * d ≤ m)).length := by
    rw [← List.length_append]
    exact ((List.filter_append_perm (fun d => decide (d * d ≤ m)) (divsL m)).length_eq).symm
  have e : 2 ^ 20 + 2 ^ 20 = 2 ^ 21 := by decide
  omega
structure DivOf (found : List Int) (n : Nat) : Prop where
  nd : found.Nodup
  mem : ∀ x : Int, x ∈ found ↔ ∃ d : Nat, x = (d : Int) ∧ d ∣ n
theorem DivOf.len {found : List Int} {n : Nat} (h : DivOf found n) (hn : 0 < n) (hb : n < 2 ^ 40) : found.length ≤ 2 ^ 21 := by
  refine Nat.le_trans (len_nodup (ys := (divsL n).map fun d : Nat => (d : Int)) h.nd fun x hx => ?_) (by rw [List.length_map]; exact divsL_few hn hb)
  obtain ⟨d, rfl, hd⟩ := (h.mem x).mp hx
  exact List.mem_map_of_mem ((mem_divsL hn).mpr hd)
abbrev dvs (m : Nat) : List Int := (divsL m).map fun d : Nat => (d : Int)
end Mi
namespace Mi
open PySem L2 Evl PyProof.Rows
section
variable {X : Cx} {B : Bs} {env : Env} {os : Os} {pos : Pos} {α β γ : Type} {r : Rp α} {s : Rp β} {t : Rp γ} {a : Expr}
theorem sem_30 {K : PySem.W.Frag} : R2T (rIxT K) (rT3 K r s t) rInt r (fun x i => chk (i = 0) (ret x.1)) := fun F H v u x y P E Q fh ⟨p, v1, v2, v3, e1, h1, h2, h3, h4⟩ e2 ⟨c, hw⟩ k =>
  ⟨p, _, y, v1, e1, e2, ex_t fh h1, (by subst c; rfl), k _ hw v1 F H (Grow.refl fh) h2⟩
theorem e_30 {w1 : W (α × β × γ)} {j} {pos2 : Pos} (ha : EE X B env os a (rT3 X.K r s t) w1) (hs : PlainIx (.Constant (.int 0) j pos2) := by exact fun _ _ => rfl) : EE X B env os (.Subscript a (.Constant (.int 0) j pos2) pos) r (bnd w1 fun x => ret x.1) :=
  e_conv (e_ix ix_tup sem_30 hs ha (fun _ => e_int)) (by
      funext P E
      show w1 _ E = w1 _ E
      congr 1
      funext x
      exact propext ⟨fun h => ⟨rfl, h⟩, fun h => h.2⟩)
end
end Mi
namespace Mi
open PySem L2 Evl
open PyProof.Rows (envOfC)
end Mi
namespace Mi
open PySem L2 Evl PyProof.Rows
open PyProof.Rows (envOfC)
theorem OsLe.cons {os l : Os} {p : Addr × Own} (h : p ∈ os) (t : OsLe os l) : OsLe os (p :: l) := fun q hq => by
  rcases List.mem_cons.mp hq with e | hq
  · rw [e]
    exact h
  · exact t q hq
end Mi
namespace Mi
open PySem L2 Evl
end Mi
namespace Mi
open PySem L2 Evl
def rawD (P : Program) (w : World) (D : Addr) (xs : List (NestedKey × Addr × Value)) (h : Heap) : Prop :=
  ∃ o es ep, h.get? D = some o ∧ o.ExactDict ∧ o.data = .dict es ep ∧ es.toList = xs.map (entryOfKey (nestedKind P w)) ∧ (xs.map (·.1)).Nodup ∧ (D == sysModules) = false
theorem rawD.stay {P : Program} {w : World} {D : Addr} {xs : List (NestedKey × Addr × Value)} : ∀ h1 h2 : Heap, rawD P w D xs h1 → (∀ o, h1.get? D = some o → h2.get? D = some o) → rawD P w D xs h2 :=
  fun h1 h2 ⟨o, es, ep, a1, a2⟩ k => ⟨o, es, ep, k o a1, a2⟩
theorem rawD.ok {P : Program} {w : World} {H : Hp} {h : Heap} {D : Addr} {xs : List (NestedKey × Addr × Value)} (r : rawD P w D xs h) : ObjOk P w H h D (.ext (rawD P w D xs)) := by
  obtain ⟨o, es, ep, h1, h2⟩ := id r
  exact ⟨r, ⟨o, h1⟩, rawD.stay⟩
/-- a tuple of whole numbers and None, as a key -/
def PartK (v : V) (k : NestedKey) : Prop := (∃ i, v = .int i ∧ k = .num i) ∨ (v = .non ∧ k = .none)
def RowAt (K : PySem.W.Frag) (H : Hp) (k : NestedKey) (b : Addr) : Prop := ∃ vs ks, SqT K H b vs ∧ k = .tup ks ∧ Paired PartK vs ks
theorem RowAt.mono {K : PySem.W.Frag} {H H' : Hp} {k : NestedKey} {b : Addr} (e : Ex H H') : RowAt K H k b → RowAt K H' k b := fun ⟨vs, ks, h, r⟩ => ⟨vs, ks, ex_t e h, r⟩
end Mi
namespace Mi
open PySem PySem.Spec PyProof.Rows L2 Evl
/-- the new dict -/
theorem rawD.new {X : Cx} {pins : List (Addr × Obj)} {σ : L2.St} {H : Hp} {s : Shared} (I : Inv X pins σ H s) : Inv X pins σ (upd H s.heap.objs.size (.ext (rawD X.prog X.w s.heap.objs.size []))) { s with heap := s.heap.push { cls := .type "dict", data := .dict #[] } } := by
  refine I.laid (t' := s.toks) (fun b o e => Heap.get?_push_of_some _ e) (Nat.le_refl _) (rawD.ok ?_)
  obtain ⟨o, es, ep, h1, h2, h3, h4, _, h6⟩ := Heap.DictOfH.new (knd := nestedKind X.prog X.w) s.heap
  exact ⟨o, es, ep, h1, h2, h3, h4, h6, beq_eq_false_iff_ne.mpr (Nat.ne_of_gt I.big)⟩
end Mi
namespace Mi
open PySem L2 Evl
abbrev Row3 := Int × Int × Option Int
abbrev rRow (K : PySem.W.Frag) : Rp Row3 := rT3 K rInt rInt (rOpt rInt)
def optK : Option Int → NestedKey
  | none => .none
  | some i => .num i
def rowKey (x : Row3) : NestedKey := .tup [.num x.1, .num x.2.1, optK x.2.2]
def RowP (K : PySem.W.Frag) (F : Hp) (p : NestedKey × Addr × Value) (x : Row3) : Prop := p.1 = rowKey x ∧ p.2.2 = .bool true ∧ (rRow K).ok F (.ref p.2.1) x
theorem RowP.mono {K : PySem.W.Frag} {F F' : Hp} (e : Ex F F') {p : NestedKey × Addr × Value} {x : Row3} : RowP K F p x → RowP K F' p x := fun ⟨h1, h2, h3⟩ => ⟨h1, h2, (rRow K).mono e h3⟩
end Mi
namespace Mi
open PySem L2 Evl
end Mi
namespace Mi
open PySem L2 Evl
end Mi
namespace Mi
open PySem L2 Evl
def Itr (P : Program) (w : World) (d : Addr) (o : Obj) (xs : List (NestedKey × Addr × Value)) : It :=
  ⟨fun i H => H d = some (.frz o (.ext (rawD P w d xs))) ∧ i < xs.length, fun i H x H' => H' = H ∧ ∃ p, xs[i]? = some p ∧ x = .ref p.2.1, fun i H => H d = some (.frz o (.ext (rawD P w d xs))) ∧ xs.length ≤ i⟩
end Mi
namespace Mi
open PySem L2 Evl
end Mi
namespace Mi
open PySem L2 Evl
end Mi
namespace Mi
open PySem L2 Evl PyProof.Rows PySem.W
end Mi
namespace Mi
open PySem L2 Evl PyProof.Rows PySem.W
open PyProof.Rows (envOfC)
end Mi
namespace Mi
open PySem L2 Evl
end Mi
namespace Mi
open PySem L2 Evl
end Mi
namespace Mi
open PySem L2 Evl
end Mi
namespace Mi
open PySem L2 Evl
end Mi
namespace Mi
open PySem L2 Evl
open PyProof.Rows (envOfC)
def tyL (K : PySem.W.Frag) (x : V) (H : Hp) : Prop := ∃ (a : Addr) (ns : List Int), x = .ref a ∧ SqL K H a (ns.map V.int)
section
variable {X : Cx} {B : Bs} {env : Env} {os : Os} {pos apos : Pos} {o e : Expr}
theorem mt_lindex : MtR X "list.index" (fun x xs H Q => ∃ (a : Addr) (ns : List Int) (k : Int), x = .ref a ∧ xs = [.int k] ∧ SqL X.K H a (ns.map V.int) ∧ k ∈ ns ∧ Q (.int (ns.idxOf k : Nat)) H) := by
  intro pins s σ H x xs v us Q I rx rs h
  obtain ⟨a, ns, k, e1, e2, hs, hk, q⟩ := h
  subst e1
  subst e2
  cases rx
  cases rs with
  | cons r1 rs =>
    cases rs
    obtain ⟨t2, e⟩ := r1
    subst e
    obtain ⟨its, rv, hl, hz⟩ := I.list hs
    rw [List.length_map] at hz
    exact PySem.SeqAt.list_index_ints hl.isList (Vals.ints rv) hz hk ⟨.int (ns.idxOf k : Nat), H, I.tok _, ⟨_, rfl⟩, q⟩
theorem ty_list : TyOk X "list" (tyL X.K) := by
  intro pins σ H s x v I r ty
  obtain ⟨a, ns, rfl, hs⟩ := ty
  cases r
  obtain ⟨its, rv, hl, hz⟩ := I.list hs
  obtain ⟨ob, n, h1, h2, h3, h4⟩ := hl
  exact ⟨⟨ob, h1, h2⟩, fun b e => by
    cases e
    exact ⟨ob, h1, h3⟩⟩
theorem e_index {w1 : W (List Int)} {w2 : List Int → W Int} (ho : EE X B env os o (rLst rInt) w1) (he : ∀ x, EE X B env os e rInt (w2 x))
    (hbase : attributeBase o "index" X.env (eval o X.env) = eval o X.env := by rfl)
    (hfew : ((backTo pos (starEach [e] X.env)).all (fun x => !x.1) && (backToKw pos (keywordEach [] X.env)).all (fun x => x.1.isSome)
      && decide (([e] : List Expr).length + ([] : List Keyword).length + (if ([] : List Keyword).isEmpty then 0 else 1) < 30)) = true := by rfl)
    (hline : (apos.endLine == pos.line) = true := by rfl) (hs : starEach [e] X.env = (false, eval e X.env) :: starEach [] X.env := by rfl) (hplain : (backTo pos (starEach [] X.env)).any (·.1) = false := by rfl) :
    EE X B env os (.Call (.Attribute o "index" apos) [e] [] pos) rInt (bnd w1 fun xs => bnd (w2 xs) fun k => chk (k ∈ xs) (ret ((xs.idxOf k : Nat) : Int))) :=
  PE.imp (pe_mG ty_list PySem.F.plainAttrs_list PySem.F.slot_list_index PySem.F.type_list_index mt_lindex ho (pa_cons (PE.ex he) pa_nil hs) hbase hfew hline hs hplain) fun σ H Q ⟨F, P, S, hw, kk⟩ => ⟨F, _, S, hw, fun xs hx v F1 H1 S1 e1 ⟨p1, vs, q1, h1, z1, ok1⟩ => by
    have ev := ints_map ok1
    subst ev
    exact ⟨⟨p1, xs, q1, SqL.of (S1.fh _ _ h1)⟩, xs, F1, _, S1, hx, fun k ⟨hk, hp⟩ u F2 H2 S2 e2 ok2 => ⟨p1, xs, k, q1, by rw [show u = V.int k from ok2], SqL.of (S2.fh _ _ (e2 _ _ h1)), hk, kk _ hp _ F2 H2 S2 (e1.trans e2) rfl⟩⟩⟩
end
end Mi
namespace Mi
open PySem L2 Evl LamX
open PyProof.Rows (envOfC)
end Mi
namespace Mi
open PySem L2 Evl LamX
open PyProof.Rows (envOfC IntsAre AllBare)
end Mi
namespace Mi
open PySem L2 Evl LamX
end Mi
namespace GenFr
open PySem
open Sem (wp)
/-- the same to look at, never to be resumed -/
def kill : GenState → GenState
  | .suspended _ l c p fs cl => .suspended (fun _ => .unsupported "") l c p fs cl
  | x => x
theorem kill_bare (x : GenState) : (kill x).bare = x.bare := by cases x <;> rfl
def Frame.isGen : Frame → Bool
  | .gen .. => true
  | _ => false
def NoG (fs : List Frame) : Prop := ∀ F ∈ fs, Frame.isGen F = false
def NoS : GenState → Prop
  | .suspended _ _ _ _ fs _ => NoG fs
  | _ => True
abbrev Fz := Nat → Option GenState
/-- what f tells of is suspended and killed in s; all else that is suspended holds no other generator's frame -/
structure Kd (f : Fz) (s : Shared) : Prop where
  dead : ∀ i X, f i = some X → s.gens[i]? = some (kill X) ∧ ∃ k l c p fs cl, X = .suspended k l c p fs cl
  wf : ∀ i x, f i = none → s.gens[i]? = some x → NoS x
def back (f : Fz) (s : Shared) : Shared := { s with gens := s.gens.mapIdx fun i x => (f i).getD x }
section
variable {f : Fz} {s : Shared} {g : Nat} {x y : GenState}
theorem back_size : (back f s).gens.size = s.gens.size := by simp [back]
theorem back_at (h : s.gens[g]? = some x) : (back f s).gens[g]? = some ((f g).getD x) := by
  simp [back, h]
theorem Kd.free (K : Kd f s) (h : s.gens[g]? = some x) (hx : ∀ k l c p fs cl, x ≠ .suspended k l c p fs cl) : f g = none := by
  cases q : f g with
  | none => rfl
  | some X =>
    obtain ⟨e, k, l, c, p, fs, cl, e2⟩ := K.dead g X q
    subst e2
    rw [h] at e
    exact (hx _ _ _ _ _ _ (Option.some.inj e)).elim
theorem Kd.set (K : Kd f s) (h : f g = none) (hy : NoS y) : Kd f (s.setGen g y) := ⟨fun i X e => by
  obtain ⟨e1, e2⟩ := K.dead i X e
  refine ⟨?_, e2⟩
  have q : g ≠ i := fun z => by
    subst z
    rw [h] at e
    cases e
  show (s.gens.setIfInBounds g y)[i]? = _
  rw [Array.getElem?_setIfInBounds_ne q]
  exact e1, fun i x e ex => by
  have ex : (s.gens.setIfInBounds g y)[i]? = some x := ex
  by_cases q : g = i
  · subst q
    rw [Array.getElem?_setIfInBounds] at ex
    split at ex
    · split at ex
      · cases ex
        exact hy
      · cases ex
    · exact K.wf g x e ex
  · rw [Array.getElem?_setIfInBounds_ne q] at ex
    exact K.wf i x e ex⟩
theorem Kd.push (K : Kd f s) (c : Code) : Kd f ({ s with gens := s.gens.push (.fresh c) } : Shared) := ⟨fun i X e => by
  obtain ⟨e1, e2⟩ := K.dead i X e
  have hl := (Array.getElem?_eq_some_iff.mp e1).1
  refine ⟨?_, e2⟩
  show (s.gens.push (.fresh c))[i]? = _
  rw [Array.getElem?_push_lt hl, ← e1, Array.getElem?_eq_getElem hl], fun i x e ex => by
  have ex : (s.gens.push (.fresh c))[i]? = some x := ex
  rw [Array.getElem?_push] at ex
  split at ex
  · cases ex
    trivial
  · exact K.wf i x e ex⟩
theorem Kd.heap (K : Kd f s) {s' : Shared} (h : s'.gens = s.gens) : Kd f s' := ⟨fun i X e => by rw [h]; exact K.dead i X e, fun i x e ex => K.wf i x e (by rw [← h]; exact ex)⟩
end
end GenFr
namespace Mi
open PySem L2 Evl GenFr
open PyProof.Rows (AllBare)
theorem bare_back {f : Fz} {s : Shared} (K : Kd f s) (h : AllBare s.gens) : AllBare (back f s).gens := fun y hy => by
  obtain ⟨i, hi, e⟩ := Array.getElem_of_mem hy
  have hl : i < s.gens.size := by
    have := hi
    rwa [back_size] at this
  have z := back_at (f := f) (Array.getElem?_eq_getElem hl)
  rw [Array.getElem?_eq_getElem hi, e] at z
  have z := Option.some.inj z
  cases q : f i with
  | none =>
    rw [q, Option.getD_none] at z
    rw [z]
    exact h _ (Array.getElem_mem hl)
  | some X =>
    rw [q, Option.getD_some] at z
    have k := (K.dead i X q).1
    rw [Array.getElem?_eq_getElem hl] at k
    have k := Option.some.inj k
    have b := h _ (Array.getElem_mem hl)
    rw [k, kill_bare] at b
    rw [z]
    exact b
section
variable {X : Cx} {pins : List (Addr × Obj)} {σ : L2.St} {H : Hp} {s : Shared}
theorem _root_.L2.Inv.back {f : Fz} (I : L2.Inv X pins σ H s) (K : Kd f s) : L2.Inv X pins σ H (back f s) := ⟨I.ok, I.os, bare_back K I.bare, I.base, I.loc, I.cell, I.free, I.freeC, I.pin, I.hok, I.len⟩
/-- every suspended generator of s stands as it stood -/
def Stand (s s' : Shared) : Prop := ∀ (g : Nat) k l c p fs cl, s.gens[g]? = some (.suspended k l c p fs cl) → s'.gens[g]? = some (.suspended k l c p fs cl)
theorem Stand.refl (s : Shared) : Stand s s := fun _ _ _ _ _ _ _ h => h
theorem Stand.trans {s s1 s2 : Shared} (a : Stand s s1) (b : Stand s1 s2) : Stand s s2 := fun g k l c p fs cl h => b _ _ _ _ _ _ _ (a _ _ _ _ _ _ _ h)
end
end Mi
namespace GenFor
open PySem PySem.Spec PyProof.Rows GenW L2
end GenFor
namespace Gen1
open PySem PySem.Spec PyProof.Rows GenW L2 GenFor
abbrev Done1 := Result → Shared → Prop
abbrev Out1 := Value → Shared → (Resume → Sem PySem.Fin) → Code → List Frame → Prop
def End1 (R : Done1) (Z : Out1) (e : End) (s : Shared) : Prop := match e with
  | .ret r => R r s
  | .susp v g l k c p fs => (End.susp v g l k c p fs).quiet = true ∧ Z v s k c fs
def Seg1 (M : Model) (A : Around) (R : Done1) (Z : Out1) (c : Code) (t : Sem PySem.Fin) (fs : List Frame) (s : Shared) : Prop :=
  ∀ Γ p, Γ.code = c → Γ.Woken A → ∃ e s', Runs M Γ p t fs s e s' ∧ End1 R Z e s'
section
variable {M : Model} {A : Around} {R : Done1} {Z : Out1} {c : Code} {fs : List Frame} {s : Shared} {env : Env}
  {K : Flow → Sem PySem.Fin} {J : Value → Sem PySem.Fin} {gd : Bool → Bool} {lv : List Value → List Value}
theorem one_call {c' : Code} {h g l} {k : Result → Sem PySem.Fin} (hc : ∀ p, Seg1 M A R Z c' (M.den c') (.ret k h g l c p [] :: fs) s) : Seg1 M A R Z c (.call c' h g l k) fs s := by
  rintro Γ p rfl hΓ
  obtain ⟨e, s', hr, he⟩ := hc p (Γ.goto c') p rfl (hΓ.goto c')
  exact ⟨e, s', runs_call_seg hr, he⟩
end
end Gen1
namespace Gen1
open PySem PySem.Spec PyProof.Rows GenW L2 GenFor
end Gen1
namespace Gen1
open PySem PySem.Spec PyProof.Rows GenW L2 GenFor
/-- the loop's code: x runs over the list's iterator at `it` -/
structure Lp where
  x : Str
  it : Addr
  li : Addr
  env : Env
  p0 : Pos
  p1 : Pos
  p2 : Pos
  p3 : Pos
abbrev Lp.code (L : Lp) : Code := .forLoop (.Name L.x L.p0) (.ref L.it) [.Expr (.Yield (some (.Name L.x L.p1)) L.p2) L.p3] [] L.env
/-- what the loop needs of its frame -/
structure Lp.Ok (L : Lp) : Prop where
  kind : L.env.scope.kind = .function
  loc : L.env.kindOf L.x = some .local
  co : L.env.scope.isCoroutine = false
  plain : (L.env.scope.kind == .class || (L.env.scope.kind == .module && L.env.locals != L.env.globals)) = false
  debug : (L.x == ("__debug__" : Str)) = false
  inter : interactive L.env = false
/-- what the suspended loop needs of the heap -/
structure Lp.At (L : Lp) (its : Array Value) (i : Nat) (h : Heap) : Prop where
  iter : h.IsListIter L.it L.li i
  list : h.IsList L.li its
  ns : ∃ m, h.Ns L.env.locals m
/-- suspended in the loop -/
def Sus (M : Model) (L : Lp) (fs : List Frame) (gs : GenState) : Prop := ∃ k l p, gs = .suspended k l L.code p fs false ∧
  ∀ (A : Around) (R : Done1) (Z : Out1) (s : Shared), Seg1 M A R Z L.code (.pure (.again L.code)) fs s → Seg1 M A R Z L.code (k (.send .none)) fs s
end Gen1
namespace Gen1
open PySem PySem.Spec PyProof.Rows GenW L2 GenFor
end Gen1
namespace Gen1
open PySem PySem.Spec PyProof.Rows GenW L2 GenFor
/-- what is dead stays dead -/
structure Dead (h h' : Heap) : Prop where
  sz : h.objs.size ≤ h'.objs.size
  dead : ∀ b, b < h.objs.size → h.get? b = none → h'.get? b = none
theorem Dead.refl (h : Heap) : Dead h h := ⟨Nat.le_refl _, fun _ _ e => e⟩
theorem Dead.trans {h h1 h2 : Heap} (a : Dead h h1) (b : Dead h1 h2) : Dead h h2 := ⟨Nat.le_trans a.sz b.sz, fun c hc e => b.dead c (Nat.lt_of_lt_of_le hc a.sz) (a.dead c hc e)⟩
theorem Dead.upd {h : Heap} {a : Addr} {f : Obj → Obj} (i : (h.get? a).isSome) : Dead h (h.update a f) := ⟨Nat.le_of_eq (Heap.size_update h a f).symm, fun b hb e => by
  by_cases q : a = b
  · rw [q, e] at i
    cases i
  · rw [Heap.get?_update_other h f q]
    exact e⟩
theorem Dead.push {h : Heap} {o : Obj} : Dead h (h.push o) := ⟨by rw [Heap.size_push]; exact Nat.le_succ _, fun b hb e => by
  rw [← e]
  unfold Heap.get?
  rw [show (h.push o).objs = h.objs.push o from rfl, Array.getElem?_push_lt hb, Array.getElem?_eq_getElem hb]⟩
/-- what lies below the mark is as it was -/
def Below (h h' : Heap) : Prop := ∀ b, b < h.objs.size → h'.get? b = h.get? b
theorem Below.push (h : Heap) (o : Obj) : Below h (h.push o) := fun b hb => by
  unfold Heap.get?
  rw [show (h.push o).objs = h.objs.push o from rfl, Array.getElem?_push_lt hb, Array.getElem?_eq_getElem hb]
theorem Below.trans {h h1 h2 : Heap} (a : Below h h1) (b : Below h1 h2) (hs : h.objs.size ≤ h1.objs.size) : Below h h2 := fun c hc => (b c (Nat.lt_of_lt_of_le hc hs)).trans (a c hc)
theorem Below.cells : ∀ (names : List (Str × NameKind)) (h : Heap), Below h (pushCells h names)
  | [], _ => fun _ _ => rfl
  | (_, kind) :: r, h => by
    unfold pushCells
    split
    · exact (Below.push h _).trans (Below.cells r _) (by rw [Heap.size_push]; exact Nat.le_succ _)
    · exact Below.cells r h
end Gen1
namespace Gen1
open PySem PySem.Spec PyProof.Rows GenW L2 GenFor
/-- it raises nothing -/
abbrev E0 : XK := fun _ _ _ => False
end Gen1
namespace Gen1
open PySem PySem.Spec PyProof.Rows GenW L2 GenFor
end Gen1
namespace Gen1
open PySem PySem.Spec PyProof.Rows GenW L2 GenFor GenFr
end Gen1
namespace Gen1
open PySem PySem.Spec PyProof.Rows GenW L2 GenFor GenFr
/-- the loop's state: the generator is suspended at i, nobody looks at its objects -/
structure SSt (B : Cx) (L : Lp) (fs : List Frame) (a : Addr) (g : Nat) (its : Array Value) (i : Nat) (H : Hp) (s : Shared) : Prop where
  sus : ∃ gs, s.gens[g]? = some gs ∧ Sus (model B.prog B.w) L fs gs
  pos : L.At its i s.heap
  gen : s.heap.IsGen a g
  fp : ∀ b ∈ [a, L.env.locals, L.it, L.li], FpOk B [] H b
theorem SSt.obj {B : Cx} {L : Lp} {fs : List Frame} {a : Addr} {g : Nat} {its : Array Value} {i : Nat} {h : Heap} (hp : L.At its i h) (hg : h.IsGen a g) : ∀ b ∈ [a, L.env.locals, L.it, L.li], ∃ o, h.get? b = some o ∧ ∀ v, o.data ≠ .cell v := fun b hb => by
  have hb : b = a ∨ b = L.env.locals ∨ b = L.it ∨ b = L.li := by simpa using hb
  rcases hb with z | z | z | z <;> rw [z]
  · obtain ⟨o, _, _, e, _, d, _⟩ := hg
    exact ⟨o, e, fun v y => by rw [d] at y; cases y⟩
  · obtain ⟨m, o, es, ep, e, d, _⟩ := hp.ns
    exact ⟨o, e, fun v y => by rw [d] at y; cases y⟩
  · obtain ⟨o, e, _, d⟩ := hp.iter
    exact ⟨o, e, fun v y => by rw [d] at y; cases y⟩
  · obtain ⟨o, e, _, n, d⟩ := hp.list
    exact ⟨o, e, fun v y => by rw [d] at y; cases y⟩
end Gen1
namespace Mi
open PySem L2
open PySem.W HeadRun in
theorem pairO {α β γ δ : Type} {o : Option α} {f : α → β} {g : α → γ} {h : α → δ} {b : β} {c : γ} {d : δ} (e1 : o.map f = some b) (e2 : o.map g = some c) (e3 : o.map h = some d) : o.map (fun x => (f x, g x, h x)) = some (b, c, d) := by
  cases o with
  | none => cases e1
  | some x =>
    cases e1
    cases e2
    cases e3
    rfl
open PySem.W HeadRun in
theorem pair2 {α γ δ : Type} {o : Option α} {g : α → γ} {h : α → δ} {c : γ} {d : δ} (e2 : o.map g = some c) (e3 : o.map h = some d) : o.map (fun x => (g x, h x)) = some (c, d) := by
  cases o with
  | none => cases e2
  | some x =>
    cases e2
    cases e3
    rfl
section
open PySem.W HeadRun PySem.Calls
variable {r : OpenRow} {q : Program} {K : Params → Frag} {as ts : List Addr} {ek : ∀ P, as = (K P).map (·.1)} {loose : List PySem.Str} {d : DefRec} {kwd : List (PySem.Str × PySem.Expr)}
abbrev obT (as ts : List Addr) (s : SharedT) : List (Option Obj) × List (Option Obj) := (as.map (getT s), ts.map (getT s))
theorem obT_eq (s : SharedT) : obT as ts s = (kmHook K as ek ts).obs s.abs := by
  show (as.map (getT s), ts.map (getT s)) = (as.map s.abs.heap.get?, ts.map s.abs.heap.get?)
  rw [show (getT s) = s.abs.heap.get? from funext (getT_eq s)]
/-- a law of a plain program -/
theorem head_p (N : Nat) (e : opening r.prog = plainProg r.prog.main.scope.names) (f : ∀ s, fenceModules? r.prog s = some s)
    (r1 : ∀ (w : World) (os : OsState), (endF (stepQ (denQ tabQ) r.prog w) N r.prog w os).map (fun x => looksF r.prog (boot_heap w.params) x.abs) = some true)
    (r2 : ∀ (w : World) (os : OsState), (endF (stepQ (denQ tabQ) r.prog w) N r.prog w os).map (fun x => seenQ q loose (importedModules r.prog.main.body) (fun s => xlAt q [] s && recOk r.toRowW.records s) x.abs) = some (openGood q loose))
    (r3 : ∀ (w : World) (os : OsState), (endF (stepQ (denQ tabQ) r.prog w) N r.prog w os).map (fun x => as.map (getT x)) = some ((K w.params).map fun p => some p.2))
    (r4 : ∀ (w : World) (os : OsState), (endF (stepQ (denQ tabQ) r.prog w) N r.prog w os).map (fun x => ts.map (getT x)) = some (ts.map fun _ => some (tabObj #[])))
    (hdef : defOf q r.name = some (d, kwd)) (hp : r.prog.theDef r.name = some (d.params, d.body, d.scope)) (hk : kwWritten? d.params.kwonlyargs d.params.kw_defaults = some kwd)
    (hwr : (!r.writes || r.records.isEmpty) = true) (k1 : r.wellSaid = true) (ok : (chainsOk q && opensWell r.prog && (frees r.toRowW && r.within.isEmpty)) = true) (hb : r.prog.bare) (hw : r.toRowW.promised)
    (call : WalkO q loose (XL q []) (kmHook K as ek ts).says r.toRowW d kwd fun f vs => PySem.call f vs) : r.Holds :=
  head_any (H := kmHook K as ek ts) (ob := obT as ts) (M := N) (fun s => obT_eq s) e f (fun w os => pairO (r1 w os) (r2 w os) (pair2 (r3 w os) (r4 w os))) hdef hp hk hwr k1 ok hb hw call
end
end Mi
namespace Gen1
open PySem PySem.Spec PyProof.Rows GenW L2 GenFor GenFr
end Gen1
namespace Mi
open PySem L2 Evl Gen1
open PyProof.Rows (envOfC)
end Mi
namespace Mi
open PySem L2 Evl
end Mi
namespace Mi
open PySem L2 Evl
end Mi
namespace ZipG
open PySem
open PySem.Sem (wp)
abbrev nx (u : Value) : Sem Value := Builtin.SmallTypes.nextOf u
section
variable {P : Program} {w : World} {A : Around} {E : Value → Shared → Prop} {s : Shared} {z TI TO T : Addr} {u1 u2 : Value}
/-- what is wanted where an inner one raises while the zip's own tuple is in use -/
def ErZ (z TI TO : Addr) (E : Value → Shared → Prop) : Value → Shared → Prop := fun e s' => IsZip s'.heap z TI TO .ellipsis ∧ ∀ h', IsZip h' z TI TO .none → Heap.SameBut z s'.heap h' → E e { s' with heap := h' }
theorem erz {m : Sem α} {Q : α → Shared → Prop} (h : wpAny (model P w) A m Q (ErZ z TI TO E) s) : wpAny (model P w) A (m.onRaise fun _ => setField (.ref z) 0 .none) Q E s :=
  wpAny_onRaise (wpAny_mono h (fun _ _ q => q) fun e s' ⟨hz, q⟩ => wpAny_setField_rec hz (by simp) fun h' hz' hs' => q h' hz' hs')
/-- the first tuple of a zip, or one behind a tuple that is gone -/
theorem zip_first {Q : Value → Shared → Prop} (hz : IsZip s.heap z TI TO .none) (hTI : IsPair s.heap TI u1 u2) (hne : TO ≠ z)
    (h : ∀ k1, IsZip k1 z TI TO .ellipsis → Heap.SameBut z s.heap k1 → wpAny (model P w) A (nx u1) (fun x s2 => ∃ a b, IsPair s2.heap TO a b ∧ IsZip s2.heap z TI TO .ellipsis ∧ ∀ k3, IsPair k3 TO x b → Heap.SameBut TO s2.heap k3 →
      wpAny (model P w) A (nx u2) (fun y s4 => IsPair s4.heap TO x b ∧ IsZip s4.heap z TI TO .ellipsis ∧ ∀ k6, IsZip k6 z TI TO (rawInt s4.heap.objs.size) → IsPair k6 TO x y → IsPair k6 s4.heap.objs.size x y → k6.objs.size = s4.heap.objs.size + 1 →
        (∀ c o, c ≠ z → c ≠ TO → s4.heap.get? c = some o → k6.get? c = some o) → Q (.ref s4.heap.objs.size) { s4 with heap := k6 }) (ErZ z TI TO E) { s2 with heap := k3 }) (ErZ z TI TO E) { s with heap := k1 }) :
    wpAny (model P w) A (Builtin.«zip.__next__» ⟨[.ref z], []⟩) (fun fin s' => ∃ v, fin = .done (.ret v) ∧ Q v s') E s := by
  show wpAny _ _ (field (.ref z) 2 >>= _) _ _ _
  refine wpAny_bind (wpAny_field hz rfl (x := .bool false) rfl ?_)
  show wpAny _ _ (field (.ref z) 3 >>= _) _ _ _
  refine wpAny_bind (wpAny_field hz rfl (x := .ref TI) rfl (wpAny_bind (wpAny_seqItems hTI rfl ?_)))
  show wpAny _ _ (Builtin.SmallTypes.ownedTupleIsFree (.ref z) >>= _) _ _ _
  refine wpAny_bind ?_
  unfold Builtin.SmallTypes.ownedTupleIsFree
  refine wpAny_bind (wpAny_field hz rfl (x := .none) rfl (wpAny_pure ?_))
  simp only [if_true]
  refine wpAny_bind (wpAny_rule (wpAny_bind (wpAny_field hz rfl (x := .ref TO) rfl (wpAny_bind (wpAny_setField_rec hz (by simp) fun k1 z1 b1 => ?_)))))
  have z1 : IsZip k1 z TI TO .ellipsis := z1
  refine wpAny_bind ?_
  simp only [List.zipIdx_cons, List.zipIdx_nil, List.forIn_cons, List.forIn_nil]
  refine wpAny_bind (wpAny_bind (erz (TI := TI) (TO := TO) ?_))
  show wpAny _ _ (nx u1 >>= _) _ _ _
  refine wpAny_bind (wpAny_mono (h k1 z1 b1) (fun x s2 ⟨a, b, p2, z2, q2⟩ => wpAny_pure ?_) fun _ _ e => e)
  refine wpAny_bind (wpAny_seqItems p2 rfl (wpAny_bind (wpAny_updateSeq_pair p2 fun k3 p3 b3 => wpAny_bind (wpAny_letGo (wpAny_pure ?_)))))
  have p3 : IsPair k3 TO x b := p3
  refine wpAny_bind (wpAny_bind (erz (TI := TI) (TO := TO) ?_))
  show wpAny _ _ (nx u2 >>= _) _ _ _
  refine wpAny_bind (wpAny_mono (q2 k3 p3 b3) (fun y s4 ⟨p4, z4, q4⟩ => wpAny_pure ?_) fun _ _ e => e)
  refine wpAny_bind (wpAny_seqItems p4 rfl (wpAny_bind (wpAny_updateSeq_pair p4 fun k5 p5 b5 => wpAny_bind (wpAny_letGo (wpAny_pure (wpAny_pure ?_))))))
  have p5 : IsPair k5 TO x y := p5
  have sz : k5.objs.size = s4.heap.objs.size := b5.1
  have z5 : IsZip k5 z TI TO .ellipsis := b5.extBut _ _ (Ne.symm hne) z4
  refine wpAny_bind (wpAny_seqItems p5 rfl (wpAny_bind (wpAny_newTuple ?_)))
  show wpAny _ _ (Builtin.SmallTypes.ownedTupleHandOut (.ref z) (.ref k5.objs.size) >>= _) _ _ _
  refine wpAny_bind ?_
  unfold Builtin.SmallTypes.ownedTupleHandOut
  have z6 : IsZip (k5.push { cls := .type "tuple", data := .seq #[x, y] }) z TI TO .ellipsis := Heap.get?_push_of_some _ z5
  refine wpAny_bind (wpAny_setField_rec z6 (by simp) fun k7 z7 b7 => ?_)
  have z7 : IsZip k7 z TI TO (rawInt k5.objs.size) := z7
  refine wpAny_setField_rec z7 (by simp) fun k8 z8 b8 => wpAny_pure ⟨_, rfl, ?_⟩
  have z8 : IsZip k8 z TI TO (rawInt k5.objs.size) := z8
  have up : ∀ c o, c ≠ z → k5.get? c = some o → k8.get? c = some o := fun c o c1 e => b8.extBut _ _ c1 (b7.extBut _ _ c1 (Heap.get?_push_of_some _ e))
  have zl : k5.objs.size ≠ z := Nat.ne_of_gt (Heap.lt_size z5)
  have t8 : IsPair k8 k5.objs.size x y := b8.extBut _ _ zl (b7.extBut _ _ zl (Heap.get?_push_size _ rfl))
  have s8 : k8.objs.size = k5.objs.size + 1 := by rw [b8.1, b7.1, Heap.size_push]
  rw [sz] at z8 t8 s8
  show Q (.ref k5.objs.size) _
  rw [sz]
  exact q4 k8 z8 (up _ _ hne p5) t8 s8 fun c o c1 c2 e => up c o c1 (b5.extBut _ _ c2 e)
/-- a later tuple of a zip, the one before still there -/
theorem zip_later {f : Bool} {oT : Obj} {Q : Value → Shared → Prop} (hz : IsZipHeld s.heap z TI TO T f) (hT : s.heap.get? T = some oT) (hTI : IsPair s.heap TI u1 u2)
    (h : ∀ k1, IsZipHeld k1 z TI TO T true → Heap.SameBut z s.heap k1 → wpAny (model P w) A (nx u1) (fun x s2 => wpAny (model P w) A (nx u2) (fun y s3 => Q (.ref s3.heap.objs.size) { s3 with heap := s3.heap.push { cls := .type "tuple", data := .seq #[x, y] } }) E s2) E { s with heap := k1 }) :
    wpAny (model P w) A (Builtin.«zip.__next__» ⟨[.ref z], []⟩) (fun fin s' => ∃ v, fin = .done (.ret v) ∧ Q v s') E s := by
  show wpAny _ _ (field (.ref z) 2 >>= _) _ _ _
  refine wpAny_bind (wpAny_field hz rfl (x := .bool false) rfl ?_)
  show wpAny _ _ (field (.ref z) 3 >>= _) _ _ _
  refine wpAny_bind (wpAny_field hz rfl (x := .ref TI) rfl (wpAny_bind (wpAny_seqItems hTI rfl ?_)))
  show wpAny _ _ (Builtin.SmallTypes.ownedTupleIsFree (.ref z) >>= _) _ _ _
  refine wpAny_bind (wpAny_tupleHeld_zip hz hT fun k1 z1 b1 => ?_)
  simp only [Bool.false_eq_true, if_false]
  refine wpAny_bind ?_
  rw [← Array.forIn_toList]
  simp only [List.forIn_cons, List.forIn_nil]
  refine wpAny_bind (wpAny_bind (wpAny_holding ?_))
  show wpAny _ _ (nx u1 >>= _) _ _ _
  refine wpAny_bind (wpAny_mono (h k1 z1 b1) (fun x s2 q2 => wpAny_pure (wpAny_pure (wpAny_bind (wpAny_bind (wpAny_holding ?_))))) fun _ _ e => e)
  show wpAny _ _ (nx u2 >>= _) _ _ _
  refine wpAny_bind (wpAny_mono q2 (fun y s3 q3 => wpAny_pure (wpAny_pure (wpAny_pure ?_))) fun _ _ e => e)
  show wpAny _ _ (newTuple [x, y] >>= _) _ _ _
  exact wpAny_bind (wpAny_newTuple (wpAny_pure ⟨_, rfl, q3⟩))
/-- next of a zip -/
theorem next_zip {Q : Option Value → Shared → Prop} (hTy : s.TypeIs (.ref z) "zip")
    (h : wpAny (model P w) A.in1 (Builtin.«zip.__next__» ⟨[.ref z], []⟩) (fun fin s' => ∃ v, fin = .done (.ret v) ∧ Q (some v) s') (fun e s' => ∃ a o, e = .ref a ∧ s'.heap.get? a = some o ∧ o.cls = .type "StopIteration" ∧ Q none s') s) :
    wpAny (model P w) A (pyNext (.ref z)) Q E s := by
  unfold pyNext
  refine wpAny_bind (wpAny_attempt (wpAny_callSpecial?_slot (name := Str.ofString "__next__") hTy F.slot_zip_next
    (wpAny_call_entry F.slot_zip_next hTy F.entry_zip_next (wpAny_mono h (fun fin s' ⟨v, e, q⟩ => ⟨v, e, wpAny_pure q⟩) fun e s' ⟨a, o, ea, ho, hc, q⟩ => ?_) (F.args_zip_next_1 _))))
  subst ea
  exact wpAny_bind (wpAny_isInstance (T := "StopIteration") (b := true) ⟨o, ho, hc⟩ isSubtype_stop (wpAny_pure q))
end
/-- one of the two inner ones: u walks over what stands at l -/
structure Src (P : Program) (w : World) (u l : Addr) (xs : Array Value) (St : Nat → Heap → Prop) : Prop where
  objU : ∀ {i h}, St i h → ∃ o, h.get? u = some o
  objL : ∀ {i h}, St i h → ∃ o, h.get? l = some o
  keep : ∀ {i h h'}, St i h → (∀ o, h.get? u = some o → h'.get? u = some o) → (∀ o, h.get? l = some o → h'.get? l = some o) → St i h'
  item : ∀ {A : Around} {s : Shared} {i : Nat} {x : Value} {Q : Value → Shared → Prop} {E : Value → Shared → Prop}, St i s.heap → xs[i]? = some x → (∀ h', St (i + 1) h' → Heap.SameBut u s.heap h' → Q x { s with heap := h' }) → wpAny (model P w) A (nx (.ref u)) Q E s
  done : ∀ {A : Around} {s : Shared} {i : Nat} {Q : Value → Shared → Prop} {E : Value → Shared → Prop}, A.handled = none → St i s.heap → xs[i]? = none → (∀ h' e, Heap.ExtBut u s.heap h' → (∃ o, h'.get? e = some o ∧ o.cls = .type "StopIteration") → E (.ref e) { s with heap := h' }) → wpAny (model P w) A (nx (.ref u)) Q E s
section
variable {P : Program} {w : World} {A : Around} {E : Value → Shared → Prop} {s : Shared} {z TI TO T i1 i2 l1 l2 : Addr} {xs ys : Array Value} {S1 S2 : Nat → Heap → Prop} {k : Nat}
/-- where a walk over a zip stands -/
structure At (S1 S2 : Nat → Heap → Prop) (z TI TO i1 i2 : Addr) (k : Nat) (h : Heap) : Prop where
  ti : IsPair h TI (.ref i1) (.ref i2)
  s1 : S1 k h
  s2 : S2 k h
def Fresh (z TI TO : Addr) (h : Heap) : Prop := IsZip h z TI TO .none ∧ ∃ a b, IsPair h TO a b
theorem first_item {x y : Value} {Q : Option Value → Shared → Prop} (D : ZipApart z TI TO i1 i2 l1 l2) (R1 : Src P w i1 l1 xs S1) (R2 : Src P w i2 l2 ys S2) (a : At S1 S2 z TI TO i1 i2 k s.heap) (f : Fresh z TI TO s.heap) (hx : xs[k]? = some x) (hy : ys[k]? = some y)
    (hQ : ∀ h', At S1 S2 z TI TO i1 i2 (k + 1) h' → IsZipHeld h' z TI TO s.heap.objs.size false → IsPair h' s.heap.objs.size x y → h'.objs.size = s.heap.objs.size + 1 → (∀ c o, c ≠ z → c ≠ TO → c ≠ i1 → c ≠ i2 → s.heap.get? c = some o → h'.get? c = some o) → Q (some (.ref s.heap.objs.size)) { s with heap := h' }) :
    wpAny (model P w) A (pyNext (.ref z)) Q E s := by
  obtain ⟨hz, pa, pb, hTO⟩ := f
  refine next_zip ⟨_, hz, rfl⟩ (zip_first (Q := fun v s' => Q (some v) s') hz a.ti D.TOz fun k1 z1 b1 => ?_)
  have g1 : S1 k k1 := R1.keep a.s1 (fun o => b1.extBut _ o D.i1z) (fun o => b1.extBut _ o D.l1z)
  have g2 : S2 k k1 := R2.keep a.s2 (fun o => b1.extBut _ o D.i2z) (fun o => b1.extBut _ o D.l2z)
  refine R1.item (s := { s with heap := k1 }) g1 hx fun k2 n1 b2 => ⟨pa, pb, b2.extBut _ _ D.TOi1 (b1.extBut _ _ D.TOz hTO), b2.extBut _ _ (Ne.symm D.i1z) z1, fun k3 p3 b3 => ?_⟩
  have g3 : S2 k k3 := R2.keep (R2.keep g2 (fun o => b2.extBut _ o (Ne.symm D.i12)) (fun o => b2.extBut _ o D.l2i1)) (fun o => b3.extBut _ o (Ne.symm D.TOi2)) (fun o => b3.extBut _ o D.l2TO)
  refine R2.item (s := { s with heap := k3 }) g3 hy fun k4 n2 b4 => ⟨b4.extBut _ _ D.TOi2 p3, b4.extBut _ _ (Ne.symm D.i2z) (b3.extBut _ _ (Ne.symm D.TOz) (b2.extBut _ _ (Ne.symm D.i1z) z1)), fun k6 z6 q6 t6 sz6 up => ?_⟩
  have sz : k4.objs.size = s.heap.objs.size := by
    have e1 := b1.1
    have e2 := b2.1
    have e3 := b3.1
    have e4 := b4.1
    exact e4.trans (e3.trans (e2.trans e1))
  have z6 : IsZip k6 z TI TO (rawInt k4.objs.size) := z6
  have t6 : IsPair k6 k4.objs.size x y := t6
  have sz6 : k6.objs.size = k4.objs.size + 1 := sz6
  rw [sz] at z6 t6 sz6
  show Q (some (.ref k4.objs.size)) _
  rw [sz]
  have up4 : ∀ c o, c ≠ z → c ≠ TO → c ≠ i1 → c ≠ i2 → s.heap.get? c = some o → k6.get? c = some o := fun c o c1 c2 c3 c4 e => up c o c1 c2 (b4.extBut _ _ c4 (b3.extBut _ _ c2 (b2.extBut _ _ c3 (b1.extBut _ _ c1 e))))
  refine hQ k6 ⟨up4 _ _ D.TIz D.TITO D.TIi1 D.TIi2 a.ti, ?_, ?_⟩ z6 t6 sz6 up4
  · refine R1.keep n1 (fun o e => up _ o D.i1z (Ne.symm D.TOi1) (b4.extBut _ _ D.i12 (b3.extBut _ _ (Ne.symm D.TOi1) e))) (fun o e => up _ o D.l1z D.l1TO (b4.extBut _ _ D.l1i2 (b3.extBut _ _ D.l1TO e)))
  · exact R2.keep n2 (fun o e => up _ o D.i2z (Ne.symm D.TOi2) e) (fun o e => up _ o D.l2z D.l2TO e)
theorem later_item {f : Bool} {oT : Obj} {x y : Value} {Q : Option Value → Shared → Prop} (D : ZipApart z TI TO i1 i2 l1 l2) (R1 : Src P w i1 l1 xs S1) (R2 : Src P w i2 l2 ys S2) (a : At S1 S2 z TI TO i1 i2 k s.heap) (hz : IsZipHeld s.heap z TI TO T f) (hT : s.heap.get? T = some oT) (hx : xs[k]? = some x) (hy : ys[k]? = some y)
    (hQ : ∀ h', At S1 S2 z TI TO i1 i2 (k + 1) h' → IsZipHeld h' z TI TO T true → IsPair h' s.heap.objs.size x y → h'.objs.size = s.heap.objs.size + 1 → (∀ c o, c ≠ z → c ≠ i1 → c ≠ i2 → s.heap.get? c = some o → h'.get? c = some o) → Q (some (.ref s.heap.objs.size)) { s with heap := h' }) :
    wpAny (model P w) A (pyNext (.ref z)) Q E s := by
  refine next_zip ⟨_, hz, rfl⟩ (zip_later (Q := fun v s' => Q (some v) s') hz hT a.ti fun k1 z1 b1 => ?_)
  have g1 : S1 k k1 := R1.keep a.s1 (fun o => b1.extBut _ o D.i1z) (fun o => b1.extBut _ o D.l1z)
  have g2 : S2 k k1 := R2.keep a.s2 (fun o => b1.extBut _ o D.i2z) (fun o => b1.extBut _ o D.l2z)
  refine R1.item (s := { s with heap := k1 }) g1 hx fun k2 n1 b2 => ?_
  have g3 : S2 k k2 := R2.keep g2 (fun o => b2.extBut _ o (Ne.symm D.i12)) (fun o => b2.extBut _ o D.l2i1)
  refine R2.item (s := { s with heap := k2 }) g3 hy fun k3 n2 b3 => ?_
  have sz : k3.objs.size = s.heap.objs.size := by
    have e1 := b1.1
    have e2 := b2.1
    have e3 := b3.1
    exact e3.trans (e2.trans e1)
  have up : ∀ c o, c ≠ z → c ≠ i1 → c ≠ i2 → s.heap.get? c = some o → (k3.push { cls := .type "tuple", data := .seq #[x, y] }).get? c = some o := fun c o c1 c3 c4 e => Heap.get?_push_of_some _ (b3.extBut _ _ c4 (b2.extBut _ _ c3 (b1.extBut _ _ c1 e)))
  have tp : IsPair (k3.push { cls := .type "tuple", data := .seq #[x, y] }) k3.objs.size x y := Heap.get?_push_size _ rfl
  have sp : (k3.push { cls := .type "tuple", data := .seq #[x, y] }).objs.size = k3.objs.size + 1 := Heap.size_push ..
  show Q (some (.ref k3.objs.size)) _
  rw [sz] at tp sp ⊢
  refine hQ _ ⟨up _ _ D.TIz D.TIi1 D.TIi2 a.ti, ?_, ?_⟩ (Heap.get?_push_of_some _ (b3.extBut _ _ (Ne.symm D.i2z) (b2.extBut _ _ (Ne.symm D.i1z) z1))) tp sp up
  · exact R1.keep n1 (fun o e => Heap.get?_push_of_some _ (b3.extBut _ _ D.i12 e)) (fun o e => Heap.get?_push_of_some _ (b3.extBut _ _ D.l1i2 e))
  · exact R2.keep n2 (fun o e => Heap.get?_push_of_some _ e) (fun o e => Heap.get?_push_of_some _ e)
theorem first_end {Q : Option Value → Shared → Prop} (hh : A.handled = none) (D : ZipApart z TI TO i1 i2 l1 l2) (R1 : Src P w i1 l1 xs S1) (R2 : Src P w i2 l2 ys S2) (a : At S1 S2 z TI TO i1 i2 k s.heap) (f : Fresh z TI TO s.heap) (hend : xs[k]? = none ∨ ys[k]? = none)
    (hQ : ∀ h', (∀ c o, c ≠ z → c ≠ TO → c ≠ i1 → c ≠ i2 → s.heap.get? c = some o → h'.get? c = some o) → Q none { s with heap := h' }) : wpAny (model P w) A (pyNext (.ref z)) Q E s := by
  obtain ⟨hz, pa, pb, hTO⟩ := f
  refine next_zip ⟨_, hz, rfl⟩ (zip_first (Q := fun v s' => Q (some v) s') hz a.ti D.TOz fun k1 z1 b1 => ?_)
  have g1 : S1 k k1 := R1.keep a.s1 (fun o => b1.extBut _ o D.i1z) (fun o => b1.extBut _ o D.l1z)
  have g2 : S2 k k1 := R2.keep a.s2 (fun o => b1.extBut _ o D.i2z) (fun o => b1.extBut _ o D.l2z)
  have stop : ∀ (h2 : Heap) (e : Addr), IsZip h2 z TI TO .ellipsis → (∃ o, h2.get? e = some o ∧ o.cls = .type "StopIteration") → (∀ c o, c ≠ z → c ≠ TO → c ≠ i1 → c ≠ i2 → s.heap.get? c = some o → h2.get? c = some o) →
      ErZ z TI TO (fun e s' => ∃ a o, e = .ref a ∧ s'.heap.get? a = some o ∧ o.cls = .type "StopIteration" ∧ Q none s') (.ref e) { s with heap := h2 } := fun h2 e z2 ⟨o, ho, hc⟩ up => by
    refine ⟨z2, fun h' z' b' => ⟨e, o, rfl, b'.extBut _ _ (fun ez => ?_) ho, hc, hQ h' fun c o c1 c2 c3 c4 q => b'.extBut _ _ c1 (up c o c1 c2 c3 c4 q)⟩⟩
    have z2 : h2.get? z = some _ := z2
    rw [ez, z2] at ho
    cases ho
    simp at hc
  cases hx : xs[k]? with
  | none => exact R1.done (s := { s with heap := k1 }) hh g1 hx fun h2 e b2 he => stop h2 e (b2 _ _ (Ne.symm D.i1z) z1) he fun c o c1 _ c3 _ q => b2 _ _ c3 (b1.extBut _ _ c1 q)
  | some x =>
    have hy : ys[k]? = none := by rcases hend with h | h; rw [hx] at h; cases h; exact h
    refine R1.item (s := { s with heap := k1 }) g1 hx fun k2 n1 b2 => ⟨pa, pb, b2.extBut _ _ D.TOi1 (b1.extBut _ _ D.TOz hTO), b2.extBut _ _ (Ne.symm D.i1z) z1, fun k3 p3 b3 => ?_⟩
    have g3 : S2 k k3 := R2.keep (R2.keep g2 (fun o => b2.extBut _ o (Ne.symm D.i12)) (fun o => b2.extBut _ o D.l2i1)) (fun o => b3.extBut _ o (Ne.symm D.TOi2)) (fun o => b3.extBut _ o D.l2TO)
    exact R2.done (s := { s with heap := k3 }) hh g3 hy fun h4 e b4 he => stop h4 e (b4 _ _ (Ne.symm D.i2z) (b3.extBut _ _ (Ne.symm D.TOz) (b2.extBut _ _ (Ne.symm D.i1z) z1))) he fun c o c1 c2 c3 c4 q => b4 _ _ c4 (b3.extBut _ _ c2 (b2.extBut _ _ c3 (b1.extBut _ _ c1 q)))
theorem later_end {f : Bool} {oT : Obj} {Q : Option Value → Shared → Prop} (hh : A.handled = none) (D : ZipApart z TI TO i1 i2 l1 l2) (R1 : Src P w i1 l1 xs S1) (R2 : Src P w i2 l2 ys S2) (a : At S1 S2 z TI TO i1 i2 k s.heap) (hz : IsZipHeld s.heap z TI TO T f) (hT : s.heap.get? T = some oT) (hend : xs[k]? = none ∨ ys[k]? = none)
    (hQ : ∀ h', (∀ c o, c ≠ z → c ≠ i1 → c ≠ i2 → s.heap.get? c = some o → h'.get? c = some o) → Q none { s with heap := h' }) : wpAny (model P w) A (pyNext (.ref z)) Q E s := by
  refine next_zip ⟨_, hz, rfl⟩ (zip_later (Q := fun v s' => Q (some v) s') hz hT a.ti fun k1 z1 b1 => ?_)
  have g1 : S1 k k1 := R1.keep a.s1 (fun o => b1.extBut _ o D.i1z) (fun o => b1.extBut _ o D.l1z)
  have g2 : S2 k k1 := R2.keep a.s2 (fun o => b1.extBut _ o D.i2z) (fun o => b1.extBut _ o D.l2z)
  cases hx : xs[k]? with
  | none => exact R1.done (s := { s with heap := k1 }) hh g1 hx fun h2 e b2 ⟨o, ho, hc⟩ => ⟨e, o, rfl, ho, hc, hQ h2 fun c o c1 c3 _ q => b2 _ _ c3 (b1.extBut _ _ c1 q)⟩
  | some x =>
    have hy : ys[k]? = none := by rcases hend with h | h; rw [hx] at h; cases h; exact h
    refine R1.item (s := { s with heap := k1 }) g1 hx fun k2 n1 b2 => ?_
    have g3 : S2 k k2 := R2.keep g2 (fun o => b2.extBut _ o (Ne.symm D.i12)) (fun o => b2.extBut _ o D.l2i1)
    exact R2.done (s := { s with heap := k2 }) hh g3 hy fun h4 e b4 ⟨o, ho, hc⟩ => ⟨e, o, rfl, ho, hc, hQ h4 fun c o c1 c3 c4 q => b4 _ _ c4 (b2.extBut _ _ c3 (b1.extBut _ _ c1 q))⟩
/-- such a zip as what dict() reads -/
theorem arg (D : ZipApart z TI TO i1 i2 l1 l2) (R1 : Src P w i1 l1 xs S1) (R2 : Src P w i2 l2 ys S2) :
    PairArg P w "zip" z [z, TI, TO, i1, i2, l1, l2] [z, TO, i1, i2] (min xs.size ys.size) (fun i k v => xs[i]? = some k ∧ ys[i]? = some v) (fun h => At S1 S2 z TI TO i1 i2 0 h ∧ Fresh z TI TO h) where
  type := fun s ok => ⟨_, ok.2.1, rfl⟩
  notDict := by decide
  keep := fun h h' ⟨a, f⟩ hk => ⟨⟨hk _ _ a.ti, R1.keep a.s1 (hk _) (hk _), R2.keep a.s2 (hk _) (hk _)⟩, hk _ _ f.1, let ⟨x, y, q⟩ := f.2; ⟨x, y, hk _ _ q⟩⟩
  there := fun h ⟨a, f⟩ b hb => by
    obtain ⟨x, y, q⟩ := f.2
    simp only [List.mem_cons, List.not_mem_nil, or_false] at hb
    rcases hb with e | e | e | e | e | e | e <;> rw [e]
    · exact ⟨_, f.1⟩
    · exact ⟨_, a.ti⟩
    · exact ⟨_, q⟩
    · exact R1.objU a.s1
    · exact R2.objU a.s2
    · exact R1.objL a.s1
    · exact R2.objL a.s2
  sub := fun b hb => by simp at hb ⊢; rcases hb with e | e | e | e <;> simp [e]
  noKeys := fun A s Q E hA ok h => getAttrOr_miss_zip ok.2.1 rfl rfl rfl zip_no_keys (by decide +kernel) hA h
  iter := fun A s d Q E hA ⟨a, f⟩ hd hdf h => by
    simp only [List.mem_cons, List.not_mem_nil, or_false, not_or] at hdf
    obtain ⟨dz, dTI, dTO, di1, di2, dl1, dl2⟩ := hdf
    refine wpAny_pyIter_zip f.1 (h z [z, TO, i1, i2] (fun i h => At S1 S2 z TI TO i1 i2 i h ∧ (Fresh z TI TO h ∨ ∃ T f oT, IsZipHeld h z TI TO T f ∧ h.get? T = some oT ∧ T ≠ z ∧ T ≠ i1 ∧ T ≠ i2 ∧ T ≠ d)) s.heap s.toks ?_ ⟨a, .inl f⟩ (fun _ _ e => e) fun b hb => .inl hb)
    refine ⟨fun hm => ?_, fun i h1 h2 ⟨a, zz⟩ hk => ⟨⟨hk _ _ (Ne.symm dTI) a.ti, R1.keep a.s1 (fun o => hk _ o (Ne.symm di1)) (fun o => hk _ o (Ne.symm dl1)), R2.keep a.s2 (fun o => hk _ o (Ne.symm di2)) (fun o => hk _ o (Ne.symm dl2))⟩, ?_⟩, fun i s1 Q1 E1 hi ⟨a, zz⟩ hds hQ => ?_, fun s1 Q1 E1 ⟨a, zz⟩ hQ => ?_⟩
    · simp only [List.mem_cons, List.not_mem_nil, or_false] at hm
      rcases hm with e | e | e | e
      · exact dz e
      · exact dTO e
      · exact di1 e
      · exact di2 e
    · rcases zz with ⟨hz, x, y, q⟩ | ⟨T, f, oT, hz, hT, r1, r2, r3, r4⟩
      · exact .inl ⟨hk _ _ (Ne.symm dz) hz, x, y, hk _ _ (Ne.symm dTO) q⟩
      · exact .inr ⟨T, f, oT, hk _ _ (Ne.symm dz) hz, hk _ _ r4 hT, r1, r2, r3, r4⟩
    · have ex := Array.getElem?_eq_getElem (Nat.lt_of_lt_of_le hi (Nat.min_le_left ..))
      have ey := Array.getElem?_eq_getElem (Nat.lt_of_lt_of_le hi (Nat.min_le_right ..))
      have lt : ∀ {c o}, s1.heap.get? c = some o → s1.heap.objs.size ≠ c := fun e => Nat.ne_of_gt (Heap.lt_size e)
      have n1 : s1.heap.objs.size ≠ i1 := let ⟨_, e⟩ := R1.objU a.s1; lt e
      have n2 : s1.heap.objs.size ≠ i2 := let ⟨_, e⟩ := R2.objU a.s2; lt e
      rcases zz with f | ⟨T, f, oT, hz, hT, r1, r2, r3, r4⟩
      · exact first_item D R1 R2 a f ex ey fun h' a' z' t' _ hk => hQ _ _ _ h' s1.toks ⟨ex, ey⟩ (.inl ⟨_, t', rfl, _, rfl⟩) ⟨a', .inr ⟨_, false, _, z', t', lt f.1, n1, n2, Nat.ne_of_gt hds⟩⟩ fun c o hc e => hk c o (fun x => hc (by simp [x])) (fun x => hc (by simp [x])) (fun x => hc (by simp [x])) (fun x => hc (by simp [x])) e
      · exact later_item D R1 R2 a hz hT ex ey fun h' a' z' t' _ hk => hQ _ _ _ h' s1.toks ⟨ex, ey⟩ (.inl ⟨_, t', rfl, _, rfl⟩) ⟨a', .inr ⟨T, true, oT, z', hk _ _ r1 r2 r3 hT, r1, r2, r3, r4⟩⟩ fun c o hc e => hk c o (fun x => hc (by simp [x])) (fun x => hc (by simp [x])) (fun x => hc (by simp [x])) e
    · have hend : xs[min xs.size ys.size]? = none ∨ ys[min xs.size ys.size]? = none := by
        rcases Nat.le_total xs.size ys.size with h | h
        · exact .inl (Array.getElem?_eq_none (by omega))
        · exact .inr (Array.getElem?_eq_none (by omega))
      rcases zz with f | ⟨T, f, oT, hz, hT, r1, r2, r3, r4⟩
      · exact first_end hA D R1 R2 a f hend fun h' hk => hQ h' s1.toks fun c o hc e => hk c o (fun x => hc (by simp [x])) (fun x => hc (by simp [x])) (fun x => hc (by simp [x])) (fun x => hc (by simp [x])) e
      · exact later_end hA D R1 R2 a hz hT hend fun h' hk => hQ h' s1.toks fun c o hc e => hk c o (fun x => hc (by simp [x])) (fun x => hc (by simp [x])) (fun x => hc (by simp [x])) e
end
end ZipG
namespace Mi
open PySem L2 Evl
end Mi
namespace Gen1
open PySem PySem.Spec PyProof.Rows GenW L2 GenFor
end Gen1
namespace SetTx
open PySem PySem.Spec PyProof.Rows L2
open PySem.Froz (SD sObj TxOk addTx tailTx add_x add_ok is_str)
open PySem.F (called_set sub_list_set sub_list_frozenset)
/-- the set of the texts l at a; its table can be walked -/
def SetS (P : Program) (w : World) (h : Heap) (a : Addr) (l : List Str) : Prop :=
  ∃ D : SD, h.get? a = some (sObj "set" D) ∧ TxOk P w D l ∧ l.Nodup ∧ Ris D.2.2.place.toList ∧ (w.params.followText "set-order" = true ∨ D.2.2.led = true) ∧ l.length < scanBound
section
variable {P : Program} {w : World} {h h' : Heap} {a : Addr} {l : List Str}
theorem SetS.at (R : SetS P w h a l) (k : ∀ o, h.get? a = some o → h'.get? a = some o) : SetS P w h' a l := by
  obtain ⟨D, ho, r⟩ := R
  exact ⟨D, k _ ho, r⟩
end
/-- the set of texts at a, as the heap's view tells it -/
def SetSO (P : Program) (w : World) (a : Addr) (l : List Str) : HO := .ext fun h => SetS P w h a l
section
variable {X : Cx}
/-- set(xs) -/
def rSetL (K : PySem.W.Frag) (P : Program) (w : World) : List V → Hp → VK → Prop := fun xs H Q => ∃ (a : Addr) (ks : List Str), xs = [.ref a] ∧ SqL K H a (ks.map V.str) ∧ ks.length < 64 ∧ ∀ p l, H p = none → (∀ j, j ∈ l ↔ j ∈ ks) → l.Nodup → l.length ≤ ks.length → Q (.ref p) (upd H p (SetSO P w p l))
end
end SetTx
namespace SetTx
open PySem PySem.Spec PyProof.Rows L2
end SetTx
namespace Mi
open PySem L2 Evl SetTx
end Mi
namespace Mi
open PySem L2 Evl
end Mi
namespace Mi
open PySem L2 Evl
open PySem.SeqAt (RcAt RcNeAt)
section
variable {X : Cx}
def rNilR (neg : Bool) : R2 := fun x y H Q => ∃ a b vs, x = .ref a ∧ y = .ref b ∧ SqL X.K H a vs ∧ H b = some (.lst []) ∧ Q (.bl (if neg = true then !vs.isEmpty else vs.isEmpty)) H
theorem op_neNil (hu : X.A.units + 64 < cLine) : OpR X (compareOp .NotEq) (rNilR (X := X) true) := by
  intro pins s σ H x y v u Q I rx ry ⟨a, b, vs, e1, e2, h1, h2, q⟩
  subst e1 e2
  cases rx
  cases ry
  obtain ⟨its, rv, p, _⟩ := I.list h1
  obtain ⟨its2, rv2, p2, _⟩ := I.list (.inl (.inl h2))
  cases rv2
  have len := rv.length
  show wpAny _ _ (richCompare .NotEq _ _) _ _ _
  cases vs with
  | nil =>
    have e : its = [] := List.eq_nil_of_length_eq_zero len.symm
    subst e
    exact RcNeAt.lists (e := fun _ => true) p.isList p2.isList rfl (by omega) (fun j h _ => absurd h (by simp)) _ _ _ _ ⟨.bl false, H, I, rfl, q⟩
  | cons z zs =>
    refine RcNeAt.lists_lengths p.isList p2.isList ?_ (by omega) _ _ _ _ ⟨.bl true, H, I, rfl, q⟩
    have : its.length = zs.length + 1 := by rw [← len]; rfl
    simp [this]
end
end Mi
namespace Mi
open PySem L2 Evl
end Mi
namespace Mi
open PySem L2 Evl
end Mi
namespace Mi
end Mi
namespace Mi
open PySem L2 Evl LamX
open PyProof.Rows (envOfC)
end Mi
namespace Mi
open PySem L2 Evl LamX
open PyProof.Rows (envOfC)
end Mi
namespace Mi
open PySem L2 Evl LamX
end Mi
namespace Mi
open PySem L2 Evl
inductive Mx (α : Type) where
  | dat (d : PyData)
  | obj (x : α)
  | lst (xs : List α)
def Mx.ty {α : Type} (C : Addr) : Mx α → Value
  | .dat d => .type (tyD d)
  | .obj _ => .ref C
  | .lst _ => .type "list"
end Mi
namespace Mi
open PySem L2 Evl
end Mi
namespace Mi
open PySem L2 Evl
end Mi
namespace Mi
open PySem L2 Evl
end Mi
namespace Mi
open PySem L2 Evl
theorem bg_env {X : Cx} {B : Bs} {env env' : Env} {os : Os} {blk : List Stmt} {β : Type} {post : Post β} {w : W β} (h : env = env') (k : BG X B env' os blk post w) : BG X B env os blk post w := h ▸ k
end Mi
namespace Mi
open PySem L2 Evl
end Mi
namespace Mi
open PySem L2 Evl NdefX
open PyProof.Rows (envOfC)
end Mi
namespace Mi
open PySem L2 Evl NdefX
open PyProof.Rows (envOfC)
end Mi
namespace Mi
open PySem L2 Evl
def FsLe : List (Str × Slot) → List (Str × Slot) → Prop
  | [], [] => True
  | (n, s) :: r, (m, t) :: q => n = m ∧ (t = s ∨ t = sa) ∧ FsLe r q
  | _, _ => False
theorem FsLe.of {F : Hp} : ∀ {fs gs : List (Str × Slot)} {vs : List (Str × V)}, FsLe fs gs → Flds F fs vs → Flds F gs vs
  | [], [], _, _, h => h
  | (n, s) :: r, (m, t) :: q, (n', v) :: vs, ⟨e, h1, h2⟩, .cons ⟨e2, h3⟩ h4 => by
    subst e
    refine .cons ⟨e2, ?_⟩ (FsLe.of h2 h4)
    rcases h1 with rfl | rfl
    · exact h3
    · exact trivial
  | [], _ :: _, _, h, _ => h.elim
  | _ :: _, [], _, h, _ => h.elim
theorem FsLe.nil : FsLe [] [] := trivial
theorem FsLe.any {n : Str} {s : Slot} {r q : List (Str × Slot)} (h : FsLe r q) : FsLe ((n, s) :: r) ((n, sa) :: q) := ⟨rfl, .inr rfl, h⟩
end Mi
namespace Mi
open PySem L2 Evl
end Mi
namespace Mi
open PySem L2 Evl
end Mi
namespace Mi
open PySem L2 Evl
inductive Lt (φ : Type) where
  | t1 (xs : List Str)
  | ti (g : Str) (i : Int)
  | tf (g : Str) (f : φ)
  | tt (g : Str) (a : Lt φ)
  | ts (g w : Str) (a : Lt φ)
  | tc (g w : Str) (fs : List φ)
  | t2 (g : Str) (a b : Lt φ)
def Lt.s1 {φ : Type} : Lt φ → Option Str
  | .ts _ w _ => some w
  | .tc _ w _ => some w
  | _ => none
end Mi
namespace Mi
open PySem L2 Evl
theorem FnOk.imp {P : Program} {w : World} {K : PySem.W.Frag} {mg : Str → Option Value} {base : Heap} {CX : CXT} {k : Nat} {f : Addr} {fd : FuncData} {ps : List Str} {sp sp' : Sp} (h : ∀ vs H Q E, sp' vs H Q E → sp vs H Q E) (G : FnOk P w K mg base CX k f fd ps sp) : FnOk P w K mg base CX k f fd ps sp' :=
  ⟨fun vs H Q E q => G.len vs H Q E (h _ _ _ _ q), fun A o s H a us vs Q E h1 h2 h3 h4 h5 => G.run A o s H a us vs Q E h1 h2 h3 h4 (h _ _ _ _ h5)⟩
section
variable {P : Program} {w : World} {K : PySem.W.Frag} {mg : Str → Option Value} {base : Heap} {CX : CXT} {k : Nat} {f : Addr} {fd : FuncData} {ps : List Str} {ι κ ρ α : Type} {args : ι → Env} {wf : ι → W ρ} {ro : Rp ρ} {wl : ι → W (List α)} {r : Rp α}
theorem FnOk.never : FnOk P w K mg base CX k f fd ps (spW args (fun _ => []) (fun _ => fail) ro) := ⟨fun _ _ _ _ ⟨_, _, _, _, _, _, _, h, _⟩ => h.elim, fun _ _ _ _ _ _ _ _ _ _ _ _ _ ⟨_, _, _, _, _, _, _, h, _⟩ => h.elim⟩
end
end Mi
namespace Mi
open PySem L2 Evl
open PyProof.Rows (envOfC)
end Mi
namespace Mi
open PySem L2 Evl
end Mi
namespace Mi
open PySem L2 Evl PyProof.Rows
end Mi
namespace Mi
open PySem L2 Evl
end Mi
namespace Mi
open PySem L2 Evl
open SetTx (SetS SetSO)
theorem KwChain.mem {α : Type} {K : PySem.W.Frag} {M : Model} {h : Heap} {D : Addr} (X : K.In h) {l : List (Str × Value)} {t : Sem α} {r : α} (hl : ∀ q ∈ l, PySem.W.nsIn K D q.1 = some (some q.2)) (e : KwChain D l t r) : PySem.W.Looks M h t r := KwChain.looks X hl e
end Mi
namespace Mi
open PySem L2 Evl
end Mi
namespace Mi
open PySem L2 Evl
end Mi
namespace Mi
open PySem L2 Evl PyProof.Rows
end Mi
namespace SetTx
open PySem PySem.Spec PyProof.Rows L2
open PySem.Froz (SD sObj TxOk addTx tailTx add_x add_ok is_str)
open PySem.F (called_set sub_list_set sub_list_frozenset)
end SetTx
namespace Mi
open PySem L2 Evl
open SetTx
end Mi
namespace Mi
open PySem L2 Evl
open SetTx (SetS SetSO)
end Mi
namespace Mi
open PySem L2 Evl PyProof.Rows
def pO {ρ τ : Type} (B : Bs) (a : Addr) (C : Addr) (fl : τ → List (Str × Slot)) (ro : Rp ρ) : Post (ρ × τ) := fun D y => (∀ v F H, Fn B F H → OsOk B F H [(a, oObj C (fl y.2))] → ro.ok F v y.1 → D.rt v H) ∧ ∀ σ F H, Fn B F H → OsOk B F H [(a, oObj C (fl y.2))] → ro.ok F .non y.1 → D.nx σ H
section
variable {X : Cx} {B : Bs} {env : Env} {pos : Pos} {α β γ τ : Type} {osf : τ → Os} {e e1 e2 : Expr} {r : Rp α} {q : Rp β} {s : τ}
/-- e, from the state s: its value and the state behind it -/
def EES (X : Cx) (B : Bs) (env : Env) {τ : Type} (osf : τ → Os) (s : τ) (e : Expr) {α : Type} (r : Rp α) (w : W (α × τ)) : Prop := PE X e fun σ H Q => ∃ F P, Sit B F H σ env (osf s) ∧ w P B.E0 ∧ ∀ y, P y → ∀ v F' H', Sit B F' H' σ env (osf y.2) → Ex F F' → r.ok F' v y.1 → Q v H'
theorem es_of {w : W α} (h : EE X B env (osf s) e r w) : EES X B env osf s e r (bnd w fun x => ret (x, s)) :=
  PE.imp h fun σ H Q ⟨F, P, S, hw, k⟩ => ⟨F, _, S, hw, fun x hx v F1 H1 S1 e1 ok => k (x, s) hx v F1 H1 S1 e1 ok⟩
theorem es_conv {w w' : W (α × τ)} (h : EES X B env osf s e r w) (hw : w' = w) : EES X B env osf s e r w' := hw ▸ h
def ETS (X : Cx) (B : Bs) (env : Env) {τ : Type} (osf : τ → Os) (s : τ) (e : Expr) (w : W (Bool × τ)) : Prop := PT X e fun σ H Q => ∃ F P, Sit B F H σ env (osf s) ∧ w P B.E0 ∧ ∀ y, P y → ∀ F' H', Sit B F' H' σ env (osf y.2) → Ex F F' → Q y.1 H'
theorem ts_of {w : W Bool} (h : ET X B env (osf s) e w) : ETS X B env osf s e (bnd w fun x => ret (x, s)) := PT.imp h fun σ H Q ⟨F, P, S, hw, k⟩ => ⟨F, _, S, hw, fun x hx F1 H1 S1 e1 => k (x, s) hx F1 H1 S1 e1⟩
theorem ts_conv {w w' : W (Bool × τ)} (h : ETS X B env osf s e w) (hw : w' = w) : ETS X B env osf s e w' := hw ▸ h
theorem ts_val {w : W (Bool × τ)} (h : EES X B env osf s e rBool w) (he : ∀ whole, isTrue e X.env whole = (do let v ← whole; standAt e.pos; holding [v] (truthy v)) := by intro _; rfl) : ETS X B env osf s e w :=
  PT.imp (pt_val h he) fun σ H Q ⟨F, P, S, hw, k⟩ => ⟨F, P, S, hw, fun z hz v F' H' S' e' ok => ⟨z.1, ok, k z hz F' H' S' e'⟩⟩
end
end Mi
namespace RPG
open PySem PySem.Builtin PySem.Builtin.List
open Sem (wp)
abbrev Stp := Array Value → Nat → Shared → Prop
/-- the list of the texts at P, as far as it is made -/
def accObj (acc : Array Value) (c : Nat) : Obj := { cls := .type "list", dict := none, data := .seq acc c, slots := #[] }
structure Keeps (P : Addr) (J : Stp) : Prop where
  get : ∀ acc c s, J acc c s → s.heap.get? P = some (accObj acc c)
  upd : ∀ acc c s v c', J acc c s → (s.heap.update P (Obj.mapSeq (·.push v))).get? P = some (accObj (acc.push v) c') → J (acc.push v) c' { s with heap := s.heap.update P (Obj.mapSeq (·.push v)) }
  tok : ∀ acc c s t, J acc c s → J acc c { s with toks := t }
section
variable {prog : Program} {w : World} {A : Around} {R : Result → Shared → Prop}
def Items (prog : Program) (w : World) (A : Around) (E : Value → Shared → Prop) (J : Stp) (a : Addr) (ts : List Str) : Prop :=
  ∀ acc c s, J acc c s → ∃ (its : Array Value) (n : Nat) (oa : Obj), s.heap.get? a = some oa ∧ oa.data = .seq its n ∧ its.size = ts.length ∧
    ∀ (i : Nat) (h : i < its.size) (t : Str), ts[i]? = some t → ∀ (base : Nat) (rest : List Value), base + t.length ≤ sizeLine → wpAny (model prog w) (A.under (.builtin "list.__repr__.loop" ⟨.ref a :: rest, []⟩)) (pyReprUnder base its[i]) (fun t' s' => t' = t ∧ J acc c s') E s
theorem loop {a P : Addr} {ts : List Str} {J : Stp} {base : Nat} (KJ : Keeps P J) (item : Items prog w A (fun e s' => R (.error e) s') J a ts) (hsz : base + (listText ts).length ≤ sizeLine)
    (hR : ∀ acc c s u tk, J acc c s → R (.ok (.ret (.str (listText ts) u))) { s with toks := tk }) :
    ∀ (k i : Nat) (s : Shared) (acc : Array Value) (c : Nat) (done : List (Str × Tok)), ts.length - i = k → i ≤ ts.length → J acc c s → acc.toList = strValues done → done.map (·.1) = ts.take i →
    codeAny (model prog w) A (.builtin "list.__repr__.loop" ⟨[.ref a, rawInt i, .ref P, rawInt ((base + piled (ts.take i) : Nat) : Int)], []⟩) R s := by
  have hX : (listText ts).length = (textFrom 0 "[" ts).length + 1 := by
    show (textFrom 0 "[" ts ++ "]").length = _
    rw [strLen_append]; rfl
  have hL := textFrom_len ts 0 "["
  have hsz2 : ∀ t ∈ ts, t.length ≤ sizeLine := fun t ht => by
    have h2 := hL.2.1 t ht
    omega
  have hsz1 : ts.length ≤ sizeLine := by
    have h1 := hL.1
    rw [if_neg (Nat.lt_irrefl 0)] at h1
    omega
  have hsz3 : (listText ts).length ≤ sizeLine := by omega
  have hp3 := piled_le_listText ts
  intro k
  induction k with
  | zero =>
    intro i s acc c done hk hi hJ hacc hdone
    have hin : i = ts.length := by omega
    obtain ⟨its, n, oa, ha, hda, hits, _⟩ := item acc c s hJ
    refine codeAny_builtin F.entry_list_repr_loop ?_
    show wpAny _ _ («list.__repr__.loop» ⟨[.ref a, .int i 0, .ref P, .int ((base + piled (ts.take i) : Nat) : Int) 0], []⟩) _ _ s
    rw [repr_loop_tree]
    refine wpAny_bind (wpAny_listItems ha hda ?_)
    have hnone : its[(i : Int).toNat]? = none := by
      rw [Int.toNat_natCast, hin, ← hits]
      simp
    simp only [hnone]
    unfold reprEnd
    refine wpAny_bind (wpAny_listItems (KJ.get _ _ _ hJ) rfl ?_)
    rw [hacc, repr_fold]
    refine wpAny_bind (wpAny_pure ?_)
    have hall : done.map (·.1) = ts := by rw [hdone, hin, List.take_length]
    rw [hall]
    refine wpAny_bind (wpAny_mkStr (wpAny_pure ?_) hsz3)
    exact hR _ _ _ _ _ hJ
  | succ k ih =>
    intro i s acc c done hk hi hJ hacc hdone
    have hlt : i < ts.length := by omega
    obtain ⟨its, n, oa, ha, hda, hits, hit⟩ := item acc c s hJ
    have hlt' : i < its.size := by omega
    have ht : ts[i]? = some ts[i] := List.getElem?_eq_getElem hlt
    have hp1 := piled_take_succ ht
    have hp2 := piled_take_le ts (i + 1)
    refine codeAny_builtin F.entry_list_repr_loop ?_
    show wpAny _ _ («list.__repr__.loop» ⟨[.ref a, .int i 0, .ref P, .int ((base + piled (ts.take i) : Nat) : Int) 0], []⟩) _ _ s
    rw [repr_loop_tree]
    refine wpAny_bind (wpAny_listItems ha hda ?_)
    have hsome : its[(i : Int).toNat]? = some its[i] := by
      rw [Int.toNat_natCast]
      simp [hlt']
    simp only [hsome]
    rw [Int.toNat_natCast]
    refine wpAny_bind (wpAny_holding (wpAny_mono (hit i hlt' ts[i] ht (base + piled (ts.take i) + 1) _ (by omega)) (fun t' s1 q => ?_) fun _ _ x => x))
    obtain ⟨rfl, hJ1⟩ := q
    refine wpAny_bind (wpAny_mkStr ?_ (hsz2 _ (List.mem_of_getElem? ht)))
    refine wpAny_bind ?_
    show wpAny _ _ (updateSeq P _) _ _ _
    have hJ2 := KJ.tok _ _ _ (s1.toks + 1) hJ1
    have hP := KJ.get _ _ _ hJ2
    have hasz : acc.size ≤ sizeLine := by
      have e1 : acc.toList.length = acc.size := by simp
      have e2 : (strValues done).length = done.length := by simp [strValues]
      have e3 : done.length = (ts.take i).length := by rw [← hdone, List.length_map]
      have e4 : (ts.take i).length ≤ i := by rw [List.length_take]; omega
      rw [hacc] at e1; omega
    refine wpAny_updateSeq hP rfl (wpAny_pure ⟨F.quiet_list_repr_loop _, ?_⟩) hasz
    have e1 : ((i : Int) + 1) = ((i + 1 : Nat) : Int) := by omega
    have e2 : base + piled (ts.take i) + (ts[i].length + 2) = base + piled (ts.take (i + 1)) := by omega
    rw [e1, e2]
    refine ih (i + 1) _ _ _ (done ++ [(ts[i], s1.toks)]) (by omega) hlt (KJ.upd _ _ _ _ _ hJ2 (Heap.get?_update_self _ hP rfl)) (by rw [Array.toList_push, hacc]; simp only [strValues, List.map_append, List.map_cons, List.map_nil]) (by rw [List.map_append, hdone, List.take_add_one, ht]; rfl)
end
section
variable {prog : Program} {w : World} {A : Around} {E : Value → Shared → Prop} {s : Shared}
/-- the items of a tuple -/
inductive TItems (prog : Program) (w : World) (A : Around) (E : Value → Shared → Prop) (J : Shared → Prop) : List Value → List Str → Prop
  | nil : TItems prog w A E J [] []
  | cons {x : Value} {t : Str} {l : List Value} {ts : List Str} : (∀ base s, J s → base + t.length ≤ sizeLine → wpAny (model prog w) A (pyReprUnder base x) (fun t' s' => t' = t ∧ J s') E s) → TItems prog w A E J l ts → TItems prog w A E J (x :: l) (t :: ts)
theorem TItems.length_eq {J : Shared → Prop} : ∀ {l : List Value} {ts : List Str}, TItems prog w A E J l ts → ts.length = l.length
  | _, _, .nil => rfl
  | _, _, .cons _ h => by simp [h.length_eq]
theorem tupFold {J : Shared → Prop} : ∀ (l : List Value) (ts : List Str) (acc : Array Str) (n : Nat) (s : Shared) (Q : (Array Str × Nat) → Shared → Prop), TItems prog w A E J l ts → n + piled ts ≤ sizeLine → J s →
    (∀ s', J s' → Q ⟨acc ++ ts.toArray, n + piled ts⟩ s') → wpAny (model prog w) A (forIn l (⟨acc, n⟩ : (Array Str × Nat)) tupBody) Q E s := by
  intro l
  induction l with
  | nil =>
    intro ts acc n s Q hT _ hJ h
    cases hT
    have h0 := h s hJ
    simp only [List.forIn_nil]
    exact wpAny_pure (by simpa [piled] using h0)
  | cons x l ih =>
    intro ts acc n s Q hT hn hJ h
    cases hT with
    | cons hx hl =>
      rename_i t ts'
      rw [piled_cons] at hn
      rw [List.forIn_cons]
      refine wpAny_bind (wpAny_bind (wpAny_mono (hx (n + 1) s hJ (by omega)) (fun t' s1 q => ?_) fun _ _ x => x))
      obtain ⟨rfl, hJ1⟩ := q
      refine wpAny_pure ?_
      refine ih ts' (acc.push t') (n + (t'.length + 2)) _ Q hl (by omega) hJ1 fun s2 hJ2 => ?_
      have h1 := h s2 hJ2
      have e : n + piled (t' :: ts') = n + (t'.length + 2) + piled ts' := by rw [piled_cons]; omega
      rw [e] at h1
      simpa using h1
theorem tupleAt {J : Shared → Prop} {a : Addr} {o : Obj} {items : Array Value} {n : Nat} {ts : List Str} (ha : s.heap.get? a = some o) (hd : o.data = .seq items n) {R : Result → Shared → Prop} {base : Nat} {id : String} {rest : List Value} {g : List Code}
    (hT : TItems prog w (A.under (.builtin id ⟨.ref a :: rest, []⟩)) (fun e s' => R (.error e) s') J items.toList ts) (hg : A.guards = some g) (hca : Clear g a) (hJ : J s)
    (hR : ∀ s' u tk, J s' → R (.ok (.ret (.str (tupleText ts) u))) { s' with toks := tk }) (hsz : base + (tupleText ts).length ≤ sizeLine) :
    wpOwn (model prog w) A (.builtin id ⟨.ref a :: rest, []⟩) (Builtin.tupleReprAt base ⟨[.ref a], []⟩) (fun fin s' => match fin with | .done f => R (.ok f) s' | .again c' => c'.quiet = true ∧ codeAny (model prog w) A c' R s') (fun e s' => R (.error e) s') s := by
  have hlen : ts.length = items.size := by simpa using hT.length_eq
  have hp := piled_le_tupleText ts
  have hsz0 : (tupleText ts).length ≤ sizeLine := by omega
  rw [tuple_repr_tree, tupleReprUnderWay_eq]
  refine wpOwn_bind (wpOwn_stackTailAny hg (tupGuardF_off _) (tupGuardF_pos _) ?_)
  have hn : (g.any fun c => tupGuardF (.ref a) (c, default)) = false := by
    rw [List.any_eq_false]
    intro c hcm
    rw [tupGuardF_of_clear hca c hcm]
    exact Bool.false_ne_true
  rw [hn]
  refine wpOwn_of_wpAny ?_
  show wpAny _ _ (tupleReprRest base (.ref a)) _ _ s
  unfold tupleReprRest Builtin.Tuple.tupleItemsOf
  refine wpAny_bind (wpAny_bind (wpAny_seqItems ha hd (wpAny_pure ?_)))
  rw [← Array.forIn_toList]
  refine wpAny_bind (tupFold _ ts _ _ _ _ hT (by omega) hJ fun s' hJ' => ?_)
  refine wpAny_bind (wpAny_mkStr (wpAny_pure ?_) (by simpa [tupleText, hlen] using hsz0))
  have h1 := hR s' s'.toks (s'.toks + 1) hJ'
  simpa [tupleText, hlen] using h1
theorem reprUnder_tuple {J : Shared → Prop} {a : Addr} {o : Obj} {items : Array Value} {n : Nat} {ts : List Str} {Q : Str → Shared → Prop} {base : Nat} {g : List Code} (ha : s.heap.get? a = some o) (hc : o.cls = .type "tuple") (hd : o.data = .seq items n)
    (hT : TItems prog w (A.under (.builtin "tuple.__repr__.under" ⟨[.ref a, rawInt base], []⟩)) E J items.toList ts) (hg : A.guards = some g) (hca : Clear g a) (hu : A.units < cLine) (hJ : J s)
    (hQ : ∀ s' tk, J s' → Q (tupleText ts) { s' with toks := tk }) (hsz : base + (tupleText ts).length ≤ sizeLine) :
    wpAny (model prog w) A (pyReprUnder base (.ref a)) Q E s :=
  wpAny_pyReprUnder_ref (by omega) (wpAny_pyReprObjUnder_twin (twin := "tuple.__repr__.under") ⟨o, ha, hc⟩ F.slot_tuple_repr rfl hu
    (call_twin_own (F.quiet_tuple_repr_under _) F.entry_tuple_repr_under F.check_tuple_repr_under ⟨o, ha, hc⟩ F.slot_tuple_repr (F.args_tuple_repr_1 _)
      (tupleAt (R := callEnd _ E) ha hd hT hg hca hJ (fun s' u tk h => ⟨⟨_, _, rfl⟩, _, _, rfl, hQ s' tk h⟩) hsz)))
theorem listAt {J : Stp} {a : Addr} {oa : Obj} {x : Value} {l : List Value} {na : Nat} {ts : List Str} {R : Result → Shared → Prop} {base : Nat} {g : List Code} (ha : s.heap.get? a = some oa) (hda : oa.data = .seq (x :: l).toArray na) (hg : A.guards = some g) (hca : Clear g a)
    (KJ : Keeps s.heap.objs.size J) (item : Items prog w A (fun e s' => R (.error e) s') J a ts) (h0 : J #[] ([] : List Value).length { s with heap := s.heap.push (accObj #[] 0) })
    (hR : ∀ acc c s' u tk, J acc c s' → R (.ok (.ret (.str (listText ts) u))) { s' with toks := tk }) (hsz : base + (listText ts).length ≤ sizeLine) :
    wpAny (model prog w) A.in1 (Builtin.listReprAt base ⟨[.ref a], []⟩) (fun fin s' => match fin with | .done f => R (.ok f) s' | .again c' => c'.quiet = true ∧ codeAny (model prog w) A c' R s') (fun e s' => R (.error e) s') s := by
  refine wpAny_list_repr_head (A := A.in1) hg (fun v rest kw hm => listSameRef_of_ne (hca _ _ _ _ hm)) ha hda ?_
  refine wpAny_bind (m := newList []) (wpAny_newObj_type ?_)
  refine wpAny_pure ⟨F.quiet_list_repr_loop _, ?_⟩
  exact loop KJ item hsz hR _ 0 _ #[] _ [] rfl (Nat.zero_le _) h0 rfl (by simp)
theorem call_repr_list {J : Stp} {a : Addr} {oa : Obj} {x : Value} {l : List Value} {na : Nat} {ts : List Str} {Q : Value → Shared → Prop} {g : List Code} (ha : s.heap.get? a = some oa) (hc : oa.cls = .type "list") (hda : oa.data = .seq (x :: l).toArray na) (hg : A.guards = some g) (hca : Clear g a) (hu : A.units + 1 < cLine)
    (KJ : Keeps s.heap.objs.size J) (item : Items prog w A.in1 E J a ts) (h0 : J #[] 0 { s with heap := s.heap.push (accObj #[] 0) })
    (hQ : ∀ acc c s' u tk, J acc c s' → Q (.str (listText ts) u) { s' with toks := tk }) (hsz : (listText ts).length ≤ sizeLine) :
    wpAny (model prog w) A (call (.builtin "repr") [.ref a]) Q E s :=
  call_repr_slot (by omega) ⟨oa, ha, hc⟩ F.slot_list_repr.toG (wpAny_call (codeAny_call_builtin F.slot_list_repr.plain F.entry_list_repr (F.slot_list_repr.check _ _ _ _ _ _ _ _ ⟨oa, ha, hc⟩ (F.args_list_repr_1 _)
    (listAt (base := 0) (R := callEnd _ E) ha hda hg hca KJ item h0 (fun acc c s' u tk h => ⟨_, _, rfl, hQ acc c s' u tk h⟩) (by omega)))))
end
end RPG
namespace Mi
open PySem L2 Evl RPG
def obOf : PyData → Option Nat
  | .dict [(.int n, .none)] => some n.toNat
  | _ => none
@[simp] theorem obOf_oD (n : Nat) : obOf (oD n) = some n := rfl
def shownX (tx : Nat → Str) (d : PyData) : Str := match obOf d with
  | some n => tx n
  | none => d.shown
def shownP (tx : Nat → Str) (p : Str × PyData) : Str := tupleText [reprText p.1, shownX tx p.2]
section
variable {X : Cx} {B : Bs} {env : Env} {os : Os} {α : Type}
/-- repr of an own object gives t -/
def ObR (X : Cx) (k : Nat) (r : Rp α) (x : α) (t : Str) : Prop :=
  ∀ (A : Around) (pins : List (Addr × Obj)) (s : Shared) (σ σ0 : L2.St) (B : Bs) (env : Env) (os : Os) (F H : Hp) (u : Value) (v : V) (base : Nat), Sub X k A → Inv X pins σ H s → Sit B F H σ0 env os → RelV v u → r.ok F v x → base + t.length ≤ sizeLine →
    wpAny (model X.prog X.w) A (pyReprUnder base u) (fun t' s' => t' = t ∧ EqAfter X B env os pins σ σ0 F s') X.xe s
end
section
variable {X : Cx} {B : Bs} {env : Env} {os : Os} {tb : ETab}
theorem dp_noOb {K : PySem.W.Frag} {F : Hp} {v : V} {d : PyData} (h : Dp K F v d) : obOf d = none := by cases h <;> rfl
theorem rX_data {K : PySem.W.Frag} {F : Hp} {v : V} {d : PyData} (h : (rX K tb).ok F v d) (ho : obOf d = none) : (rD K).ok F v d := by
  rcases h with h | ⟨n, e, _⟩
  · exact h
  · rw [e, obOf_oD] at ho
    cases ho
theorem rX_ob {K : PySem.W.Frag} {F : Hp} {v : V} {d : PyData} {n : Nat} (h : (rX K tb).ok F v d) (ho : obOf d = some n) : (tb.ob n).ok F v () := by
  rcases h with h | ⟨m, e, q⟩
  · rw [dp_noOb h.1] at ho
    cases ho
  · rw [e, obOf_oD] at ho
    cases ho
    exact q
theorem depth_mem : ∀ {ds : List PyData} {d : PyData}, d ∈ ds → d.depth ≤ PyData.depthAll ds
  | x :: xs, d, h => by
    rw [PyData.depthAll]
    cases h with
    | head => omega
    | tail _ h => have := depth_mem h; omega
theorem reads_item {h : Heap} : ∀ {vs : List Value} {ds : List PyData} {as : List Addr}, ReadsAll h vs ds as → ∀ (i : Nat) (u : Value), vs[i]? = some u → ∃ d bs, d ∈ ds ∧ Reads h u d bs
  | _, _, _, .nil, i, u, e => by simp at e
  | _, _, _, .cons r1 r2, i, u, e => by
    cases i with
    | zero =>
      cases e
      exact ⟨_, _, List.mem_cons_self .., r1⟩
    | succ i =>
      obtain ⟨d, bs, hd, hr⟩ := reads_item r2 i u (by simpa using e)
      exact ⟨d, bs, List.mem_cons_of_mem _ hd, hr⟩
theorem not_in_own {h : Heap} {a : Addr} {oa : Obj} {its : List Value} {n i : Nat} {u : Value} {d : PyData} {as bs : List Addr} (ha : h.get? a = some oa) (hc : oa.cls = .type "list") (hd : oa.data = .seq its.toArray n) (hi : its[i]? = some u) (r : Reads h u d as) (hb : ReadAtMost h d.depth bs) : a ∉ bs := by
  intro hm
  obtain ⟨d', as', r', hle⟩ := hb a hm
  have key : ∃ ds as2, d'.depth = PyData.depthAll ds + 1 ∧ ReadsAll h its ds as2 := by
    cases r' with
    | list h1 h2 h3 h4 =>
      rw [ha] at h1
      cases h1
      rw [hd] at h3
      injection h3 with h3 _
      rename_i xs2 as2 _
      exact ⟨xs2, as2, by simp only [PyData.depth], by rw [← h3] at h4; simpa using h4⟩
    | tuple h1 h2 h3 h4 =>
      rw [ha] at h1
      cases h1
      rw [hc] at h2
      exact absurd (Value.type.inj h2) (by decide)
    | dict h1 h2 h3 h4 h5 =>
      rw [ha] at h1
      cases h1
      rw [hc] at h2
      exact absurd (Value.type.inj h2) (by decide)
  obtain ⟨ds, as2, e, hr⟩ := key
  obtain ⟨x, cs, hx, rx⟩ := reads_item hr i u hi
  obtain ⟨e2, _⟩ := PyProof.Rows.reads_det (fun _ _ e _ => e) r rx
  have := depth_mem hx
  rw [e2] at this
  omega
theorem sub_under {k : Nat} {A : Around} {c : Code} (s : Sub X (k + 1) A) (h1 : (A.under c).depth ≤ A.depth + 3) (h2 : (A.under c).units = A.units + 1) (h3 : (A.under c).frames = A.frames) : Sub X k (A.under c) := by
  have r := s.room
  refine ⟨⟨r.hd, ?_, ?_⟩, ?_⟩
  · have := r.dp
    omega
  · have := r.un
    rw [h2]
    omega
  · rw [h3]
    exact s.fr
theorem weight_le {id : String} {args : Args} (h1 : (Code.builtin id args).frames = 0) (h2 : (Code.builtin id args).isCreation = false) (h3 : (Code.builtin id args).isCaller = false) : (Code.builtin id args).weight ≤ 3 := by
  unfold Code.weight
  rw [h1, h2, h3]
  simp only [Bool.false_eq_true, if_false]
  split <;> omega
theorem sub_loop {k : Nat} {A : Around} {args : Args} (s : Sub X (k + 1) A) : Sub X k (A.under (.builtin "list.__repr__.loop" args)) :=
  sub_under s (by show A.depth + Code.weight _ ≤ A.depth + 3; exact Nat.add_le_add_left (weight_le (by first | rfl | simp [Code.frames, Code.isFrame]) (by first | rfl | decide +kernel | (unfold Code.isCreation; decide +kernel)) (by first | rfl | decide +kernel | (unfold Code.isCaller; decide +kernel))) _) (units_under_list_loop _ _) (by first | rfl | simp [Around.under, Code.envs, pushEnvs])
theorem sub_tup {k : Nat} {A : Around} {args : Args} (s : Sub X (k + 1) A) : Sub X k (A.under (.builtin "tuple.__repr__.under" args)) :=
  sub_under s (by show A.depth + Code.weight _ ≤ A.depth + 3; exact Nat.add_le_add_left (weight_le (by first | rfl | simp [Code.frames, Code.isFrame]) (by first | rfl | decide +kernel | (unfold Code.isCreation; decide +kernel)) (by first | rfl | decide +kernel | (unfold Code.isCaller; decide +kernel))) _) (units_under_tuple_repr_under _ _) (by first | rfl | simp [Around.under, Code.envs, pushEnvs])
end
section
variable {X : Cx} {B : Bs} {env : Env} {os : Os} {tb : ETab} {wt : Nat → W Str} {k : Nat}
def ObT (X : Cx) (k : Nat) (tb : ETab) (wt : Nat → W Str) : Prop := ∀ n t, wt n (· = t) (fun _ => False) → ObR X k (tb.ob n) () t
theorem EqAfter.tok {pins : List (Addr × Obj)} {σ σ0 : L2.St} {F : Hp} {s : Shared} (h : EqAfter X B env os pins σ σ0 F s) (t : Nat) : EqAfter X B env os pins σ σ0 F { s with toks := t } := by
  obtain ⟨F', H', I, S, e⟩ := h
  exact ⟨F', H', I.tok t, S, e⟩
theorem EqAfter.after {pins : List (Addr × Obj)} {σ σ0 : L2.St} {F F1 : Hp} {s : Shared} (e : Ex F F1) (h : EqAfter X B env os pins σ σ0 F1 s) : EqAfter X B env os pins σ σ0 F s := by
  obtain ⟨F', H', I, S, e'⟩ := h
  exact ⟨F', H', I, S, e.trans e'⟩
/-- the list of texts is pinned -/
def accJ (X : Cx) (B : Bs) (env : Env) (os : Os) (pins : List (Addr × Obj)) (σ σ0 : L2.St) (F : Hp) (P : Addr) : Stp := fun acc c s => EqAfter X B env os (pins ++ [(P, accObj acc c)]) σ σ0 F s
theorem keeps_acc {pins : List (Addr × Obj)} {σ σ0 : L2.St} {F H : Hp} {P : Addr} (f : FpOk X pins H P) : Keeps P (accJ X B env os pins σ σ0 F P) := by
  obtain ⟨_, f1, f2, f3, f4, f5⟩ := f
  have hp : ∀ acc c, (P, accObj acc c) ∈ X.pn ++ (pins ++ [(P, accObj acc c)]) := fun acc c => List.mem_append_right _ (List.mem_append_right _ (List.mem_singleton.mpr rfl))
  refine ⟨fun acc c s ⟨F', H', I, S, e⟩ => (I.pin _ (hp acc c)).1, fun acc c s v c' ⟨F', H', I, S, e⟩ hg => ?_, fun acc c s t h => h.tok t⟩
  have hn := (I.pin _ (hp acc c)).2.1
  have I0 : Inv X pins σ H' s := I.unpinned
  have I1 : Inv X pins σ H' { s with heap := s.heap.update P (Obj.mapSeq (·.push v)) } := I0.turned (t' := s.toks) (it := P) (fun b o hne e => (Heap.get?_update_other _ _ (Ne.symm hne)).trans e) hn f1 f3 f4 f5
  refine ⟨F', H', I1.pins_of fun p hpm => ?_, S, e⟩
  rcases List.mem_append.mp hpm with z | z
  · exact I1.pin p (List.mem_append_right _ z)
  · rw [List.mem_singleton.mp z]
    exact ⟨hg, hn, f1, f2, fun v z => nomatch z⟩
/-- one pair -/
theorem pair_repr (T : ObT X k tb wt) {A : Around} {pins : List (Addr × Obj)} {s : Shared} {σ σ0 : L2.St} {F H : Hp} {u : Value} {v : V} {base : Nat} {p : Str × PyData} {tx : Nat → Str} {g : List Code} (sb : Sub X (k + 1) A) (I : Inv X pins σ H s) (S : Sit B F H σ0 env os) (rv : RelV v u)
    (ok : (rT2 X.K rStr (rX X.K tb)).ok F v p) (hz : base + (shownP tx p).length ≤ sizeLine) (hw : ∀ n, obOf p.2 = some n → wt n (· = tx n) fun _ => False) (hs : obOf p.2 = none → p.2.showable = true) (hg : A.guards = some g)
    (hcl : ∀ b, (∀ d as bs, Reads s.heap u d as → ReadAtMost s.heap d.depth bs → b ∈ bs → Clear g b) ∧ (u = .ref b → Clear g b)) :
    wpAny (model X.prog X.w) A (pyReprUnder base u) (fun t' s' => t' = shownP tx p ∧ EqAfter X B env os pins σ σ0 F s') X.xe s := by
  obtain ⟨x, d⟩ := p
  cases ho : obOf d with
  | none =>
    obtain ⟨a, v1, v2, ev, ht, ⟨e1, l1, o1⟩, ok2⟩ := ok
    have hD := rX_data ok2 ho
    have e1 : v1 = .str x := e1
    subst e1 ev
    have hd : Dp X.K H (.ref a) (.tuple [.str x, d]) := Dp.up S.fh (.tup ht (.cons (.str x) (.cons hD.1 .nil)))
    obtain ⟨as, rd⟩ := Dp.reads I _ _ u hd rv
    have esh : (PyData.tuple [.str x, d]).shown = shownP tx (x, d) := by
      unfold shownP shownX
      rw [show obOf (x, d).2 = none from ho]
      simp only [PyData.shown, PyData.shownAll]
    have hcl0 : (PyData.tuple [.str x, d]).canLay0 = true := by
      have e : PyData.canLay0 (.str x) = true := by simpa [PyData.canLay0] using o1
      simp only [PyData.canLay0, PyData.canLayAll0, hD.2.1, Bool.and_true] at *
      exact e
    obtain ⟨bs, hb, hk⟩ := ReprK.of_reads (prog := X.prog) (w := X.w) rd (by simp [PyData.showable, PyData.showableAll, hs ho]) (PyData.noDict_hsm (PyData.hasDict_of_canLay _ hcl0)) (by rw [esh]; omega)
    rw [esh] at hk
    have hdp : (PyData.tuple [.str x, d]).depth ≤ 40 := by
      have : d.depth ≤ 30 := hD.2.2
      simp only [PyData.depth, PyData.depthAll]
      omega
    have hu := sb.room.un
    exact hk base hz A g X.xe s _ hg (fun b hm => (hcl b).1 _ _ _ rd hb hm) (by omega) (fun _ _ e => e) fun h' tk kp => ⟨rfl, F, H, I.kept kp, S, Ex.refl F⟩
  | some n =>
    obtain ⟨a, v1, v2, ev, ht, ⟨e1, l1, o1⟩, ok2⟩ := ok
    have hO := rX_ob ok2 ho
    have e1 : v1 = .str x := e1
    subst e1 ev
    cases rv
    obtain ⟨its, r2, ⟨o, e, ec, m, ed⟩, z⟩ := I.tuple (ex_t S.fh ht)
    obtain ⟨i1, i2, rfl, ri1, ri2⟩ : ∃ i1 i2, its = [i1, i2] ∧ RelV (.str x) i1 ∧ RelV v2 i2 := by
      cases r2 with
      | cons h1 t1 => cases t1 with
        | cons h2 t2 => cases t2; exact ⟨_, _, rfl, h1, h2⟩
    obtain ⟨tk, rfl⟩ := ri1
    have et : shownP tx (x, d) = tupleText [reprText x, tx n] := by
      unfold shownP shownX
      rw [show obOf (x, d).2 = some n from ho]
    rw [et] at hz ⊢
    have q1 : (reprText x).length ≤ (tupleText [reprText x, tx n]).length := tupleText_mem_le (by simp)
    refine reprUnder_tuple (J := EqAfter X B env os pins σ σ0 F) (ts := [reprText x, tx n]) e ec ed (.cons (fun b2 s2 h2 hb2 => (ReprIs.str x tk (by omega)) b2 hb2 _ _ _ _ fun tk' => ⟨rfl, h2.tok tk'⟩) (.cons (fun b2 s2 h2 hb2 => ?_) .nil)) hg ((hcl a).2 rfl) sb.room.units0 ⟨F, H, I, S, Ex.refl F⟩ (fun s' tk h => ⟨rfl, h.tok tk⟩) hz
    obtain ⟨F2, H2, I2, S2, e2⟩ := h2
    exact wpAny_mono (T n (tx n) (hw n ho) _ pins s2 σ σ0 B env os F2 H2 i2 v2 b2 (sub_tup sb) I2 S2 ri2 ((tb.ob n).mono e2 hO) hb2) (fun t' s' q => ⟨q.1, q.2.after e2⟩) fun _ _ x => x
def TxOk (wt : Nat → W Str) (tx : Nat → Str) (xs : List (Str × PyData)) : Prop := ∀ p ∈ xs, (∀ n, obOf p.2 = some n → wt n (· = tx n) fun _ => False) ∧ (obOf p.2 = none → p.2.showable = true)
theorem call_reprXs (hu : X.A.units + 100 < cLine) (hgu : X.A.guards = some []) (hr : Room (k + 4) X.A) (T : ObT X k tb wt) : CallR X (.builtin "repr") (fun vs H Q => ∃ σ0 F v xs tx, vs = [v] ∧ Sit B F H σ0 env os ∧ (rLst (rT2 X.K rStr (rX X.K tb))).ok F v xs ∧ TxOk wt tx xs ∧
    (listText (xs.map (shownP tx))).length ≤ sizeLine ∧ ∀ F' H', Sit B F' H' σ0 env os → Ex F F' → Q (.str (listText (xs.map (shownP tx)))) H') := by
  intro pins s σ H vs us Q I r ⟨σ0, F, v, xs, tx, ev, S, ⟨a, ws, e1, hx, zx, ox⟩, ht, hz, q⟩
  subst ev e1
  cases xs with
  | nil =>
    cases ox
    have hd : Dp X.K H (.ref a) (.list []) := Dp.up S.fh (.lst (SqL.of hx) .nil)
    exact call_reprD hu hgu pins s σ H _ us Q I r ⟨_, .list [], rfl, hd, rfl, by decide, rfl, by decide +kernel, q F H S (Ex.refl F)⟩
  | cons x0 xs =>
    obtain rfl := Vals.ref1 r
    obtain ⟨z, its, n, rv, e⟩ := I.hok a _ (S.fh _ _ hx)
    have hlen : its.length = (x0 :: xs).length := by rw [← rv.length]; exact ox.length
    cases its with
    | nil => simp at hlen
    | cons y0 its =>
      have fp : FpOk X pins H s.heap.objs.size := I.fpOk (Nat.le_refl _) I.fresh
      have hnew : (s.heap.push (accObj #[] 0)).get? s.heap.objs.size = some (accObj #[] 0) := Heap.get?_push_size _ rfl
      have I1 : Inv X pins σ H { s with heap := s.heap.push (accObj #[] 0) } := I.kept (t' := s.toks) fun b u e => Heap.get?_push_of_some _ e
      have h0 : accJ X B env os pins σ σ0 F s.heap.objs.size #[] 0 { s with heap := s.heap.push (accObj #[] 0) } := by
        refine ⟨F, H, I1.pins_of fun p hp => ?_, S, Ex.refl F⟩
        rcases List.mem_append.mp hp with z | z
        · exact I1.pin p (List.mem_append_right _ z)
        · rw [List.mem_singleton.mp z]
          exact ⟨hnew, fp.1, fp.2.1, fp.2.2.1, fun v z => nomatch z⟩
      refine call_repr_list (ts := (x0 :: xs).map (shownP tx)) e rfl rfl hgu (Clear.nil a) (by omega) (keeps_acc fp) (fun acc c s' ⟨F', H', I', S', e'⟩ => ?_) h0 (fun acc c s' u tk ⟨F', H', I', S', e'⟩ => ⟨.str _, H', (I'.unpinned).tok tk, ⟨u, rfl⟩, q F' H' S' e'⟩) hz
      obtain ⟨z, its2, n2, rv2, e2⟩ := I'.hok a _ (S'.fh _ _ (e' _ _ hx))
      have hl2 : its2.length = (x0 :: xs).length := by rw [← rv2.length]; exact ox.length
      refine ⟨its2.toArray, n2, _, e2, rfl, by rw [List.size_toArray, hl2, List.length_map], fun i h t ht2 base rest hb => ?_⟩
      have hi : i < its2.length := by simpa using h
      rw [List.getElem?_map] at ht2
      obtain ⟨p, gp, rfl⟩ := Option.map_eq_some_iff.mp ht2
      obtain ⟨vx, g1, o1⟩ := Paired.get ox gp
      obtain ⟨u1, t1, r1⟩ := Paired.get' rv2 g1
      have q1 : its2.toArray[i] = u1 := by
        have : its2[i]? = some its2.toArray[i] := by
          rw [List.getElem?_eq_getElem hi]
          simp
        rw [t1] at this
        exact (Option.some.inj this).symm
      rw [q1]
      have ht3 := ht p (List.mem_of_getElem? gp)
      have hsub : Sub X (k + 1) (X.A.in1.under (.builtin "list.__repr__.loop" ⟨.ref a :: rest, []⟩)) := sub_loop (Sub.in1 (n := k + 2) ⟨hr.mono (by omega), rfl⟩)
      have hok := (rT2 X.K rStr (rX X.K tb)).mono e' o1
      refine wpAny_mono (pair_repr (B := B) (env := env) (os := os) (tx := tx) (σ0 := σ0) (g := [.builtin "list.__repr__.loop" ⟨.ref a :: rest, []⟩]) T hsub I' S' r1 hok hb ht3.1 ht3.2 (guards_under_guard (isGuard_list_loop _) hgu) fun b => ⟨fun d as bs rd hbs hm => (Clear.nil b).cons fun eab => ?_, fun eu => (Clear.nil b).cons fun eab => ?_⟩) (fun t' s2 z => ⟨z.1, z.2.after e'⟩) fun _ _ x => x
      · subst eab
        exact not_in_own e2 rfl rfl t1 rd hbs hm
      · subst eab
        obtain ⟨b2, w1, w2, ew, ht4, _⟩ := hok
        rw [ew] at r1
        rw [eu] at r1
        have r1 : Value.ref a = Value.ref b2 := r1
        cases r1
        obtain ⟨its3, _, ⟨o3, g3, c3, _⟩, _⟩ := I'.tuple (ex_t S'.fh ht4)
        rw [e2] at g3
        cases g3
        exact absurd (Value.type.inj c3) (by decide)
/-- repr(xs), xs a list of pairs -/
def reprXs (wt : Nat → W Str) (xs : List (Str × PyData)) : W Str := fun P _ => ∃ tx : Nat → Str, TxOk wt tx xs ∧ (listText (xs.map (shownP tx))).length ≤ sizeLine ∧ PyData.strOk (listText (xs.map (shownP tx))) = true ∧ P (listText (xs.map (shownP tx)))
theorem e_reprXs {e : Expr} {p pos : Pos} {w : W (List (Str × PyData))} (hu : X.A.units + 100 < cLine) (hgu : X.A.guards = some []) (hr : Room (k + 4) X.A) (T : ObT X k tb wt) (ha : EE X B env os e (rLst (rT2 X.K rStr (rX X.K tb))) w) (hm : X.mg "repr" = none) (hg : Gl X "repr" := by rfl) (he : starEach [e] X.env = (false, eval e X.env) :: starEach [] X.env := by rfl) (hpl : (backTo pos (starEach [] X.env)).any (·.1) = false := by rfl) :
    EE X B env os (.Call (.Name "repr" p) [e] [] pos) rStr (bnd w fun xs => reprXs wt xs) :=
  PE.imp (pe_callB (call_reprXs (B := B) (env := env) (os := os) hu hgu hr T) hg hm (by decide +kernel) (pa_cons ha pa_nil he) (by decide) (by decide) he hpl) fun σ H Q ⟨F, P, S, hw, kk⟩ => ⟨F, _, S, hw, fun x ⟨tx, t1, t2, t3, t4⟩ v F1 H1 S1 e1 ok => ⟨σ, F1, v, x, tx, rfl, S1, ok, t1, t2, fun F' H' S' e' => kk _ t4 _ F' H' S' (e1.trans e') ⟨rfl, t2, t3⟩⟩⟩
end
end Mi
namespace Mi
open PySem L2 Evl
/-- anything -/
def rAll : Rp Unit := ⟨fun _ _ _ => True, fun _ h => h⟩
section
variable {X : Cx} {B : Bs} {env : Env} {os : Os} {tb : ETab} {pos : Pos} {α β : Type} {r : Rp α} {a e : Expr}
theorem e_upX {w : W PyData} (ha : EE X B env os e (rD X.K) w) : EE X B env os e (rX X.K tb) w := PE.imp ha fun σ H Q ⟨F, P, S, hw, k⟩ => ⟨F, _, S, hw, fun x hx v F' H' S' e' ok => k x hx v F' H' S' e' (.inl ok)⟩
/-- a value that nobody looks at -/
theorem e_anyX {w : W α} (n : Nat) (h : tb.ob n = rAll) (ha : EE X B env os e r w) : EE X B env os e (rX X.K tb) (bnd w fun _ => ret (oD n)) := PE.imp ha fun σ H Q ⟨F, P, S, hw, k⟩ => ⟨F, _, S, hw, fun x hp v F' H' S' e' ok => k _ hp v F' H' S' e' (.inr ⟨n, rfl, by rw [h]; trivial⟩)⟩
theorem pl_all : PlR rAll := fun _ _ _ _ _ _ => trivial
theorem pl_X {K : PySem.W.Frag} (h : ∀ n, PlR (tb.ob n)) : PlR (rX K tb) := fun F F' v d e hd => hd.elim (fun q => .inl (pl_D F F' v d e q)) fun ⟨n, q1, q2⟩ => .inr ⟨n, q1, h n F F' v () e q2⟩
end
end Mi
namespace Mi
open PySem L2 Evl
def ShX (wt : Nat → W Str) (tx : Nat → Str) (m : Nat) (d : PyData) : Prop := (obOf d = none ∧ Shw d m) ∨ ∃ n, obOf d = some n ∧ Ok (wt n) (· = tx n) ∧ (tx n).length ≤ m ∧ PyData.strOk (tx n) = true
theorem ShX.mono {wt : Nat → W Str} {tx : Nat → Str} {m k : Nat} {d : PyData} (h : ShX wt tx m d) (hk : m ≤ k) : ShX wt tx k d := h.elim (fun q => .inl ⟨q.1, q.2.mono hk⟩) fun ⟨n, h1, h2, h3, h4⟩ => .inr ⟨n, h1, h2, Nat.le_trans h3 hk, h4⟩
theorem ShX.len {wt : Nat → W Str} {tx : Nat → Str} {m : Nat} {d : PyData} (h : ShX wt tx m d) : (shownX tx d).length ≤ m ∧ PyData.strOk (shownX tx d) = true := by
  unfold shownX
  rcases h with ⟨h1, h2⟩ | ⟨n, h1, h2, h3, h4⟩
  · rw [h1]
    exact ⟨h2.l, h2.o⟩
  · rw [h1]
    exact ⟨h3, h4⟩
theorem Shw.dat {wt : Nat → W Str} {tx : Nat → Str} {m : Nat} {d : PyData} (h : Shw d m) (ho : obOf d = Option.none) : ShX wt tx m d := .inl ⟨ho, h⟩
theorem tup2_len {a b : Str} {m : Nat} (h1 : a.length ≤ m) (h2 : b.length ≤ m) : (tupleText [a, b]).length ≤ 2 * (m + 2) + 4 := by
  have l1 : (("(" : Str)).length = 1 := rfl
  unfold tupleText
  rw [strLen_append, strLen_append]
  have j := join_length_add [a, b] (by simp)
  have p := piled_le (ts := [a, b]) (m := m) fun t ht => by
    simp only [List.mem_cons, List.not_mem_nil, or_false] at ht
    rcases ht with rfl | rfl <;> assumption
  have e : [a, b].length = 2 := rfl
  rw [e] at p
  have lz : (Str.ofString (if [a, b].length == 1 then ",)" else ")")).length ≤ 2 := by split <;> decide
  omega
theorem tup2_ok {a b : Str} (h1 : PyData.strOk a = true) (h2 : PyData.strOk b = true) : PyData.strOk (tupleText [a, b]) = true := by
  unfold tupleText
  refine strOk_app (strOk_app (strOk_str _) ?_) (strOk_str _)
  rw [← StrLaws.glued_eq_join]
  exact join_okS _ (strOk_str _) _ fun t ht => by
    simp only [List.mem_cons, List.not_mem_nil, or_false] at ht
    rcases ht with rfl | rfl <;> assumption
theorem shownP_ok {wt : Nat → W Str} {tx : Nat → Str} {m : Nat} {p : Str × PyData} (h : ShX wt tx m p.2) (h1 : PyData.strOk p.1 = true) (h2 : p.1.length ≤ 20) (hm : 202 ≤ m) : (shownP tx p).length ≤ 2 * (m + 2) + 4 ∧ PyData.strOk (shownP tx p) = true := by
  have q := Shw.str h1 h2
  have e1 : (reprText p.1).length ≤ m := Nat.le_trans (by have := q.l; rw [PyData.shown] at this; exact this) hm
  have e2 : PyData.strOk (reprText p.1) = true := by have := q.o; rw [PyData.shown] at this; exact this
  exact ⟨tup2_len e1 h.len.1, tup2_ok e2 h.len.2⟩
theorem Ok.reprXs {wt : Nat → W Str} {xs : List (Str × PyData)} (tx : Nat → Str) {m n : Nat} (h : ∀ p ∈ xs, (PyData.strOk p.1 = true ∧ p.1.length ≤ 20) ∧ ShX wt tx m p.2) (hm : 202 ≤ m) (hl : xs.length ≤ n) (hz : n * (2 * (m + 2) + 4 + 2) + 2 ≤ sizeLine) : Ok (reprXs wt xs) (· = listText (xs.map (shownP tx))) := fun P E hp => by
  refine ⟨tx, fun p hp => ⟨fun k hk => ?_, fun hk => ?_⟩, ?_, ?_, hp _ rfl⟩
  · rcases (h p hp).2 with ⟨h1, _⟩ | ⟨j, h1, h2, _⟩
    · rw [hk] at h1
      cases h1
    · rw [hk] at h1
      cases h1
      exact h2 _ _ fun _ e => e
  · rcases (h p hp).2 with ⟨_, h2⟩ | ⟨j, h1, _⟩
    · exact h2.s
    · rw [hk] at h1
      cases h1
  · refine Nat.le_trans (listText_len_le _) ?_
    have := piled_le (ts := xs.map (shownP tx)) (m := 2 * (m + 2) + 4) fun t ht => by
      obtain ⟨p, hp, rfl⟩ := List.mem_map.mp ht
      exact (shownP_ok (h p hp).2 (h p hp).1.1 (h p hp).1.2 hm).1
    rw [List.length_map] at this
    have := Nat.mul_le_mul_right (2 * (m + 2) + 4 + 2) hl
    omega
  · refine listText_ok fun t ht => ?_
    obtain ⟨p, hp, rfl⟩ := List.mem_map.mp ht
    exact (shownP_ok (h p hp).2 (h p hp).1.1 (h p hp).1.2 hm).2
theorem Ok.sameX {wt : Nat → W Str} {xs ys : List (Str × PyData)} (tx : Nat → Str) {m n : Nat} (h : ∀ p ∈ xs, (PyData.strOk p.1 = true ∧ p.1.length ≤ 20) ∧ ShX wt tx m p.2) (hm : 202 ≤ m) (hl : xs.length ≤ n) (hz : n * (2 * (m + 2) + 4 + 2) + 2 ≤ sizeLine) (e : xs = ys) : Ok (Mi.bnd (Mi.reprXs wt xs) fun a => Mi.bnd (Mi.reprXs wt ys) fun b => Mi.ret (decide (a = b))) (· = true) := by
  subst e
  exact Ok.bndE (Ok.reprXs tx h hm hl hz) (Ok.bndE (Ok.reprXs tx h hm hl hz) (Ok.ret (decide_eq_true rfl)))
end Mi
namespace Mi
open PySem L2 Evl PyProof.Rows
end Mi
namespace Mi
open PySem L2 Evl PyProof.Rows RPG
open SetTx (SetS SetSO)
end Mi
namespace Mi
open PySem L2 Evl LamX
open PySem.Spec PyProof.Rows
end Mi
namespace Mi
open PySem L2 Evl PyProof.Rows
end Mi
namespace Mi
open PySem L2 Evl PyProof.Rows
end Mi
namespace Mi
open PySem L2 Evl PyProof.Rows
structure RtS {ρ τ β : Type} (B : Bs) (post : Post β) (a C : Addr) (fl : τ → List (Str × Slot)) (ro : Rp ρ) (inj : ρ × τ → β) : Prop where
  ok : ∀ D y, post D (inj y) → ∀ v F H, Fn B F H → OsOk B F H [(a, oObj C (fl y.2))] → ro.ok F v y.1 → D.rt v H
section
variable {B : Bs} {a C : Addr} {ρ τ β : Type} {fl : τ → List (Str × Slot)} {ro : Rp ρ} {post : Post β} {inj : ρ × τ → β}
theorem RtS.fn : RtS B (pO B a C fl ro) a C fl ro (fun y => y) := ⟨fun _ _ h => h.1⟩
theorem RtS.x (h : RtS B post a C fl ro inj) : RtS B (pX post) a C fl ro inj := ⟨fun D y ⟨nx, q⟩ => h.ok { D with nx := nx } y q⟩
theorem NxOk.q {env : Env} {os : Os} {s : τ} (ho : OsW os [(a, oObj C (fl s))]) : NxOk B (pO B a C fl rNon) env os ((), s) := ⟨fun D q σ F H z => q.2 σ F H z.fin (ho.ok z) rfl⟩
end
def resS (B : Bs) (env : Env) {τ α : Type} (osf : τ → Os) (r : Rp α) : Res (α × τ) := ⟨fun y F σ Q => ∀ v F' H', Sit B F' H' σ env (osf y.2) → Ex F F' → r.ok F' v y.1 → Q v H', fun e h v F' H' S e' => h v F' H' S (e.trans e')⟩
section
variable {X : Cx} {CX : CXT} {B : Bs} {env : Env} {os : Os} {tb : ETab} {pos p apos : Pos} {ι κ ρ α β γ τ : Type} {osf : τ → Os} {e e1 e2 o c : Expr} {es : List Expr} {kws : List Keyword} {n k : Nat} {ks : List Str} {ix : List Nat} {dvs : List V} {dfl : Env} {ar : κ → Env} {f C a : Addr} {fd : FuncData} {ps : List Str} {sp : Sp} {E : XK} {x m : Str} {R : Res ρ} {args : ι → Env} {conv : κ → ι} {r : Rp α} {q : Rp β} {s : τ} {fl : τ → List (Str × Slot)}
/-- the same at every state -/
structure SpS {τ : Type} (sp : Sp) (E : XK) (B : Bs) (env : Env) (osf : τ → Os) {ι ρ : Type} (args : ι → Env) (wk : τ → ι → W ρ) (R : Res ρ) : Prop where
  ok : ∀ s, SpF sp E B env (osf s) args (wk s) R
/-- o.m(..), o one's own -/
theorem e_methO (i j : Nat) {fs : List (Str × Slot)} {wk : ι → W ρ} {w : W κ} {pl : Sem Bool} {p2 : Pos} (G : FnOk X.prog X.w X.K X.mg X.base CX k f fd ps sp) (hx : Passes CX X E) (hs : SpF sp E B env os args wk R) (hr : Room k X.A) (cl : Cls X.K C) (hm : Meth X.K C m f) (hb : CB X.K fd ps 1 n ks ix dvs) (hd : ∀ F, EnvOk F dfl (dvs.map some))
    (hh : HH X B env os es kws pos n ks ar w) (hc : ∀ q, args (conv q) = sv (rAdr a) () :: pick ix (ar q ++ dfl)) (hi : env[i]? = some (sv (rAdr a) ()) := by rfl) (hj : os[j]? = some (a, oObj C fs) := by rfl) (hn : fs.lookup m = none := by rfl) (hN : X.N[i]? = some x := by rfl)
    (hv : Vis X.env.scope x := by first | exact Or.inl rfl | exact Or.inr (Or.inl rfl) | exact Or.inr (Or.inr rfl)) (hdb : (x == ("__debug__" : Str)) = false := by decide) (hcd : (x == ("__classdict__" : Str)) = false := by decide)
    (ht : eval (.Call (.Attribute (.Name x p2) m apos) es kws pos) X.env = (do
      let ov ← eval (.Name x p2) X.env
      standAt apos.atName
      let (f, first) ← holding [ov] (getMethod ov m pl)
      callWith pos f first (backTo pos (starEach es X.env)) (backToKw pos (keywordEach kws X.env))) := by rfl) :
    ER X B env os (.Call (.Attribute (.Name x p2) m apos) es kws pos) R (bnd w fun q => wk (conv q)) := by
  refine ⟨fun pins s σ H Q I ⟨F, P, S, hw, kk⟩ => ?_⟩
  obtain ⟨g1, g2, dx, vs0, g3, g5⟩ := S.obj hi hj
  refine PySem.W.methodCall_KW (pl := pl) (thn ((pe_var (pos := p2) hN hv hdb hcd).run pins s σ H (fun v H1 => v = .ref a ∧ H1 = H) I ⟨.ref a, g1, rfl, rfl⟩) fun u s1 ⟨v, H1, I1, rx, e1, e2⟩ => ?_) ht
  subst e1 e2
  obtain rfl : u = Value.ref a := rx
  refine getmeth_ok I1 g3 cl hm (g5.none hn) ?_
  obtain ⟨g, hb⟩ := hb.kbn
  refine hh.run pins s1 σ H1 (fun vs zs H2 => vs.length = n ∧ zs.length = ks.length ∧ sp (.ref a :: pick ix (vs ++ zs ++ dvs)) H2 Q E) (.ref f) [.ref a] _ hm.kp I1 ⟨F, _, S, hw, fun q hq vs zs F2 H2 S2 e2 l1 l2 ok => ⟨l1, l2, hs.ok S2 (i := conv q) (by
    rw [hc q]
    exact .cons ⟨_, rfl, rfl⟩ (env_pick ok hd)) hq fun z hz => R.mono e2 (kk z hz)⟩⟩ fun us ws vs zs H2 s2 I2 r rz ⟨l1, l2, q⟩ => ?_
  exact run_fnN (us := .ref a :: us) (vs := .ref a :: vs) G hr hb hx I2 (.cons rfl r) rz (by rw [List.length_cons, l1]; omega) l2 q
theorem es_methO (i j : Nat) {fs : List (Str × Slot)} {wk : τ → ι → W (α × τ)} {w : W κ} {pl : Sem Bool} {p2 : Pos} (G : FnOk X.prog X.w X.K X.mg X.base CX k f fd ps sp) (hx : Passes CX X E) (hs : SpS sp E B env osf args wk (resS B env osf r)) (hr : Room k X.A) (cl : Cls X.K C) (hm : Meth X.K C m f) (hb : CB X.K fd ps 1 n ks ix dvs) (hd : ∀ F, EnvOk F dfl (dvs.map some))
    (hh : HH X B env (osf s) es kws pos n ks ar w) (hc : ∀ q, args (conv q) = sv (rAdr a) () :: pick ix (ar q ++ dfl)) (hi : env[i]? = some (sv (rAdr a) ()) := by rfl) (hj : (osf s)[j]? = some (a, oObj C fs) := by rfl) (hn : fs.lookup m = none := by rfl) (hN : X.N[i]? = some x := by rfl)
    (hv : Vis X.env.scope x := by first | exact Or.inl rfl | exact Or.inr (Or.inl rfl) | exact Or.inr (Or.inr rfl)) (hdb : (x == ("__debug__" : Str)) = false := by decide) (hcd : (x == ("__classdict__" : Str)) = false := by decide)
    (ht : eval (.Call (.Attribute (.Name x p2) m apos) es kws pos) X.env = (do
      let ov ← eval (.Name x p2) X.env
      standAt apos.atName
      let (f, first) ← holding [ov] (getMethod ov m pl)
      callWith pos f first (backTo pos (starEach es X.env)) (backToKw pos (keywordEach kws X.env))) := by rfl) :
    EES X B env osf s (.Call (.Attribute (.Name x p2) m apos) es kws pos) r (bnd w fun q => wk s (conv q)) := e_methO i j G hx (hs.ok s) hr cl hm hb hd hh hc hi hj hn hN hv hdb hcd ht
end
end Mi
namespace Mi
open PySem L2 Evl PyProof.Rows
section
variable {X : Cx} {B : Bs} {env : Env} {os : Os} {pos p : Pos} {α β γ τ S : Type} {osf : τ → Os} {e e1 e2 c : Expr} {es : List Expr} {r : Rp α} {q : Rp β} {s : τ} {a C : Addr} {fl : τ → List (Str × Slot)}
section
variable {rest blkA blkB : List Stmt} {post : Post γ} {pos' : Pos}
theorem Sit.swap {F H : Hp} {σ : L2.St} {u v : Addr × Own} (S : Sit B F H σ env (u :: v :: os)) : Sit B F H σ env (v :: u :: os) :=
  ⟨S.fin, S.env, fun p hp => S.ow p (by
    rcases List.mem_cons.mp hp with h | h
    · exact h ▸ List.mem_cons_of_mem _ List.mem_cons_self
    · rcases List.mem_cons.mp h with h | h
      · exact h ▸ List.mem_cons_self
      · exact List.mem_cons_of_mem _ (List.mem_cons_of_mem _ h)), by
    have nd := S.nd
    simp only [List.map_cons, List.nodup_cons, List.mem_cons, not_or] at nd ⊢
    exact ⟨⟨fun h => nd.1.1 h.symm, nd.2.1⟩, nd.1.2, nd.2.2⟩⟩
/-- both branches go on -/
theorem b_ifJS {wc : W (Bool × τ)} {w1 w2 : τ → W S} {w3 : S → W γ} (envS : S → Env) (osS : S → Os) (hc : ETS X B env osf s c wc) (hA : ∀ s', BG X B env (osf s') blkA (pNx B envS osS) (w1 s')) (hB : ∀ s', BG X B env (osf s') blkB (pNx B envS osS) (w2 s'))
    (hr : ∀ s, BG X B (envS s) (osS s) rest post (w3 s)) : BG X B env (osf s) (.If c blkA blkB pos :: rest) post (bnd wc fun b => bnd (if b.1 = true then w1 b.2 else w2 b.2) w3) :=
  PSs.imp (pss_cons (ps_if hc (PSs.ex hA) (PSs.ex hB)) (PSs.ex hr)) fun D σ H ⟨F, P, S, hw, k⟩ => ⟨F, _, S, hw, fun b hb F' H' S' _ => by
    obtain ⟨b, s'⟩ := b
    cases b with
    | true => exact ⟨s', F', _, S', hb, fun s hs σ2 F2 H2 S2 => ⟨s, F2, P, S2, hs, k⟩⟩
    | false => exact ⟨s', F', _, S', hb, fun s hs σ2 F2 H2 S2 => ⟨s, F2, P, S2, hs, k⟩⟩⟩
end
end
end Mi
namespace Mi
open PySem L2 Evl PyProof.Rows
end Mi
namespace Mi
open PySem L2 Evl PyProof.Rows
end Mi
namespace Mi
open PySem L2 Evl PyProof.Rows
section
variable {X : Cx} {B : Bs} {env : Env} {os : Os} {pos p pos' : Pos} {α β γ τ S : Type} {osf : τ → Os} {e c : Expr} {r : Rp α} {s : τ} {a C : Addr} {fl : τ → List (Str × Slot)} {rest blkA blkB : List Stmt} {post : Post γ}
theorem b_exprP {w1 : W (α × τ)} {w2 : α × τ → W γ} (he : EES X B env osf s e r w1) (hr : ∀ y : α × τ, BG X B env (osf y.2) rest post (w2 y)) (hs : swapsWith e none pos.line X.env = pure false := by rfl) : BG X B env (osf s) (.Expr e pos :: rest) post (bnd w1 w2) :=
  PSs.imp (pss_cons (ps_expr he hs) (PSs.ex hr)) fun D σ H ⟨F, P, S, hw, k⟩ => ⟨F, _, S, hw, fun y hy v F' H' S' _ ok => ⟨y, F', P, S', hy, k⟩⟩
end
end Mi
namespace Mi
open PySem L2 Evl
end Mi
namespace Mi
open PySem L2 Evl PySem.Spec PyProof.Rows
end Mi
namespace Mi
open PySem L2 Evl PySem.Spec PyProof.Rows HotX L2H
end Mi
namespace Mi
open PySem L2 Evl PySem.Spec PyProof.Rows HotX L2H
end Mi
namespace Mi
open PySem L2 Evl NdefX
open PyProof.Rows (envOfC)
end Mi
namespace Mi
open PySem L2 Evl NdefX PySem.Spec PyProof.Rows HotX L2H
end Mi
namespace Mi
open PySem L2 Evl NdefX PySem.Spec PyProof.Rows HotX L2H
end Mi
namespace Mi
open PySem L2 Evl NdefX
open PyProof.Rows (envOfC)
end Mi
namespace Mi
open PySem L2 Evl PySem.Spec PyProof.Rows
end Mi
namespace Gen1
open PySem PySem.Spec PyProof.Rows GenW L2 GenFor
end Gen1
namespace Mi
open PySem L2 Evl Gen1
open PyProof.Rows (envOfC)
end Mi
namespace Gen1
open PySem PySem.Spec PyProof.Rows GenW L2 GenFor GenFr
/-- the loop's state: the generator is suspended at i, nobody looks at its objects -/
structure SSp (B : Cx) (pins : List (Addr × Obj)) (L : Lp) (fs : List Frame) (a : Addr) (g : Nat) (its : Array Value) (i : Nat) (H : Hp) (s : Shared) : Prop where
  sus : ∃ gs, s.gens[g]? = some gs ∧ Sus (model B.prog B.w) L fs gs
  pos : L.At its i s.heap
  gen : s.heap.IsGen a g
  fp : ∀ b ∈ [a, L.env.locals, L.it, L.li], FpOk B pins H b
theorem SSp.obj {B : Cx} {L : Lp} {fs : List Frame} {a : Addr} {g : Nat} {its : Array Value} {i : Nat} {h : Heap} (hp : L.At its i h) (hg : h.IsGen a g) : ∀ b ∈ [a, L.env.locals, L.it, L.li], ∃ o, h.get? b = some o ∧ ∀ v, o.data ≠ .cell v := fun b hb => by
  have hb : b = a ∨ b = L.env.locals ∨ b = L.it ∨ b = L.li := by simpa using hb
  rcases hb with z | z | z | z <;> rw [z]
  · obtain ⟨o, _, _, e, _, d, _⟩ := hg
    exact ⟨o, e, fun v y => by rw [d] at y; cases y⟩
  · obtain ⟨m, o, es, ep, e, d, _⟩ := hp.ns
    exact ⟨o, e, fun v y => by rw [d] at y; cases y⟩
  · obtain ⟨o, e, _, d⟩ := hp.iter
    exact ⟨o, e, fun v y => by rw [d] at y; cases y⟩
  · obtain ⟨o, e, _, n, d⟩ := hp.list
    exact ⟨o, e, fun v y => by rw [d] at y; cases y⟩
end Gen1
namespace Gen1
open PySem PySem.Spec PyProof.Rows GenW L2 GenFor GenFr
end Gen1
namespace Mi
open PySem L2 Evl Gen1
end Mi
namespace Mi
open PySem L2 Evl LamX
open PyProof.Rows (envOfC)
end Mi
namespace Mi
open PySem L2 Evl LamX
open PyProof.Rows (envOfC)
end Mi
namespace Mi
open PySem L2 Evl LamX
end Mi
namespace Mi
open PySem L2 Evl PyProof.Rows
/-- a row: where it lies, what it holds -/
abbrev Rw2 := Addr × List Int
def rP : Rp Rw2 := ⟨fun _ v p => v = .ref p.1, fun _ h => h⟩
def rowO (p : Rw2) : Addr × Own := (p.1, oLst rInt p.2)
/-- the same places told by other contents -/
theorem oP_re {M M' : List Rw2} (e : M.map (·.1) = M'.map (·.1)) {F : Hp} {o : HO} (h : (oLst rP M).ok F o) : (oLst rP M').ok F o := by
  obtain ⟨vs, h1, h2, h3⟩ := h
  refine ⟨vs, h1, h2, ?_⟩
  clear h1 h2
  induction h3 generalizing M' with
  | nil => cases M' with
    | nil => exact .nil
    | cons _ _ => cases e
  | cons r t ih => cases M' with
    | nil => cases e
    | cons p M' =>
      rw [List.map_cons, List.map_cons] at e
      obtain ⟨e1, e2⟩ := List.cons.inj e
      exact .cons (by show _ = V.ref p.1; rw [← e1]; exact r) (ih e2)
/-- one's own objects told anew -/
theorem Sit.re {B : Bs} {F H : Hp} {σ : L2.St} {env : Env} {os os' : Os} (S : Sit B F H σ env os) (hw : OsW os os') (hn : (os.map (·.1)).Nodup → (os'.map (·.1)).Nodup) : Sit B F H σ env os' :=
  ⟨S.fin, S.env, fun p hp => by
    obtain ⟨q, hq, e, h⟩ := hw p hp
    obtain ⟨h1, ⟨o, h2, h3⟩, h4⟩ := S.ow q hq
    rw [e] at h1 h2 h4
    exact ⟨h1, ⟨o, h2, h F o h3⟩, h4⟩, hn S.nd⟩
section
variable {X : Cx} {B : Bs} {env : Env} {os os' : Os} {pos p : Pos} {α β γ τ S : Type} {e e1 e2 a b : Expr} {r : Rp α} {rest : List Stmt} {post : Post γ} {w : W γ}
theorem b_re (hw : OsW os os') (hn : (os.map (·.1)).Nodup → (os'.map (·.1)).Nodup) (h : BG X B env os' rest post w) : BG X B env os rest post w := PSs.imp h fun D σ H ⟨F, P, Si, hp, k⟩ => ⟨F, P, Si.re hw hn, hp, k⟩
theorem OsW.perm (h : os.Perm os') : OsW os os' := fun p hp => ⟨p, h.mem_iff.mpr hp, rfl, fun _ _ q => q⟩
theorem b_perm (h : os.Perm os') (hb : BG X B env os' rest post w) : BG X B env os rest post w := b_re (OsW.perm h) (fun nd => (h.map _).nodup_iff.mp nd) hb
/-- a fact that the mirror asks -/
theorem b_chkM {c : Prop} (h : c → BG X B env os rest post w) : BG X B env os rest post (chk c w) := ⟨fun pins s σ H D I ⟨F, P, S, ⟨hc, hw⟩, k⟩ => (h hc).run pins s σ H D I ⟨F, P, S, hw, k⟩⟩
theorem Sit.lst {F H : Hp} {σ : L2.St} {c : Addr} {xs : List α} (S : Sit B F H σ env os) (hj : (c, oLst r xs) ∈ os) : F c = none ∧ ∃ vs, H c = some (.lst vs) ∧ vs.length ≤ sizeLine ∧ Paired (r.ok F) vs xs := by
  obtain ⟨z1, ⟨o, z2, vs, z3, z4, z5⟩, _⟩ := S.ow _ hj
  subst z3
  exact ⟨z1, vs, z2, z4, z5⟩
/-- e[b], e one of one's own lists -/
theorem e_idxE {c : Addr} {xs : List α} {w : W Int} (ha : EE X B env os e (rAdr c) (ret ())) (hj : (c, oLst r xs) ∈ os) (hb : EE X B env os b rInt w) (hs : PlainIx b := by exact fun _ _ => rfl) : EE X B env os (.Subscript e b pos) r (bnd w fun k => idx xs k) :=
  PE.imp (pe_ix ix_list ha hb hs) fun σ H Q ⟨F, P, S, hw, k⟩ => ⟨F, fun _ => (bnd w fun k => idx xs k) P B.E0, S, hw, fun _ hw v F1 H1 S1 e1 ok1 => ⟨F1, _, S1, hw, fun z hz u F2 H2 S2 e2 ok2 => by
    obtain rfl : v = .ref c := ok1
    obtain ⟨_, vs, g3, g4, g5⟩ := S2.lst hj
    obtain ⟨y, hy, py⟩ := idx_of hz
    obtain ⟨u', hu, ru⟩ := atI_paired g5 hy
    exact ⟨c, vs, z, u', rfl, ok2, SqL.of g3, hu, k y py u' F2 H2 S2 (e1.trans e2) ru⟩⟩⟩
/-- e[b], e a row -/
theorem e_cell {rows : List Rw2} {w1 : W Rw2} {w2 : W Int} (hin : ∀ p ∈ rows, rowO p ∈ os) (ha : EE X B env os e rP w1) (hb : EE X B env os b rInt w2) (hs : PlainIx b := by exact fun _ _ => rfl) : EE X B env os (.Subscript e b pos) rInt (bnd w1 fun p => chk (p ∈ rows) (bnd w2 fun k => idx p.2 k)) :=
  PE.imp (pe_ix ix_list ha hb hs) fun σ H Q ⟨F, P, S, hw, k⟩ => ⟨F, _, S, hw, fun p ⟨hp, hw⟩ v F1 H1 S1 e1 ok1 => ⟨F1, _, S1, hw, fun z hz u F2 H2 S2 e2 ok2 => by
    obtain rfl : v = .ref p.1 := ok1
    obtain ⟨_, vs, g3, g4, g5⟩ := S2.lst (hin p hp)
    obtain ⟨y, hy, py⟩ := idx_of hz
    obtain ⟨u', hu, ru⟩ := atI_paired g5 hy
    exact ⟨p.1, vs, z, u', rfl, ok2, SqL.of g3, hu, k y py u' F2 H2 S2 (e1.trans e2) ru⟩⟩⟩
theorem e_lenE {c : Addr} {xs : List α} (ha : EE X B env os a (rAdr c) (ret ())) (hj : (c, oLst r xs) ∈ os) (hm : X.mg "len" = none) (hg : Gl X "len" := by rfl) (he : starEach [a] X.env = (false, eval a X.env) :: starEach [] X.env := by rfl) (hpl : (backTo pos (starEach [] X.env)).any (·.1) = false := by rfl) :
    EE X B env os (.Call (.Name "len" p) [a] [] pos) rInt (ret (xs.length : Int)) :=
  PE.imp (pe_callB call_len_seq hg hm PySem.boot_len (pa_cons ha pa_nil he) (by decide) (by decide) he hpl) fun σ H Q ⟨F, P, S, hw, k⟩ => ⟨F, fun _ => P (xs.length : Int), S, hw, fun _ hw v F1 H1 S1 e1 ok1 => by
    obtain rfl : v = .ref c := ok1
    obtain ⟨_, vs, g3, g4, g5⟩ := S1.lst hj
    exact ⟨c, vs, rfl, .inl (SqL.of g3), k _ hw _ F1 H1 S1 e1 (by rw [g5.length]; rfl)⟩⟩
theorem e_lenP {rows : List Rw2} {w1 : W Rw2} (hin : ∀ p ∈ rows, rowO p ∈ os) (ha : EE X B env os a rP w1) (hm : X.mg "len" = none) (hg : Gl X "len" := by rfl) (he : starEach [a] X.env = (false, eval a X.env) :: starEach [] X.env := by rfl) (hpl : (backTo pos (starEach [] X.env)).any (·.1) = false := by rfl) :
    EE X B env os (.Call (.Name "len" p) [a] [] pos) rInt (bnd w1 fun q => chk (q ∈ rows) (ret (q.2.length : Int))) :=
  PE.imp (pe_callB call_len_seq hg hm PySem.boot_len (pa_cons ha pa_nil he) (by decide) (by decide) he hpl) fun σ H Q ⟨F, P, S, hw, k⟩ => ⟨F, _, S, hw, fun q ⟨hq, hw⟩ v F1 H1 S1 e1 ok1 => by
    obtain rfl : v = .ref q.1 := ok1
    obtain ⟨_, vs, g3, g4, g5⟩ := S1.lst (hin q hq)
    exact ⟨q.1, vs, rfl, .inl (SqL.of g3), k _ hw _ F1 H1 S1 e1 (by rw [g5.length]; rfl)⟩⟩
end
end Mi
namespace Mi
open PySem L2 Evl PyProof.Rows
def spS {ι ρ τ κ : Type} (args : κ → ι → Env) (osf : κ → τ → Os) (ro : Rp ρ) (w : κ → τ → ι → W (ρ × τ)) : Sp := fun vs H Q _ => ∃ (c : κ) (s : τ) (i : ι) (F : Hp) (P : ρ × τ → Prop), Ex F H ∧ EnvOk F (args c i) (vs.map some) ∧ (∀ p ∈ osf c s, F p.1 = none ∧ ∃ o, H p.1 = some o ∧ p.2.ok F o) ∧ ((osf c s).map (·.1)).Nodup ∧
  w c s i P (fun _ => False) ∧ ∀ y, P y → ∀ v F' H', Fn (bs0 F H (osf c s)) F' H' → OsOk (bs0 F H (osf c s)) F' H' (osf c y.2) → ((osf c y.2).map (·.1)).Nodup → ro.ok F' v y.1 → Q v H'
def pS {ρ τ : Type} (B : Bs) (osf : τ → Os) (ro : Rp ρ) : Post (ρ × τ) := fun D y => (∀ v F H, Fn B F H → OsOk B F H (osf y.2) → ((osf y.2).map (·.1)).Nodup → ro.ok F v y.1 → D.rt v H) ∧ ∀ σ F H, Fn B F H → OsOk B F H (osf y.2) → ((osf y.2).map (·.1)).Nodup → ro.ok F .non y.1 → D.nx σ H
structure RtT {ρ τ β : Type} (B : Bs) (post : Post β) (osf : τ → Os) (ro : Rp ρ) (inj : ρ × τ → β) : Prop where
  ok : ∀ D y, post D (inj y) → ∀ v F H, Fn B F H → OsOk B F H (osf y.2) → ((osf y.2).map (·.1)).Nodup → ro.ok F v y.1 → D.rt v H
theorem Sit.osOk {B : Bs} {F H : Hp} {σ : L2.St} {env : Env} {os : Os} (S : Sit B F H σ env os) : OsOk B F H os := S.ow
section
variable {B : Bs} {ρ τ β : Type} {osf : τ → Os} {ro : Rp ρ} {post : Post β} {inj : ρ × τ → β}
theorem RtT.fn : RtT B (pS B osf ro) osf ro (fun y => y) := ⟨fun _ _ h => h.1⟩
theorem RtT.x (h : RtT B post osf ro inj) : RtT B (pX post) osf ro inj := ⟨fun D y ⟨nx, q⟩ => h.ok { D with nx := nx } y q⟩
theorem NxOk.t {env : Env} {s : τ} : NxOk B (pS B osf rNon) env (osf s) ((), s) := ⟨fun D q σ F H z => q.2 σ F H z.fin z.osOk z.nd rfl⟩
end
section
variable {P : Program} {w : World} {K : PySem.W.Frag} {mg : Str → Option Value} {base : Heap} {k : Nat} {f : Addr} {fd : FuncData} {ps N : List Str} {ι ρ τ κ : Type} {args : κ → ι → Env} {osf : κ → τ → Os} {ro : Rp ρ} {wf : κ → τ → ι → W (ρ × τ)}
theorem spS_len (hl : ∀ c i, (args c i).length = ps.length) : ∀ vs H Q E, spS args osf ro wf vs H Q E → vs.length = ps.length := fun vs H Q E ⟨c, s, i, F, P, _, he, _⟩ => by
  have := he.len
  rw [List.length_map, hl c i] at this
  exact this.symm
theorem okT {x qual : Str} {sx : Stmt} (F : Fun K x qual sx f fd) (S : FnScope N ps (defScope sx)) (hl : ∀ c i, (args c i).length = ps.length)
    (body : ∀ (cdv : Value) (A : Around) (outer : List PySem.Env) (s : Shared) (H : Hp) (E : XK) (B : Bs) (c : κ) (t : τ) (i : ι), Room k (A.deeper (envOfC qual (defScope sx) s.heap.objs.size f cdv)) →
      BG (cxOf CX0 P w K mg base N qual (defScope sx) f cdv A outer s H E).nox B (entry (args c i) (N.length - ps.length)) (osf c t) (defBody sx) (pS B (osf c) ro) (wf c t i)) : FnOk P w K mg base CX0 (k + 1) f fd ps (spS args osf ro wf) := by
  refine F.ok S (spS_len hl) fun cdv A outer s H vs Q E hr hsp => ?_
  have hvl := spS_len hl vs H Q E hsp
  obtain ⟨c, t, i, F0, P0, fh, he, ho, nd, hw, hk⟩ := hsp
  refine ⟨_, body cdv A outer s H E (bs0 F0 H (osf c t)) c t i hr, F0, P0, ⟨bs0_start fh ho, ?_, fun p hp => ?_, nd⟩, hw, fun y hy => ⟨fun v F' H' fn ow n2 ok => hk y hy v F' H' fn ow n2 ok, fun σ F' H' fn ow n2 ok => hk y hy .non F' H' fn ow n2 ok⟩⟩
  · rw [← hvl]
    exact entry_ok he
  · obtain ⟨h1, o, h2, h3⟩ := ho p hp
    exact ⟨h1, ⟨o, h2, h3⟩, .inr (List.mem_map_of_mem hp)⟩
end
/-- behind a call: the objects as they are now -/
theorem Sit.backS {B : Bs} {F F' H H' : Hp} {σ : L2.St} {env : Env} {os os' : Os} (S : Sit B F H σ env os) (fn : Fn (bs0 F H os) F' H') (ow : OsOk (bs0 F H os) F' H' os') (nd : (os'.map (·.1)).Nodup) : Sit B F' H' σ env os' := by
  have e : Ex F F' := fn.bf
  refine ⟨⟨fn.fh, S.fin.bf.trans e, S.fin.mrk.trans e, S.fin.bb, fun a ha => ?_, fun a o h1 h2 h3 => ?_⟩, S.env.mono e, fun p hp => ?_, nd⟩
  · obtain ⟨o, hoa⟩ := S.fin.ios a ha
    by_cases hm : a ∈ os.map (·.1)
    · exact fn.ios a hm
    · cases ef : F a with
      | none => exact ⟨o, (fn.keep a o ef hoa hm).1⟩
      | some u => exact ⟨u, fn.fh a u (e a u ef)⟩
  · obtain ⟨k1, k2⟩ := S.fin.keep a o h1 h2 h3
    refine fn.keep a o k2 k1 fun hm => ?_
    obtain ⟨q, hq, eq⟩ := List.mem_map.mp hm
    obtain ⟨_, _, z⟩ := S.ow q hq
    rw [eq] at z
    rcases z with z | z
    · rw [h2] at z
      cases z
    · exact h3 z
  · obtain ⟨h1, h2, h3⟩ := ow p hp
    refine ⟨h1, h2, ?_⟩
    rcases h3 with h3 | h3
    · exact .inl (S.fin.fresh h3)
    · obtain ⟨q, hq, eq⟩ := List.mem_map.mp h3
      obtain ⟨_, _, z⟩ := S.ow q hq
      rw [← eq]
      exact z
section
variable {X : Cx} {B : Bs} {env : Env} {pos : Pos} {α β γ ι ρ τ κ : Type} {osf : κ → τ → Os} {osf1 : τ → Os} {args : κ → ι → Env} {ro : Rp ρ} {wf : κ → τ → ι → W (ρ × τ)} {c : κ} {s : τ} {e : Expr} {r : Rp α} {post : Post γ}
theorem sps_T : SpS (spS args osf ro wf) E0 B env (osf c) (args c) (fun s i => noX (wf c s i)) (resS B env (osf c) ro) :=
  ⟨fun s => ⟨fun {F H σ vs i P Q} S ok hw k => ⟨c, s, i, F, P, S.fh, ok, fun p hp => let ⟨h1, h2, _⟩ := S.ow p hp; ⟨h1, h2⟩, S.nd, hw, fun y hy v F2 H2 fn ow nd okv => k y hy v F2 H2 (S.backS fn ow nd) fn.bf okv⟩⟩⟩
theorem b_retT {inj : α × τ → γ} {ro : Rp α} (hp : RtT B post osf1 ro inj) {w : W (α × τ)} (he : EES X B env osf1 s e ro w) : BG X B env (osf1 s) [.Return (some e) pos] post (bnd w fun y => ret (inj y)) :=
  PSs.imp (pss_one (ps_ret he)) fun D σ H ⟨F, P, Si, hw, k⟩ => ⟨F, fun y => P (inj y), Si, hw, fun y hy v F' H' S' _ ok => hp.ok D y (k _ hy) v F' H' S'.fin S'.osOk S'.nd ok⟩
end
def pFT {ρ τ S : Type} (B : Bs) (osf : τ → Os) (ro : Rp ρ) (envS : S → Env) (osS : S → Os) : Post (Fl S (ρ × τ)) := fun D r => match r with
  | .nx s => ∀ σ F H, Sit B F H σ (envS s) (osS s) → D.nx σ H
  | .rt y => ∀ v F H, Fn B F H → OsOk B F H (osf y.2) → ((osf y.2).map (·.1)).Nodup → ro.ok F v y.1 → D.rt v H
  | .bk s => ∀ σ F H, Sit B F H σ (envS s) (osS s) → D.bk σ H
  | .ct s => ∀ σ F H, Sit B F H σ (envS s) (osS s) → D.ct σ H
theorem RtT.fl {ρ τ S : Type} {B : Bs} {osf : τ → Os} {ro : Rp ρ} {envS : S → Env} {osS : S → Os} : RtT B (pFT B osf ro envS osS) osf ro .rt := ⟨fun _ _ h => h⟩
theorem NxOk.ft {ρ τ S : Type} {B : Bs} {osf : τ → Os} {ro : Rp ρ} {envS : S → Env} {osS : S → Os} {env : Env} {s : S} (h : EnvLe env (envS s)) : NxOk B (pFT (ρ := ρ) B osf ro envS osS) env (osS s) (.nx s) := ⟨fun D q σ F H z => q σ F H (z.le h)⟩
section
variable {X : Cx} {B : Bs} {env : Env} {os : Os} {α β ρ S τ : Type} {r : Rp α} {tg iter : Expr} {body rest : List Stmt} {pos : Pos} {post : Post β}
theorem b_forT {w : W (List α)} {f : S → α → W (Fl S (ρ × τ))} {w3 : Fl S (ρ × τ) → W β} {g : TG} {is : List Nat} {envT : Env → α → Env} {osf : τ → Os} {ro : Rp ρ} (inj : ρ × τ → β) (envS : S → Env) (osS : S → Os) (s0 : S) (hc : X.calm = true) (hp : PassesOwn (model X.prog X.w) X.A X.env X.xe)
    (src : ES X B env os tg iter r w) (tgt : TgT g r is envT) (hg : PG X tg g)
    (hb : ∀ M s x, BG X (B.at M) (envT (envS s) x) (osS s) body (pFT (B.at M) osf ro envS osS) (f s x))
    (hr : ∀ s, BG X B (envS s) (osS s) rest post (w3 (.nx s))) (hrt : ∀ x, w3 (.rt x) = ret (inj x)) (hpo : RtT B post osf ro inj)
    (le0 : EnvLe env (envS s0)) (os0 : os = osS s0) (hs : ∀ x, foldedSetIterable iter X.env x = pure x := by intro _; rfl) :
    BG X B env os (.For tg iter body [] pos :: rest) post (bnd w fun xs => bnd (forF f s0 xs) w3) := by
  have hb' : PSs X body (fun D σ H => ∃ p : Hp × S × α, tBG (B.at p.1) (envT (envS p.2.1) p.2.2) (osS p.2.1) (pFT (B.at p.1) osf ro envS osS) (f p.2.1 p.2.2) D σ H) := PSs.ex fun p => hb p.1 p.2.1 p.2.2
  have hr' : PSs X rest (fun D σ H => ∃ s, tBG B (envS s) (osS s) post (w3 (.nx s)) D σ H) := PSs.ex hr
  refine PSs.imp (pss_cons (ps_for hp hc src hg hb' hs) hr') fun D σ H ⟨F, P, S0, hw, k⟩ => ⟨F, _, S0, hw, fun xs hxs J F1 H1 S1 e1 wk hz => ?_⟩
  refine ⟨(fun i m σ H => m = xs.length - i ∧ i ≤ xs.length ∧ ∃ F' s, Sit (B.at F1) F' H σ (envS s) (osS s) ∧ forF f s (xs.drop i) (fun q => w3 q P B.E0) B.E0 : Nat → Nat → L2.St → Hp → Prop), ?_, ?_⟩
  · refine ⟨xs.length, by simp, Nat.zero_le _, F1, s0, ?_, ?_⟩
    · subst os0
      exact (S1.at F1 (Ex.refl F1)).le le0
    · rw [List.drop_zero]
      exact hxs
  rintro i m σ2 H2 ⟨rfl, hi, F2, s, S2, hw2⟩
  have e12 : Ex F1 F2 := S2.fin.mrk
  by_cases hlt : i < xs.length
  · obtain ⟨x, hx⟩ : ∃ x, xs[i]? = some x := ⟨_, List.getElem?_eq_getElem hlt⟩
    refine .inr ⟨wk.go i F2 H2 e12 S2.fh hlt, (fun σ' H' => ∃ F' s, Sit (B.at F1) F' H' σ' (envS s) (osS s) ∧ forF f s (xs.drop (i + 1)) (fun q => w3 q P B.E0) B.E0 : L2.St → Hp → Prop), ?_, fun v H3 y => ?_⟩
    · intro σ' H' h
      exact ⟨xs.length - (i + 1), by omega, rfl, hlt, h⟩
    obtain ⟨F3, gr, rv⟩ := wk.yld i F2 H2 v H3 x e12 S2.fh y hx
    have S3 := S2.grow gr
    refine tgt F3 H3 v x σ2 (envS s) _ rv S3.fh S3.env fun σ' hσ _ => ?_
    rw [drop_cons hx] at hw2
    have hw3 : f s x (fun q => flGo (fun s' => forF f s' (xs.drop (i + 1))) q (fun q => w3 q P B.E0) B.E0) B.E0 := hw2
    refine ⟨(F1, s, x), F3, _, ⟨S3.fin, hσ, S3.ow, S3.nd⟩, hw3, fun q hq => ?_⟩
    cases q with
    | nx s' => exact fun σ4 F4 H4 S4 => ⟨F4, s', S4, hq⟩
    | ct s' => exact fun σ4 F4 H4 S4 => ⟨F4, s', S4, hq⟩
    | bk s' => exact fun σ4 F4 H4 S4 => ⟨s', F4, P, S4.un S1.fin.mrk, hq, k⟩
    | rt z =>
      have hq' : w3 (.rt z) P B.E0 := hq
      rw [hrt z] at hq'
      exact fun v5 F5 H5 fn ow nd okv => hpo.ok D z (k _ hq') v5 F5 H5 (fn.un S1.fin.mrk) ow nd okv
  · have e : i = xs.length := by omega
    subst e
    rw [List.drop_length] at hw2
    have hq : w3 (.nx s) P B.E0 := hw2
    exact .inl ⟨wk.stop _ F2 H2 e12 S2.fh (Nat.le_refl _), s, F2, P, S2.un S1.fin.mrk, hq, k⟩
end
end Mi
namespace Mi
open PySem L2 Evl PyProof.Rows
def OwnIn (os : Os) (F H : Hp) : Prop := ∀ p ∈ os, ∃ o, H p.1 = some o ∧ p.2.ok F o
structure WalksS {α : Type} (os : Os) (J : It) (F : Hp) (r : Rp α) (xs : List α) : Prop where
  go : ∀ i F1 H1, Ex F F1 → Ex F1 H1 → OwnIn os F1 H1 → i < xs.length → J.go i H1
  yld : ∀ i F1 H1 v H2 x, Ex F F1 → Ex F1 H1 → OwnIn os F1 H1 → J.yld i H1 v H2 → xs[i]? = some x → ∃ F2, Grow F1 H1 F2 H2 ∧ r.ok F2 v x
  stop : ∀ i F1 H1, Ex F F1 → Ex F1 H1 → OwnIn os F1 H1 → xs.length ≤ i → J.stop i H1
theorem ownIn {B : Bs} {F H : Hp} {σ : L2.St} {env : Env} {os : Os} {q : Addr × Own} (S : Sit B F H σ env (q :: os)) : OwnIn os F H := fun p hp => let ⟨_, h, _⟩ := S.ow p (List.mem_cons_of_mem _ hp); h
theorem ownIn0 {B : Bs} {F H : Hp} {σ : L2.St} {env : Env} {os : Os} (S : Sit B F H σ env os) : OwnIn os F H := fun p hp => let ⟨_, h, _⟩ := S.ow p hp; h
def tSrcS (B : Bs) (env : Env) (os : Os) {α : Type} (r : Rp α) (w : W (List α)) : TI := fun σ H R => ∃ F P, Sit B F H σ env os ∧ w P B.E0 ∧ ∀ xs, P xs → ∀ J F' H', Sit B F' H' σ env os → Ex F F' → WalksS os J F' r xs → xs.length ≤ sizeLine → R J H'
def ESS (X : Cx) (B : Bs) (env : Env) (os : Os) (tg e : Expr) {α : Type} (r : Rp α) (w : W (List α)) : Prop := PI X tg e (tSrcS B env os r w)
section
variable {X : Cx} {B : Bs} {env : Env} {os : Os} {α β : Type} {r : Rp α} {s : Rp β} {elt tg iter : Expr} {ifs : List Expr} {scope : Scope} {pos : Pos}
/-- the reading of a comprehension, by the mirror: M a mark, D the list so far ys, x the item -/
theorem lc_readS {w : W (List α)} {c : α → W Bool} {f : α → W β} {own : List (Str × Nat)} {g : TG} {tt : TT} {te : TE} {is : List Nat} {envT : Env → α → Env}
    (st : ∀ M D ys x σ H Q, tOfT (B.at M) (envT (wipeE env (own.map (fun p : Str × Nat => p.2))) x) ((D, oLst s ys) :: os) (c x) σ H Q → tt σ H Q)
    (se : ∀ M D ys x σ H Q, tOf (B.at M) (envT (wipeE env (own.map (fun p : Str × Nat => p.2))) x) ((D, oLst s ys) :: os) s (f x) σ H Q → te σ H Q)
    (tgt : TgT g r is envT) (his : ∀ i ∈ is, i ∈ own.map (fun p : Str × Nat => p.2)) {σ : L2.St} {H : Hp} {Q : VK} (h : tNew B env os s (bnd w fun xs => filtW c f xs) σ H Q) :
    tLc (tSrcS B env os r w) g tt te (own.map (fun p : Str × Nat => p.2)) σ H Q := by
  obtain ⟨F, P, S, hw, k⟩ := h
  refine ⟨F, _, S, hw, fun xs hxs J F1 H1 S1 e1 wk hz D hD => ?_⟩
  refine ⟨(fun i m H => m = xs.length - i ∧ i ≤ xs.length ∧ ∃ F' ys, ys.length ≤ i ∧ Sit (B.at F1) F' H σ env ((D, oLst s ys) :: os) ∧ filtW c f (xs.drop i) (fun zs => P (ys ++ zs)) B.E0 : Nat → Nat → Hp → Prop), ?_, ?_⟩
  · refine ⟨xs.length, by simp, Nat.zero_le _, F1, [], Nat.zero_le _, ?_, ?_⟩
    · have S1' : Sit (B.at F1) F1 H1 σ env os := ⟨⟨S1.fin.fh, S1.fin.bf, Ex.refl F1, S1.fin.bb, S1.fin.ios, S1.fin.keep⟩, S1.env, S1.ow, S1.nd⟩
      exact S1'.newOwn hD ⟨[], rfl, Nat.zero_le _, .nil⟩
    · rw [List.drop_zero]
      exact hxs
  rintro i m H2 ⟨rfl, hi, F2, ys, hyl, S2, hw2⟩
  have e12 : Ex F1 F2 := S2.fin.mrk
  by_cases hlt : i < xs.length
  · obtain ⟨x, hx⟩ : ∃ x, xs[i]? = some x := ⟨_, List.getElem?_eq_getElem hlt⟩
    refine .inr ⟨wk.go i F2 H2 e12 S2.fh (ownIn S2) hlt, (fun H' => ∃ F' ys, ys.length ≤ i + 1 ∧ Sit (B.at F1) F' H' σ env ((D, oLst s ys) :: os) ∧ filtW c f (xs.drop (i + 1)) (fun zs => P (ys ++ zs)) B.E0 : Hp → Prop), ?_, fun v H3 y => ?_⟩
    · intro H' h
      exact ⟨xs.length - (i + 1), by omega, rfl, hlt, h⟩
    obtain ⟨F3, gr, rv⟩ := wk.yld i F2 H2 v H3 x e12 S2.fh (ownIn S2) y hx
    have S3 : Sit (B.at F1) F3 H3 σ env ((D, oLst s ys) :: os) := S2.grow gr
    refine tgt F3 H3 v x (wipe σ (own.map (fun p : Str × Nat => p.2))) (wipeE env (own.map (fun p : Str × Nat => p.2))) _ rv S3.fh (S3.env.wipe _) fun σ' hσ hwipe => ⟨?_, ?_⟩
    · rw [hwipe _ his]
      have ww : ∀ (τ : L2.St) (vs : List Nat), wipe (wipe τ vs) vs = wipe τ vs := by
        intro τ vs
        have key : ∀ (us vs : List Nat), (∀ u ∈ us, u ∈ vs) → wipe (wipe τ us) vs = wipe τ vs := by
          intro us
          induction us with
          | nil => intro vs _; rfl
          | cons u us ih =>
            intro vs h
            show wipe ((wipe τ us).set u none) vs = wipe τ vs
            rw [wipe_set (h u (List.mem_cons_self ..)), ih vs fun z hz => h z (List.mem_cons_of_mem _ hz)]
        exact key vs vs fun _ h => h
      exact ww σ _
    · rw [drop_cons hx] at hw2
      have hw3 : c x (fun b => (if b = true then bnd (f x) fun y => bnd (filtW c f (xs.drop (i + 1))) fun ys => ret (y :: ys) else filtW c f (xs.drop (i + 1))) (fun zs => P (ys ++ zs)) B.E0) B.E0 := hw2
      have St : Sit (B.at F1) F3 H3 σ' (envT (wipeE env (own.map (fun p : Str × Nat => p.2))) x) ((D, oLst s ys) :: os) := ⟨S3.fin, hσ, S3.ow, S3.nd⟩
      refine st F1 D ys x σ' H3 _ ⟨F3, _, St, hw3, fun b hb F4 H4 S4 e34 => ?_⟩
      cases b with
      | false => exact ⟨F4, ys, by omega, ⟨S4.fin, S3.env.mono e34, S4.ow, S4.nd⟩, hb⟩
      | true =>
        have hb' : f x (fun y => filtW c f (xs.drop (i + 1)) (fun zs => P (ys ++ (y :: zs))) B.E0) B.E0 := hb
        refine se F1 D ys x σ' H4 _ ⟨F4, _, S4, hb', fun z hz v' F5 H5 S5 e45 okz => ?_⟩
        obtain ⟨hF5, ⟨o, ho, vs, eo, hl, pr⟩, hB5⟩ := S5.ow (D, oLst s ys) (List.mem_cons_self ..)
        subst eo
        have hlen : vs.length < sizeLine := by
          have := pr.length
          omega
        refine ⟨vs, ho, hlen, F5, ys ++ [z], by rw [List.length_append, List.length_singleton]; omega, ?_, ?_⟩
        · have S6 := S5.change (j := 0) (ow' := oLst s (ys ++ [z])) (o' := .lst (vs ++ [v'])) rfl ⟨vs ++ [v'], rfl, by rw [List.length_append, List.length_singleton]; omega, Paired.app pr (.cons okz .nil)⟩
          exact ⟨S6.fin, (S3.env.mono e34).mono e45, S6.ow, S6.nd⟩
        · have q : (fun zs => P (ys ++ [z] ++ zs)) = fun zs => P (ys ++ (z :: zs)) := by
            funext zs
            rw [List.append_assoc]
            rfl
          show filtW c f (xs.drop (i + 1)) (fun zs => P (ys ++ [z] ++ zs)) B.E0
          rw [q]
          exact hz
  · have e : i = xs.length := by omega
    subst e
    refine .inl ⟨wk.stop _ F2 H2 e12 S2.fh (ownIn S2) (Nat.le_refl _), ?_⟩
    rw [List.drop_length] at hw2
    have hp : P (ys ++ []) := hw2
    rw [List.append_nil] at hp
    exact k ys hp D F2 H2 ⟨⟨S2.fin.fh, S2.fin.bf, S1.fin.mrk.trans e12, S2.fin.bb, S2.fin.ios, S2.fin.keep⟩, S2.env, S2.ow, S2.nd⟩ (e1.trans e12)
section
variable {w : W (List α)} {c : α → W Bool} {f : α → W β} {own : List (Str × Nat)} {g : TG} {is : List Nat} {envT : Env → α → Env} {test : Expr}
theorem lc_readSM (tgt : TgT g r is envT) (his : ∀ i ∈ is, i ∈ own.map (fun p : Str × Nat => p.2)) {σ : L2.St} {H : Hp} {Q : VK} (h : tNew B env os s (bnd w fun xs => mapW f xs) σ H Q) :
    tLc (tSrcS B env os r w) g tYes (teC B env os own envT s f) (own.map (fun p : Str × Nat => p.2)) σ H Q := by
  have e : (fun xs => mapW f xs) = fun xs => filtW (fun _ => ret true) f xs := by
    funext xs
    exact (filtW_true xs).symm
  rw [e] at h
  exact lc_readS (own := own) (fun M D ys x σ H Q ⟨F, P, S, hw, k⟩ => k true hw F H S (Ex.refl F)) (fun M D ys x σ H Q h => ⟨(M, D, ys, x), h⟩) tgt his h
variable (hc : X.calm = true) (hN : X.N.Nodup) (src : ESS X B env os tg iter r w) (ok : BlkOk X.N X.env.scope scope own) (tgt : TgT g r is envT)
  (hg : ∀ (s : Shared) (H : Hp) (C : Addr) (cl : List (Str × Addr)) (fp : List Addr), PG (X.blk s H scope (compEnvC scope cl C X.env) fp) tg g) (his : ∀ i ∈ is, i ∈ own.map (fun p : Str × Nat => p.2))
  (he : ∀ (s' : Shared) (H : Hp) (C : Addr) (cl : List (Str × Addr)) (fp : List Addr) (M : Hp) (D : Addr) (ys : List β) (x : α), EE (X.blk s' H scope (compEnvC scope cl C X.env) fp) (B.at M) (envI env own envT x) ((D, oLst s ys) :: os) elt s (f x))
include hc hN src ok tgt hg his he
theorem n_compS (hs : ∀ x, foldedSetIterable iter X.env x = pure x := by intro _; rfl) : EN X B env os (.ListComp elt [⟨tg, iter, [], 0⟩] scope pos) s (bnd w fun xs => mapW f xs) :=
  PE.imp (pe_lc hc hN src ok hg (fun _ _ _ _ _ => pts_nil) (fun s' H C cl fp => ex_teC (he s' H C cl fp)) hs) fun σ H Q h => lc_readSM tgt his h
end
end
section
variable {X : Cx} {B : Bs} {env : Env} {os : Os} {pos p tpos : Pos} {a b : Expr}
theorem own_int {F H : Hp} {rows : List Rw2} (hin : ∀ p ∈ rows, rowO p ∈ os) (h : OwnIn os F H) {q : Rw2} (hq : q ∈ rows) : H q.1 = some (.lst (q.2.map V.int)) ∧ q.2.length ≤ sizeLine := by
  obtain ⟨o, h1, vs, h2, h3, h4⟩ := h _ (hin q hq)
  subst h2
  have e := ints_map h4
  subst e
  exact ⟨h1, by rw [List.length_map] at h3; exact h3⟩
theorem s_zipS {rows : List Rw2} {elts : List Expr} {kk : Nat} {w1 w2 : W Rw2} (hin : ∀ p ∈ rows, rowO p ∈ os) (ha : EE X B env os a rP w1) (hb : EE X B env os b rP w2) (hm : X.mg "zip" = none) (hg : Gl X "zip" := by rfl)
    (hs : starEach [a, b] X.env = (false, eval a X.env) :: starEach [b] X.env := by rfl) (he2 : starEach [b] X.env = (false, eval b X.env) :: starEach [] X.env := by rfl) (hpl : (backTo pos (starEach [b] X.env)).any (·.1) = false := by rfl) :
    ESS X B env os (.Tuple elts kk tpos) (.Call (.Name "zip" p) [a, b] [] pos) (rT2 X.K rInt rInt) (bnd w1 fun x => bnd w2 fun y => chk (x ∈ rows ∧ y ∈ rows) (ret (x.2.zip y.2))) :=
  PI.imp (pi_zip hg hm (pa_cons ha (pa_cons (PE.ex fun _ : Unit => hb) pa_nil he2) hs) hs hpl) fun σ H R ⟨F, P, S, hw, k⟩ => ⟨F, _, S, hw, fun x hx v F1 H1 S1 e1 ok1 => ⟨(), F1, _, S1, hx, fun y ⟨⟨hx2, hy2⟩, hy⟩ u F2 H2 S2 e2 ok2 => by
  obtain rfl : v = .ref x.1 := ok1
  obtain rfl : u = .ref y.1 := ok2
  obtain ⟨hX, lX⟩ := own_int hin (ownIn0 S2) hx2
  obtain ⟨hY, lY⟩ := own_int hin (ownIn0 S2) hy2
  refine ⟨x.1, y.1, x.2.map V.int, y.2.map V.int, rfl, SqL.of hX, SqL.of hY, ?_⟩
  have lz : (x.2.zip y.2).length = min x.2.length y.2.length := List.length_zip
  refine k _ hy _ F2 H2 S2 (e1.trans e2) ⟨fun i F3 H3 x1 x2 oi hi => ?_, fun i F3 H3 u H4 z x1 x2 oi yy hz => ?_, fun i F3 H3 x1 x2 oi hi => ?_⟩ (by rw [lz]; exact Nat.le_trans (Nat.min_le_left _ _) lX)
  · rw [lz] at hi
    obtain ⟨hX, _⟩ := own_int hin oi hx2
    obtain ⟨hY, _⟩ := own_int hin oi hy2
    exact ⟨_, _, _, _, SqL.of hX, SqL.of hY, List.getElem?_eq_getElem (by rw [List.length_map]; omega), List.getElem?_eq_getElem (by rw [List.length_map]; omega)⟩
  · obtain ⟨hX, _⟩ := own_int hin oi hx2
    obtain ⟨hY, _⟩ := own_int hin oi hy2
    obtain ⟨T, v1, v2, ev, hT, eH, y1, y2⟩ := yy
    subst ev eH
    obtain ⟨z1', z2'⟩ := z
    have hz' := List.getElem?_zip_eq_some.mp hz
    have q1 := y1 _ (SqL.of hX)
    have q2 := y2 _ (SqL.of hY)
    rw [List.getElem?_map, hz'.1] at q1
    rw [List.getElem?_map, hz'.2] at q2
    cases q1
    cases q2
    have g : Grow F3 H3 (upd F3 T (.tup [.int z1', .int z2'])) (upd H3 T (.tup [.int z1', .int z2'])) := Grow.alloc x2 hT
    exact ⟨_, g, T, _, _, rfl, SqT.of upd_same, rfl, rfl⟩
  · rw [lz] at hi
    obtain ⟨hX, _⟩ := own_int hin oi hx2
    obtain ⟨hY, _⟩ := own_int hin oi hy2
    exact ⟨_, _, SqL.of hX, SqL.of hY, by rw [List.length_map, List.length_map]; omega⟩⟩⟩
end
end Mi
namespace Mi
open PySem L2 Evl PyProof.Rows
def putA (M : List Rw2) (k : Int) (xs : List Int) : W (List Rw2) := match ixN M.length k with
  | some j => fun P _ => ∀ a, P (M.set j (a, xs))
  | none => fail
theorem putA_of {M : List Rw2} {k : Int} {xs : List Int} {P : List Rw2 → Prop} {E : Er → Prop} (h : putA M k xs P E) : ∃ j, ixN M.length k = some j ∧ ∀ a, P (M.set j (a, xs)) := by
  unfold putA at h
  cases e : ixN M.length k with
  | none => rw [e] at h; exact False.elim h
  | some j => rw [e] at h; exact ⟨j, rfl, h⟩
section
variable {X : Cx} {B : Bs} {env env' : Env} {os : Os} {pos : Pos} {α β γ S : Type} {e b a : Expr} {r : Rp α} {rest : List Stmt} {post : Post γ}
theorem b_env {w : W γ} (h : ∀ F σ, EnvOk F env σ → EnvOk F env' σ) (hb : BG X B env' os rest post w) : BG X B env os rest post w := PSs.imp hb fun D σ H ⟨F, P, S, hw, k⟩ => ⟨F, P, ⟨S.fin, h F σ S.env, S.ow, S.nd⟩, hw, k⟩
/-- x[k] = a new list, x one of one's own lists of rows -/
theorem b_putN (i j : Nat) {x : Str} {p1 p2 : Pos} {c : Addr} {M : List Rw2} {w : W (List Int)} {w1 : List Int → W Int} {w2 : List Rw2 → W γ} (hi : env[i]? = some (sv (rAdr c) ())) (hj : os[j]? = some (c, oLst rP M)) (he : EN X B env os e rInt w)
    (hk : ∀ a xs, EE X B env ((a, oLst rInt xs) :: os) b rInt (w1 xs))
    (hr : ∀ l a xs, l < M.length → BG X B env ((a, oLst rInt xs) :: os.set j (c, oLst rP (M.set l (a, xs)))) rest post (w2 (M.set l (a, xs)))) (hN : X.N[i]? = some x := by rfl)
    (hv : Vis X.env.scope x := by first | exact Or.inl rfl | exact Or.inr (Or.inl rfl) | exact Or.inr (Or.inr rfl)) (hd : (x == ("__debug__" : Str)) = false := by decide) (hcd : (x == ("__classdict__" : Str)) = false := by decide)
    (ha : ∀ v, assign (.Subscript (.Name x p1) b p2) X.env v = (do
      let ov ← holding [v] (eval (.Name x p1) X.env)
      let iv ← holding [v, ov] (eval b X.env)
      standAt p2
      holding [v, ov, iv] (setItem ov iv v)
      release [v, ov, iv] []) := by intro _; rfl)
    (hs : swapsWithSole [.Subscript (.Name x p1) b p2] e pos.line X.env = pure false := by rfl) (hw : swappedStores [.Subscript (.Name x p1) b p2] e X.env = pure none := by rfl)
    (h1 : (assignEach [.Subscript (.Name x p1) b p2] X.env).map (·.2) = [assign (.Subscript (.Name x p1) b p2) X.env] := by rfl) :
    BG X B env os (.Assign [.Subscript (.Name x p1) b p2] e pos :: rest) post (bnd w fun y => bnd (w1 y) fun k => bnd (putA M k y) w2) :=
  PSs.imp (pss_cons (ps_asg he (pg_sub (pe_var hN hv hd hcd) (PE.ex fun u : Addr × List Int => hk u.1 u.2) set_list ha) hs hw h1) (PSs.ex fun u : { u : Nat × Addr × List Int // u.1 < M.length } => hr u.1.1 u.1.2.1 u.1.2.2 u.2)) fun D σ H ⟨F, P, S, hw, k⟩ => ⟨F, _, S, hw, fun y hy a F1 H1 S1 e1 => by
  have hj1 : ((a, oLst rInt y) :: os)[j + 1]? = some (c, oLst rP M) := hj
  obtain ⟨g1, _, _, _, _, _⟩ := S1.own hi hj1
  refine ⟨.ref c, g1, (a, y), F1, _, S1, hy, fun z hz u F2 H2 S2 e2 ok2 => ?_⟩
  obtain ⟨_, g2, vs, g3, g4, g5⟩ := S2.own hi hj1
  obtain ⟨l, hl, pl⟩ := putA_of hz
  have ll : l < M.length := by
    unfold ixN at hl
    split at hl
    · split at hl
      · cases hl
        omega
      · cases hl
    · split at hl
      · cases hl
        omega
      · cases hl
  have hset : ((a, oLst rInt y) :: os).set (j + 1) (c, oLst rP (M.set l (a, y))) = (a, oLst rInt y) :: os.set j (c, oLst rP (M.set l (a, y))) := rfl
  refine ⟨c, vs, z, l, rfl, ok2, g3, (by rw [g5.length]; exact hl), ⟨(l, a, y), ll⟩, F2, P, ?_, pl a, k⟩
  rw [← hset]
  exact S2.change hj1 ⟨_, rfl, by rw [List.length_set]; exact g4, Paired.setR (by rfl) g5⟩⟩
def rTwo (o1 o2 : Addr) : Rp Bool := ⟨fun _ v b => v = .ref (bif b then o1 else o2), fun _ h => h⟩
theorem s_two {o1 o2 : Addr} {tg : Expr} {x1} (ha : EE X B env os a (rAdr o1) (ret ())) (hb : EE X B env os b (rAdr o2) (ret ())) (hs : starEach [a, b] X.env = (false, eval a X.env) :: starEach [b] X.env := by rfl) (hs2 : starEach [b] X.env = (false, eval b X.env) :: starEach [] X.env := by rfl) :
    ES X B env os tg (.Tuple [a, b] x1 pos) (rTwo o1 o2) (ret [true, false]) :=
  s_tup (PE.imp (pe_tup (pa_cons ha (pa_cons (PE.ex fun _ : Unit => hb) pa_nil hs2) hs)) fun σ H Q ⟨F, P, S, hw, k⟩ => ⟨F, fun _ => P [true, false], S, hw, fun _ hx v F1 H1 S1 e1 ok1 => ⟨(), F1, fun _ => P [true, false], S1, hx, fun _ hy u F2 H2 S2 e2 ok2 =>
    ⟨(by show 2 ≤ sizeLine; decide), fun p hp => by
      have g : Grow F2 H2 (upd F2 p (.tup [v, u])) (upd H2 p (.tup [v, u])) := Grow.alloc S2.fh hp
      exact k _ hy (.ref p) _ _ (S2.grow g) ((e1.trans e2).trans g.f) ⟨p, [v, u], rfl, SqT.of upd_same, (by show 2 ≤ sizeLine; decide), .cons ok1 (.cons ok2 .nil)⟩⟩⟩⟩)
def rNth (as : List Addr) : Rp Nat := ⟨fun _ v i => ∃ a, as[i]? = some a ∧ v = .ref a, fun _ h => h⟩
theorem nth_all {F : Hp} {vs : List V} {M : List Rw2} (h : Paired (rP.ok F) vs M) : vs = (M.map (·.1)).map V.ref := by
  rw [List.map_map]
  exact Paired.eqMap (f := fun p : Rw2 => V.ref p.1) h
theorem paired_range {F : Hp} (as : List Addr) : Paired ((rNth as).ok F) (as.map V.ref) (List.range as.length) := by
  have key : ∀ (n : Nat) (bs : List Addr), (∀ i, bs[i]? = as[n + i]?) → Paired ((rNth as).ok F) (bs.map V.ref) ((List.range bs.length).map fun i => n + i) := by
    intro n bs
    induction bs generalizing n with
    | nil => intro _; exact .nil
    | cons b bs ih =>
      intro h
      rw [List.length_cons, List.range_succ_eq_map, List.map_cons, List.map_cons, List.map_map]
      refine .cons ⟨b, by rw [← h 0]; rfl, rfl⟩ ?_
      have := ih (n + 1) fun i => by
        rw [show n + 1 + i = n + (i + 1) by omega, ← h (i + 1)]
        rfl
      rw [show ((fun i => n + i) ∘ Nat.succ) = fun i => n + 1 + i from funext fun i => by show n + (i + 1) = n + 1 + i; omega]
      exact this
  have := key 0 as fun i => by rw [Nat.zero_add]
  rw [show (fun i => 0 + i) = id from funext fun i => Nat.zero_add i, List.map_id] at this
  exact this
theorem s_all {c1 c2 : Addr} {M R : List Rw2} {tg : Expr} (ha : EE X B env os a (rAdr c1) (ret ())) (hb : EE X B env os b (rAdr c2) (ret ())) (h1 : (c1, oLst rP M) ∈ os) (h2 : (c2, oLst rP R) ∈ os) :
    ES X B env os tg (.BinOp a .Add b pos) (rNth ((M ++ R).map (·.1))) (chk (M.length + R.length ≤ sizeLine) (ret (List.range (M.length + R.length)))) :=
  s_list (PE.imp (pe_op op_cat ha (PE.ex fun _ : Unit => hb)) fun σ H Q ⟨F, P, S, ⟨hc, hw⟩, k⟩ => ⟨F, fun _ => P (List.range (M.length + R.length)), S, hw, fun _ hx v F1 H1 S1 e1 ok1 => ⟨(), F1, fun _ => P (List.range (M.length + R.length)), S1, hx, fun _ hy u F2 H2 S2 e2 ok2 => by
    obtain rfl : v = .ref c1 := ok1
    obtain rfl : u = .ref c2 := ok2
    obtain ⟨_, vs, g3, g4, g5⟩ := S2.lst h1
    obtain ⟨_, us, g6, g7, g8⟩ := S2.lst h2
    have ev := nth_all g5
    have eu := nth_all g8
    subst ev eu
    have hl : ((M.map (·.1)).map V.ref ++ (R.map (·.1)).map V.ref).length ≤ sizeLine := by
      rw [List.length_append, List.length_map, List.length_map, List.length_map, List.length_map]
      exact hc
    refine ⟨c1, c2, _, _, rfl, rfl, g3, g6, by rw [← List.length_append]; exact hl, fun p hp => ?_⟩
    have g : Grow F2 H2 (upd F2 p (.lst ((M.map (·.1)).map V.ref ++ (R.map (·.1)).map V.ref))) (upd H2 p (.lst ((M.map (·.1)).map V.ref ++ (R.map (·.1)).map V.ref))) := Grow.alloc S2.fh hp
    have pr := paired_range (F := upd F2 p (.lst ((M.map (·.1)).map V.ref ++ (R.map (·.1)).map V.ref))) ((M ++ R).map (·.1))
    rw [List.length_map, List.length_append] at pr
    refine k _ hy (.ref p) _ _ (S2.grow g) ((e1.trans e2).trans g.f) ⟨p, _, rfl, upd_same, hl, ?_⟩
    rw [← List.map_append, ← List.map_append]
    exact pr⟩⟩)
end
end Mi
namespace Mi
open PySem L2 Evl PyProof.Rows
def mOs (a : Addr) (M : List Rw2) : Os := (a, oLst rP M) :: M.map rowO
def newM (xss : List (List Int)) : W (List Rw2) := fun P _ => ∀ M : List Rw2, M.map (·.2) = xss → P M
def resM (B : Bs) (env : Env) (os : Os) : Res (List (List Int)) := ⟨fun xss F σ Q => ∀ a M F' H', M.map (·.2) = xss → Sit B F' H' σ env (mOs a M ++ os) → Ex F F' → Q (.ref a) H', fun e h a M F' H' hM S e' => h a M F' H' hM S (e.trans e')⟩
/-- an expression that makes a new list of new lists -/
def EM (X : Cx) (B : Bs) (env : Env) (os : Os) (e : Expr) (w : W (List (List Int))) : Prop := ER X B env os e (resM B env os) w
section
variable {X : Cx} {B : Bs} {env : Env} {os : Os} {α : Type} {r : Rp α} {elt tg iter : Expr} {scope : Scope} {pos : Pos}
abbrev teM (B : Bs) (env : Env) (os : Os) (own : List (Str × Nat)) {α : Type} (envT : Env → α → Env) (f : α → W (List Int)) : TE := fun σ H Q => ∃ p : Hp × Addr × List Rw2 × α, tNew (B.at p.1) (envI env own envT p.2.2.2) (mOs p.2.1 p.2.2.1 ++ os) rInt (f p.2.2.2) σ H Q
theorem Sit.perm {F H : Hp} {σ : L2.St} {os' : Os} (S : Sit B F H σ env os) (h : os.Perm os') : Sit B F H σ env os' := S.re (OsW.perm h) fun nd => (h.map _).nodup_iff.mp nd
theorem mOs_snoc {a : Addr} {M : List Rw2} {q : Rw2} : (rowO q :: (a, oLst rP (M ++ [q])) :: (M.map rowO ++ os)).Perm (mOs a (M ++ [q]) ++ os) := by
  unfold mOs
  rw [List.map_append, List.map_singleton]
  show List.Perm _ ((a, oLst rP (M ++ [q])) :: ((M.map rowO ++ [rowO q]) ++ os))
  refine (List.Perm.swap ..).trans (List.Perm.cons _ ?_)
  rw [List.append_assoc]
  exact List.perm_middle.symm
theorem lc_readN {w : W (List α)} {f : α → W (List Int)} {own : List (Str × Nat)} {g : TG} {is : List Nat} {envT : Env → α → Env}
    (tgt : TgT g r is envT) (his : ∀ i ∈ is, i ∈ own.map (fun p : Str × Nat => p.2)) {σ : L2.St} {H : Hp} {Q : VK} (h : ∃ F P, Sit B F H σ env os ∧ (bnd w fun xs => mapW f xs) P B.E0 ∧ ∀ x, P x → (resM B env os).k x F σ Q) :
    tLc (tSrc B env os r w) g tYes (teM B env os own envT f) (own.map (fun p : Str × Nat => p.2)) σ H Q := by
  obtain ⟨F, P, S, hw, k⟩ := h
  refine ⟨F, _, S, hw, fun xs hxs J F1 H1 S1 e1 wk hz D hD => ?_⟩
  refine ⟨(fun i m H => m = xs.length - i ∧ i ≤ xs.length ∧ ∃ F' M, M.length = i ∧ Sit (B.at F1) F' H σ env (mOs D M ++ os) ∧ mapW f (xs.drop i) (fun zs => P (M.map (·.2) ++ zs)) B.E0 : Nat → Nat → Hp → Prop), ?_, ?_⟩
  · refine ⟨xs.length, by simp, Nat.zero_le _, F1, [], rfl, ?_, ?_⟩
    · have S1' : Sit (B.at F1) F1 H1 σ env os := ⟨⟨S1.fin.fh, S1.fin.bf, Ex.refl F1, S1.fin.bb, S1.fin.ios, S1.fin.keep⟩, S1.env, S1.ow, S1.nd⟩
      exact S1'.newOwn (ow := oLst rP []) hD ⟨[], rfl, Nat.zero_le _, .nil⟩
    · rw [List.drop_zero]
      exact hxs
  rintro i m H2 ⟨rfl, hi, F2, M, hyl, S2, hw2⟩
  have e12 : Ex F1 F2 := S2.fin.mrk
  by_cases hlt : i < xs.length
  · obtain ⟨x, hx⟩ : ∃ x, xs[i]? = some x := ⟨_, List.getElem?_eq_getElem hlt⟩
    refine .inr ⟨wk.go i F2 H2 e12 S2.fh hlt, (fun H' => ∃ F' M, M.length = i + 1 ∧ Sit (B.at F1) F' H' σ env (mOs D M ++ os) ∧ mapW f (xs.drop (i + 1)) (fun zs => P (M.map (·.2) ++ zs)) B.E0 : Hp → Prop), ?_, fun v H3 y => ?_⟩
    · intro H' h
      exact ⟨xs.length - (i + 1), by omega, rfl, hlt, h⟩
    obtain ⟨F3, gr, rv⟩ := wk.yld i F2 H2 v H3 x e12 S2.fh y hx
    have S3 : Sit (B.at F1) F3 H3 σ env (mOs D M ++ os) := S2.grow gr
    refine tgt F3 H3 v x (wipe σ (own.map (fun p : Str × Nat => p.2))) (wipeE env (own.map (fun p : Str × Nat => p.2))) _ rv S3.fh (S3.env.wipe _) fun σ' hσ hwipe => ⟨?_, ?_⟩
    · rw [hwipe _ his]
      have ww : ∀ (τ : L2.St) (vs : List Nat), wipe (wipe τ vs) vs = wipe τ vs := by
        intro τ vs
        have key : ∀ (us vs : List Nat), (∀ u ∈ us, u ∈ vs) → wipe (wipe τ us) vs = wipe τ vs := by
          intro us
          induction us with
          | nil => intro vs _; rfl
          | cons u us ih =>
            intro vs h
            show wipe ((wipe τ us).set u none) vs = wipe τ vs
            rw [wipe_set (h u (List.mem_cons_self ..)), ih vs fun z hz => h z (List.mem_cons_of_mem _ hz)]
        exact key vs vs fun _ h => h
      exact ww σ _
    · rw [drop_cons hx] at hw2
      have hw3 : f x (fun y => mapW f (xs.drop (i + 1)) (fun zs => P (M.map (·.2) ++ (y :: zs))) B.E0) B.E0 := hw2
      have St : Sit (B.at F1) F3 H3 σ' (envT (wipeE env (own.map (fun p : Str × Nat => p.2))) x) (mOs D M ++ os) := ⟨S3.fin, hσ, S3.ow, S3.nd⟩
      show teM B env os own envT f σ' H3 _
      refine ⟨(F1, D, M, x), F3, _, St, hw3, fun z hz a F5 H5 S5 e45 => ?_⟩
      have hj : ((a, oLst rInt z) :: (mOs D M ++ os))[1]? = some (D, oLst rP M) := rfl
      obtain ⟨hF5, vs, ho, hl, pr⟩ := S5.lst (List.mem_of_getElem? hj)
      have hlen : vs.length < sizeLine := by
        have := pr.length
        omega
      refine ⟨vs, ho, hlen, F5, M ++ [(a, z)], by rw [List.length_append, List.length_singleton]; omega, ?_, ?_⟩
      · have S6 := S5.change (j := 1) (ow' := oLst rP (M ++ [(a, z)])) (o' := .lst (vs ++ [V.ref a])) hj ⟨vs ++ [V.ref a], rfl, by rw [List.length_append, List.length_singleton]; omega, Paired.app pr (.cons rfl .nil)⟩
        have S7 : Sit (B.at F1) F5 _ σ env (rowO (a, z) :: (D, oLst rP (M ++ [(a, z)])) :: (M.map rowO ++ os)) := ⟨S6.fin, S3.env.mono e45, S6.ow, S6.nd⟩
        exact S7.perm mOs_snoc
      · have q : (fun zs => P ((M ++ [(a, z)]).map (·.2) ++ zs)) = fun zs => P (M.map (·.2) ++ (z :: zs)) := by
          funext zs
          rw [List.map_append, List.append_assoc]
          rfl
        show mapW f (xs.drop (i + 1)) (fun zs => P ((M ++ [(a, z)]).map (·.2) ++ zs)) B.E0
        rw [q]
        exact hz
  · have e : i = xs.length := by omega
    subst e
    refine .inl ⟨wk.stop _ F2 H2 e12 S2.fh (Nat.le_refl _), ?_⟩
    rw [List.drop_length] at hw2
    have hp : P (M.map (·.2) ++ []) := hw2
    rw [List.append_nil] at hp
    exact k _ hp D M F2 H2 rfl ⟨⟨S2.fin.fh, S2.fin.bf, S1.fin.mrk.trans e12, S2.fin.bb, S2.fin.ios, S2.fin.keep⟩, S2.env, S2.ow, S2.nd⟩ (e1.trans e12)
section
variable {w : W (List α)} {f : α → W (List Int)} {own : List (Str × Nat)} {g : TG} {is : List Nat} {envT : Env → α → Env}
variable (hc : X.calm = true) (hN : X.N.Nodup) (src : ES X B env os tg iter r w) (ok : BlkOk X.N X.env.scope scope own) (tgt : TgT g r is envT)
  (hg : ∀ (s : Shared) (H : Hp) (C : Addr) (cl : List (Str × Addr)) (fp : List Addr), PG (X.blk s H scope (compEnvC scope cl C X.env) fp) tg g) (his : ∀ i ∈ is, i ∈ own.map (fun p : Str × Nat => p.2))
  (he : ∀ (s' : Shared) (H : Hp) (C : Addr) (cl : List (Str × Addr)) (fp : List Addr) (M : Hp) (D : Addr) (Ms : List Rw2) (x : α), EN (X.blk s' H scope (compEnvC scope cl C X.env) fp) (B.at M) (envI env own envT x) (mOs D Ms ++ os) elt rInt (f x))
include hc hN src ok tgt hg his he
theorem m_comp (hs : ∀ x, foldedSetIterable iter X.env x = pure x := by intro _; rfl) : EM X B env os (.ListComp elt [⟨tg, iter, [], 0⟩] scope pos) (bnd w fun xs => mapW f xs) :=
  PE.imp (pe_lc hc hN src ok hg (fun _ _ _ _ _ => pts_nil) (fun s' H C cl fp => (⟨fun pins s σ H2 Q I ⟨p, q⟩ => (he s' H C cl fp p.1 p.2.1 p.2.2.1 p.2.2.2).run pins s σ H2 Q I q⟩ : PE _ elt (teM B env os own envT f))) hs) fun σ H Q h => lc_readN tgt his h
end
end
section
variable {X : Cx} {B : Bs} {env : Env} {os : Os} {pos : Pos} {β : Type} {C : Addr} {f : Str} {e : Expr} {rest : List Stmt} {post : Post β}
theorem m_conv {w w' : W (List (List Int))} (h : EM X B env os e w) (q : w' = w) : EM X B env os e w' := q ▸ h
theorem b_fldM (i j : Nat) {x : Str} {p1 p2 : Pos} {a : Addr} {fs : List (Str × Slot)} {w : W (List (List Int))} {w2 : List Rw2 → W β} (c : Cls X.K C) (n : NoAttr X.K C f) (hi : env[i]? = some (sv (rAdr a) ())) (hj : os[j]? = some (a, oObj C fs)) (he : EM X B env os e w)
    (hr : ∀ o M, BG X B env (mOs o M ++ os.set j (a, oObj C (putS f (sv (rAdr o) ()) fs))) rest post (w2 M)) (hz : decide (fs.length < 1000) = true := by rfl) (hN : X.N[i]? = some x := by rfl)
    (hv : Vis X.env.scope x := by first | exact Or.inl rfl | exact Or.inr (Or.inl rfl) | exact Or.inr (Or.inr rfl)) (hd : (x == ("__debug__" : Str)) = false := by decide) (hcd : (x == ("__classdict__" : Str)) = false := by decide)
    (hs : swapsWith e (some (.Attribute (.Name x p1) f p2)) pos.line X.env = pure false := by rfl) :
    BG X B env os (.Assign [.Attribute (.Name x p1) f p2] e pos :: rest) post (bnd w fun xss => bnd (newM xss) w2) :=
  PSs.imp (pss_cons (L2.ps_fld (pe_var hN hv hd hcd) he hs) (PSs.ex fun u : Addr × List Rw2 => hr u.1 u.2)) fun D σ H ⟨F, P, S, hw, k⟩ => ⟨F, _, S, hw, fun y hy o M F1 H1 hM S1 e1 => by
  have hj1 : (mOs o M ++ os)[(mOs o M).length + j]? = some (a, oObj C fs) := by rw [List.getElem?_append_right (Nat.le_add_right _ _), Nat.add_sub_cancel_left]; exact hj
  obtain ⟨g1, g2, dx, vs, g3, g5⟩ := S1.obj hi hj1
  have S2 := S1.change hj1 (ow' := oObj C (putS f (sv (rAdr o) ()) fs)) ⟨dx, _, rfl, Flds.put (s := sv (rAdr o) ()) ⟨.ref o, rfl, rfl⟩ g5⟩
  rw [List.set_append_right _ _ (Nat.le_add_right _ _), Nat.add_sub_cancel_left] at S2
  refine ⟨.ref a, g1, a, C, dx, vs, rfl, g3, c, n, ?_, (o, M), F1, P, S2, hy M hM, k⟩
  rw [← g5.len]
  exact of_decide_eq_true hz⟩
end
def spM2 {ι : Type} (args : ι → Env) (w : ι → W (List (List Int))) : Sp := fun vs H Q _ => ∃ (i : ι) (F : Hp) (P : List (List Int) → Prop), Ex F H ∧ EnvOk F (args i) (vs.map some) ∧ w i P (fun _ => False) ∧
  ∀ xss, P xss → ∀ a M F' H', M.map (·.2) = xss → Fn (bs0 F H []) F' H' → OsOk (bs0 F H []) F' H' (mOs a M) → ((mOs a M).map (·.1)).Nodup → Q (.ref a) H'
def pM (B : Bs) : Post (List (List Int)) := fun D xss => ∀ a M F H, M.map (·.2) = xss → Fn B F H → OsOk B F H (mOs a M) → ((mOs a M).map (·.1)).Nodup → D.rt (.ref a) H
section
variable {P : Program} {w : World} {K : PySem.W.Frag} {mg : Str → Option Value} {base : Heap} {k : Nat} {f : Addr} {fd : FuncData} {ps N : List Str} {ι : Type} {args : ι → Env} {wf : ι → W (List (List Int))}
theorem spM2_len (hl : ∀ i, (args i).length = ps.length) : ∀ vs H Q E, spM2 args wf vs H Q E → vs.length = ps.length := fun vs H Q E ⟨i, F, P, _, he, _⟩ => by
  have := he.len
  rw [List.length_map, hl i] at this
  exact this.symm
theorem okM2 {x qual : Str} {st : Stmt} (F : Fun K x qual st f fd) (S : FnScope N ps (defScope st)) (hl : ∀ i, (args i).length = ps.length)
    (body : ∀ (cdv : Value) (A : Around) (outer : List PySem.Env) (s : Shared) (H : Hp) (E : XK) (B : Bs) (i : ι), Room k (A.deeper (envOfC qual (defScope st) s.heap.objs.size f cdv)) →
      BG (cxOf CX0 P w K mg base N qual (defScope st) f cdv A outer s H E).nox B (entry (args i) (N.length - ps.length)) [] (defBody st) (pM B) (wf i)) : FnOk P w K mg base CX0 (k + 1) f fd ps (spM2 args wf) := by
  refine F.ok S (spM2_len hl) fun cdv A outer s H vs Q E hr hsp => ?_
  have hvl := spM2_len hl vs H Q E hsp
  obtain ⟨i, F0, P0, fh, he, hw, hk⟩ := hsp
  have ho : ∀ p ∈ ([] : Os), F0 p.1 = none ∧ ∃ o, H p.1 = some o ∧ p.2.ok F0 o := fun p hp => by cases hp
  refine ⟨_, body cdv A outer s H E (bs0 F0 H []) i hr, F0, P0, ⟨bs0_start fh ho, ?_, (fun p hp => by cases hp), List.nodup_nil⟩, hw, fun y hy a M F' H' hM fn ow nd => hk y hy a M F' H' hM fn ow nd⟩
  rw [← hvl]
  exact entry_ok he
end
section
variable {X : Cx} {B : Bs} {env : Env} {os : Os} {pos : Pos} {ι : Type} {args : ι → Env} {wl : ι → W (List (List Int))} {e : Expr}
theorem b_retM {w : W (List (List Int))} (he : EM X B env [] e w) : BG X B env [] [.Return (some e) pos] (pM B) (bnd w ret) :=
  PSs.imp (pss_one (ps_ret he)) fun D σ H ⟨F, P, Si, hw, k⟩ => ⟨F, P, Si, hw, fun y hy a M F' H' hM S' _ => by
    rw [List.append_nil] at S'
    exact k y hy a M F' H' hM S'.fin S'.osOk S'.nd⟩
theorem spf_M2 : SpF (spM2 args wl) E0 B env os args (fun i => noX (wl i)) (resM B env os) :=
  ⟨fun {F H σ vs i P Q} S ok hw k => ⟨i, F, P, S.fh, ok, hw, fun z hz a M F' H' hM fn ow nd => k z hz a M F' H' hM (by
    have S0 := S.back OsLe.none fn fun p hp => by cases hp
    have new : ∀ p ∈ mOs a M, H p.1 = none := fun p hp => by
      obtain ⟨_, _, h⟩ := ow p hp
      rcases h with h | h
      · exact h
      · cases h
    refine ⟨S0.fin, S0.env, fun p hp => ?_, ?_⟩
    · rcases List.mem_append.mp hp with hp | hp
      · obtain ⟨h1, h2, _⟩ := ow p hp
        exact ⟨h1, h2, .inl (S.fin.fresh (new p hp))⟩
      · exact S0.ow p hp
    · rw [List.map_append]
      refine List.nodup_append.mpr ⟨nd, S0.nd, fun x hx y hy e => ?_⟩
      obtain ⟨p, hp, e1⟩ := List.mem_map.mp hx
      obtain ⟨q, hq, e2⟩ := List.mem_map.mp hy
      obtain ⟨_, ⟨o, h, _⟩, _⟩ := S.ow q hq
      have := new p hp
      rw [e1, e, ← e2, h] at this
      cases this) fn.bf⟩⟩
end
end Mi
namespace Mi
open PySem L2 Evl PyProof.Rows
structure TRs where
  w : List Rw2
  l : List Rw2
  r : List Rw2
structure TK where
  d : Addr
  ow : Addr
  ol : Addr
  orr : Addr
  rows : List (List Int)
  wide : Int
def fT (k : TK) : List (Str × Slot) := [("own_rows", sv (rLst (rLst rInt)) k.rows), ("work", sv (rAdr k.ow) ()), ("wide", sv rInt k.wide), ("own_left", sv (rAdr k.ol) ()), ("own_right", sv (rAdr k.orr) ())]
def TRs.all (s : TRs) : List Rw2 := s.w ++ (s.l ++ s.r)
def tos (C : Addr) (k : TK) (s : TRs) : Os := (k.d, oObj C (fT k)) :: (k.ow, oLst rP s.w) :: (k.ol, oLst rP s.l) :: (k.orr, oLst rP s.r) :: s.all.map rowO
theorem tos_in {C : Addr} {k : TK} {s : TRs} : ∀ p ∈ s.all, rowO p ∈ tos C k s := fun p hp => by
  refine List.mem_cons_of_mem _ (List.mem_cons_of_mem _ (List.mem_cons_of_mem _ (List.mem_cons_of_mem _ (List.mem_map_of_mem hp))))
theorem in_w {C : Addr} {k : TK} {s : TRs} : (k.ow, oLst rP s.w) ∈ tos C k s := List.mem_cons_of_mem _ List.mem_cons_self
theorem in_l {C : Addr} {k : TK} {s : TRs} : (k.ol, oLst rP s.l) ∈ tos C k s := List.mem_cons_of_mem _ (List.mem_cons_of_mem _ List.mem_cons_self)
theorem in_r {C : Addr} {k : TK} {s : TRs} : (k.orr, oLst rP s.r) ∈ tos C k s := List.mem_cons_of_mem _ (List.mem_cons_of_mem _ (List.mem_cons_of_mem _ List.mem_cons_self))
theorem keys_rowO (M : List Rw2) : (M.map rowO).map (·.1) = M.map (·.1) := by
  rw [List.map_map]
  rfl
theorem tos_keys {C : Addr} {k : TK} {s : TRs} : (tos C k s).map (·.1) = k.d :: k.ow :: k.ol :: k.orr :: s.all.map (·.1) := by
  show k.d :: k.ow :: k.ol :: k.orr :: (s.all.map rowO).map (·.1) = _
  rw [keys_rowO]
/-- what heads say, what rows say -/
theorem osW_tos {C : Addr} {k : TK} {s' : TRs} {os : Os} (h0 : (k.d, oObj C (fT k)) ∈ os) (hw : ∃ M, (k.ow, oLst rP M) ∈ os ∧ M.map (·.1) = s'.w.map (·.1)) (hl : ∃ M, (k.ol, oLst rP M) ∈ os ∧ M.map (·.1) = s'.l.map (·.1)) (hr : ∃ M, (k.orr, oLst rP M) ∈ os ∧ M.map (·.1) = s'.r.map (·.1))
    (hrow : ∀ p ∈ s'.all, rowO p ∈ os) : OsW os (tos C k s') := fun p hp => by
  rcases List.mem_cons.mp hp with e | hp
  · exact ⟨_, h0, by rw [e], fun F o q => by rw [e]; exact q⟩
  rcases List.mem_cons.mp hp with e | hp
  · obtain ⟨M, h1, h2⟩ := hw
    exact ⟨_, h1, by rw [e], fun F o q => by rw [e]; exact oP_re h2 q⟩
  rcases List.mem_cons.mp hp with e | hp
  · obtain ⟨M, h1, h2⟩ := hl
    exact ⟨_, h1, by rw [e], fun F o q => by rw [e]; exact oP_re h2 q⟩
  rcases List.mem_cons.mp hp with e | hp
  · obtain ⟨M, h1, h2⟩ := hr
    exact ⟨_, h1, by rw [e], fun F o q => by rw [e]; exact oP_re h2 q⟩
  obtain ⟨q, hq, e⟩ := List.mem_map.mp hp
  exact ⟨rowO q, hrow q hq, by rw [e], fun F o z => by rw [← e]; exact z⟩
section
variable {C : Addr} {k : TK} {s : TRs}
theorem tos_w {ys : List Rw2} (h : ys.Perm s.w) : OsW ((tos C k s).set 1 (k.ow, oLst rP ys)) (tos C k { s with w := ys }) ∧ ((((tos C k s).set 1 (k.ow, oLst rP ys)).map (·.1)).Nodup → ((tos C k { s with w := ys }).map (·.1)).Nodup) := by
  have e : (tos C k s).set 1 (k.ow, oLst rP ys) = (k.d, oObj C (fT k)) :: (k.ow, oLst rP ys) :: (k.ol, oLst rP s.l) :: (k.orr, oLst rP s.r) :: s.all.map rowO := rfl
  rw [e]
  have ap : (s.all).Perm (TRs.all { s with w := ys }) := h.symm.append_right _
  refine ⟨osW_tos (by simp) ⟨ys, by simp, rfl⟩ ⟨s.l, by simp, rfl⟩ ⟨s.r, by simp, rfl⟩ fun p hp => ?_, fun nd => ?_⟩
  · have : p ∈ s.all := ap.mem_iff.mpr hp
    simp only [List.mem_cons]
    exact .inr (.inr (.inr (.inr (List.mem_map_of_mem this))))
  · rw [tos_keys]
    have nd : (k.d :: k.ow :: k.ol :: k.orr :: (s.all.map rowO).map (·.1)).Nodup := nd
    rw [keys_rowO] at nd
    refine (List.Perm.nodup_iff ?_).mp nd
    exact ((((ap.map _).cons _).cons _).cons _).cons _
theorem tos_l {ys : List Rw2} (h : ys.Perm s.l) : OsW ((tos C k s).set 2 (k.ol, oLst rP ys)) (tos C k { s with l := ys }) ∧ ((((tos C k s).set 2 (k.ol, oLst rP ys)).map (·.1)).Nodup → ((tos C k { s with l := ys }).map (·.1)).Nodup) := by
  have e : (tos C k s).set 2 (k.ol, oLst rP ys) = (k.d, oObj C (fT k)) :: (k.ow, oLst rP s.w) :: (k.ol, oLst rP ys) :: (k.orr, oLst rP s.r) :: s.all.map rowO := rfl
  rw [e]
  have ap : (s.all).Perm (TRs.all { s with l := ys }) := (h.symm.append_right _).append_left _
  refine ⟨osW_tos (by simp) ⟨s.w, by simp, rfl⟩ ⟨ys, by simp, rfl⟩ ⟨s.r, by simp, rfl⟩ fun p hp => ?_, fun nd => ?_⟩
  · have : p ∈ s.all := ap.mem_iff.mpr hp
    simp only [List.mem_cons]
    exact .inr (.inr (.inr (.inr (List.mem_map_of_mem this))))
  · rw [tos_keys]
    have nd : (k.d :: k.ow :: k.ol :: k.orr :: (s.all.map rowO).map (·.1)).Nodup := nd
    rw [keys_rowO] at nd
    refine (List.Perm.nodup_iff ?_).mp nd
    exact ((((ap.map _).cons _).cons _).cons _).cons _
theorem nodup_set {α : Type} {a : α} : ∀ {xs : List α} {j : Nat}, (a :: xs).Nodup → (xs.set j a).Nodup
  | [], _, _ => List.nodup_nil
  | x :: xs, 0, h => by
    rw [List.nodup_cons, List.mem_cons, List.nodup_cons, not_or] at h
    exact List.nodup_cons.mpr ⟨h.1.2, h.2.2⟩
  | x :: xs, j + 1, h => by
    rw [List.nodup_cons, List.mem_cons, List.nodup_cons, not_or] at h
    refine List.nodup_cons.mpr ⟨fun hm => ?_, nodup_set (List.nodup_cons.mpr ⟨h.1.2, h.2.2⟩)⟩
    rcases List.mem_or_eq_of_mem_set hm with q | q
    · exact h.2.1 q
    · exact h.1.1 q.symm
theorem tos_nw {a : Addr} {xs : List Int} {l : Nat} (hl : l < s.w.length) : OsW ((a, oLst rInt xs) :: (tos C k s).set 1 (k.ow, oLst rP (s.w.set l (a, xs)))) (tos C k { s with w := s.w.set l (a, xs) }) ∧ ((((a, oLst rInt xs) :: (tos C k s).set 1 (k.ow, oLst rP (s.w.set l (a, xs)))).map (·.1)).Nodup → ((tos C k { s with w := s.w.set l (a, xs) }).map (·.1)).Nodup) := by
  have e : (a, oLst rInt xs) :: (tos C k s).set 1 (k.ow, oLst rP (s.w.set l (a, xs))) = (a, oLst rInt xs) :: (k.d, oObj C (fT k)) :: (k.ow, oLst rP (s.w.set l (a, xs))) :: (k.ol, oLst rP s.l) :: (k.orr, oLst rP s.r) :: s.all.map rowO := rfl
  rw [e]
  refine ⟨osW_tos (by simp) ⟨_, by simp, rfl⟩ ⟨s.l, by simp, rfl⟩ ⟨s.r, by simp, rfl⟩ fun p hp => ?_, fun nd => ?_⟩
  · rcases List.mem_append.mp hp with hp | hp
    · rcases List.mem_or_eq_of_mem_set hp with q | q
      · simp only [List.mem_cons]
        exact .inr (.inr (.inr (.inr (.inr (List.mem_map_of_mem (List.mem_append_left _ q))))))
      · rw [q]
        exact List.mem_cons_self
    · simp only [List.mem_cons]
      exact .inr (.inr (.inr (.inr (.inr (List.mem_map_of_mem (List.mem_append_right _ hp))))))
  · rw [tos_keys]
    have nd : (a :: k.d :: k.ow :: k.ol :: k.orr :: (s.all.map rowO).map (·.1)).Nodup := nd
    rw [keys_rowO] at nd
    have z := nodup_set (j := l + 4) nd
    have e2 : (k.d :: k.ow :: k.ol :: k.orr :: s.all.map (·.1)).set (l + 4) a = k.d :: k.ow :: k.ol :: k.orr :: (s.all.map (·.1)).set l a := rfl
    rw [e2] at z
    have e3 : (TRs.all { s with w := s.w.set l (a, xs) }).map (·.1) = (s.all.map (·.1)).set l a := by
      show (s.w.set l (a, xs) ++ (s.l ++ s.r)).map (·.1) = ((s.w ++ (s.l ++ s.r)).map (·.1)).set l a
      simp only [List.map_append]
      rw [List.set_append_left _ _ (by rw [List.length_map]; exact hl), List.map_set]
    rw [e3]
    exact z
theorem tos_nl {a : Addr} {xs : List Int} {l : Nat} (hl : l < s.l.length) : OsW ((a, oLst rInt xs) :: (tos C k s).set 2 (k.ol, oLst rP (s.l.set l (a, xs)))) (tos C k { s with l := s.l.set l (a, xs) }) ∧ ((((a, oLst rInt xs) :: (tos C k s).set 2 (k.ol, oLst rP (s.l.set l (a, xs)))).map (·.1)).Nodup → ((tos C k { s with l := s.l.set l (a, xs) }).map (·.1)).Nodup) := by
  have e : (a, oLst rInt xs) :: (tos C k s).set 2 (k.ol, oLst rP (s.l.set l (a, xs))) = (a, oLst rInt xs) :: (k.d, oObj C (fT k)) :: (k.ow, oLst rP s.w) :: (k.ol, oLst rP (s.l.set l (a, xs))) :: (k.orr, oLst rP s.r) :: s.all.map rowO := rfl
  rw [e]
  refine ⟨osW_tos (by simp) ⟨s.w, by simp, rfl⟩ ⟨_, by simp, rfl⟩ ⟨s.r, by simp, rfl⟩ fun p hp => ?_, fun nd => ?_⟩
  · rcases List.mem_append.mp hp with hp | hp
    · simp only [List.mem_cons]
      exact .inr (.inr (.inr (.inr (.inr (List.mem_map_of_mem (List.mem_append_left _ hp))))))
    rcases List.mem_append.mp hp with hp | hp
    · rcases List.mem_or_eq_of_mem_set hp with q | q
      · simp only [List.mem_cons]
        exact .inr (.inr (.inr (.inr (.inr (List.mem_map_of_mem (List.mem_append_right _ (List.mem_append_left _ q)))))))
      · rw [q]
        exact List.mem_cons_self
    · simp only [List.mem_cons]
      exact .inr (.inr (.inr (.inr (.inr (List.mem_map_of_mem (List.mem_append_right _ (List.mem_append_right _ hp)))))))
  · rw [tos_keys]
    have nd : (a :: k.d :: k.ow :: k.ol :: k.orr :: (s.all.map rowO).map (·.1)).Nodup := nd
    rw [keys_rowO] at nd
    have z := nodup_set (j := s.w.length + l + 4) nd
    have e2 : (k.d :: k.ow :: k.ol :: k.orr :: s.all.map (·.1)).set (s.w.length + l + 4) a = k.d :: k.ow :: k.ol :: k.orr :: (s.all.map (·.1)).set (s.w.length + l) a := rfl
    rw [e2] at z
    have e3 : (TRs.all { s with l := s.l.set l (a, xs) }).map (·.1) = (s.all.map (·.1)).set (s.w.length + l) a := by
      show (s.w ++ (s.l.set l (a, xs) ++ s.r)).map (·.1) = ((s.w ++ (s.l ++ s.r)).map (·.1)).set (s.w.length + l) a
      simp only [List.map_append]
      rw [List.set_append_right _ _ (by rw [List.length_map]; omega), List.length_map, Nat.add_sub_cancel_left, List.set_append_left _ _ (by rw [List.length_map]; exact hl), List.map_set]
    rw [e3]
    exact z
def setC (M : List Rw2) (i : Nat) (xs : List Int) : List Rw2 := match M[i]? with
  | some p => M.set i (p.1, xs)
  | none => M
theorem setC_keys (M : List Rw2) (i : Nat) (xs : List Int) : (setC M i xs).map (·.1) = M.map (·.1) := by
  unfold setC
  cases e : M[i]? with
  | none => rfl
  | some p =>
    show (M.set i (p.1, xs)).map (·.1) = _
    rw [List.map_set]
    refine set_same ?_
    rw [List.getElem?_map, e]
    rfl
def TRs.put (s : TRs) (i : Nat) (xs : List Int) : TRs := if i < s.w.length then { s with w := setC s.w i xs } else { s with r := setC s.r (i - s.w.length) xs }
theorem put_keys (s : TRs) (i : Nat) (xs : List Int) : ((s.put i xs).w.map (·.1) = s.w.map (·.1) ∧ (s.put i xs).l = s.l) ∧ (s.put i xs).r.map (·.1) = s.r.map (·.1) := by
  unfold TRs.put
  split
  · exact ⟨⟨setC_keys .., rfl⟩, rfl⟩
  · exact ⟨⟨rfl, rfl⟩, setC_keys ..⟩
theorem tos_row {i : Nat} {p : Rw2} (h : (s.w ++ s.r)[i]? = some p) : ∃ jj, (tos C k s)[jj]? = some (p.1, oLst rInt p.2) ∧ ∀ ys, OsW ((tos C k s).set jj (p.1, oLst rInt ys)) (tos C k (s.put i ys)) ∧ ((((tos C k s).set jj (p.1, oLst rInt ys)).map (·.1)).Nodup → ((tos C k (s.put i ys)).map (·.1)).Nodup) := by
  have main : ∀ jj, s.all[jj]? = some p → (∀ ys, (s.put i ys).all = s.all.set jj (p.1, ys)) → ∃ jj, (tos C k s)[jj]? = some (p.1, oLst rInt p.2) ∧ ∀ ys, OsW ((tos C k s).set jj (p.1, oLst rInt ys)) (tos C k (s.put i ys)) ∧ ((((tos C k s).set jj (p.1, oLst rInt ys)).map (·.1)).Nodup → ((tos C k (s.put i ys)).map (·.1)).Nodup) := fun jj hj hput => by
    refine ⟨jj + 4, ?_, fun ys => ?_⟩
    · show (s.all.map rowO)[jj]? = _
      rw [List.getElem?_map, hj]
      rfl
    · have e : (tos C k s).set (jj + 4) (p.1, oLst rInt ys) = (k.d, oObj C (fT k)) :: (k.ow, oLst rP s.w) :: (k.ol, oLst rP s.l) :: (k.orr, oLst rP s.r) :: (s.put i ys).all.map rowO := by
        show _ :: _ :: _ :: _ :: (s.all.map rowO).set jj (rowO (p.1, ys)) = _
        rw [hput ys, List.map_set]
      rw [e]
      obtain ⟨⟨k1, k2⟩, k3⟩ := put_keys s i ys
      refine ⟨osW_tos (by simp) ⟨s.w, by simp, k1.symm⟩ ⟨s.l, by simp, by rw [k2]⟩ ⟨s.r, by simp, k3.symm⟩ fun q hq => ?_, fun nd => nd⟩
      simp only [List.mem_cons]
      exact .inr (.inr (.inr (.inr (List.mem_map_of_mem hq))))
  by_cases q : i < s.w.length
  · rw [List.getElem?_append_left q] at h
    refine main i ?_ fun ys => ?_
    · show (s.w ++ _)[i]? = _
      rw [List.getElem?_append_left q]
      exact h
    · unfold TRs.put
      rw [if_pos q]
      show setC s.w i ys ++ (s.l ++ s.r) = (s.w ++ (s.l ++ s.r)).set i (p.1, ys)
      rw [List.set_append_left _ _ q]
      unfold setC
      rw [h]
  · have q' : s.w.length ≤ i := by omega
    rw [List.getElem?_append_right q'] at h
    refine main (s.w.length + (s.l.length + (i - s.w.length))) ?_ fun ys => ?_
    · show (s.w ++ (s.l ++ s.r))[_]? = _
      rw [List.getElem?_append_right (by omega), Nat.add_sub_cancel_left, List.getElem?_append_right (by omega), Nat.add_sub_cancel_left]
      exact h
    · unfold TRs.put
      rw [if_neg q]
      show s.w ++ (s.l ++ setC s.r (i - s.w.length) ys) = (s.w ++ (s.l ++ s.r)).set _ (p.1, ys)
      rw [List.set_append_right _ _ (by omega), Nat.add_sub_cancel_left, List.set_append_right _ _ (by omega), Nat.add_sub_cancel_left]
      unfold setC
      rw [h]
end
theorem env_slot {F : Hp} {s s' : Slot} (h : ∀ ov, s.ok F ov → s'.ok F ov) : ∀ {env : Env} {σ : L2.St} {j : Nat}, EnvOk F (env.set j s) σ → EnvOk F (env.set j s') σ
  | [], _, _, e => e
  | _ :: _, _, 0, .cons r t => .cons (h _ r) t
  | _ :: _, _, j + 1, .cons r t => .cons r (env_slot h (j := j) t)
section
variable {X : Cx} {B : Bs} {env : Env} {os : Os} {γ : Type} {rest : List Stmt} {post : Post γ}
theorem b_row {M : List Rw2} {i j : Nat} {f : Rw2 → W γ} (hb : ∀ p, M[i]? = some p → BG X B (env.set j (sv (rAdr p.1) ())) os rest post (f p)) :
    BG X B (env.set j (sv (rNth (M.map (·.1))) i)) os rest post (match M[i]? with | some p => f p | none => fail) := by
  cases e : M[i]? with
  | none => exact b_never
  | some p =>
    refine b_env (fun F σ h => env_slot (s := sv (rNth (M.map (·.1))) i) (s' := sv (rAdr p.1) ()) (fun ov ⟨v, h1, a, h2, h3⟩ => ?_) h) (hb p e)
    rw [List.getElem?_map, e] at h2
    cases h2
    exact ⟨v, h1, h3⟩
end
end Mi
namespace Mi
open PySem L2 Evl PyProof.Rows
section
variable {X : Cx} {B : Bs} {env : Env} {os : Os} {pos p2 : Pos} {α β γ τ S : Type} {osf : τ → Os} {s : τ} {e a b c : Expr} {es rest' : List Expr} {r : Rp α} {body rest : List Stmt} {post : Post γ}
def EWS (X : Cx) (B : Bs) (env : Env) {τ : Type} (osf : τ → Os) (s : τ) (e : Expr) (w : W (Bool × τ)) : Prop := PW X e fun σ H Q => ∃ F P, Sit B F H σ env (osf s) ∧ w P B.E0 ∧ ∀ y, P y → ∀ F' H', Sit B F' H' σ env (osf y.2) → Ex F F' → Q y.1 H'
theorem PW.ex' {ι : Type} {t : ι → TT} (h : ∀ i, PW X e (t i)) : PW X e (fun σ H Q => ∃ i, t i σ H Q) := ⟨fun wh pins s σ H Q I ⟨i, q⟩ => (h i).run wh pins s σ H Q I q⟩
theorem ws_and1 {w : W (Bool × τ)} (h : ETS X B env osf s a w) : EWS X B env osf s (.BoolOp .And [a] pos) w := pw_and1 h
theorem ws_and {w1 : W (Bool × τ)} {w2 : τ → W (Bool × τ)} (ha : ETS X B env osf s a w1) (hb : ∀ s', EWS X B env osf s' (.BoolOp .And (b :: rest') pos) (w2 s')) : EWS X B env osf s (.BoolOp .And (a :: b :: rest') pos) (bnd w1 fun x => if x.1 = true then w2 x.2 else ret (false, x.2)) :=
  PW.imp (pw_and ha (PW.ex' hb)) fun σ H Q ⟨F, P, S, hw, k⟩ => ⟨F, _, S, hw, fun x hx F' H' S' e' => by
    obtain ⟨x, s'⟩ := x
    cases x with
    | true => exact ⟨s', F', P, S', hx, fun y hy F2 H2 S2 e2 => k y hy F2 H2 S2 (e'.trans e2)⟩
    | false => exact k (false, s') hx F' H' S' e'⟩
theorem ts_pw {w : W (Bool × τ)} (h : EWS X B env osf s e w) : ETS X B env osf s e w := PW.pt h
def whileNT {A τ : Type} (c : A → τ → W (Bool × τ)) (b : A → τ → W (A × τ)) : Nat → A → τ → W (A × τ)
  | 0, _, _ => fail
  | n + 1, x, s => bnd (c x s) fun t => if t.1 = true then bnd (b x t.2) fun y => whileNT c b n y.1 y.2 else ret (x, t.2)
def whileT {A τ : Type} (c : A → τ → W (Bool × τ)) (b : A → τ → W (A × τ)) (x : A) (s : τ) : W (A × τ) := fun P E => ∃ n, whileNT c b n x s P E
theorem b_whileT {A : Type} {test : Expr} {c : A → τ → W (Bool × τ)} {f : A → τ → W (A × τ)} {w3 : A × τ → W γ} (envS : A → Env) (osS : τ → Os) (x0 : A) (s0 : τ) (hp : PassesOwn (model X.prog X.w) X.A X.env X.xe)
    (ht : ∀ x s, ETS X B (envS x) osS s test (c x s)) (hb : ∀ x s, BG X B (envS x) (osS s) body (pNx B (fun y : A × τ => envS y.1) (fun y => osS y.2)) (f x s)) (hr : ∀ x s, BG X B (envS x) (osS s) rest post (w3 (x, s)))
    (le0 : EnvLe env (envS x0)) (os0 : os = osS s0) : BG X B env os (.While test body [] pos :: rest) post (bnd (whileT c f x0 s0) w3) := by
  have ht' : PT X test (fun σ H Q => ∃ y : A × τ, (fun σ H Q => ∃ F P, Sit B F H σ (envS y.1) (osS y.2) ∧ c y.1 y.2 P B.E0 ∧ ∀ z, P z → ∀ F' H', Sit B F' H' σ (envS y.1) (osS z.2) → Ex F F' → Q z.1 H' : L2.St → Hp → (Bool → Hp → Prop) → Prop) σ H Q) := ⟨fun pins s σ H Q I ⟨i, q⟩ => (ht i.1 i.2).run pins s σ H Q I q⟩
  have hb' : PSs X body (fun D σ H => ∃ y : A × τ, tBG B (envS y.1) (osS y.2) (pNx B (fun y : A × τ => envS y.1) (fun y => osS y.2)) (f y.1 y.2) D σ H) := PSs.ex fun y => hb y.1 y.2
  have hr' : PSs X rest (fun D σ H => ∃ y : A × τ, tBG B (envS y.1) (osS y.2) post (w3 (y.1, y.2)) D σ H) := PSs.ex fun y => hr y.1 y.2
  refine PSs.imp (pss_cons (ps_while hp ht' hb') hr') fun D σ H ⟨F, P, S0, ⟨n, hw⟩, k⟩ => ?_
  refine ⟨(fun m σ H => ∃ F' x s, Sit B F' H σ (envS x) (osS s) ∧ whileNT c f m x s (fun q => w3 q P B.E0) B.E0 : Nat → L2.St → Hp → Prop), ⟨n, F, x0, s0, ?_, hw⟩, ?_⟩
  · subst os0
    exact S0.le le0
  rintro m σ2 H2 ⟨F2, x, s, S2, hw2⟩
  cases m with
  | zero => exact False.elim hw2
  | succ m =>
    have hw3 : c x s (fun t => (if t.1 = true then bnd (f x t.2) fun y => whileNT c f m y.1 y.2 else ret (x, t.2) : W (A × τ)) (fun q => w3 q P B.E0) B.E0) B.E0 := hw2
    refine ⟨(x, s), F2, _, S2, hw3, fun t hq F3 H3 S3 e3 => ?_⟩
    obtain ⟨t, s3⟩ := t
    cases t with
    | false => exact ⟨(x, s3), F3, P, S3, hq, k⟩
    | true =>
      refine ⟨(fun σ' H' => ∃ F' x s, Sit B F' H' σ' (envS x) (osS s) ∧ whileNT c f m x s (fun q => w3 q P B.E0) B.E0 : L2.St → Hp → Prop), fun σ' H' h => ⟨m, Nat.lt_succ_self m, h⟩, ?_⟩
      exact ⟨(x, s3), F3, _, S3, hq, fun y hs' σ4 F4 H4 S4 => ⟨F4, y.1, y.2, S4, hs'⟩⟩
theorem t_neNilE {q : Addr} {xs : List α} (hu : X.A.units + 64 < cLine) (ha : EE X B env os a (rAdr q) (ret ())) (hj : (q, oLst r xs) ∈ os) : ET X B env os (.Compare a [.NotEq] [.List [] p2] pos) (ret (!xs.isEmpty)) :=
  PT.imp (pt_cmpR (op_neNil hu) ha (pe_lst pa_nil) (nomark _)) fun σ H Q ⟨F, P, S, hw, k⟩ => ⟨F, fun _ => P (!xs.isEmpty), S, hw, fun _ hx v F1 H1 S1 e1 ok1 => by
    obtain rfl : v = .ref q := ok1
    obtain ⟨_, vs, g3, g4, pr⟩ := S1.lst hj
    refine ⟨Nat.zero_le _, fun p' hp => ?_⟩
    have g : Grow F1 H1 (upd F1 p' (.lst [])) (upd H1 p' (.lst [])) := Grow.alloc S1.fh hp
    have em : vs.isEmpty = xs.isEmpty := by
      have := pr.length
      cases vs <;> cases xs <;> first | rfl | (simp at this)
    refine ⟨q, p', vs, rfl, rfl, SqL.of (Ex.new hp _ _ g3), upd_same, ?_⟩
    rw [em]
    exact ⟨_, rfl, k _ hx _ _ (S1.grow g) (e1.trans g.f)⟩⟩
end
theorem Sit.freezeAll {B : Bs} {H : Hp} {σ : L2.St} {env : Env} {q : Addr × Own} : ∀ {os : Os} {F : Hp}, Sit B F H σ env (os ++ [q]) → ∃ F', Ex F F' ∧ Sit B F' H σ env [q] ∧ ∀ p ∈ os, ∃ o, F' p.1 = some o ∧ p.2.ok F' o
  | [], F, S => ⟨F, Ex.refl F, S, fun p hp => by cases hp⟩
  | p :: os, F, S => by
    obtain ⟨F1, o, e1, h1, h2, S1⟩ := Sit.freeze (p := p.1) (ow := p.2) S
    obtain ⟨F2, e2, S2, h⟩ := Sit.freezeAll S1
    refine ⟨F2, e1.trans e2, S2, fun q hq => ?_⟩
    rcases List.mem_cons.mp hq with z | z
    · subst z
      exact ⟨o, e2 _ _ h1, q.2.mono e2 h2⟩
    · exact h q z
/-- frozen rows are a value -/
theorem frz_rows {F : Hp} {c : Addr} {M : List Rw2} {o : HO} (h1 : F c = some o) (h2 : (oLst rP M).ok F o) (h3 : ∀ p ∈ M, ∃ o, F p.1 = some o ∧ (oLst rInt p.2).ok F o) : (rLst (rLst rInt)).ok F (.ref c) (M.map (·.2)) := by
  obtain ⟨vs, e, hl, pr⟩ := h2
  subst e
  refine ⟨c, vs, rfl, h1, hl, ?_⟩
  clear h1 hl
  induction pr with
  | nil => exact .nil
  | @cons v p vs M r t ih =>
    refine .cons ?_ (ih fun q hq => h3 q (List.mem_cons_of_mem _ hq))
    obtain ⟨o, h4, us, e, hl, pu⟩ := h3 p List.mem_cons_self
    subst e
    exact ⟨p.1, us, r, h4, hl, pu⟩
end Mi
namespace Mi
open PySem L2 Evl PyProof.Rows
theorem mOs_in {a : Addr} {M : List Rw2} {os : Os} : (a, oLst rP M) ∈ mOs a M ++ os := List.mem_append_left _ List.mem_cons_self
theorem mOs_row {a : Addr} {M : List Rw2} {os : Os} : ∀ p ∈ M, rowO p ∈ mOs a M ++ os := fun p hp => List.mem_append_left _ (List.mem_cons_of_mem _ (List.mem_map_of_mem hp))
theorem mOs_keys {a : Addr} {M : List Rw2} : (mOs a M).map (·.1) = a :: M.map (·.1) := by
  show a :: (M.map rowO).map (·.1) = _
  rw [keys_rowO]
theorem tos_start {C : Addr} {k : TK} {s : TRs} : OsW (mOs k.orr s.r ++ ((k.d, oObj C (fT k)) :: (mOs k.ol s.l ++ mOs k.ow s.w))) (tos C k s) ∧ (((mOs k.orr s.r ++ ((k.d, oObj C (fT k)) :: (mOs k.ol s.l ++ mOs k.ow s.w))).map (·.1)).Nodup → ((tos C k s).map (·.1)).Nodup) := by
  refine ⟨osW_tos (List.mem_append_right _ List.mem_cons_self) ⟨s.w, List.mem_append_right _ (List.mem_cons_of_mem _ (List.mem_append_right _ List.mem_cons_self)), rfl⟩ ⟨s.l, List.mem_append_right _ (List.mem_cons_of_mem _ mOs_in), rfl⟩ ⟨s.r, mOs_in, rfl⟩ fun p hp => ?_, fun nd => ?_⟩
  · rcases List.mem_append.mp hp with h | h
    · exact List.mem_append_right _ (List.mem_cons_of_mem _ (List.mem_append_right _ (List.mem_cons_of_mem _ (List.mem_map_of_mem h))))
    rcases List.mem_append.mp h with h | h
    · exact List.mem_append_right _ (List.mem_cons_of_mem _ (mOs_row p h))
    · exact mOs_row p h
  · rw [tos_keys]
    rw [List.map_append, List.map_cons, List.map_append, mOs_keys, mOs_keys, mOs_keys] at nd
    refine (List.Perm.nodup_iff ?_).mp nd
    show List.Perm _ (k.d :: k.ow :: k.ol :: k.orr :: (s.w ++ (s.l ++ s.r)).map (·.1))
    rw [List.map_append, List.map_append]
    generalize s.w.map (·.1) = W
    generalize s.l.map (·.1) = L
    generalize s.r.map (·.1) = R
    refine List.perm_iff_count.mpr fun x => ?_
    simp only [List.count_append, List.count_cons]
    omega
/-- made: what it holds will not change again -/
theorem made_T {B : Bs} {C : Addr} {k : TK} {s : TRs} {rk : Int} {β : Type} {fl : β → List (Str × Slot)} {y : β} {env : Env}
    (hfl : fl y = ([(("own_rows" : Str), sv (rLst (rLst rInt)) k.rows), ("work", sv (rLst (rLst rInt)) (s.w.map (·.2))), ("wide", sv rInt k.wide), ("own_left", sv (rLst (rLst rInt)) (s.l.map (·.2))), ("own_right", sv (rLst (rLst rInt)) (s.r.map (·.2))), ("own_rank", sv rInt rk)] : List (Str × Slot))) :
    NxOk B (pIn B C k.d fl) env ((k.d, oObj C (putS "own_rank" (sv rInt rk) (fT k))) :: (tos C k s).tail) y := ⟨fun D q σ F H z => by
  have p : (((k.d, oObj C (putS "own_rank" (sv rInt rk) (fT k))) :: (tos C k s).tail) : Os).Perm ((tos C k s).tail ++ [(k.d, oObj C (putS "own_rank" (sv rInt rk) (fT k)))]) := (List.perm_append_singleton _ _).symm
  obtain ⟨F2, e, S2, fz⟩ := Sit.freezeAll (z.perm p)
  refine q.2 σ F2 H S2.fin fun p hp => ?_
  rw [List.mem_singleton.mp hp]
  obtain ⟨h1, ⟨o, h2, dx, vs, h3, h4⟩, h5⟩ := S2.ow _ List.mem_cons_self
  refine ⟨h1, ⟨o, h2, dx, vs, h3, ?_⟩, h5⟩
  rw [hfl]
  have row : ∀ p ∈ s.all, ∃ o, F2 p.1 = some o ∧ (oLst rInt p.2).ok F2 o := fun p hp => fz (rowO p) (List.mem_cons_of_mem _ (List.mem_cons_of_mem _ (List.mem_cons_of_mem _ (List.mem_map_of_mem hp))))
  obtain ⟨o1, w1, w2⟩ := fz (k.ow, oLst rP s.w) List.mem_cons_self
  obtain ⟨o2, l1, l2⟩ := fz (k.ol, oLst rP s.l) (List.mem_cons_of_mem _ List.mem_cons_self)
  obtain ⟨o3, r1, r2⟩ := fz (k.orr, oLst rP s.r) (List.mem_cons_of_mem _ (List.mem_cons_of_mem _ List.mem_cons_self))
  have fw := frz_rows w1 w2 fun p hp => row p (List.mem_append_left _ hp)
  have flt := frz_rows l1 l2 fun p hp => row p (List.mem_append_right _ (List.mem_append_left _ hp))
  have fr := frz_rows r1 r2 fun p hp => row p (List.mem_append_right _ (List.mem_append_right _ hp))
  have h4 : Flds F2 [(("own_rows" : Str), sv (rLst (rLst rInt)) k.rows), ("work", sv (rAdr k.ow) ()), ("wide", sv rInt k.wide), ("own_left", sv (rAdr k.ol) ()), ("own_right", sv (rAdr k.orr) ()), ("own_rank", sv rInt rk)] vs := h4
  match vs, h4 with
  | _, .cons a (.cons ⟨b1, vb, b2, b3⟩ (.cons d (.cons ⟨e1, ve, e2, e3⟩ (.cons ⟨g1, vg, g2, g3⟩ (.cons i .nil))))) =>
    refine .cons a (.cons ⟨b1, vb, b2, ?_⟩ (.cons d (.cons ⟨e1, ve, e2, ?_⟩ (.cons ⟨g1, vg, g2, ?_⟩ (.cons i .nil)))))
    · obtain rfl : vb = .ref k.ow := b3
      exact fw
    · obtain rfl : ve = .ref k.ol := e3
      exact flt
    · obtain rfl : vg = .ref k.orr := g3
      exact fr⟩
end Mi
local macro_rules | `(tactic| walk_at "wn") => `(tactic| first | with_reducible rfl | (simp only [Mi.wn_bb, Mi.wn_br, Mi.wn_rb]; done) | (funext q; rfl))
local macro_rules | `(tactic| walk_at "lev") => `(tactic| first | decide | exact Nat.le_refl _ | exact Nat.le_trans (by decide) (Nat.le_add_right _ _))
local macro_rules | `(tactic| walk_at "loc") => `(tactic| first | exact Or.inl rfl | exact Or.inr rfl)
namespace K10
open PySem L2 Evl Mi
def topS (i : Nat) : Stmt := PySem.Challenge.pw_anydial_k10_rows_refused.main.body.getD i (.Pass ⟨0, 0, 0, 0⟩)
abbrev s_is_whole : Stmt := topS 6
abbrev N_is_whole : List Str := ["value"]
theorem sc_is_whole : FnScope N_is_whole ["value"] (defScope s_is_whole) := ⟨rfl, rfl, rfl, by decide +kernel, rfl, by decide +kernel, by decide +kernel⟩
abbrev s_need_rows : Stmt := topS 8
abbrev N_need_rows : List Str := ["rows", "at", "row", "item"]
theorem sc_need_rows : FnScope N_need_rows ["rows"] (defScope s_need_rows) := ⟨rfl, rfl, rfl, by decide +kernel, rfl, by decide +kernel, by decide +kernel⟩
abbrev s_unit_rows : Stmt := topS 9
abbrev N_unit_rows : List Str := ["size", "k", "at"]
theorem sc_unit_rows : FnScope N_unit_rows ["size"] (defScope s_unit_rows) := ⟨rfl, rfl, rfl, by decide +kernel, rfl, by decide +kernel, by decide +kernel⟩
abbrev s_less : Stmt := topS 10
abbrev N_less : List Str := ["row", "factor", "other", "left", "right"]
theorem sc_less : FnScope N_less ["row", "factor", "other"] (defScope s_less) := ⟨rfl, rfl, rfl, by decide +kernel, rfl, by decide +kernel, by decide +kernel⟩
abbrev s_least_row : Stmt := topS 11
abbrev N_least_row : List Str := ["rows", "at", "sizes", "row"]
theorem sc_least_row : FnScope N_least_row ["rows", "at"] (defScope s_least_row) := ⟨rfl, rfl, rfl, by decide +kernel, rfl, by decide +kernel, by decide +kernel⟩
abbrev s_parted : Stmt := topS 12
abbrev N_parted : List Str := ["rows", "at", "live", "still", "row", "spot", "first", "late", "k"]
theorem sc_parted : FnScope N_parted ["rows", "at"] (defScope s_parted) := ⟨rfl, rfl, rfl, by decide +kernel, rfl, by decide +kernel, by decide +kernel⟩
abbrev s_hermite : Stmt := topS 13
abbrev N_hermite : List Str := ["rows", "work", "found", "row", "wide", "at", "pivot", "item"]
theorem sc_hermite : FnScope N_hermite ["rows"] (defScope s_hermite) := ⟨rfl, rfl, rfl, by decide +kernel, rfl, by decide +kernel, by decide +kernel⟩
abbrev s_Turning_add_row : Stmt := inClass (topS 15) 4
abbrev N_Turning_add_row : List Str := ["self", "k", "other", "times", "rows", "left", "right"]
theorem sc_Turning_add_row : FnScope N_Turning_add_row ["self", "k", "other", "times"] (defScope s_Turning_add_row) := ⟨rfl, rfl, rfl, by decide +kernel, rfl, by decide +kernel, by decide +kernel⟩
abbrev s_Turning_bring_least : Stmt := inClass (topS 15) 1
abbrev N_Turning_bring_least : List Str := ["self", "at", "best", "k", "j", "size", "rows", "row"]
theorem sc_Turning_bring_least : FnScope N_Turning_bring_least ["self", "at"] (defScope s_Turning_bring_least) := ⟨rfl, rfl, rfl, by decide +kernel, rfl, by decide +kernel, by decide +kernel⟩
abbrev s_Turning_clear_cross : Stmt := inClass (topS 15) 2
abbrev N_Turning_clear_cross : List Str := ["self", "at", "corner", "clean", "k", "j", "times", "row"]
theorem sc_Turning_clear_cross : FnScope N_Turning_clear_cross ["self", "at"] (defScope s_Turning_clear_cross) := ⟨rfl, rfl, rfl, by decide +kernel, rfl, by decide +kernel, by decide +kernel⟩
abbrev s_Turning_mix_in : Stmt := inClass (topS 15) 3
abbrev N_Turning_mix_in : List Str := ["self", "at", "corner", "k", "j"]
theorem sc_Turning_mix_in : FnScope N_Turning_mix_in ["self", "at"] (defScope s_Turning_mix_in) := ⟨rfl, rfl, rfl, by decide +kernel, rfl, by decide +kernel, by decide +kernel⟩
abbrev s_Turning_make_positive : Stmt := inClass (topS 15) 5
abbrev N_Turning_make_positive : List Str := ["self", "at"]
theorem sc_Turning_make_positive : FnScope N_Turning_make_positive ["self", "at"] (defScope s_Turning_make_positive) := ⟨rfl, rfl, rfl, by decide +kernel, rfl, by decide +kernel, by decide +kernel⟩
abbrev s_Turning_init : Stmt := inClass (topS 15) 0
abbrev N_Turning_init : List Str := ["self", "rows", "row", "at"]
theorem sc_Turning_init : FnScope N_Turning_init ["self", "rows"] (defScope s_Turning_init) := ⟨rfl, rfl, rfl, by decide +kernel, rfl, by decide +kernel, by decide +kernel⟩
abbrev s_Turning_left : Stmt := inClass (topS 15) 8
abbrev N_Turning_left : List Str := ["self", "row"]
theorem sc_Turning_left : FnScope N_Turning_left ["self"] (defScope s_Turning_left) := ⟨rfl, rfl, rfl, by decide +kernel, rfl, by decide +kernel, by decide +kernel⟩
abbrev s_Turning_right : Stmt := inClass (topS 15) 9
abbrev N_Turning_right : List Str := ["self", "row"]
theorem sc_Turning_right : FnScope N_Turning_right ["self"] (defScope s_Turning_right) := ⟨rfl, rfl, rfl, by decide +kernel, rfl, by decide +kernel, by decide +kernel⟩
abbrev s_law_bag : Stmt := topS 17
abbrev N_law_bag : List Str := ["_law_script", "_law_mark", "_law_cell"]
theorem sc_law_bag : FnScope N_law_bag ["_law_script"] (defScope s_law_bag) := ⟨rfl, rfl, rfl, by decide +kernel, rfl, by decide +kernel, by decide +kernel⟩
abbrev s_law_draw : Stmt := topS 18
abbrev N_law_draw : List Str := ["_law_bag_here", "_law_most", "_law_cell", "_law_digit", "_law_base", "_law_late"]
theorem sc_law_draw : FnScope N_law_draw ["_law_bag_here", "_law_most"] (defScope s_law_draw) := ⟨rfl, rfl, rfl, by decide +kernel, rfl, by decide +kernel, by decide +kernel⟩
abbrev s_law_any : Stmt := topS 19
abbrev N_law_any : List Str := ["_law_bag_here", "_law_some"]
theorem sc_law_any : FnScope N_law_any ["_law_bag_here", "_law_some"] (defScope s_law_any) := ⟨rfl, rfl, rfl, by decide +kernel, rfl, by decide +kernel, by decide +kernel⟩
abbrev s_law_same : Stmt := topS 20
abbrev N_law_same : List Str := ["_law_found", "_law_due"]
theorem sc_law_same : FnScope N_law_same ["_law_found", "_law_due"] (defScope s_law_same) := ⟨rfl, rfl, rfl, by decide +kernel, rfl, by decide +kernel, by decide +kernel⟩
abbrev s_law_field : Stmt := topS 21
abbrev N_law_field : List Str := ["_law_e"]
theorem sc_law_field : FnScope N_law_field ["_law_e"] (defScope s_law_field) := ⟨rfl, rfl, rfl, by decide +kernel, rfl, by decide +kernel, by decide +kernel⟩
abbrev s_law_got : Stmt := topS 22
abbrev N_law_got : List Str := ["_law_ask", "_law_e"]
theorem sc_law_got : FnScope N_law_got ["_law_ask"] (defScope s_law_got) := ⟨rfl, rfl, rfl, by decide +kernel, rfl, by decide +kernel, by decide +kernel⟩
abbrev s_law_all_got : Stmt := topS 23
abbrev N_law_all_got : List Str := ["_law_asks", "_law_ask"]
theorem sc_law_all_got : FnScope N_law_all_got ["_law_asks"] (defScope s_law_all_got) := ⟨rfl, rfl, rfl, by decide +kernel, rfl, by decide +kernel, by decide +kernel⟩
abbrev s_law_code : Stmt := topS 24
abbrev N_law_code : List Str := ["_law_ask"]
theorem sc_law_code : FnScope N_law_code ["_law_ask"] (defScope s_law_code) := ⟨rfl, rfl, rfl, by decide +kernel, rfl, by decide +kernel, by decide +kernel⟩
abbrev s_law_rows : Stmt := topS 25
abbrev N_law_rows : List Str := ["_law_bag_here", "_law_many", "_law_wide", "_law_far", "_law_found", "_law_k", "_law_way", "_law_by", "_law_item", "_law_at"]
theorem sc_law_rows : FnScope N_law_rows ["_law_bag_here", "_law_many", "_law_wide", "_law_far"] (defScope s_law_rows) := ⟨rfl, rfl, rfl, by decide +kernel, rfl, by decide +kernel, by decide +kernel⟩
abbrev s_law : Stmt := topS 26
abbrev N_law : List Str := ["_law_script", "_law_bag_here", "_law_turn", "_law_many", "_law_wide", "_law_rows_z", "_law_spot", "_law_bad", "_law_bent", "_law_asks", "_law_none", "_law_good", "_law_row"]
theorem sc_law : FnScope N_law ["_law_script"] (defScope s_law) := ⟨rfl, rfl, rfl, by decide +kernel, rfl, by decide +kernel, by decide +kernel⟩
/-- where the defs stand -/
structure Ad where
  f_is_whole : Addr
  d_is_whole : FuncData
  f_need_rows : Addr
  d_need_rows : FuncData
  f_unit_rows : Addr
  d_unit_rows : FuncData
  f_less : Addr
  d_less : FuncData
  f_least_row : Addr
  d_least_row : FuncData
  f_parted : Addr
  d_parted : FuncData
  f_hermite : Addr
  d_hermite : FuncData
  f_Turning_add_row : Addr
  d_Turning_add_row : FuncData
  f_Turning_bring_least : Addr
  d_Turning_bring_least : FuncData
  f_Turning_clear_cross : Addr
  d_Turning_clear_cross : FuncData
  f_Turning_mix_in : Addr
  d_Turning_mix_in : FuncData
  f_Turning_make_positive : Addr
  d_Turning_make_positive : FuncData
  f_Turning_init : Addr
  d_Turning_init : FuncData
  f_Turning_left : Addr
  d_Turning_left : FuncData
  f_Turning_right : Addr
  d_Turning_right : FuncData
  f_law_bag : Addr
  d_law_bag : FuncData
  f_law_draw : Addr
  d_law_draw : FuncData
  f_law_any : Addr
  d_law_any : FuncData
  f_law_same : Addr
  d_law_same : FuncData
  f_law_field : Addr
  d_law_field : FuncData
  f_law_got : Addr
  d_law_got : FuncData
  f_law_all_got : Addr
  d_law_all_got : FuncData
  f_law_code : Addr
  d_law_code : FuncData
  f_law_rows : Addr
  d_law_rows : FuncData
  f_law : Addr
  d_law : FuncData
  c_Turning : Addr
  c_DialError : Addr
  c_InvalidRows : Addr
  c_Missing : Addr
  fx_InvalidRows : Addr
  cc_InvalidRows : Addr
  kx_InvalidRows : Addr
  d_xInvalidRows : FuncData
abbrev ftb : FTab := [("InvalidRows", some "at")]
abbrev sx_InvalidRows : Stmt := inClass (topS 3) 0
abbrev nf_InvalidRows (ad : Ad) : NdefX.NF := { name := "__init__", qual := "InvalidRows.__init__", params := defArgs sx_InvalidRows, body := defBody sx_InvalidRows, scope := defScope sx_InvalidRows, cl := [("__class__", ad.cc_InvalidRows)], c := ad.kx_InvalidRows }
theorem ns_InvalidRows : NdefX.NScope ["self", "at", "__class__"] ["self", "at"] ["__class__"] (defScope sx_InvalidRows) := NdefX.nscope_by (by decide +kernel)
theorem sa_InvalidRows : (defScope sx_InvalidRows).names.lookup ("super" : Str) = some .globalImplicit := by decide +kernel
theorem sb_InvalidRows : (defScope sx_InvalidRows).names.lookup ("__class__" : Str) = some .free := by decide +kernel
structure Turning_ where
  own_rows : (List (List Int))
  work : (List (List Int))
  wide : Int
  own_left : (List (List Int))
  own_right : (List (List Int))
  own_rank : Int
abbrev fl_Turning (K : PySem.W.Frag) (ad : Ad) (x : Turning_) : List (Str × Slot) := [("own_rows", sv (rLst (rLst rInt)) x.own_rows), ("work", sv (rLst (rLst rInt)) x.work), ("wide", sv rInt x.wide), ("own_left", sv (rLst (rLst rInt)) x.own_left), ("own_right", sv (rLst (rLst rInt)) x.own_right), ("own_rank", sv rInt x.own_rank)]
def obT (K : PySem.W.Frag) (ad : Ad) : Nat → Rp Unit

  | _ => rAll
theorem plob_ {K : PySem.W.Frag} {ad : Ad} : ∀ n, PlR (obT K ad n)

  | (_ + 0) => pl_all
abbrev tbl (K : PySem.W.Frag) (ad : Ad) : ETab := ⟨[("InvalidRows", ad.c_InvalidRows, some "at")], obT K ad⟩
structure Txt_0 (P : Program) (K : PySem.W.Frag) (mg : Str → Option Value) (ad : Ad) : Prop where
  b_abs : mg "abs" = none
  b_all : mg "all" = none
  b_any : mg "any" = none
  b_bool : mg "bool" = none
  b_enumerate : mg "enumerate" = none
  b_int : mg "int" = none
  b_isinstance : mg "isinstance" = none
  b_len : mg "len" = none
  b_list : mg "list" = none
  b_min : mg "min" = none
  b_range : mg "range" = none
  b_repr : mg "repr" = none
  b_super : mg "super" = none
  b_tuple : mg "tuple" = none
  b_zip : mg "zip" = none
  m_is_whole : mg "is_whole" = some (.ref ad.f_is_whole)
  F_is_whole : Fun K "is_whole" "is_whole" s_is_whole ad.f_is_whole ad.d_is_whole
  bd_is_whole : Binds K ad.d_is_whole ["value"] []
  m_need_rows : mg "need_rows" = some (.ref ad.f_need_rows)
  F_need_rows : Fun K "need_rows" "need_rows" s_need_rows ad.f_need_rows ad.d_need_rows
  bd_need_rows : Binds K ad.d_need_rows ["rows"] []
  m_unit_rows : mg "unit_rows" = some (.ref ad.f_unit_rows)
  F_unit_rows : Fun K "unit_rows" "unit_rows" s_unit_rows ad.f_unit_rows ad.d_unit_rows
  bd_unit_rows : Binds K ad.d_unit_rows ["size"] []
  m_less : mg "less" = some (.ref ad.f_less)
  F_less : Fun K "less" "less" s_less ad.f_less ad.d_less
  bd_less : Binds K ad.d_less ["row", "factor", "other"] []
  m_least_row : mg "least_row" = some (.ref ad.f_least_row)
  F_least_row : Fun K "least_row" "least_row" s_least_row ad.f_least_row ad.d_least_row
  bd_least_row : Binds K ad.d_least_row ["rows", "at"] []
  m_parted : mg "parted" = some (.ref ad.f_parted)
  F_parted : Fun K "parted" "parted" s_parted ad.f_parted ad.d_parted
  bd_parted : Binds K ad.d_parted ["rows", "at"] []
  m_hermite : mg "hermite" = some (.ref ad.f_hermite)
  F_hermite : Fun K "hermite" "hermite" s_hermite ad.f_hermite ad.d_hermite
  bd_hermite : Binds K ad.d_hermite ["rows"] []
  F_Turning_add_row : Fun K "add_row" "Turning.add_row" s_Turning_add_row ad.f_Turning_add_row ad.d_Turning_add_row
  bd_Turning_add_row : Binds K ad.d_Turning_add_row ["self", "k", "other", "times"] []
  F_Turning_bring_least : Fun K "bring_least" "Turning.bring_least" s_Turning_bring_least ad.f_Turning_bring_least ad.d_Turning_bring_least
  bd_Turning_bring_least : Binds K ad.d_Turning_bring_least ["self", "at"] []
  F_Turning_clear_cross : Fun K "clear_cross" "Turning.clear_cross" s_Turning_clear_cross ad.f_Turning_clear_cross ad.d_Turning_clear_cross
  bd_Turning_clear_cross : Binds K ad.d_Turning_clear_cross ["self", "at"] []
  F_Turning_mix_in : Fun K "mix_in" "Turning.mix_in" s_Turning_mix_in ad.f_Turning_mix_in ad.d_Turning_mix_in
  bd_Turning_mix_in : Binds K ad.d_Turning_mix_in ["self", "at"] []
  F_Turning_make_positive : Fun K "make_positive" "Turning.make_positive" s_Turning_make_positive ad.f_Turning_make_positive ad.d_Turning_make_positive
  bd_Turning_make_positive : Binds K ad.d_Turning_make_positive ["self", "at"] []
  F_Turning_init : Fun K "__init__" "Turning.__init__" s_Turning_init ad.f_Turning_init ad.d_Turning_init
  bd_Turning_init : Binds K ad.d_Turning_init ["self", "rows"] []
  F_Turning_left : Fun K "left" "Turning.left" s_Turning_left ad.f_Turning_left ad.d_Turning_left
  bd_Turning_left : Binds K ad.d_Turning_left ["self"] []
  F_Turning_right : Fun K "right" "Turning.right" s_Turning_right ad.f_Turning_right ad.d_Turning_right
  bd_Turning_right : Binds K ad.d_Turning_right ["self"] []
  m_law_bag : mg "_law_bag" = some (.ref ad.f_law_bag)
  F_law_bag : Fun K "_law_bag" "_law_bag" s_law_bag ad.f_law_bag ad.d_law_bag
  bd_law_bag : Binds K ad.d_law_bag ["_law_script"] []
  m_law_draw : mg "_law_draw" = some (.ref ad.f_law_draw)
  F_law_draw : Fun K "_law_draw" "_law_draw" s_law_draw ad.f_law_draw ad.d_law_draw
  bd_law_draw : Binds K ad.d_law_draw ["_law_bag_here", "_law_most"] []
  m_law_any : mg "_law_any" = some (.ref ad.f_law_any)
  F_law_any : Fun K "_law_any" "_law_any" s_law_any ad.f_law_any ad.d_law_any
structure Txt_1 (P : Program) (K : PySem.W.Frag) (mg : Str → Option Value) (ad : Ad) : Prop where
  bd_law_any : Binds K ad.d_law_any ["_law_bag_here", "_law_some"] []
  m_law_same : mg "_law_same" = some (.ref ad.f_law_same)
  F_law_same : Fun K "_law_same" "_law_same" s_law_same ad.f_law_same ad.d_law_same
  bd_law_same : Binds K ad.d_law_same ["_law_found", "_law_due"] []
  m_law_field : mg "_law_field" = some (.ref ad.f_law_field)
  F_law_field : Fun K "_law_field" "_law_field" s_law_field ad.f_law_field ad.d_law_field
  bd_law_field : Binds K ad.d_law_field ["_law_e"] []
  m_law_got : mg "_law_got" = some (.ref ad.f_law_got)
  F_law_got : Fun K "_law_got" "_law_got" s_law_got ad.f_law_got ad.d_law_got
  bd_law_got : Binds K ad.d_law_got ["_law_ask"] []
  m_law_all_got : mg "_law_all_got" = some (.ref ad.f_law_all_got)
  F_law_all_got : Fun K "_law_all_got" "_law_all_got" s_law_all_got ad.f_law_all_got ad.d_law_all_got
  bd_law_all_got : Binds K ad.d_law_all_got ["_law_asks"] []
  m_law_code : mg "_law_code" = some (.ref ad.f_law_code)
  F_law_code : Fun K "_law_code" "_law_code" s_law_code ad.f_law_code ad.d_law_code
  bd_law_code : Binds K ad.d_law_code ["_law_ask"] []
  m_law_rows : mg "_law_rows" = some (.ref ad.f_law_rows)
  F_law_rows : Fun K "_law_rows" "_law_rows" s_law_rows ad.f_law_rows ad.d_law_rows
  bd_law_rows : Binds K ad.d_law_rows ["_law_bag_here", "_law_many", "_law_wide", "_law_far"] []
  m_law : mg "law" = some (.ref ad.f_law)
  F_law : Fun K "law" "law" s_law ad.f_law ad.d_law
  bd_law : Binds K ad.d_law ["_law_script"] []
  cb_Turning_add_row_3 : CB K ad.d_Turning_add_row ["self", "k", "other", "times"] 1 3 [] [0, 1, 2] []
  cb_Turning_bring_least_1 : CB K ad.d_Turning_bring_least ["self", "at"] 1 1 [] [0] []
  cb_Turning_clear_cross_1 : CB K ad.d_Turning_clear_cross ["self", "at"] 1 1 [] [0] []
  cb_Turning_init_0_rows : CB K ad.d_Turning_init ["self", "rows"] 1 0 ["rows"] [0] []
  cb_Turning_init_1 : CB K ad.d_Turning_init ["self", "rows"] 1 1 [] [0] []
  cb_Turning_left_0 : CB K ad.d_Turning_left ["self"] 1 0 [] [] []
  cb_Turning_make_positive_1 : CB K ad.d_Turning_make_positive ["self", "at"] 1 1 [] [0] []
  cb_Turning_mix_in_1 : CB K ad.d_Turning_mix_in ["self", "at"] 1 1 [] [0] []
  cb_Turning_right_0 : CB K ad.d_Turning_right ["self"] 1 0 [] [] []
  cb_hermite_0_rows : CB K ad.d_hermite ["rows"] 0 0 ["rows"] [0] []
  cb_hermite_1 : CB K ad.d_hermite ["rows"] 0 1 [] [0] []
  cb_need_rows_1 : CB K ad.d_need_rows ["rows"] 0 1 [] [0] []
  cb_unit_rows_1 : CB K ad.d_unit_rows ["size"] 0 1 [] [0] []
  n_Turning : mg "Turning" = some (.ref ad.c_Turning)
  cl_Turning : Cls K ad.c_Turning
  mk_Turning : Mk K ad.c_Turning ad.f_Turning_init
  na_Turning_own_left : NoAttr K ad.c_Turning "own_left"
  na_Turning_own_rank : NoAttr K ad.c_Turning "own_rank"
  na_Turning_own_right : NoAttr K ad.c_Turning "own_right"
  na_Turning_own_rows : NoAttr K ad.c_Turning "own_rows"
  na_Turning_wide : NoAttr K ad.c_Turning "wide"
  na_Turning_work : NoAttr K ad.c_Turning "work"
  mt_Turning_add_row : Meth K ad.c_Turning "add_row" ad.f_Turning_add_row
  mt_Turning_bring_least : Meth K ad.c_Turning "bring_least" ad.f_Turning_bring_least
  mt_Turning_clear_cross : Meth K ad.c_Turning "clear_cross" ad.f_Turning_clear_cross
  mt_Turning_left : Meth K ad.c_Turning "left" ad.f_Turning_left
  mt_Turning_make_positive : Meth K ad.c_Turning "make_positive" ad.f_Turning_make_positive
  mt_Turning_mix_in : Meth K ad.c_Turning "mix_in" ad.f_Turning_mix_in
  mt_Turning_right : Meth K ad.c_Turning "right" ad.f_Turning_right
  n_DialError : mg "DialError" = some (.ref ad.c_DialError)
  n_InvalidRows : mg "InvalidRows" = some (.ref ad.c_InvalidRows)
  n_Missing : mg "Missing" = some (.ref ad.c_Missing)
  ox_InvalidRows : OexG K ad.c_InvalidRows "ValueError.__new__" PySem.HandSPX.veTail
  ai_InvalidRows : PySem.W.findIn K (.ref ad.c_InvalidRows) "__init__" = some (some (.ref ad.fx_InvalidRows))
  ti_InvalidRows : PySem.W.typeIn K (.ref ad.fx_InvalidRows) = some (.type "function")
  su_InvalidRows : SupG K P ad.c_InvalidRows ad.fx_InvalidRows (nf_InvalidRows ad) ad.d_xInvalidRows ad.cc_InvalidRows "ValueError" "ValueError.__new__" "ValueError.__init__" PySem.HandSPX.veTail
  xb_InvalidRows : Binds K ad.d_xInvalidRows ["self", "at"] []
  xc_InvalidRows : PySem.W.findIn K (.ref ad.c_InvalidRows) "code" = some none
structure Txt_2 (P : Program) (K : PySem.W.Frag) (mg : Str → Option Value) (ad : Ad) : Prop where
  xn_InvalidRows : PySem.W.findIn K (.ref ad.c_InvalidRows) "at" = some none
  tbok : TbOk K (tbl K ad) ftb
  xall : ∀ t ∈ tbl K ad, PySem.W.exmAny K (.ref t.2.1) [.ref ad.c_DialError, .ref ad.c_Missing] = some true
structure Txt (P : Program) (K : PySem.W.Frag) (mg : Str → Option Value) (ad : Ad) : Prop extends Txt_0 P K mg ad, Txt_1 P K mg ad, Txt_2 P K mg ad
section
variable {P : Program} {w : World} {K : PySem.W.Frag} {mg : Str → Option Value} {base : Heap} {ad : Ad}
theorem ex_InvalidRows (T : Txt P K mg ad) : FnOk P w K mg base CX0 1 ad.fx_InvalidRows ad.d_xInvalidRows ["self", "at"] (spE1 ad.c_InvalidRows "at" "InvalidRows") :=
  exc_fn1G (N := ["self", "at", "__class__"]) T.su_InvalidRows ns_InvalidRows T.b_super rfl rfl ⟨_, _, _, _, _, _, rfl, fun L => ⟨⟨_, rfl⟩, rfl, rfl⟩⟩ sa_InvalidRows sb_InvalidRows (by decide) (by decide) (by decide) (by decide) T.xn_InvalidRows T.xc_InvalidRows (fun _ => rfl) (fun _ => rfl)
def m_is_whole_v0 (a_value : Int) : W Bool :=
  bnd (bnd (ret (true)) fun c1 => if c1 = true then (ret (!false)) else ret false) fun z => ret z
theorem ok_is_whole_v0 (T : Txt P K mg ad) : FnOk P w K mg base CX0 1 ad.f_is_whole ad.d_is_whole ["value"] (spW (fun i : Int × Unit => [sv rInt i.1]) (fun _ => []) (fun i => m_is_whole_v0 i.1) rBool) := by
  refine okW T.F_is_whole sc_is_whole (fun _ => rfl) fun cdv A outer s0 H0 E0 B i hr => ?_
  obtain ⟨a_value, _⟩ := i
  have hu := hr.units
  have hu2 := room100 hr
  have hu8 := Nat.lt_of_le_of_lt (Nat.add_le_add_left (show 8 ≤ 100 by decide) _) hu2
  show BG _ _ _ _ _ _ (m_is_whole_v0 a_value)
  unfold m_is_whole_v0
  exact b_ret RtOk.fn OsW.nil (e_conv (e_and (e_isB (T := "int") (k := true) ty_int (kit_ty (by decide +kernel)) (e_name 0) T.b_isinstance T.b_int) (e_one (e_not (e_isB (T := "bool") (k := false) ty_int (kit_ty (by decide +kernel)) (e_name 0) T.b_isinstance T.b_bool)))) (by walk_at "wn"))
def m_is_whole_v1 (a_value : PyData) : W Bool :=
  bnd (bnd (ret (tyInt (tyD a_value))) fun c1 => if c1 = true then (ret (!(tyD a_value == "bool"))) else ret false) fun z => ret z
theorem ok_is_whole_v1 (T : Txt P K mg ad) : FnOk P w K mg base CX0 1 ad.f_is_whole ad.d_is_whole ["value"] (spW (fun i : PyData × Unit => [sv (rD K) i.1]) (fun _ => []) (fun i => m_is_whole_v1 i.1) rBool) := by
  refine okW T.F_is_whole sc_is_whole (fun _ => rfl) fun cdv A outer s0 H0 E0 B i hr => ?_
  obtain ⟨a_value, _⟩ := i
  have hu := hr.units
  have hu2 := room100 hr
  have hu8 := Nat.lt_of_le_of_lt (Nat.add_le_add_left (show 8 ≤ 100 by decide) _) hu2
  show BG _ _ _ _ _ _ (m_is_whole_v1 a_value)
  unfold m_is_whole_v1
  exact b_ret RtOk.fn OsW.nil (e_conv (e_and (e_isBD (T := "int") (k := tyInt) kd_int (e_name 0) T.b_isinstance T.b_int) (e_one (e_not (e_isBD (T := "bool") (k := fun t => t == "bool") kd_bool (e_name 0) T.b_isinstance T.b_bool)))) (by walk_at "wn"))
def m_need_rows_v0_l1 (a_rows : (List (List Int))) (s3 : Unit) (x2 : (Int × (List Int))) : W Unit :=
  bnd (bnd (ret (!true)) fun c7 => if c7 = true then ret true else (bnd (mapW (fun (x4 : Int) => noX (m_is_whole_v0 x4)) x2.2) fun ys6 => ret (!(ys6.all id)))) fun b9 => if b9 = true then (fail) else (bnd (bnd (idx a_rows ((0 : Int))) fun t10 => ret (!decide ((x2.2.length : Int) = (t10.length : Int)))) fun b11 => if b11 = true then (fail) else (ret (())))
def m_need_rows_v0 (a_rows : (List (List Int))) : W Unit :=
  bnd (ret (!true)) fun b1 => if b1 = true then (fail) else (bnd (ret ((rangeI 0 a_rows.length).zip a_rows)) fun xs12 => bnd (forW (m_need_rows_v0_l1 a_rows) (()) xs12) fun (s13 : Unit) => ret ())
theorem ok_need_rows_v0 (T : Txt P K mg ad) : FnOk P w K mg base CX0 2 ad.f_need_rows ad.d_need_rows ["rows"] (spW (fun i : (List (List Int)) × Unit => [sv (rLst (rLst rInt)) i.1]) (fun _ => []) (fun i => m_need_rows_v0 i.1) rNon) := by
  refine okW T.F_need_rows sc_need_rows (fun _ => rfl) fun cdv A outer s0 H0 E0 B i hr => ?_
  obtain ⟨a_rows, _⟩ := i
  have hu := hr.units
  have hu2 := room100 hr
  have hu8 := Nat.lt_of_le_of_lt (Nat.add_le_add_left (show 8 ≤ 100 by decide) _) hu2
  show BG _ _ _ _ _ _ (m_need_rows_v0 a_rows)
  unfold m_need_rows_v0
  refine b_ifA (t_conv (t_not (t_val (e_isLT_lst (e_name 0) T.b_isinstance T.b_list T.b_tuple))) (by walk_at "wn")) ?_ ?_
  · exact b_never
  · refine b_for (S := Unit) (fun s => [sv (rLst (rLst rInt)) a_rows, sa, sa, sa]) (fun s => []) (() : Unit) rfl PassesOwn.never (s_conv (s_enum (e_name 0) T.b_enumerate) (by walk_at "wn")) (tg_pair (i := 1) (j := 2)) (pg_tup rfl (pgs_cons (pg_name (i := 1) sc_need_rows.nd rfl (by walk_at "loc")) (pgs_cons (pg_name (i := 2) sc_need_rows.nd rfl (by walk_at "loc")) pgs_nil))) (fun M s3 x2 => ?_) (fun s13 => ?_) ⟨.inl rfl, .inr rfl, .inr rfl, .inr rfl, trivial⟩ rfl
    · unfold m_need_rows_v0_l1
      refine b_ifA (t_conv (t_pw (w_or (t_not (t_val (e_isLT_lst (e_name 2) T.b_isinstance T.b_list T.b_tuple))) (w_or1 (t_not (t_val (e_all rfl (e_new (n_comp (s := rBool) rfl sc_need_rows.nd (s_list (e_name 2)) (blkOk_by (own := [("item", 3)]) rfl) (tg_name (i := 3)) (fun _ _ _ _ _ => (pg_name (i := 3) sc_need_rows.nd rfl (by walk_at "loc"))) (by decide) (fun _ _ _ _ _ _ _ _ _ => (e_call (ok_is_whole_v0 T) (hr.mono (by walk_at "lev")) T.m_is_whole T.F_is_whole.kp T.bd_is_whole (aa_cons (e_name 3) fun _ => aa_nil) (fun _ => OsLe.none) (fun _ => List.nodup_nil))))) T.b_all)))))) (by walk_at "wn")) ?_ ?_
      · exact b_never
      · refine b_ifA (t_conv (t_neI (e_len (e_name 2) T.b_len) fun _ => (e_len (e_idx (e_name 0) fun _ => e_int) T.b_len)) (by walk_at "wn")) ?_ ?_
        · exact b_never
        · exact b_end (NxOk.nxS (s := (() : Unit)) ⟨.inl rfl, .inr rfl, .inr rfl, .inr rfl, trivial⟩ .slnil)
    · exact b_end (NxOk.fn OsW.nil)
def m_need_rows_v1_l1 (a_rows : (List (List Int))) (s3 : Unit) (x2 : (Int × (List Int))) : W Unit :=
  bnd (bnd (ret (!true)) fun c7 => if c7 = true then ret true else (bnd (mapW (fun (x4 : Int) => noX (m_is_whole_v0 x4)) x2.2) fun ys6 => ret (!(ys6.all id)))) fun b9 => if b9 = true then (fail) else (bnd (bnd (idx a_rows ((0 : Int))) fun t10 => ret (!decide ((x2.2.length : Int) = (t10.length : Int)))) fun b11 => if b11 = true then (fail) else (ret (())))
def m_need_rows_v1 (a_rows : (List (List Int))) : W Unit :=
  bnd (ret (!true)) fun b1 => if b1 = true then (fail) else (bnd (ret ((rangeI 0 a_rows.length).zip a_rows)) fun xs12 => bnd (forW (m_need_rows_v1_l1 a_rows) (()) xs12) fun (s13 : Unit) => ret ())
theorem ok_need_rows_v1 (T : Txt P K mg ad) : FnOk P w K mg base CX0 2 ad.f_need_rows ad.d_need_rows ["rows"] (spW (fun i : (List (List Int)) × Unit => [sv (rLst (rTup K rInt)) i.1]) (fun _ => []) (fun i => m_need_rows_v1 i.1) rNon) := by
  refine okW T.F_need_rows sc_need_rows (fun _ => rfl) fun cdv A outer s0 H0 E0 B i hr => ?_
  obtain ⟨a_rows, _⟩ := i
  have hu := hr.units
  have hu2 := room100 hr
  have hu8 := Nat.lt_of_le_of_lt (Nat.add_le_add_left (show 8 ≤ 100 by decide) _) hu2
  show BG _ _ _ _ _ _ (m_need_rows_v1 a_rows)
  unfold m_need_rows_v1
  refine b_ifA (t_conv (t_not (t_val (e_isLT_lst (e_name 0) T.b_isinstance T.b_list T.b_tuple))) (by walk_at "wn")) ?_ ?_
  · exact b_never
  · refine b_for (S := Unit) (fun s => [sv (rLst (rTup K rInt)) a_rows, sa, sa, sa]) (fun s => []) (() : Unit) rfl PassesOwn.never (s_conv (s_enum (e_name 0) T.b_enumerate) (by walk_at "wn")) (tg_pair (i := 1) (j := 2)) (pg_tup rfl (pgs_cons (pg_name (i := 1) sc_need_rows.nd rfl (by walk_at "loc")) (pgs_cons (pg_name (i := 2) sc_need_rows.nd rfl (by walk_at "loc")) pgs_nil))) (fun M s3 x2 => ?_) (fun s13 => ?_) ⟨.inl rfl, .inr rfl, .inr rfl, .inr rfl, trivial⟩ rfl
    · unfold m_need_rows_v1_l1
      refine b_ifA (t_conv (t_pw (w_or (t_not (t_val (e_isLT_tup (e_name 2) T.b_isinstance T.b_list T.b_tuple))) (w_or1 (t_not (t_val (e_all rfl (e_new (n_comp (s := rBool) rfl sc_need_rows.nd (s_tup (e_name 2)) (blkOk_by (own := [("item", 3)]) rfl) (tg_name (i := 3)) (fun _ _ _ _ _ => (pg_name (i := 3) sc_need_rows.nd rfl (by walk_at "loc"))) (by decide) (fun _ _ _ _ _ _ _ _ _ => (e_call (ok_is_whole_v0 T) (hr.mono (by walk_at "lev")) T.m_is_whole T.F_is_whole.kp T.bd_is_whole (aa_cons (e_name 3) fun _ => aa_nil) (fun _ => OsLe.none) (fun _ => List.nodup_nil))))) T.b_all)))))) (by walk_at "wn")) ?_ ?_
      · exact b_never
      · refine b_ifA (t_conv (t_neI (e_lenT (e_name 2) T.b_len) fun _ => (e_lenT (e_idx (e_name 0) fun _ => e_int) T.b_len)) (by walk_at "wn")) ?_ ?_
        · exact b_never
        · exact b_end (NxOk.nxS (s := (() : Unit)) ⟨.inl rfl, .inr rfl, .inr rfl, .inr rfl, trivial⟩ .slnil)
    · exact b_end (NxOk.fn OsW.nil)
def m_need_rows_v2_l1 (a_rows : (List PyData)) (s3 : Unit) (x2 : (Int × PyData)) : W Unit :=
  bnd (bnd (ret (!((tyD x2.2 == "list" || tyD x2.2 == "tuple")))) fun c8 => if c8 = true then ret true else (bnd (seqD x2.2) fun l4 => bnd (mapW (fun (x5 : PyData) => noX (m_is_whole_v1 x5)) l4) fun ys7 => ret (!(ys7.all id)))) fun b10 => if b10 = true then (bnd (ret (x2.1)) fun v => thr ⟨"InvalidRows", [.int v]⟩) else (bnd (bnd (lenD x2.2) fun t11 => bnd (idx a_rows ((0 : Int))) fun t12 => bnd (lenD t12) fun t13 => ret (!decide (t11 = t13))) fun b14 => if b14 = true then (bnd (ret (x2.1)) fun v => thr ⟨"InvalidRows", [.int v]⟩) else (ret (())))
def m_need_rows_v2 (a_rows : (List PyData)) : W Unit :=
  bnd (ret (!true)) fun b1 => if b1 = true then (fail) else (bnd (ret ((rangeI 0 a_rows.length).zip a_rows)) fun xs15 => bnd (forW (m_need_rows_v2_l1 a_rows) (()) xs15) fun (s16 : Unit) => ret ())
theorem ok_need_rows_v2 (T : Txt P K mg ad) : FnOk P w K mg base (L2.CX P w) 3 ad.f_need_rows ad.d_need_rows ["rows"] (spX K (tbl K ad) (fun i : (List PyData) × Unit => [sv (rLst (rD K)) i.1]) (fun _ => []) (fun i => m_need_rows_v2 i.1) rNon) := by
  refine okX T.F_need_rows sc_need_rows (fun _ => rfl) fun cdv A outer s0 H0 E0 B i hr tk hpo => ?_
  obtain ⟨a_rows, _⟩ := i
  have hu := hr.units
  have hu2 := room100 hr
  have hu8 := Nat.lt_of_le_of_lt (Nat.add_le_add_left (show 8 ≤ 100 by decide) _) hu2
  show BG _ _ _ _ _ _ (m_need_rows_v2 a_rows)
  unfold m_need_rows_v2
  refine b_ifA (t_conv (t_not (t_val (e_isLT_lst (e_name 0) T.b_isinstance T.b_list T.b_tuple))) (by walk_at "wn")) ?_ ?_
  · exact b_never
  · refine b_for (S := Unit) (fun s => [sv (rLst (rD K)) a_rows, sa, sa, sa]) (fun s => []) (() : Unit) rfl (passes_of rfl) (s_conv (s_enum (e_name 0) T.b_enumerate) (by walk_at "wn")) (tg_pair (i := 1) (j := 2)) (pg_tup rfl (pgs_cons (pg_name (i := 1) sc_need_rows.nd rfl (by walk_at "loc")) (pgs_cons (pg_name (i := 2) sc_need_rows.nd rfl (by walk_at "loc")) pgs_nil))) (fun M s3 x2 => ?_) (fun s16 => ?_) ⟨.inl rfl, .inr rfl, .inr rfl, .inr rfl, trivial⟩ rfl
    · unfold m_need_rows_v2_l1
      refine b_ifA (t_conv (t_pw (w_or (t_not (t_val (e_isTD (k := fun t => t == "list" || t == "tuple") kt_lt (e_name 2) T.b_isinstance T.b_list T.b_tuple))) (w_or1 (t_not (t_val (e_all rfl (e_new (n_comp (s := rBool) rfl sc_need_rows.nd (s_seqD (e_name 2)) (blkOk_by (own := [("item", 3)]) rfl) (tg_name (i := 3)) (fun _ _ _ _ _ => (pg_name (i := 3) sc_need_rows.nd rfl (by walk_at "loc"))) (by decide) (fun _ _ _ _ _ _ _ _ _ => (e_call (ok_is_whole_v1 T) (hr.mono (by walk_at "lev")) T.m_is_whole T.F_is_whole.kp T.bd_is_whole (aa_cons (e_name 3) fun _ => aa_nil) (fun _ => OsLe.none) (fun _ => List.nodup_nil))))) T.b_all)))))) (by walk_at "wn")) ?_ ?_
      · exact b_conv (b_raise1G foot_value tk rfl (List.Mem.head _) (by decide) T.ox_InvalidRows T.ai_InvalidRows T.ti_InvalidRows (ex_InvalidRows T) (hr.mono (by walk_at "lev")) T.xb_InvalidRows T.n_InvalidRows dd_int (by decide) (e_conv (e_name 1) (by walk_at "wn"))) rfl
      · refine b_ifA (t_conv (t_neI (e_lenD (e_name 2) T.b_len) fun _ => (e_lenD (e_idx (e_name 0) fun _ => e_int) T.b_len)) (by walk_at "wn")) ?_ ?_
        · exact b_conv (b_raise1G foot_value tk rfl (List.Mem.head _) (by decide) T.ox_InvalidRows T.ai_InvalidRows T.ti_InvalidRows (ex_InvalidRows T) (hr.mono (by walk_at "lev")) T.xb_InvalidRows T.n_InvalidRows dd_int (by decide) (e_conv (e_name 1) (by walk_at "wn"))) rfl
        · exact b_end (NxOk.nxS (s := (() : Unit)) ⟨.inl rfl, .inr rfl, .inr rfl, .inr rfl, trivial⟩ .slnil)
    · exact b_end (NxOk.fn OsW.nil)
def m_need_rows_v3_l1 (a_rows : (List PyData)) (s3 : Unit) (x2 : (Int × PyData)) : W Unit :=
  bnd (bnd (ret (!((tyD x2.2 == "list" || tyD x2.2 == "tuple")))) fun c8 => if c8 = true then ret true else (bnd (seqD x2.2) fun l4 => bnd (mapW (fun (x5 : PyData) => noX (m_is_whole_v1 x5)) l4) fun ys7 => ret (!(ys7.all id)))) fun b10 => if b10 = true then (bnd (ret (x2.1)) fun v => thr ⟨"InvalidRows", [.int v]⟩) else (bnd (bnd (lenD x2.2) fun t11 => bnd (idx a_rows ((0 : Int))) fun t12 => bnd (lenD t12) fun t13 => ret (!decide (t11 = t13))) fun b14 => if b14 = true then (bnd (ret (x2.1)) fun v => thr ⟨"InvalidRows", [.int v]⟩) else (ret (())))
def m_need_rows_v3 (a_rows : (List PyData)) : W Unit :=
  bnd (ret (!true)) fun b1 => if b1 = true then (fail) else (bnd (ret ((rangeI 0 a_rows.length).zip a_rows)) fun xs15 => bnd (forW (m_need_rows_v3_l1 a_rows) (()) xs15) fun (s16 : Unit) => ret ())
theorem ok_need_rows_v3 (T : Txt P K mg ad) : FnOk P w K mg base (L2.CX P w) 3 ad.f_need_rows ad.d_need_rows ["rows"] (spX K (tbl K ad) (fun i : (List PyData) × Unit => [sv (rTup K (rD K)) i.1]) (fun _ => []) (fun i => m_need_rows_v3 i.1) rNon) := by
  refine okX T.F_need_rows sc_need_rows (fun _ => rfl) fun cdv A outer s0 H0 E0 B i hr tk hpo => ?_
  obtain ⟨a_rows, _⟩ := i
  have hu := hr.units
  have hu2 := room100 hr
  have hu8 := Nat.lt_of_le_of_lt (Nat.add_le_add_left (show 8 ≤ 100 by decide) _) hu2
  show BG _ _ _ _ _ _ (m_need_rows_v3 a_rows)
  unfold m_need_rows_v3
  refine b_ifA (t_conv (t_not (t_val (e_isLT_tup (e_name 0) T.b_isinstance T.b_list T.b_tuple))) (by walk_at "wn")) ?_ ?_
  · exact b_never
  · refine b_for (S := Unit) (fun s => [sv (rTup K (rD K)) a_rows, sa, sa, sa]) (fun s => []) (() : Unit) rfl (passes_of rfl) (s_conv (s_enumT (e_name 0) T.b_enumerate) (by walk_at "wn")) (tg_pair (i := 1) (j := 2)) (pg_tup rfl (pgs_cons (pg_name (i := 1) sc_need_rows.nd rfl (by walk_at "loc")) (pgs_cons (pg_name (i := 2) sc_need_rows.nd rfl (by walk_at "loc")) pgs_nil))) (fun M s3 x2 => ?_) (fun s16 => ?_) ⟨.inl rfl, .inr rfl, .inr rfl, .inr rfl, trivial⟩ rfl
    · unfold m_need_rows_v3_l1
      refine b_ifA (t_conv (t_pw (w_or (t_not (t_val (e_isTD (k := fun t => t == "list" || t == "tuple") kt_lt (e_name 2) T.b_isinstance T.b_list T.b_tuple))) (w_or1 (t_not (t_val (e_all rfl (e_new (n_comp (s := rBool) rfl sc_need_rows.nd (s_seqD (e_name 2)) (blkOk_by (own := [("item", 3)]) rfl) (tg_name (i := 3)) (fun _ _ _ _ _ => (pg_name (i := 3) sc_need_rows.nd rfl (by walk_at "loc"))) (by decide) (fun _ _ _ _ _ _ _ _ _ => (e_call (ok_is_whole_v1 T) (hr.mono (by walk_at "lev")) T.m_is_whole T.F_is_whole.kp T.bd_is_whole (aa_cons (e_name 3) fun _ => aa_nil) (fun _ => OsLe.none) (fun _ => List.nodup_nil))))) T.b_all)))))) (by walk_at "wn")) ?_ ?_
      · exact b_conv (b_raise1G foot_value tk rfl (List.Mem.head _) (by decide) T.ox_InvalidRows T.ai_InvalidRows T.ti_InvalidRows (ex_InvalidRows T) (hr.mono (by walk_at "lev")) T.xb_InvalidRows T.n_InvalidRows dd_int (by decide) (e_conv (e_name 1) (by walk_at "wn"))) rfl
      · refine b_ifA (t_conv (t_neI (e_lenD (e_name 2) T.b_len) fun _ => (e_lenD (e_idxT (e_name 0) fun _ => e_int) T.b_len)) (by walk_at "wn")) ?_ ?_
        · exact b_conv (b_raise1G foot_value tk rfl (List.Mem.head _) (by decide) T.ox_InvalidRows T.ai_InvalidRows T.ti_InvalidRows (ex_InvalidRows T) (hr.mono (by walk_at "lev")) T.xb_InvalidRows T.n_InvalidRows dd_int (by decide) (e_conv (e_name 1) (by walk_at "wn"))) rfl
        · exact b_end (NxOk.nxS (s := (() : Unit)) ⟨.inl rfl, .inr rfl, .inr rfl, .inr rfl, trivial⟩ .slnil)
    · exact b_end (NxOk.fn OsW.nil)
def m_need_rows_v4 (a_rows : PyData) : W Unit :=
  bnd (ret (!((tyD a_rows == "list" || tyD a_rows == "tuple")))) fun b1 => if b1 = true then (bnd (ret (-((1 : Int)))) fun v => thr ⟨"InvalidRows", [.int v]⟩) else (fail)
theorem ok_need_rows_v4 (T : Txt P K mg ad) : FnOk P w K mg base (L2.CX P w) 3 ad.f_need_rows ad.d_need_rows ["rows"] (spX K (tbl K ad) (fun i : PyData × Unit => [sv (rD K) i.1]) (fun _ => []) (fun i => m_need_rows_v4 i.1) rNon) := by
  refine okX T.F_need_rows sc_need_rows (fun _ => rfl) fun cdv A outer s0 H0 E0 B i hr tk hpo => ?_
  obtain ⟨a_rows, _⟩ := i
  have hu := hr.units
  have hu2 := room100 hr
  have hu8 := Nat.lt_of_le_of_lt (Nat.add_le_add_left (show 8 ≤ 100 by decide) _) hu2
  show BG _ _ _ _ _ _ (m_need_rows_v4 a_rows)
  unfold m_need_rows_v4
  refine b_ifA (t_conv (t_not (t_val (e_isTD (k := fun t => t == "list" || t == "tuple") kt_lt (e_name 0) T.b_isinstance T.b_list T.b_tuple))) (by walk_at "wn")) ?_ ?_
  · exact b_conv (b_raise1G foot_value tk rfl (List.Mem.head _) (by decide) T.ox_InvalidRows T.ai_InvalidRows T.ti_InvalidRows (ex_InvalidRows T) (hr.mono (by walk_at "lev")) T.xb_InvalidRows T.n_InvalidRows dd_int (by decide) (e_conv (e_neg e_int) (by walk_at "wn"))) rfl
  · exact b_never
def m_unit_rows (a_size : Int) : W (List (List Int)) :=
  bnd (bnd (rng1 a_size) fun l1 => mapW (fun (x2 : Int) => bnd (rng1 a_size) fun l3 => mapW (fun (x4 : Int) => ret ((if decide (x4 = x2) = true then 1 else 0))) l3) l1) ret
theorem ok_unit_rows (T : Txt P K mg ad) : FnOk P w K mg base CX0 1 ad.f_unit_rows ad.d_unit_rows ["size"] (spM2 (fun i : Int × Unit => [sv rInt i.1]) (fun i => m_unit_rows i.1)) := by
  refine okM2 T.F_unit_rows sc_unit_rows (fun _ => rfl) fun cdv A outer s0 H0 E0 B i hr => ?_
  obtain ⟨a_size, _⟩ := i
  have hu := hr.units
  have hu2 := room100 hr
  have hu8 := Nat.lt_of_le_of_lt (Nat.add_le_add_left (show 8 ≤ 100 by decide) _) hu2
  show BG _ _ _ _ _ _ (m_unit_rows a_size)
  unfold m_unit_rows
  exact b_retM (m_conv (m_comp rfl sc_unit_rows.nd (s_rng1 (e_name 0) T.b_range) (blkOk_by (own := [("at", 2)]) rfl) (tg_name (i := 2)) (fun _ _ _ _ _ => (pg_name (i := 2) sc_unit_rows.nd rfl (by walk_at "loc"))) (by decide) (fun _ _ _ _ _ _ _ _ _ => (n_comp (s := rInt) rfl sc_unit_rows.nd (s_rng1 (e_name 0) T.b_range) (blkOk_by (own := [("k", 1)]) rfl) (tg_name (i := 1)) (fun _ _ _ _ _ => (pg_name (i := 1) sc_unit_rows.nd rfl (by walk_at "loc"))) (by decide) (fun _ _ _ _ _ _ _ _ _ => (e_intB (e_eqI (e_name 1) fun _ => (e_name 2)) T.b_int))))) (by walk_at "wn"))
def m_less (a_row : (List Int)) (a_factor : Int) (a_other : (List Int)) : W (List Int) :=
  bnd (mapW (fun (x1 : (Int × Int)) => bnd (mulI a_factor x1.2) fun t2 => ret (x1.1 - t2)) (a_row.zip a_other)) fun z => ret z
theorem ok_less (T : Txt P K mg ad) : FnOk P w K mg base CX0 1 ad.f_less ad.d_less ["row", "factor", "other"] (spW (fun i : (List Int) × Int × (List Int) × Unit => [sv (rLst rInt) i.1, sv rInt i.2.1, sv (rLst rInt) i.2.2.1]) (fun _ => []) (fun i => m_less i.1 i.2.1 i.2.2.1) (rLst rInt)) := by
  refine okW T.F_less sc_less (fun _ => rfl) fun cdv A outer s0 H0 E0 B i hr => ?_
  obtain ⟨a_row, a_factor, a_other, _⟩ := i
  have hu := hr.units
  have hu2 := room100 hr
  have hu8 := Nat.lt_of_le_of_lt (Nat.add_le_add_left (show 8 ≤ 100 by decide) _) hu2
  show BG _ _ _ _ _ _ (m_less a_row a_factor a_other)
  unfold m_less
  exact b_ret RtOk.fn OsW.nil (e_conv (e_new (n_comp (s := rInt) rfl sc_less.nd (s_zip (e_name 0) (fun _ => (e_name 2)) T.b_zip) (blkOk_by (own := [("left", 3), ("right", 4)]) rfl) (tg_pair (i := 3) (j := 4)) (fun _ _ _ _ _ => (pg_tup rfl (pgs_cons (pg_name (i := 3) sc_less.nd rfl (by walk_at "loc")) (pgs_cons (pg_name (i := 4) sc_less.nd rfl (by walk_at "loc")) pgs_nil)))) (by decide) (fun _ _ _ _ _ _ _ _ _ => (e_sub (e_name 3) fun _ => (e_mul (e_name 1) fun _ => (e_name 4)))))) (by walk_at "wn"))
def m_least_row (a_rows : (List (List Int))) (a_at : Int) : W Int :=
  bnd (mapW (fun (x2 : (List Int)) => bnd (idx x2 a_at) fun t3 => ret ((t3.natAbs : Int))) a_rows) fun sizes_1 => bnd (bnd (chk (sizes_1 ≠ []) (ret (minL sizes_1))) fun t5 => chk (t5 ∈ sizes_1) (ret ((List.idxOf t5 sizes_1 : Nat) : Int))) fun z => ret z
theorem ok_least_row (T : Txt P K mg ad) : FnOk P w K mg base CX0 1 ad.f_least_row ad.d_least_row ["rows", "at"] (spW (fun i : (List (List Int)) × Int × Unit => [sv (rLst (rLst rInt)) i.1, sv rInt i.2.1]) (fun _ => []) (fun i => m_least_row i.1 i.2.1) rInt) := by
  refine okW T.F_least_row sc_least_row (fun _ => rfl) fun cdv A outer s0 H0 E0 B i hr => ?_
  obtain ⟨a_rows, a_at, _⟩ := i
  have hu := hr.units
  have hu2 := room100 hr
  have hu8 := Nat.lt_of_le_of_lt (Nat.add_le_add_left (show 8 ≤ 100 by decide) _) hu2
  show BG _ _ _ _ _ _ (m_least_row a_rows a_at)
  unfold m_least_row
  first | refine b_setC 2 (c_conv (c_comp (s := rInt) rfl sc_least_row.nd (s_list (e_name 0)) (blkOk_by (own := [("row", 3)]) rfl) (tg_name (i := 3)) (fun _ _ _ _ _ => (pg_name (i := 3) sc_least_row.nd rfl (by walk_at "loc"))) (by decide) (fun _ _ _ _ _ _ _ _ _ => (e_abs (e_idx (e_name 3) fun _ => (e_name 1)) T.b_abs)) rfl rfl (sw_true rfl rfl rfl (by decide +kernel))) (by walk_at "wn")) (fun sizes_1 => ?_) | refine b_set 2 (e_conv (e_new (n_comp (s := rInt) rfl sc_least_row.nd (s_list (e_name 0)) (blkOk_by (own := [("row", 3)]) rfl) (tg_name (i := 3)) (fun _ _ _ _ _ => (pg_name (i := 3) sc_least_row.nd rfl (by walk_at "loc"))) (by decide) (fun _ _ _ _ _ _ _ _ _ => (e_abs (e_idx (e_name 3) fun _ => (e_name 1)) T.b_abs)))) (by walk_at "wn")) (fun sizes_1 => ?_) sc_least_row.nd
  exact b_ret RtOk.fn OsW.nil (e_conv (e_index (e_name 2) fun _ => (e_min rfl (e_name 2) T.b_min)) (by walk_at "wn"))
def m_parted_l1c (s12 : ((List (List Int)) × (List (List Int)))) : W Bool :=
  ret (decide (((1 : Int)) < ((s12.1.length : Int))))
def m_parted_l1 (a_at : Int) (s12 : ((List (List Int)) × (List (List Int)))) : W ((List (List Int)) × (List (List Int))) :=
  bnd (noX (m_least_row s12.1 a_at)) fun spot_13 => bnd (idx s12.1 spot_13) fun first_15 => bnd (filtW (fun (x18 : (Int × (List Int))) => ret (!decide (x18.1 = spot_13))) (fun (x18 : (Int × (List Int))) => bnd (idx x18.2 a_at) fun t19 => bnd (idx first_15 a_at) fun t20 => bnd (divI t19 t20) fun t21 => noX (m_less x18.2 t21 first_15)) ((rangeI 0 s12.1.length).zip s12.1)) fun late_17 => bnd (bnd (filtW (fun (x25 : (List Int)) => bnd (idx x25 a_at) fun t27 => ret (!decide (t27 = (0 : Int)))) (fun (x25 : (List Int)) => ret (x25)) late_17) fun ys26 => catL ([first_15]) ys26) fun live_24 => bnd (bnd (filtW (fun (x30 : (List Int)) => bnd (idx x30 a_at) fun t32 => ret (decide (t32 = (0 : Int)))) (fun (x30 : (List Int)) => ret (x30)) late_17) fun ys31 => catL s12.2 ys31) fun still_29 => ret ((live_24, still_29))
def m_parted (a_rows : (List (List Int))) (a_at : Int) : W ((Option (List Int)) × (List (List Int))) :=
  bnd (filtW (fun (x6 : (List Int)) => bnd (idx x6 a_at) fun t8 => ret (!decide (t8 = (0 : Int)))) (fun (x6 : (List Int)) => ret (x6)) a_rows) fun live_1 => bnd (filtW (fun (x9 : (List Int)) => bnd (idx x9 a_at) fun t11 => ret (decide (t11 = (0 : Int)))) (fun (x9 : (List Int)) => ret (x9)) a_rows) fun still_2 => bnd (whileW (m_parted_l1c) (m_parted_l1 a_at) ((live_1, still_2))) fun (s34 : ((List (List Int)) × (List (List Int)))) => bnd (bnd (bnd (ret (!(PyData.eqv ((fun xs => PyData.list (xs.map (fun xs => PyData.list (xs.map .int)))) s34.1) ((fun xs => PyData.list (xs.map (fun xs => PyData.list (xs.map .int)))) (([] : (List (List Int)))))))) fun c => if c = true then bnd (idx s34.1 ((0 : Int))) fun t35 => ret (some t35) else ret ((none : (Option (List Int))))) fun t36 => ret ((t36, s34.2))) fun z => ret z
theorem ok_parted (T : Txt P K mg ad) : FnOk P w K mg base CX0 2 ad.f_parted ad.d_parted ["rows", "at"] (spW (fun i : (List (List Int)) × Int × Unit => [sv (rLst (rLst rInt)) i.1, sv rInt i.2.1]) (fun _ => []) (fun i => m_parted i.1 i.2.1) (rT2 K (rOpt (rLst rInt)) (rLst (rLst rInt)))) := by
  refine okW T.F_parted sc_parted (fun _ => rfl) fun cdv A outer s0 H0 E0 B i hr => ?_
  obtain ⟨a_rows, a_at, _⟩ := i
  have hu := hr.units
  have hu2 := room100 hr
  have hu8 := Nat.lt_of_le_of_lt (Nat.add_le_add_left (show 8 ≤ 100 by decide) _) hu2
  show BG _ _ _ _ _ _ (m_parted a_rows a_at)
  unfold m_parted
  first | refine b_par2 (ps_par (i := 2) (j := 3) rfl sc_parted.nd rfl rfl (by decide) rfl rfl (pa2 (e_conv (e_new (n_compF (s := (rLst rInt)) rfl sc_parted.nd (s_list (e_name 0)) (blkOk_by (own := [("row", 4)]) rfl) (tg_name (i := 4)) (fun _ _ _ _ _ => (pg_name (i := 4) sc_parted.nd rfl (by walk_at "loc"))) (by decide) (fun _ _ _ _ _ _ _ _ _ => (t_neI (e_idx (e_name 4) fun _ => (e_name 1)) fun _ => e_int)) (fun _ _ _ _ _ _ _ _ _ => (e_name 4)))) (by walk_at "wn")) (fun _ => e_conv (e_new (n_compF (s := (rLst rInt)) rfl sc_parted.nd (s_list (e_name 0)) (blkOk_by (own := [("row", 4)]) rfl) (tg_name (i := 4)) (fun _ _ _ _ _ => (pg_name (i := 4) sc_parted.nd rfl (by walk_at "loc"))) (by decide) (fun _ _ _ _ _ _ _ _ _ => (t_eqI (e_idx (e_name 4) fun _ => (e_name 1)) fun _ => e_int)) (fun _ _ _ _ _ _ _ _ _ => (e_name 4)))) rfl)) rfl) (fun live_1 still_2 => ?_) | refine b_par2T (ps_asg (pe_tup (pa2 (e_conv (e_new (n_compF (s := (rLst rInt)) rfl sc_parted.nd (s_list (e_name 0)) (blkOk_by (own := [("row", 4)]) rfl) (tg_name (i := 4)) (fun _ _ _ _ _ => (pg_name (i := 4) sc_parted.nd rfl (by walk_at "loc"))) (by decide) (fun _ _ _ _ _ _ _ _ _ => (t_neI (e_idx (e_name 4) fun _ => (e_name 1)) fun _ => e_int)) (fun _ _ _ _ _ _ _ _ _ => (e_name 4)))) (by walk_at "wn")) (fun _ => e_conv (e_new (n_compF (s := (rLst rInt)) rfl sc_parted.nd (s_list (e_name 0)) (blkOk_by (own := [("row", 4)]) rfl) (tg_name (i := 4)) (fun _ _ _ _ _ => (pg_name (i := 4) sc_parted.nd rfl (by walk_at "loc"))) (by decide) (fun _ _ _ _ _ _ _ _ _ => (t_eqI (e_idx (e_name 4) fun _ => (e_name 1)) fun _ => e_int)) (fun _ _ _ _ _ _ _ _ _ => (e_name 4)))) rfl))) (pg_tup rfl (pgs_cons (pg_name (i := 2) sc_parted.nd rfl (by walk_at "loc")) (pgs_cons (pg_name (i := 3) sc_parted.nd rfl (by walk_at "loc")) pgs_nil)))) (fun live_1 still_2 => ?_)
  refine b_while (S := ((List (List Int)) × (List (List Int)))) (fun s => [sv (rLst (rLst rInt)) a_rows, sv rInt a_at, sv (rLst (rLst rInt)) s.1, sv (rLst (rLst rInt)) s.2, sa, sa, sa, sa, sa]) (fun s => []) ((live_1, still_2) : ((List (List Int)) × (List (List Int)))) PassesOwn.never (fun s12 => t_conv (t_gt (e_len (e_name 2) T.b_len) fun _ => e_int) rfl) (fun s12 => ?_) (fun s34 => ?_) ⟨.inl rfl, .inl rfl, .inl rfl, .inl rfl, .inr rfl, .inr rfl, .inr rfl, .inr rfl, .inr rfl, trivial⟩ rfl
  · unfold m_parted_l1
    refine b_set 5 (e_conv (e_call (ok_least_row T) (hr.mono (by walk_at "lev")) T.m_least_row T.F_least_row.kp T.bd_least_row (aa_cons (e_name 2) fun _ => (aa_cons (e_name 1) fun _ => aa_nil)) (fun _ => OsLe.none) (fun _ => List.nodup_nil)) (by walk_at "wn")) (fun spot_13 => ?_) sc_parted.nd
    refine b_set 6 (e_conv (e_idx (e_name 2) fun _ => (e_name 5)) (by walk_at "wn")) (fun first_15 => ?_) sc_parted.nd
    first | refine b_setC 7 (c_conv (c_compF (s := (rLst rInt)) rfl sc_parted.nd (s_enum (e_name 2) T.b_enumerate) (blkOk_by (own := [("row", 4), ("k", 8)]) rfl) (tg_pair (i := 8) (j := 4)) (fun _ _ _ _ _ => (pg_tup rfl (pgs_cons (pg_name (i := 8) sc_parted.nd rfl (by walk_at "loc")) (pgs_cons (pg_name (i := 4) sc_parted.nd rfl (by walk_at "loc")) pgs_nil)))) (by decide) (fun _ _ _ _ _ _ _ _ _ => (t_neI (e_name 8) fun _ => (e_name 5))) (fun _ _ _ _ _ _ _ _ _ => (e_call (ok_less T) (hr.mono (by walk_at "lev")) T.m_less T.F_less.kp T.bd_less (aa_cons (e_name 4) fun _ => (aa_cons (e_div (e_idx (e_name 4) fun _ => (e_name 1)) fun _ => (e_idx (e_name 6) fun _ => (e_name 1))) fun _ => (aa_cons (e_name 6) fun _ => aa_nil))) (fun _ => OsLe.none) (fun _ => List.nodup_nil))) rfl rfl (sw_true rfl rfl rfl (by decide +kernel))) (by walk_at "wn")) (fun late_17 => ?_) | refine b_set 7 (e_conv (e_new (n_compF (s := (rLst rInt)) rfl sc_parted.nd (s_enum (e_name 2) T.b_enumerate) (blkOk_by (own := [("row", 4), ("k", 8)]) rfl) (tg_pair (i := 8) (j := 4)) (fun _ _ _ _ _ => (pg_tup rfl (pgs_cons (pg_name (i := 8) sc_parted.nd rfl (by walk_at "loc")) (pgs_cons (pg_name (i := 4) sc_parted.nd rfl (by walk_at "loc")) pgs_nil)))) (by decide) (fun _ _ _ _ _ _ _ _ _ => (t_neI (e_name 8) fun _ => (e_name 5))) (fun _ _ _ _ _ _ _ _ _ => (e_call (ok_less T) (hr.mono (by walk_at "lev")) T.m_less T.F_less.kp T.bd_less (aa_cons (e_name 4) fun _ => (aa_cons (e_div (e_idx (e_name 4) fun _ => (e_name 1)) fun _ => (e_idx (e_name 6) fun _ => (e_name 1))) fun _ => (aa_cons (e_name 6) fun _ => aa_nil))) (fun _ => OsLe.none) (fun _ => List.nodup_nil))))) (by walk_at "wn")) (fun late_17 => ?_) sc_parted.nd
    refine b_set 2 (e_conv (e_new (n_cat (e_new (n_list (al_cons (e_name 6) al_nil))) fun _ => (e_new (n_compF (s := (rLst rInt)) rfl sc_parted.nd (s_list (e_name 7)) (blkOk_by (own := [("row", 4)]) rfl) (tg_name (i := 4)) (fun _ _ _ _ _ => (pg_name (i := 4) sc_parted.nd rfl (by walk_at "loc"))) (by decide) (fun _ _ _ _ _ _ _ _ _ => (t_neI (e_idx (e_name 4) fun _ => (e_name 1)) fun _ => e_int)) (fun _ _ _ _ _ _ _ _ _ => (e_name 4)))))) (by walk_at "wn")) (fun live_24 => ?_) sc_parted.nd
    refine b_set 3 (e_conv (e_new (n_cat (e_name 3) fun _ => (e_new (n_compF (s := (rLst rInt)) rfl sc_parted.nd (s_list (e_name 7)) (blkOk_by (own := [("row", 4)]) rfl) (tg_name (i := 4)) (fun _ _ _ _ _ => (pg_name (i := 4) sc_parted.nd rfl (by walk_at "loc"))) (by decide) (fun _ _ _ _ _ _ _ _ _ => (t_eqI (e_idx (e_name 4) fun _ => (e_name 1)) fun _ => e_int)) (fun _ _ _ _ _ _ _ _ _ => (e_name 4)))))) (by walk_at "wn")) (fun still_29 => ?_) sc_parted.nd
    exact b_end (NxOk.nxS (s := ((live_24, still_29) : ((List (List Int)) × (List (List Int))))) ⟨.inl rfl, .inl rfl, .inl rfl, .inl rfl, .inr rfl, .inr rfl, .inr rfl, .inr rfl, .inr rfl, trivial⟩ .slnil)
  · exact b_ret RtOk.fn OsW.nil (e_conv (e_tup2 (e_if (t_neD hu (dd_lst (dd_lst dd_int)) (dd_lst (dd_lst dd_int)) (e_name 2) fun _ => (e_new (n_list (r := (rLst rInt)) al_nil))) (e_toOpt (isn_ref ref_lst) (e_idx (e_name 2) fun _ => e_int)) (e_nonOpt (r := (rLst rInt)) e_non)) fun _ => (e_name 3)) (by walk_at "wn"))
def m_hermite_v0_l1 (s13 : ((List (List Int)) × (List (List Int)))) (x12 : Int) : W ((List (List Int)) × (List (List Int))) :=
  bnd (noX (m_parted s13.1 x12)) fun u15 => bnd (ret (!u15.1.isNone)) fun b16 => bnd (if b16 = true then (bnd (bnd (bnd (optW u15.1) fun t18 => bnd (idx t18 x12) fun t19 => ret (decide (((0 : Int)) < t19))) fun c => if c = true then ret (u15.1) else bnd (optW u15.1) fun t20 => bnd (mapW (fun (x21 : Int) => ret (-x21)) t20) fun ys22 => ret (some ys22)) fun pivot_17 => bnd (bnd (mapW (fun (x25 : (List Int)) => bnd (idx x25 x12) fun t26 => bnd (optW pivot_17) fun t27 => bnd (idx t27 x12) fun t28 => bnd (divI t26 t28) fun t29 => bnd (optW pivot_17) fun t30 => noX (m_less x25 t29 t30)) s13.2) fun ys32 => bnd (optW pivot_17) fun t33 => catL ys32 ([t33])) fun found_24 => ret (found_24)) else (ret (s13.2))) fun (s35 : (List (List Int))) => ret ((u15.2, s35))
def m_hermite_v0 (a_rows : (List (List Int))) : W (List (List Int)) :=
  bnd (noX (m_need_rows_v0 a_rows)) fun _ => bnd (mapW (fun (x6 : (List Int)) => ret (x6)) a_rows) fun work_2 => bnd (ret (([] : (List (List Int))))) fun found_3 => bnd (bnd (ret (!(PyData.eqv ((fun xs => PyData.list (xs.map (fun xs => PyData.list (xs.map .int)))) work_2) ((fun xs => PyData.list (xs.map (fun xs => PyData.list (xs.map .int)))) (([] : (List (List Int)))))))) fun c => if c = true then bnd (idx work_2 ((0 : Int))) fun t9 => ret ((t9.length : Int)) else ret ((0 : Int))) fun wide_8 => bnd (rng1 wide_8) fun xs36 => bnd (forW m_hermite_v0_l1 ((work_2, found_3)) xs36) fun (s37 : ((List (List Int)) × (List (List Int)))) => bnd (ret (s37.2)) fun z => ret z
theorem ok_hermite_v0 (T : Txt P K mg ad) : FnOk P w K mg base CX0 3 ad.f_hermite ad.d_hermite ["rows"] (spW (fun i : (List (List Int)) × Unit => [sv (rLst (rLst rInt)) i.1]) (fun _ => []) (fun i => m_hermite_v0 i.1) (rLst (rLst rInt))) := by
  refine okW T.F_hermite sc_hermite (fun _ => rfl) fun cdv A outer s0 H0 E0 B i hr => ?_
  obtain ⟨a_rows, _⟩ := i
  have hu := hr.units
  have hu2 := room100 hr
  have hu8 := Nat.lt_of_le_of_lt (Nat.add_le_add_left (show 8 ≤ 100 by decide) _) hu2
  show BG _ _ _ _ _ _ (m_hermite_v0 a_rows)
  unfold m_hermite_v0
  refine b_expr (e_conv (e_call (ok_need_rows_v0 T) (hr.mono (by walk_at "lev")) T.m_need_rows T.F_need_rows.kp T.bd_need_rows (aa_cons (e_name 0) fun _ => aa_nil) (fun _ => OsLe.none) (fun _ => List.nodup_nil)) (by walk_at "wn")) ?_
  first | refine b_par2 (ps_par (i := 1) (j := 2) rfl sc_hermite.nd rfl rfl (by decide) rfl rfl (pa2 (e_conv (e_new (n_comp (s := (rLst rInt)) rfl sc_hermite.nd (s_list (e_name 0)) (blkOk_by (own := [("row", 3)]) rfl) (tg_name (i := 3)) (fun _ _ _ _ _ => (pg_name (i := 3) sc_hermite.nd rfl (by walk_at "loc"))) (by decide) (fun _ _ _ _ _ _ _ _ _ => (e_new (n_listL (e_name 3) T.b_list))))) (by walk_at "wn")) (fun _ => e_conv (e_new (n_list (r := (rLst rInt)) al_nil)) rfl)) rfl) (fun work_2 found_3 => ?_) | refine b_par2T (ps_asg (pe_tup (pa2 (e_conv (e_new (n_comp (s := (rLst rInt)) rfl sc_hermite.nd (s_list (e_name 0)) (blkOk_by (own := [("row", 3)]) rfl) (tg_name (i := 3)) (fun _ _ _ _ _ => (pg_name (i := 3) sc_hermite.nd rfl (by walk_at "loc"))) (by decide) (fun _ _ _ _ _ _ _ _ _ => (e_new (n_listL (e_name 3) T.b_list))))) (by walk_at "wn")) (fun _ => e_conv (e_new (n_list (r := (rLst rInt)) al_nil)) rfl))) (pg_tup rfl (pgs_cons (pg_name (i := 1) sc_hermite.nd rfl (by walk_at "loc")) (pgs_cons (pg_name (i := 2) sc_hermite.nd rfl (by walk_at "loc")) pgs_nil)))) (fun work_2 found_3 => ?_)
  refine b_set 4 (e_conv (e_if (t_neD hu (dd_lst (dd_lst dd_int)) (dd_lst (dd_lst dd_int)) (e_name 1) fun _ => (e_new (n_list (r := (rLst rInt)) al_nil))) (e_len (e_idx (e_name 1) fun _ => e_int) T.b_len) e_int) (by walk_at "wn")) (fun wide_8 => ?_) sc_hermite.nd
  refine b_for (S := ((List (List Int)) × (List (List Int)))) (fun s => [sv (rLst (rLst rInt)) a_rows, sv (rLst (rLst rInt)) s.1, sv (rLst (rLst rInt)) s.2, sa, sv rInt wide_8, sa, sa, sa]) (fun s => []) ((work_2, found_3) : ((List (List Int)) × (List (List Int)))) rfl PassesOwn.never (s_conv (s_rng1 (e_name 4) T.b_range) (by walk_at "wn")) (tg_name (i := 5)) (pg_name (i := 5) sc_hermite.nd rfl (by walk_at "loc")) (fun M s13 x12 => ?_) (fun s37 => ?_) ⟨.inl rfl, .inl rfl, .inl rfl, .inr rfl, .inl rfl, .inr rfl, .inr rfl, .inr rfl, trivial⟩ rfl
  · unfold m_hermite_v0_l1
    refine b_tgt (is := [6, 1]) (ps_asg (show PE _ _ (tOf _ _ _ _ _) from e_conv (e_call (ok_parted T) (hr.mono (by walk_at "lev")) T.m_parted T.F_parted.kp T.bd_parted (aa_cons (e_name 1) fun _ => (aa_cons (e_name 5) fun _ => aa_nil)) (fun _ => OsLe.none) (fun _ => List.nodup_nil)) (by walk_at "wn")) (pg_tup rfl (pgs_cons (pg_name (i := 6) sc_hermite.nd rfl (by walk_at "loc")) (pgs_cons (pg_name (i := 1) sc_hermite.nd rfl (by walk_at "loc")) pgs_nil)))) (tg_pair (i := 6) (j := 1)) (fun u15 => ?_)
    refine b_ifJ (S := (List (List Int))) (fun s => [sv (rLst (rLst rInt)) a_rows, sv (rLst (rLst rInt)) u15.2, sv (rLst (rLst rInt)) s, sa, sv rInt wide_8, sv rInt x12, sa, sa]) (fun s => []) (t_conv (t_notN isn_opt (e_name 6)) (by walk_at "wn")) ?_ ?_ (fun s35 => ?_)
    · refine b_set 6 (e_conv (e_if (t_gt (e_idx (e_unopt (e_name 6)) fun _ => (e_name 5)) fun _ => e_int) (e_name 6) (e_toOpt (isn_ref ref_lst) (e_new (n_comp (s := rInt) rfl sc_hermite.nd (s_list (e_unopt (e_name 6))) (blkOk_by (own := [("item", 7)]) rfl) (tg_name (i := 7)) (fun _ _ _ _ _ => (pg_name (i := 7) sc_hermite.nd rfl (by walk_at "loc"))) (by decide) (fun _ _ _ _ _ _ _ _ _ => (e_neg (e_name 7))))))) (by walk_at "wn")) (fun pivot_17 => ?_) sc_hermite.nd
      refine b_set 2 (e_conv (e_new (n_cat (e_new (n_comp (s := (rLst rInt)) rfl sc_hermite.nd (s_list (e_name 2)) (blkOk_by (own := [("row", 3)]) rfl) (tg_name (i := 3)) (fun _ _ _ _ _ => (pg_name (i := 3) sc_hermite.nd rfl (by walk_at "loc"))) (by decide) (fun _ _ _ _ _ _ _ _ _ => (e_call (ok_less T) (hr.mono (by walk_at "lev")) T.m_less T.F_less.kp T.bd_less (aa_cons (e_name 3) fun _ => (aa_cons (e_div (e_idx (e_name 3) fun _ => (e_name 5)) fun _ => (e_idx (e_unopt (e_name 6)) fun _ => (e_name 5))) fun _ => (aa_cons (e_unopt (e_name 6)) fun _ => aa_nil))) (fun _ => OsLe.none) (fun _ => List.nodup_nil))))) fun _ => (e_new (n_list (al_cons (e_unopt (e_name 6)) al_nil))))) (by walk_at "wn")) (fun found_24 => ?_) sc_hermite.nd
      exact b_end (NxOk.nxS (s := (found_24 : (List (List Int)))) ⟨.inl rfl, .inl rfl, .inl rfl, .inr rfl, .inl rfl, .inl rfl, .inr rfl, .inr rfl, trivial⟩ .slnil)
    · exact b_end (NxOk.nxS (s := (s13.2 : (List (List Int)))) ⟨.inl rfl, .inl rfl, .inl rfl, .inr rfl, .inl rfl, .inl rfl, .inr rfl, .inr rfl, trivial⟩ .slnil)
    · exact b_end (NxOk.nxS (s := ((u15.2, s35) : ((List (List Int)) × (List (List Int))))) ⟨.inl rfl, .inl rfl, .inl rfl, .inr rfl, .inl rfl, .inr rfl, .inr rfl, .inr rfl, trivial⟩ .slnil)
  · exact b_ret RtOk.fn OsW.nil (e_conv (e_name 2) (by walk_at "wn"))
def m_hermite_v1_l1 (s13 : ((List (List Int)) × (List (List Int)))) (x12 : Int) : W ((List (List Int)) × (List (List Int))) :=
  bnd (noX (m_parted s13.1 x12)) fun u15 => bnd (ret (!u15.1.isNone)) fun b16 => bnd (if b16 = true then (bnd (bnd (bnd (optW u15.1) fun t18 => bnd (idx t18 x12) fun t19 => ret (decide (((0 : Int)) < t19))) fun c => if c = true then ret (u15.1) else bnd (optW u15.1) fun t20 => bnd (mapW (fun (x21 : Int) => ret (-x21)) t20) fun ys22 => ret (some ys22)) fun pivot_17 => bnd (bnd (mapW (fun (x25 : (List Int)) => bnd (idx x25 x12) fun t26 => bnd (optW pivot_17) fun t27 => bnd (idx t27 x12) fun t28 => bnd (divI t26 t28) fun t29 => bnd (optW pivot_17) fun t30 => noX (m_less x25 t29 t30)) s13.2) fun ys32 => bnd (optW pivot_17) fun t33 => catL ys32 ([t33])) fun found_24 => ret (found_24)) else (ret (s13.2))) fun (s35 : (List (List Int))) => ret ((u15.2, s35))
def m_hermite_v1 (a_rows : (List (List Int))) : W (List (List Int)) :=
  bnd (noX (m_need_rows_v1 a_rows)) fun _ => bnd (mapW (fun (x6 : (List Int)) => ret (x6)) a_rows) fun work_2 => bnd (ret (([] : (List (List Int))))) fun found_3 => bnd (bnd (ret (!(PyData.eqv ((fun xs => PyData.list (xs.map (fun xs => PyData.list (xs.map .int)))) work_2) ((fun xs => PyData.list (xs.map (fun xs => PyData.list (xs.map .int)))) (([] : (List (List Int)))))))) fun c => if c = true then bnd (idx work_2 ((0 : Int))) fun t9 => ret ((t9.length : Int)) else ret ((0 : Int))) fun wide_8 => bnd (rng1 wide_8) fun xs36 => bnd (forW m_hermite_v1_l1 ((work_2, found_3)) xs36) fun (s37 : ((List (List Int)) × (List (List Int)))) => bnd (ret (s37.2)) fun z => ret z
theorem ok_hermite_v1 (T : Txt P K mg ad) : FnOk P w K mg base CX0 3 ad.f_hermite ad.d_hermite ["rows"] (spW (fun i : (List (List Int)) × Unit => [sv (rLst (rTup K rInt)) i.1]) (fun _ => []) (fun i => m_hermite_v1 i.1) (rLst (rLst rInt))) := by
  refine okW T.F_hermite sc_hermite (fun _ => rfl) fun cdv A outer s0 H0 E0 B i hr => ?_
  obtain ⟨a_rows, _⟩ := i
  have hu := hr.units
  have hu2 := room100 hr
  have hu8 := Nat.lt_of_le_of_lt (Nat.add_le_add_left (show 8 ≤ 100 by decide) _) hu2
  show BG _ _ _ _ _ _ (m_hermite_v1 a_rows)
  unfold m_hermite_v1
  refine b_expr (e_conv (e_call (ok_need_rows_v1 T) (hr.mono (by walk_at "lev")) T.m_need_rows T.F_need_rows.kp T.bd_need_rows (aa_cons (e_name 0) fun _ => aa_nil) (fun _ => OsLe.none) (fun _ => List.nodup_nil)) (by walk_at "wn")) ?_
  first | refine b_par2 (ps_par (i := 1) (j := 2) rfl sc_hermite.nd rfl rfl (by decide) rfl rfl (pa2 (e_conv (e_new (n_comp (s := (rLst rInt)) rfl sc_hermite.nd (s_list (e_name 0)) (blkOk_by (own := [("row", 3)]) rfl) (tg_name (i := 3)) (fun _ _ _ _ _ => (pg_name (i := 3) sc_hermite.nd rfl (by walk_at "loc"))) (by decide) (fun _ _ _ _ _ _ _ _ _ => (e_new (n_listT (e_name 3) T.b_list))))) (by walk_at "wn")) (fun _ => e_conv (e_new (n_list (r := (rLst rInt)) al_nil)) rfl)) rfl) (fun work_2 found_3 => ?_) | refine b_par2T (ps_asg (pe_tup (pa2 (e_conv (e_new (n_comp (s := (rLst rInt)) rfl sc_hermite.nd (s_list (e_name 0)) (blkOk_by (own := [("row", 3)]) rfl) (tg_name (i := 3)) (fun _ _ _ _ _ => (pg_name (i := 3) sc_hermite.nd rfl (by walk_at "loc"))) (by decide) (fun _ _ _ _ _ _ _ _ _ => (e_new (n_listT (e_name 3) T.b_list))))) (by walk_at "wn")) (fun _ => e_conv (e_new (n_list (r := (rLst rInt)) al_nil)) rfl))) (pg_tup rfl (pgs_cons (pg_name (i := 1) sc_hermite.nd rfl (by walk_at "loc")) (pgs_cons (pg_name (i := 2) sc_hermite.nd rfl (by walk_at "loc")) pgs_nil)))) (fun work_2 found_3 => ?_)
  refine b_set 4 (e_conv (e_if (t_neD hu (dd_lst (dd_lst dd_int)) (dd_lst (dd_lst dd_int)) (e_name 1) fun _ => (e_new (n_list (r := (rLst rInt)) al_nil))) (e_len (e_idx (e_name 1) fun _ => e_int) T.b_len) e_int) (by walk_at "wn")) (fun wide_8 => ?_) sc_hermite.nd
  refine b_for (S := ((List (List Int)) × (List (List Int)))) (fun s => [sv (rLst (rTup K rInt)) a_rows, sv (rLst (rLst rInt)) s.1, sv (rLst (rLst rInt)) s.2, sa, sv rInt wide_8, sa, sa, sa]) (fun s => []) ((work_2, found_3) : ((List (List Int)) × (List (List Int)))) rfl PassesOwn.never (s_conv (s_rng1 (e_name 4) T.b_range) (by walk_at "wn")) (tg_name (i := 5)) (pg_name (i := 5) sc_hermite.nd rfl (by walk_at "loc")) (fun M s13 x12 => ?_) (fun s37 => ?_) ⟨.inl rfl, .inl rfl, .inl rfl, .inr rfl, .inl rfl, .inr rfl, .inr rfl, .inr rfl, trivial⟩ rfl
  · unfold m_hermite_v1_l1
    refine b_tgt (is := [6, 1]) (ps_asg (show PE _ _ (tOf _ _ _ _ _) from e_conv (e_call (ok_parted T) (hr.mono (by walk_at "lev")) T.m_parted T.F_parted.kp T.bd_parted (aa_cons (e_name 1) fun _ => (aa_cons (e_name 5) fun _ => aa_nil)) (fun _ => OsLe.none) (fun _ => List.nodup_nil)) (by walk_at "wn")) (pg_tup rfl (pgs_cons (pg_name (i := 6) sc_hermite.nd rfl (by walk_at "loc")) (pgs_cons (pg_name (i := 1) sc_hermite.nd rfl (by walk_at "loc")) pgs_nil)))) (tg_pair (i := 6) (j := 1)) (fun u15 => ?_)
    refine b_ifJ (S := (List (List Int))) (fun s => [sv (rLst (rTup K rInt)) a_rows, sv (rLst (rLst rInt)) u15.2, sv (rLst (rLst rInt)) s, sa, sv rInt wide_8, sv rInt x12, sa, sa]) (fun s => []) (t_conv (t_notN isn_opt (e_name 6)) (by walk_at "wn")) ?_ ?_ (fun s35 => ?_)
    · refine b_set 6 (e_conv (e_if (t_gt (e_idx (e_unopt (e_name 6)) fun _ => (e_name 5)) fun _ => e_int) (e_name 6) (e_toOpt (isn_ref ref_lst) (e_new (n_comp (s := rInt) rfl sc_hermite.nd (s_list (e_unopt (e_name 6))) (blkOk_by (own := [("item", 7)]) rfl) (tg_name (i := 7)) (fun _ _ _ _ _ => (pg_name (i := 7) sc_hermite.nd rfl (by walk_at "loc"))) (by decide) (fun _ _ _ _ _ _ _ _ _ => (e_neg (e_name 7))))))) (by walk_at "wn")) (fun pivot_17 => ?_) sc_hermite.nd
      refine b_set 2 (e_conv (e_new (n_cat (e_new (n_comp (s := (rLst rInt)) rfl sc_hermite.nd (s_list (e_name 2)) (blkOk_by (own := [("row", 3)]) rfl) (tg_name (i := 3)) (fun _ _ _ _ _ => (pg_name (i := 3) sc_hermite.nd rfl (by walk_at "loc"))) (by decide) (fun _ _ _ _ _ _ _ _ _ => (e_call (ok_less T) (hr.mono (by walk_at "lev")) T.m_less T.F_less.kp T.bd_less (aa_cons (e_name 3) fun _ => (aa_cons (e_div (e_idx (e_name 3) fun _ => (e_name 5)) fun _ => (e_idx (e_unopt (e_name 6)) fun _ => (e_name 5))) fun _ => (aa_cons (e_unopt (e_name 6)) fun _ => aa_nil))) (fun _ => OsLe.none) (fun _ => List.nodup_nil))))) fun _ => (e_new (n_list (al_cons (e_unopt (e_name 6)) al_nil))))) (by walk_at "wn")) (fun found_24 => ?_) sc_hermite.nd
      exact b_end (NxOk.nxS (s := (found_24 : (List (List Int)))) ⟨.inl rfl, .inl rfl, .inl rfl, .inr rfl, .inl rfl, .inl rfl, .inr rfl, .inr rfl, trivial⟩ .slnil)
    · exact b_end (NxOk.nxS (s := (s13.2 : (List (List Int)))) ⟨.inl rfl, .inl rfl, .inl rfl, .inr rfl, .inl rfl, .inl rfl, .inr rfl, .inr rfl, trivial⟩ .slnil)
    · exact b_end (NxOk.nxS (s := ((u15.2, s35) : ((List (List Int)) × (List (List Int))))) ⟨.inl rfl, .inl rfl, .inl rfl, .inr rfl, .inl rfl, .inr rfl, .inr rfl, .inr rfl, trivial⟩ .slnil)
  · exact b_ret RtOk.fn OsW.nil (e_conv (e_name 2) (by walk_at "wn"))
def m_hermite_v2 (a_rows : (List PyData)) : W (List (List Int)) :=
  bnd (m_need_rows_v2 a_rows) fun _ => fail
theorem ok_hermite_v2 (T : Txt P K mg ad) : FnOk P w K mg base (L2.CX P w) 4 ad.f_hermite ad.d_hermite ["rows"] (spX K (tbl K ad) (fun i : (List PyData) × Unit => [sv (rLst (rD K)) i.1]) (fun _ => []) (fun i => m_hermite_v2 i.1) (rLst (rLst rInt))) := by
  refine okX T.F_hermite sc_hermite (fun _ => rfl) fun cdv A outer s0 H0 E0 B i hr tk hpo => ?_
  obtain ⟨a_rows, _⟩ := i
  have hu := hr.units
  have hu2 := room100 hr
  have hu8 := Nat.lt_of_le_of_lt (Nat.add_le_add_left (show 8 ≤ 100 by decide) _) hu2
  show BG _ _ _ _ _ _ (m_hermite_v2 a_rows)
  unfold m_hermite_v2
  refine b_expr (e_conv (er_V (e_callZ (conv := fun q : (List PyData) × Unit => (q.1, ())) (dfl := []) (dvs := []) (ok_need_rows_v2 T) (passB tk) spf_X0 (hr.mono (by walk_at "lev")) T.m_need_rows T.F_need_rows.kp T.cb_need_rows_1 (fun _ => .nil) (hh_pos (aa_cons (e_name 0) fun _ => aa_nil) (fun _ => rfl)) (fun _ => rfl))) (by walk_at "wn")) ?_
  exact b_never
def m_hermite_v3 (a_rows : (List PyData)) : W (List (List Int)) :=
  bnd (m_need_rows_v3 a_rows) fun _ => fail
theorem ok_hermite_v3 (T : Txt P K mg ad) : FnOk P w K mg base (L2.CX P w) 4 ad.f_hermite ad.d_hermite ["rows"] (spX K (tbl K ad) (fun i : (List PyData) × Unit => [sv (rTup K (rD K)) i.1]) (fun _ => []) (fun i => m_hermite_v3 i.1) (rLst (rLst rInt))) := by
  refine okX T.F_hermite sc_hermite (fun _ => rfl) fun cdv A outer s0 H0 E0 B i hr tk hpo => ?_
  obtain ⟨a_rows, _⟩ := i
  have hu := hr.units
  have hu2 := room100 hr
  have hu8 := Nat.lt_of_le_of_lt (Nat.add_le_add_left (show 8 ≤ 100 by decide) _) hu2
  show BG _ _ _ _ _ _ (m_hermite_v3 a_rows)
  unfold m_hermite_v3
  refine b_expr (e_conv (er_V (e_callZ (conv := fun q : (List PyData) × Unit => (q.1, ())) (dfl := []) (dvs := []) (ok_need_rows_v3 T) (passB tk) spf_X0 (hr.mono (by walk_at "lev")) T.m_need_rows T.F_need_rows.kp T.cb_need_rows_1 (fun _ => .nil) (hh_pos (aa_cons (e_name 0) fun _ => aa_nil) (fun _ => rfl)) (fun _ => rfl))) (by walk_at "wn")) ?_
  exact b_never
def m_hermite_v4 (a_rows : PyData) : W (List (List Int)) :=
  bnd (m_need_rows_v4 a_rows) fun _ => fail
theorem ok_hermite_v4 (T : Txt P K mg ad) : FnOk P w K mg base (L2.CX P w) 4 ad.f_hermite ad.d_hermite ["rows"] (spX K (tbl K ad) (fun i : PyData × Unit => [sv (rD K) i.1]) (fun _ => []) (fun i => m_hermite_v4 i.1) (rLst (rLst rInt))) := by
  refine okX T.F_hermite sc_hermite (fun _ => rfl) fun cdv A outer s0 H0 E0 B i hr tk hpo => ?_
  obtain ⟨a_rows, _⟩ := i
  have hu := hr.units
  have hu2 := room100 hr
  have hu8 := Nat.lt_of_le_of_lt (Nat.add_le_add_left (show 8 ≤ 100 by decide) _) hu2
  show BG _ _ _ _ _ _ (m_hermite_v4 a_rows)
  unfold m_hermite_v4
  refine b_expr (e_conv (er_V (e_callZ (conv := fun q : PyData × Unit => (q.1, ())) (dfl := []) (dvs := []) (ok_need_rows_v4 T) (passB tk) spf_X0 (hr.mono (by walk_at "lev")) T.m_need_rows T.F_need_rows.kp T.cb_need_rows_1 (fun _ => .nil) (hh_pos (aa_cons (e_name 0) fun _ => aa_nil) (fun _ => rfl)) (fun _ => rfl))) (by walk_at "wn")) ?_
  exact b_never
def m_Turning_add_row_l1 (a_k a_other a_times : Int) (s : TRs) : Bool → W TRs
  | true => bnd (bnd (idx s.w a_k) fun x => bnd (idx s.w a_other) fun y => bnd (chk (x ∈ s.all ∧ y ∈ s.all) (ret (x.2.zip y.2))) fun zs => mapW (fun (z : Int × Int) => bnd (mulI a_times z.2) fun t => ret (z.1 + t)) zs) fun xs => bnd (ret a_k) fun k => bnd (putA s.w k xs) fun M => ret ({ s with w := M } : TRs)
  | false => bnd (bnd (idx s.l a_k) fun x => bnd (idx s.l a_other) fun y => bnd (chk (x ∈ s.all ∧ y ∈ s.all) (ret (x.2.zip y.2))) fun zs => mapW (fun (z : Int × Int) => bnd (mulI a_times z.2) fun t => ret (z.1 + t)) zs) fun xs => bnd (ret a_k) fun k => bnd (putA s.l k xs) fun M => ret ({ s with l := M } : TRs)
def m_Turning_add_row (s : TRs) (a_k a_other a_times : Int) : W (Unit × TRs) :=
  bnd (ret [true, false]) fun xs => bnd (forW (m_Turning_add_row_l1 a_k a_other a_times) s xs) fun s => ret ((), s)
theorem ok_Turning_add_row (T : Txt P K mg ad) : FnOk P w K mg base CX0 1 ad.f_Turning_add_row ad.d_Turning_add_row ["self", "k", "other", "times"] (spS (fun (c : TK) (i : Int × Int × Int × Unit) => [sv (rAdr c.d) (), sv rInt i.1, sv rInt i.2.1, sv rInt i.2.2.1]) (tos ad.c_Turning) rNon (fun c s i => m_Turning_add_row s i.1 i.2.1 i.2.2.1)) := by
  refine okT T.F_Turning_add_row sc_Turning_add_row (fun _ _ => rfl) fun cdv A outer s0 H0 E0 B c st i hr => ?_
  obtain ⟨a_k, a_other, a_times, _⟩ := i
  have hu := hr.units
  have hu2 := room100 hr
  have hu8 := Nat.lt_of_le_of_lt (Nat.add_le_add_left (show 8 ≤ 100 by decide) _) hu2
  show BG _ _ _ _ _ _ (m_Turning_add_row st a_k a_other a_times)
  unfold m_Turning_add_row
  refine b_for (S := TRs) (fun s => [sv (rAdr c.d) (), sv rInt a_k, sv rInt a_other, sv rInt a_times, sa, sa, sa]) (tos ad.c_Turning c) st rfl PassesOwn.never (s_two (e_fldO 0 0 T.cl_Turning T.na_Turning_work rfl rfl rfl) (e_fldO 0 0 T.cl_Turning T.na_Turning_own_left rfl rfl rfl)) (tg_name (i := 4)) (pg_name (i := 4) sc_Turning_add_row.nd rfl (by walk_at "loc")) (fun M s b => ?_) (fun s => ?_) ⟨.inl rfl, .inl rfl, .inl rfl, .inl rfl, .inr rfl, .inr rfl, .inr rfl, trivial⟩ rfl
  · cases b
    · show BG _ _ _ _ _ _ (bnd (bnd (idx s.l a_k) fun x => bnd (idx s.l a_other) fun y => bnd (chk (x ∈ s.all ∧ y ∈ s.all) (ret (x.2.zip y.2))) fun zs => mapW (fun (z : Int × Int) => bnd (mulI a_times z.2) fun t => ret (z.1 + t)) zs) fun xs => bnd (ret a_k) fun k => bnd (putA s.l k xs) fun M => ret ({ s with l := M } : TRs))
      refine b_putN 4 2 rfl rfl (n_conv (n_compS (s := rInt) rfl sc_Turning_add_row.nd (s_zipS tos_in (e_idxE (e_name 4) in_l (e_name 1)) (e_idxE (e_name 4) in_l (e_name 2)) T.b_zip) (blkOk_by (own := [("left", 5), ("right", 6)]) rfl) (tg_pair (i := 5) (j := 6)) (fun _ _ _ _ _ => (pg_tup rfl (pgs_cons (pg_name (i := 5) sc_Turning_add_row.nd rfl (by walk_at "loc")) (pgs_cons (pg_name (i := 6) sc_Turning_add_row.nd rfl (by walk_at "loc")) pgs_nil)))) (by decide) (fun _ _ _ _ _ _ _ _ _ => (e_add (e_name 5) fun _ => (e_mul (e_name 3) fun _ => (e_name 6))))) (by walk_at "wn")) (fun a xs => e_name 1) (fun l a xs hl => ?_)
      exact b_re (tos_nl hl).1 (tos_nl hl).2 (b_end (NxOk.nx (s := ({ s with l := s.l.set l (a, xs) } : TRs)) ⟨.inl rfl, .inl rfl, .inl rfl, .inl rfl, .inr rfl, .inr rfl, .inr rfl, trivial⟩))
    · show BG _ _ _ _ _ _ (bnd (bnd (idx s.w a_k) fun x => bnd (idx s.w a_other) fun y => bnd (chk (x ∈ s.all ∧ y ∈ s.all) (ret (x.2.zip y.2))) fun zs => mapW (fun (z : Int × Int) => bnd (mulI a_times z.2) fun t => ret (z.1 + t)) zs) fun xs => bnd (ret a_k) fun k => bnd (putA s.w k xs) fun M => ret ({ s with w := M } : TRs))
      refine b_putN 4 1 rfl rfl (n_conv (n_compS (s := rInt) rfl sc_Turning_add_row.nd (s_zipS tos_in (e_idxE (e_name 4) in_w (e_name 1)) (e_idxE (e_name 4) in_w (e_name 2)) T.b_zip) (blkOk_by (own := [("left", 5), ("right", 6)]) rfl) (tg_pair (i := 5) (j := 6)) (fun _ _ _ _ _ => (pg_tup rfl (pgs_cons (pg_name (i := 5) sc_Turning_add_row.nd rfl (by walk_at "loc")) (pgs_cons (pg_name (i := 6) sc_Turning_add_row.nd rfl (by walk_at "loc")) pgs_nil)))) (by decide) (fun _ _ _ _ _ _ _ _ _ => (e_add (e_name 5) fun _ => (e_mul (e_name 3) fun _ => (e_name 6))))) (by walk_at "wn")) (fun a xs => e_name 1) (fun l a xs hl => ?_)
      exact b_re (tos_nw hl).1 (tos_nw hl).2 (b_end (NxOk.nx (s := ({ s with w := s.w.set l (a, xs) } : TRs)) ⟨.inl rfl, .inl rfl, .inl rfl, .inl rfl, .inr rfl, .inr rfl, .inr rfl, trivial⟩))
  · exact b_end NxOk.t
def m_Turning_bring_least_l2 (s : TRs) (x3 : Int) (s7 : (Option (Int × Int × Int))) (x6 : Int) : W (Option (Int × Int × Int)) :=
  bnd (bnd (bnd (idx s.w x3) fun p => chk (p ∈ s.all) (idx p.2 x6)) fun t10 => ret ((t10.natAbs : Int))) fun size_8 => bnd (bnd (ret (!decide (size_8 = (0 : Int)))) fun c14 => if c14 = true then (bnd (ret (s7.isNone)) fun c12 => if c12 = true then ret true else (bnd (optW s7) fun t11 => ret (decide (size_8 < t11.1)))) else ret false) fun b16 => bnd (if b16 = true then (bnd (ret (some ((size_8, x3, x6)))) fun best_17 => ret (best_17)) else (ret (s7))) fun (s18 : (Option (Int × Int × Int))) => ret (s18)
def m_Turning_bring_least_l1 (wide : Int) (s : TRs) (a_at : Int) (s4 : (Option (Int × Int × Int))) (x3 : Int) : W (Option (Int × Int × Int)) :=
  bnd (rng2 a_at wide) fun xs19 => bnd (forW (m_Turning_bring_least_l2 s x3) (s4) xs19) fun (s20 : (Option (Int × Int × Int))) => ret (s20)
def m_Turning_bring_least_l3 (a_at k : Int) (s : TRs) : Bool → W TRs
  | true => bnd (idx s.w k) fun u => bnd (idx s.w a_at) fun v => bnd (ret a_at) fun k1 => bnd (putL s.w k1 u) fun ys => bnd (ret k) fun k2 => bnd (putL ys k2 v) fun zs => chk (zs.Perm s.w) (ret ({ s with w := zs } : TRs))
  | false => bnd (idx s.l k) fun u => bnd (idx s.l a_at) fun v => bnd (ret a_at) fun k1 => bnd (putL s.l k1 u) fun ys => bnd (ret k) fun k2 => bnd (putL ys k2 v) fun zs => chk (zs.Perm s.l) (ret ({ s with l := zs } : TRs))
def m_Turning_bring_least_l4 (a_at j : Int) (as : List Addr) (s : TRs) (i : Nat) : W TRs :=
  chk ((s.w ++ s.r).map (·.1) = as) (match (s.w ++ s.r)[i]? with | some p => bnd (idx p.2 j) fun u => bnd (idx p.2 a_at) fun v => bnd (ret a_at) fun k1 => bnd (putL p.2 k1 u) fun ys => bnd (ret j) fun k2 => bnd (putL ys k2 v) fun zs => ret (s.put i zs) | none => fail)
def m_Turning_bring_least (wide : Int) (st : TRs) (a_at : Int) : W (Bool × TRs) :=
  bnd (ret ((none : (Option (Int × Int × Int))))) fun best_1 => bnd (rng2 a_at ((st.w.length : Int))) fun xs21 => bnd (forW (m_Turning_bring_least_l1 wide st a_at) (best_1) xs21) fun (s22 : (Option (Int × Int × Int))) => bnd (ret (s22.isNone)) fun b23 => if b23 = true then (bnd (ret (false, st)) ret) else (bnd (optW s22) fun q => bnd (ret [true, false]) fun xs => bnd (forW (m_Turning_bring_least_l3 a_at q.2.1) st xs) fun s => bnd (chk (s.w.length + s.r.length ≤ sizeLine) (ret (List.range (s.w.length + s.r.length)))) fun xs => bnd (forW (m_Turning_bring_least_l4 a_at q.2.2 ((s.w ++ s.r).map (·.1))) s xs) fun s => bnd (ret (true, s)) ret)
theorem ok_Turning_bring_least (T : Txt P K mg ad) : FnOk P w K mg base CX0 1 ad.f_Turning_bring_least ad.d_Turning_bring_least ["self", "at"] (spS (fun (c : TK) (i : Int × Unit) => [sv (rAdr c.d) (), sv rInt i.1]) (tos ad.c_Turning) rBool (fun c s i => m_Turning_bring_least c.wide s i.1)) := by
  refine okT T.F_Turning_bring_least sc_Turning_bring_least (fun _ _ => rfl) fun cdv A outer s0 H0 E0 B c st i hr => ?_
  obtain ⟨a_at, _⟩ := i
  have hu := hr.units
  have hu2 := room100 hr
  have hu8 := Nat.lt_of_le_of_lt (Nat.add_le_add_left (show 8 ≤ 100 by decide) _) hu2
  show BG _ _ _ _ _ _ (m_Turning_bring_least c.wide st a_at)
  unfold m_Turning_bring_least
  refine b_set 2 (e_conv (e_nonOpt (r := (rT3 K rInt rInt rInt)) e_non) (by walk_at "wn")) (fun best_1 => ?_) sc_Turning_bring_least.nd
  refine b_for (S := (Option (Int × Int × Int))) (fun s => [sv (rAdr c.d) (), sv rInt a_at, sv (rOpt (rT3 K rInt rInt rInt)) s, sa, sa, sa, sa, sa]) (fun _ => tos ad.c_Turning c st) (best_1 : (Option (Int × Int × Int))) rfl PassesOwn.never (s_conv (s_rng2 (e_name 1) (fun _ => (e_lenE (e_fldO 0 0 T.cl_Turning T.na_Turning_work rfl rfl rfl) in_w T.b_len)) T.b_range) (by walk_at "wn")) (tg_name (i := 3)) (pg_name (i := 3) sc_Turning_bring_least.nd rfl (by walk_at "loc")) (fun M s4 x3 => ?_) (fun s22 => ?_) ⟨.inl rfl, .inl rfl, .inl rfl, .inr rfl, .inr rfl, .inr rfl, .inr rfl, .inr rfl, trivial⟩ rfl
  · unfold m_Turning_bring_least_l1
    refine b_for (S := (Option (Int × Int × Int))) (fun s => [sv (rAdr c.d) (), sv rInt a_at, sv (rOpt (rT3 K rInt rInt rInt)) s, sv rInt x3, sa, sa, sa, sa]) (fun _ => tos ad.c_Turning c st) (s4 : (Option (Int × Int × Int))) rfl PassesOwn.never (s_conv (s_rng2 (e_name 1) (fun _ => (e_fldO (s := rInt) 0 0 T.cl_Turning T.na_Turning_wide rfl rfl rfl)) T.b_range) (by walk_at "wn")) (tg_name (i := 4)) (pg_name (i := 4) sc_Turning_bring_least.nd rfl (by walk_at "loc")) (fun M s7 x6 => ?_) (fun s20 => ?_) ⟨.inl rfl, .inl rfl, .inl rfl, .inl rfl, .inr rfl, .inr rfl, .inr rfl, .inr rfl, trivial⟩ rfl
    · unfold m_Turning_bring_least_l2
      refine b_set 5 (e_conv (e_abs (e_cell (tos_in (C := ad.c_Turning) (k := c)) (e_idxE (e_fldO 0 0 T.cl_Turning T.na_Turning_work rfl rfl rfl) in_w (e_name 3)) (e_name 4)) T.b_abs) (by walk_at "wn")) (fun size_8 => ?_) sc_Turning_bring_least.nd
      refine b_ifJ (S := (Option (Int × Int × Int))) (fun s => [sv (rAdr c.d) (), sv rInt a_at, sv (rOpt (rT3 K rInt rInt rInt)) s, sv rInt x3, sv rInt x6, sv rInt size_8, sa, sa]) (fun _ => tos ad.c_Turning c st) (t_conv (t_pw (w_and (t_neI (e_name 5) fun _ => e_int) (w_and1 (t_pw (w_or (t_isN isn_opt (e_name 2)) (w_or1 (t_lt (e_name 5) fun _ => (e_30 (e_unopt (e_name 2)))))))))) (by walk_at "wn")) ?_ ?_ (fun s18 => ?_)
      · refine b_set 2 (e_conv (e_toOpt (isn_ref ref_t3) (e_tup3 (e_name 5) (fun _ => (e_name 3)) fun _ _ => (e_name 4))) (by walk_at "wn")) (fun best_17 => ?_) sc_Turning_bring_least.nd
        exact b_end (NxOk.nx (s := (best_17 : (Option (Int × Int × Int)))) ⟨.inl rfl, .inl rfl, .inl rfl, .inl rfl, .inl rfl, .inl rfl, .inl rfl, .inl rfl, trivial⟩)
      · exact b_end (NxOk.nx (s := (s7 : (Option (Int × Int × Int)))) ⟨.inl rfl, .inl rfl, .inl rfl, .inl rfl, .inl rfl, .inl rfl, .inl rfl, .inl rfl, trivial⟩)
      · exact b_end (NxOk.nx (s := (s18 : (Option (Int × Int × Int)))) ⟨.inl rfl, .inl rfl, .inl rfl, .inl rfl, .inr rfl, .inr rfl, .inl rfl, .inl rfl, trivial⟩)
    · exact b_end (NxOk.nx (s := (s20 : (Option (Int × Int × Int)))) ⟨.inl rfl, .inl rfl, .inl rfl, .inr rfl, .inr rfl, .inr rfl, .inl rfl, .inl rfl, trivial⟩)
  refine b_ifA (t_conv (t_isN isn_opt (e_name 2)) (by walk_at "wn")) ?_ ?_
  · exact b_retT (RtT.x RtT.fn) (es_conv (es_of e_bl) (by walk_at "wn"))
  refine b_tgt (is := [5, 3, 4]) (ps_asg (show PE _ _ (tOf _ _ _ _ _) from e_conv (e_unopt (e_name 2)) (by walk_at "wn")) (pg_tup rfl (pgs_cons (pg_name (i := 5) sc_Turning_bring_least.nd rfl (by walk_at "loc")) (pgs_cons (pg_name (i := 3) sc_Turning_bring_least.nd rfl (by walk_at "loc")) (pgs_cons (pg_name (i := 4) sc_Turning_bring_least.nd rfl (by walk_at "loc")) pgs_nil))))) (tg_trip (i := 5) (j := 3) (l := 4)) (fun q => ?_)
  obtain ⟨size, k, j⟩ := q
  refine b_for (S := TRs) (fun s => [sv (rAdr c.d) (), sv rInt a_at, sa, sv rInt k, sv rInt j, sa, sa, sa]) (tos ad.c_Turning c) st rfl PassesOwn.never (s_two (e_fldO 0 0 T.cl_Turning T.na_Turning_work rfl rfl rfl) (e_fldO 0 0 T.cl_Turning T.na_Turning_own_left rfl rfl rfl)) (tg_name (i := 6)) (pg_name (i := 6) sc_Turning_bring_least.nd rfl (by walk_at "loc")) (fun M s b => ?_) (fun s => ?_) ⟨.inl rfl, .inl rfl, .inr rfl, .inl rfl, .inl rfl, .inr rfl, .inr rfl, .inr rfl, trivial⟩ rfl
  · cases b
    · show BG _ _ _ _ _ _ (bnd (idx s.l k) fun u => bnd (idx s.l a_at) fun v => bnd (ret a_at) fun k1 => bnd (putL s.l k1 u) fun ys => bnd (ret k) fun k2 => bnd (putL ys k2 v) fun zs => chk (zs.Perm s.l) (ret ({ s with l := zs } : TRs)))
      refine b_swap (i := 6) (j := 2) rfl rfl (fun ys => ?_) (ps_asg (pe_tup (pa_cons (show PE _ _ (tOf _ _ _ _ _) from e_conv (e_idxE (r := rP) (e_name 6) in_l (e_name 3)) (by walk_at "wn")) (pa_cons (show PE _ _ (tOf _ _ _ _ _) from e_conv (e_idxE (r := rP) (e_name 6) in_l (e_name 1)) (by walk_at "wn")) pa_nil))) (pg_tup rfl (pgs_cons (pg_sub (pv 6) (e_conv (e_name 1) (by walk_at "wn")) set_list) (pgs_cons (pg_sub (pv 6) (PE.ex fun _ => e_conv (e_name 3) rfl) set_list) pgs_nil))))
      refine b_chkM fun hp => ?_
      exact b_re (tos_l hp).1 (tos_l hp).2 (b_end (NxOk.nx (s := ({ s with l := ys } : TRs)) ⟨.inl rfl, .inl rfl, .inl rfl, .inl rfl, .inl rfl, .inl rfl, .inr rfl, .inl rfl, trivial⟩))
    · show BG _ _ _ _ _ _ (bnd (idx s.w k) fun u => bnd (idx s.w a_at) fun v => bnd (ret a_at) fun k1 => bnd (putL s.w k1 u) fun ys => bnd (ret k) fun k2 => bnd (putL ys k2 v) fun zs => chk (zs.Perm s.w) (ret ({ s with w := zs } : TRs)))
      refine b_swap (i := 6) (j := 1) rfl rfl (fun ys => ?_) (ps_asg (pe_tup (pa_cons (show PE _ _ (tOf _ _ _ _ _) from e_conv (e_idxE (r := rP) (e_name 6) in_w (e_name 3)) (by walk_at "wn")) (pa_cons (show PE _ _ (tOf _ _ _ _ _) from e_conv (e_idxE (r := rP) (e_name 6) in_w (e_name 1)) (by walk_at "wn")) pa_nil))) (pg_tup rfl (pgs_cons (pg_sub (pv 6) (e_conv (e_name 1) (by walk_at "wn")) set_list) (pgs_cons (pg_sub (pv 6) (PE.ex fun _ => e_conv (e_name 3) rfl) set_list) pgs_nil))))
      refine b_chkM fun hp => ?_
      exact b_re (tos_w hp).1 (tos_w hp).2 (b_end (NxOk.nx (s := ({ s with w := ys } : TRs)) ⟨.inl rfl, .inl rfl, .inl rfl, .inl rfl, .inl rfl, .inl rfl, .inr rfl, .inl rfl, trivial⟩))
  refine b_for (S := TRs) (fun s => [sv (rAdr c.d) (), sv rInt a_at, sa, sv rInt k, sv rInt j, sa, sa, sa]) (tos ad.c_Turning c) s rfl PassesOwn.never (s_all (e_fldO 0 0 T.cl_Turning T.na_Turning_work rfl rfl rfl) (e_fldO 0 0 T.cl_Turning T.na_Turning_own_right rfl rfl rfl) in_w in_r) (tg_name (i := 7)) (pg_name (i := 7) sc_Turning_bring_least.nd rfl (by walk_at "loc")) (fun M s1 i => ?_) (fun s1 => ?_) ⟨.inl rfl, .inl rfl, .inl rfl, .inl rfl, .inl rfl, .inl rfl, .inl rfl, .inl rfl, trivial⟩ rfl
  · unfold m_Turning_bring_least_l4
    refine b_chkM fun ha => ?_
    rw [← ha]
    refine b_row (M := s1.w ++ s1.r) (f := fun p => bnd (idx p.2 j) fun u => bnd (idx p.2 a_at) fun v => bnd (ret a_at) fun k1 => bnd (putL p.2 k1 u) fun ys => bnd (ret j) fun k2 => bnd (putL ys k2 v) fun zs => ret (s1.put i zs)) (fun p hp => ?_)
    obtain ⟨jj, h1, h2⟩ := tos_row (C := ad.c_Turning) (k := c) hp
    refine b_swap (i := 7) (j := jj) rfl h1 (fun ys => ?_) (ps_asg (pe_tup (pa_cons (show PE _ _ (tOf _ _ _ _ _) from e_conv (e_idxO 7 jj rfl h1 (e_name 4)) (by walk_at "wn")) (pa_cons (show PE _ _ (tOf _ _ _ _ _) from e_conv (e_idxO 7 jj rfl h1 (e_name 1)) (by walk_at "wn")) pa_nil))) (pg_tup rfl (pgs_cons (pg_sub (pv 7) (e_conv (e_name 1) (by walk_at "wn")) set_list) (pgs_cons (pg_sub (pv 7) (PE.ex fun _ => e_conv (e_name 4) rfl) set_list) pgs_nil))))
    exact b_re (h2 ys).1 (h2 ys).2 (b_end (NxOk.nx (s := s1.put i ys) ⟨.inl rfl, .inl rfl, .inl rfl, .inl rfl, .inl rfl, .inl rfl, .inl rfl, .inr rfl, trivial⟩))
  · exact b_retT RtT.fn (es_conv (es_of e_bl) (by walk_at "wn"))
def m_Turning_clear_cross_l1 (a_at corner : Int) (st : Bool × TRs) (x8 : Int) : W (Bool × TRs) :=
  bnd (bnd (bnd (bnd (bnd (idx st.2.w x8) fun p => chk (p ∈ st.2.all) (idx p.2 a_at)) fun t => divI t corner) fun u => ret (-u)) fun a => noX (m_Turning_add_row st.2 x8 a_at a)) fun y => bnd (bnd (ret st.1) fun c13 => if c13 = true then (bnd (bnd (idx y.2.w x8) fun p => chk (p ∈ y.2.all) (idx p.2 a_at)) fun t12 => ret (decide (t12 = (0 : Int)))) else ret false) fun clean_10 => ret (clean_10, y.2)
def m_Turning_clear_cross_l3 (a_at j times : Int) (as : List Addr) (s : TRs) (i : Nat) : W TRs :=
  chk ((s.w ++ s.r).map (·.1) = as) (match (s.w ++ s.r)[i]? with | some p => bnd (bnd (idx p.2 j) fun a => bnd (bnd (idx p.2 a_at) fun b => mulI times b) fun b => ret (a - b)) fun v => bnd (ret j) fun k1 => bnd (putL p.2 k1 v) fun ys => ret (s.put i ys) | none => fail)
def m_Turning_clear_cross_l2 (a_at corner : Int) (st : Bool × TRs) (x18 : Int) : W (Bool × TRs) :=
  bnd (bnd (bnd (idx st.2.w a_at) fun p => chk (p ∈ st.2.all) (idx p.2 x18)) fun t => divI t corner) fun times => bnd (chk (st.2.w.length + st.2.r.length ≤ sizeLine) (ret (List.range (st.2.w.length + st.2.r.length)))) fun xs => bnd (forW (m_Turning_clear_cross_l3 a_at x18 times ((st.2.w ++ st.2.r).map (·.1))) st.2 xs) fun s => bnd (bnd (ret st.1) fun c27 => if c27 = true then (bnd (bnd (idx s.w a_at) fun p => chk (p ∈ s.all) (idx p.2 x18)) fun t26 => ret (decide (t26 = (0 : Int)))) else ret false) fun clean_24 => ret (clean_24, s)
def m_Turning_clear_cross (wide : Int) (st : TRs) (a_at : Int) : W (Bool × TRs) :=
  bnd (bnd (idx st.w a_at) fun p => chk (p ∈ st.all) (idx p.2 a_at)) fun corner => bnd (ret true) fun clean => bnd (rng2 (a_at + ((1 : Int))) ((st.w.length : Int))) fun xs => bnd (forW (m_Turning_clear_cross_l1 a_at corner) (clean, st) xs) fun st => bnd (rng2 (a_at + ((1 : Int))) wide) fun xs => bnd (forW (m_Turning_clear_cross_l2 a_at corner) st xs) fun st => bnd (ret (st.1, st.2)) ret
theorem ok_Turning_clear_cross (T : Txt P K mg ad) : FnOk P w K mg base CX0 2 ad.f_Turning_clear_cross ad.d_Turning_clear_cross ["self", "at"] (spS (fun (c : TK) (i : Int × Unit) => [sv (rAdr c.d) (), sv rInt i.1]) (tos ad.c_Turning) rBool (fun c s i => m_Turning_clear_cross c.wide s i.1)) := by
  refine okT T.F_Turning_clear_cross sc_Turning_clear_cross (fun _ _ => rfl) fun cdv A outer s0 H0 E0 B c st i hr => ?_
  obtain ⟨a_at, _⟩ := i
  have hu := hr.units
  have hu2 := room100 hr
  have hu8 := Nat.lt_of_le_of_lt (Nat.add_le_add_left (show 8 ≤ 100 by decide) _) hu2
  show BG _ _ _ _ _ _ (m_Turning_clear_cross c.wide st a_at)
  unfold m_Turning_clear_cross
  first | refine b_par2 (ps_par (i := 2) (j := 3) rfl sc_Turning_clear_cross.nd rfl rfl (by decide) rfl rfl (pa2 (e_conv (e_cell (tos_in (C := ad.c_Turning) (k := c)) (e_idxE (e_fldO 0 0 T.cl_Turning T.na_Turning_work rfl rfl rfl) in_w (e_name 1)) (e_name 1)) (by walk_at "wn")) (fun _ => e_conv e_bl rfl)) rfl) (fun corner clean_2 => ?_) | refine b_par2T (ps_asg (pe_tup (pa2 (e_conv (e_cell (tos_in (C := ad.c_Turning) (k := c)) (e_idxE (e_fldO 0 0 T.cl_Turning T.na_Turning_work rfl rfl rfl) in_w (e_name 1)) (e_name 1)) (by walk_at "wn")) (fun _ => e_conv e_bl rfl))) (pg_tup rfl (pgs_cons (pg_name (i := 2) sc_Turning_clear_cross.nd rfl (by walk_at "loc")) (pgs_cons (pg_name (i := 3) sc_Turning_clear_cross.nd rfl (by walk_at "loc")) pgs_nil)))) (fun corner clean_2 => ?_)
  refine b_for (S := Bool × TRs) (fun s => [sv (rAdr c.d) (), sv rInt a_at, sv rInt corner, sv rBool s.1, sa, sa, sa, sa]) (fun s => tos ad.c_Turning c s.2) ((clean_2, st) : Bool × TRs) rfl PassesOwn.never (s_conv (s_rng2 (e_add (e_name 1) fun _ => e_int) (fun _ => (e_lenE (e_fldO 0 0 T.cl_Turning T.na_Turning_work rfl rfl rfl) in_w T.b_len)) T.b_range) (by walk_at "wn")) (tg_name (i := 4)) (pg_name (i := 4) sc_Turning_clear_cross.nd rfl (by walk_at "loc")) (fun M st x8 => ?_) (fun st => ?_) ⟨.inl rfl, .inl rfl, .inl rfl, .inl rfl, .inr rfl, .inr rfl, .inr rfl, .inr rfl, trivial⟩ rfl
  · unfold m_Turning_clear_cross_l1
    refine b_exprP (s := st.2) (osf := tos ad.c_Turning c) (es_conv (es_methO 0 0 (ok_Turning_add_row T) pass0 sps_T (hr.mono (by walk_at "lev")) T.cl_Turning T.mt_Turning_add_row T.cb_Turning_add_row_3 (fun _ => .nil) (hh_pos (aa_cons (e_name 4) fun _ => (aa_cons (e_name 1) fun _ => (aa_cons (e_neg (e_div (e_cell (tos_in (C := ad.c_Turning) (k := c)) (e_idxE (e_fldO 0 0 T.cl_Turning T.na_Turning_work rfl rfl rfl) in_w (e_name 4)) (e_name 1)) fun _ => (e_name 2))) fun _ => aa_nil))) (fun _ => rfl)) (fun _ => rfl) rfl rfl rfl) (by walk_at "wn")) (fun y => ?_)
    refine b_set 3 (e_conv (e_and (e_name 3) (e_one (e_eqI (e_cell (tos_in (C := ad.c_Turning) (k := c)) (e_idxE (e_fldO 0 0 T.cl_Turning T.na_Turning_work rfl rfl rfl) in_w (e_name 4)) (e_name 1)) fun _ => e_int))) (by walk_at "wn")) (fun clean_10 => ?_) sc_Turning_clear_cross.nd
    exact b_end (NxOk.nx (s := ((clean_10, y.2) : Bool × TRs)) ⟨.inl rfl, .inl rfl, .inl rfl, .inl rfl, .inr rfl, .inl rfl, .inl rfl, .inl rfl, trivial⟩)
  refine b_for (S := Bool × TRs) (fun s => [sv (rAdr c.d) (), sv rInt a_at, sv rInt corner, sv rBool s.1, sa, sa, sa, sa]) (fun s => tos ad.c_Turning c s.2) (st : Bool × TRs) rfl PassesOwn.never (s_conv (s_rng2 (e_add (e_name 1) fun _ => e_int) (fun _ => (e_fldO (s := rInt) 0 0 T.cl_Turning T.na_Turning_wide rfl rfl rfl)) T.b_range) (by walk_at "wn")) (tg_name (i := 5)) (pg_name (i := 5) sc_Turning_clear_cross.nd rfl (by walk_at "loc")) (fun M st x18 => ?_) (fun st => ?_) ⟨.inl rfl, .inl rfl, .inl rfl, .inl rfl, .inl rfl, .inl rfl, .inl rfl, .inl rfl, trivial⟩ rfl
  · unfold m_Turning_clear_cross_l2
    refine b_set 6 (e_conv (e_div (e_cell (tos_in (C := ad.c_Turning) (k := c)) (e_idxE (e_fldO 0 0 T.cl_Turning T.na_Turning_work rfl rfl rfl) in_w (e_name 1)) (e_name 5)) fun _ => (e_name 2)) (by walk_at "wn")) (fun times => ?_) sc_Turning_clear_cross.nd
    refine b_for (S := TRs) (fun s => [sv (rAdr c.d) (), sv rInt a_at, sv rInt corner, sv rBool st.1, sa, sv rInt x18, sv rInt times, sa]) (tos ad.c_Turning c) st.2 rfl PassesOwn.never (s_all (e_fldO 0 0 T.cl_Turning T.na_Turning_work rfl rfl rfl) (e_fldO 0 0 T.cl_Turning T.na_Turning_own_right rfl rfl rfl) in_w in_r) (tg_name (i := 7)) (pg_name (i := 7) sc_Turning_clear_cross.nd rfl (by walk_at "loc")) (fun M s1 i => ?_) (fun s1 => ?_) ⟨.inl rfl, .inl rfl, .inl rfl, .inl rfl, .inl rfl, .inl rfl, .inl rfl, .inl rfl, trivial⟩ rfl
    · unfold m_Turning_clear_cross_l3
      refine b_chkM fun ha => ?_
      rw [← ha]
      refine b_row (M := s1.w ++ s1.r) (f := fun p => bnd (bnd (idx p.2 x18) fun a => bnd (bnd (idx p.2 a_at) fun b => mulI times b) fun b => ret (a - b)) fun v => bnd (ret x18) fun k1 => bnd (putL p.2 k1 v) fun ys => ret (s1.put i ys)) (fun p hp => ?_)
      obtain ⟨jj, h1, h2⟩ := tos_row (C := ad.c_Turning) (k := c) hp
      refine b_put 7 jj rfl h1 (e_conv (e_sub (e_idxO 7 jj rfl h1 (e_name 5)) fun _ => (e_mul (e_name 6) fun _ => (e_idxO 7 jj rfl h1 (e_name 1)))) (by walk_at "wn")) (fun _ => e_conv (e_name 5) rfl) (fun ys => ?_)
      exact b_re (h2 ys).1 (h2 ys).2 (b_end (NxOk.nx (s := s1.put i ys) ⟨.inl rfl, .inl rfl, .inl rfl, .inl rfl, .inl rfl, .inl rfl, .inl rfl, .inr rfl, trivial⟩))
    refine b_set 3 (e_conv (e_and (e_name 3) (e_one (e_eqI (e_cell (tos_in (C := ad.c_Turning) (k := c)) (e_idxE (e_fldO 0 0 T.cl_Turning T.na_Turning_work rfl rfl rfl) in_w (e_name 1)) (e_name 5)) fun _ => e_int))) (by walk_at "wn")) (fun clean_24 => ?_) sc_Turning_clear_cross.nd
    exact b_end (NxOk.nx (s := ((clean_24, s1) : Bool × TRs)) ⟨.inl rfl, .inl rfl, .inl rfl, .inl rfl, .inl rfl, .inr rfl, .inr rfl, .inl rfl, trivial⟩)
  · exact b_retT (osf1 := tos ad.c_Turning c) (s := st.2) RtT.fn (es_conv (es_of (osf := tos ad.c_Turning c) (s := st.2) (e_name 3)) (by walk_at "wn"))
def m_Turning_mix_in_l1 (wide a_at corner : Int) (s : TRs) (x5 : Int) : W (Fl TRs (Bool × TRs)) :=
  bnd (bnd (rng2 (a_at + ((1 : Int))) wide) fun l7 => bnd (mapW (fun (x8 : Int) => bnd (bnd (idx s.w x5) fun p => chk (p ∈ s.all) (idx p.2 x8)) fun t10 => bnd (modI t10 corner) fun t11 => ret (!decide (t11 = (0 : Int)))) l7) fun ys12 => ret (ys12.any id)) fun b13 => if b13 = true then (bnd (noX (m_Turning_add_row s a_at x5 1)) fun y => bnd (ret (false, y.2)) fun z => ret (.rt z)) else (ret (.nx s))
def m_Turning_mix_in (wide : Int) (st : TRs) (a_at : Int) : W (Bool × TRs) :=
  bnd (bnd (idx st.w a_at) fun p => chk (p ∈ st.all) (idx p.2 a_at)) fun corner => bnd (rng2 (a_at + ((1 : Int))) ((st.w.length : Int))) fun xs14 => bnd (forF (m_Turning_mix_in_l1 wide a_at corner) st xs14) (flEnd (fun z => z) fun (s : TRs) => bnd (ret (true, s)) ret)
theorem ok_Turning_mix_in (T : Txt P K mg ad) : FnOk P w K mg base CX0 2 ad.f_Turning_mix_in ad.d_Turning_mix_in ["self", "at"] (spS (fun (c : TK) (i : Int × Unit) => [sv (rAdr c.d) (), sv rInt i.1]) (tos ad.c_Turning) rBool (fun c s i => m_Turning_mix_in c.wide s i.1)) := by
  refine okT T.F_Turning_mix_in sc_Turning_mix_in (fun _ _ => rfl) fun cdv A outer s0 H0 E0 B c st i hr => ?_
  obtain ⟨a_at, _⟩ := i
  have hu := hr.units
  have hu2 := room100 hr
  have hu8 := Nat.lt_of_le_of_lt (Nat.add_le_add_left (show 8 ≤ 100 by decide) _) hu2
  show BG _ _ _ _ _ _ (m_Turning_mix_in c.wide st a_at)
  unfold m_Turning_mix_in
  refine b_set 2 (e_conv (e_cell (tos_in (C := ad.c_Turning) (k := c)) (e_idxE (e_fldO 0 0 T.cl_Turning T.na_Turning_work rfl rfl rfl) in_w (e_name 1)) (e_name 1)) (by walk_at "wn")) (fun corner => ?_) sc_Turning_mix_in.nd
  refine b_forT (S := TRs) (ro := rBool) (osf := tos ad.c_Turning c) (fun z => z) (fun s => [sv (rAdr c.d) (), sv rInt a_at, sv rInt corner, sa, sa]) (tos ad.c_Turning c) st rfl PassesOwn.never (s_conv (s_rng2 (e_add (e_name 1) fun _ => e_int) (fun _ => (e_lenE (e_fldO 0 0 T.cl_Turning T.na_Turning_work rfl rfl rfl) in_w T.b_len)) T.b_range) (by walk_at "wn")) (tg_name (i := 3)) (pg_name (i := 3) sc_Turning_mix_in.nd rfl (by walk_at "loc")) (fun M s x5 => ?_) (fun s => ?_) (fun _ => rfl) RtT.fn ⟨.inl rfl, .inl rfl, .inl rfl, .inr rfl, .inr rfl, trivial⟩ rfl
  · unfold m_Turning_mix_in_l1
    refine b_ifA (t_conv (t_val (e_any rfl (e_new (n_comp (s := rBool) rfl sc_Turning_mix_in.nd (s_rng2 (e_add (e_name 1) fun _ => e_int) (fun _ => (e_fldO (s := rInt) 0 0 T.cl_Turning T.na_Turning_wide rfl rfl rfl)) T.b_range) (blkOk_by (own := [("j", 4)]) rfl) (tg_name (i := 4)) (fun _ _ _ _ _ => (pg_name (i := 4) sc_Turning_mix_in.nd rfl (by walk_at "loc"))) (by decide) (fun _ _ _ _ _ _ _ _ _ => (e_neI (e_mod (e_cell (fun p hp => List.mem_cons_of_mem _ (tos_in (C := ad.c_Turning) (k := c) p hp)) (e_idxE (e_fldO 0 1 T.cl_Turning T.na_Turning_work rfl rfl rfl) (List.mem_cons_of_mem _ in_w) (e_name 3)) (e_name 4)) fun _ => (e_name 2)) fun _ => e_int)))) T.b_any)) (by walk_at "wn")) ?_ ?_
    · refine b_exprP (s := s) (osf := tos ad.c_Turning c) (es_conv (es_methO 0 0 (ok_Turning_add_row T) pass0 sps_T (hr.mono (by walk_at "lev")) T.cl_Turning T.mt_Turning_add_row T.cb_Turning_add_row_3 (fun _ => .nil) (hh_pos (aa_cons (e_name 1) fun _ => (aa_cons (e_name 3) fun _ => (aa_cons e_int fun _ => aa_nil))) (fun _ => rfl)) (fun _ => rfl) rfl rfl rfl) (by walk_at "wn")) (fun y => ?_)
      exact b_retT (RtT.x RtT.fl) (es_conv (es_of (osf := tos ad.c_Turning c) (s := y.2) e_bl) (by walk_at "wn"))
    · exact b_end (NxOk.ft (s := s) ⟨.inl rfl, .inl rfl, .inl rfl, .inr rfl, .inl rfl, trivial⟩)
  · refine bg_nx ?_
    exact b_retT RtT.fn (es_conv (es_of e_bl) (by walk_at "wn"))
def m_Turning_make_positive (st : TRs) (a_at : Int) : W (Unit × TRs) :=
  bnd (bnd (bnd (idx st.w a_at) fun p => chk (p ∈ st.all) (idx p.2 a_at)) fun t => ret (decide (t < (0 : Int)))) fun b => bnd (if b = true then (bnd (noX (m_Turning_add_row st a_at a_at (-2))) fun y => ret y.2) else ret st) fun s => ret ((), s)
theorem ok_Turning_make_positive (T : Txt P K mg ad) : FnOk P w K mg base CX0 2 ad.f_Turning_make_positive ad.d_Turning_make_positive ["self", "at"] (spS (fun (c : TK) (i : Int × Unit) => [sv (rAdr c.d) (), sv rInt i.1]) (tos ad.c_Turning) rNon (fun c s i => m_Turning_make_positive s i.1)) := by
  refine okT T.F_Turning_make_positive sc_Turning_make_positive (fun _ _ => rfl) fun cdv A outer s0 H0 E0 B c st i hr => ?_
  obtain ⟨a_at, _⟩ := i
  have hu := hr.units
  have hu2 := room100 hr
  have hu8 := Nat.lt_of_le_of_lt (Nat.add_le_add_left (show 8 ≤ 100 by decide) _) hu2
  show BG _ _ _ _ _ _ (m_Turning_make_positive st a_at)
  unfold m_Turning_make_positive
  refine b_ifJ (S := TRs) (fun s => [sv (rAdr c.d) (), sv rInt a_at]) (tos ad.c_Turning c) (t_conv (t_lt (e_cell (tos_in (C := ad.c_Turning) (k := c)) (e_idxE (e_fldO 0 0 T.cl_Turning T.na_Turning_work rfl rfl rfl) in_w (e_name 1)) (e_name 1)) fun _ => e_int) (by walk_at "wn")) ?_ ?_ (fun s => ?_)
  · refine b_exprP (s := st) (osf := tos ad.c_Turning c) (es_conv (es_methO 0 0 (ok_Turning_add_row T) pass0 sps_T (hr.mono (by walk_at "lev")) T.cl_Turning T.mt_Turning_add_row T.cb_Turning_add_row_3 (fun _ => .nil) (hh_pos (aa_cons (e_name 1) fun _ => (aa_cons (e_name 1) fun _ => (aa_cons (e_neg e_int) fun _ => aa_nil))) (fun _ => rfl)) (fun _ => rfl) rfl rfl rfl) (by walk_at "wn")) (fun y => ?_)
    exact b_end (NxOk.nx (s := y.2) ⟨.inl rfl, .inl rfl, trivial⟩)
  · exact b_end (NxOk.nx (s := st) ⟨.inl rfl, .inl rfl, trivial⟩)
  · exact b_end NxOk.t
def m_Turning_init_v0c (wide at_ : Int) (s : TRs) : W (Bool × TRs) :=
  bnd (bnd (ret (decide (at_ < (if wide < (s.w.length : Int) then wide else (s.w.length : Int))))) fun x => ret (x, s)) fun x => if x.1 = true then noX (m_Turning_bring_least wide x.2 at_) else ret (false, x.2)
def m_Turning_init_v0b (wide at_ : Int) (s : TRs) : W (Int × TRs) :=
  bnd (bnd (noX (m_Turning_clear_cross wide s at_)) fun x => if x.1 = true then noX (m_Turning_mix_in wide x.2 at_) else ret (false, x.2)) fun b => bnd (if b.1 = true then (bnd (noX (m_Turning_make_positive b.2 at_)) fun y => bnd (ret (1 : Int)) fun y8 => bnd (ret (at_ + y8)) fun a => ret (a, y.2)) else ret (at_, b.2)) ret
def m_Turning_init_v0 (a_rows : List (List Int)) : W Turning_ :=
  bnd (noX (m_need_rows_v0 a_rows)) fun _ => bnd (mapW (fun (x : List Int) => ret x) a_rows) fun own_rows => bnd (mapW (fun (x : List Int) => ret x) a_rows) fun xss => bnd (newM xss) fun W => bnd (bnd (ret (!W.isEmpty)) fun c => if c = true then (bnd (idx W 0) fun q => chk (q ∈ W) (ret (q.2.length : Int))) else ret 0) fun wide => bnd (noX (m_unit_rows (W.length : Int))) fun lss => bnd (newM lss) fun L => bnd (noX (m_unit_rows wide)) fun rss => bnd (newM rss) fun R => bnd (ret 0) fun at_ => bnd (whileT (m_Turning_init_v0c wide) (m_Turning_init_v0b wide) at_ ⟨W, L, R⟩) fun y => bnd (ret y.1) fun rk => ret (⟨own_rows, y.2.w.map (·.2), wide, y.2.l.map (·.2), y.2.r.map (·.2), rk⟩ : Turning_)
theorem ok_Turning_init_v0 (T : Txt P K mg ad) : FnOk P w K mg base CX0 4 ad.f_Turning_init ad.d_Turning_init ["self", "rows"] (spI ad.c_Turning (fun i : (List (List Int)) × Unit => [sv (rLst (rLst rInt)) i.1]) (fun i => m_Turning_init_v0 i.1) (fl_Turning K ad)) := by
  refine initW T.F_Turning_init sc_Turning_init (fun _ => rfl) fun cdv A outer s0 H0 E0 B self0 i hr => ?_
  obtain ⟨a_rows, _⟩ := i
  have hu := hr.units
  have hu2 := room100 hr
  have hu8 := Nat.lt_of_le_of_lt (Nat.add_le_add_left (show 8 ≤ 100 by decide) _) hu2
  show BG _ _ _ _ _ _ (m_Turning_init_v0 a_rows)
  unfold m_Turning_init_v0
  refine b_expr (e_conv (e_call (ok_need_rows_v0 T) (hr.mono (by walk_at "lev")) T.m_need_rows T.F_need_rows.kp T.bd_need_rows (aa_cons (e_name 1) fun _ => aa_nil) (fun _ => OsLe.none) (fun _ => List.nodup_nil)) (by walk_at "wn")) ?_
  refine b_fldO 0 0 T.cl_Turning T.na_Turning_own_rows rfl rfl (e_conv (e_new (n_comp (s := (rLst rInt)) rfl sc_Turning_init.nd (s_list (e_name 1)) (blkOk_by (own := [("row", 2)]) rfl) (tg_name (i := 2)) (fun _ _ _ _ _ => (pg_name (i := 2) sc_Turning_init.nd rfl (by walk_at "loc"))) (by decide) (fun _ _ _ _ _ _ _ _ _ => (e_new (n_listL (e_name 2) T.b_list))))) (by walk_at "wn")) (fun own_rows => ?_)
  refine b_fldM 0 0 T.cl_Turning T.na_Turning_work rfl rfl (m_conv (m_comp rfl sc_Turning_init.nd (s_list (e_name 1)) (blkOk_by (own := [("row", 2)]) rfl) (tg_name (i := 2)) (fun _ _ _ _ _ => (pg_name (i := 2) sc_Turning_init.nd rfl (by walk_at "loc"))) (by decide) (fun _ _ _ _ _ _ _ _ _ => (n_listL (e_name 2) T.b_list))) (by walk_at "wn")) (fun ow W => ?_)
  refine b_perm List.perm_append_comm ?_
  refine b_fldO (r := rInt) 0 0 T.cl_Turning T.na_Turning_wide rfl rfl (e_conv (e_if (t_neNilE hu (e_fldO 0 0 T.cl_Turning T.na_Turning_work rfl rfl rfl) (List.mem_cons_of_mem _ List.mem_cons_self)) (e_lenP (rows := W) (fun p hp => List.mem_cons_of_mem _ (List.mem_cons_of_mem _ (List.mem_map_of_mem hp))) (e_idxE (e_fldO 0 0 T.cl_Turning T.na_Turning_work rfl rfl rfl) (List.mem_cons_of_mem _ List.mem_cons_self) e_int) T.b_len) e_int) (by walk_at "wn")) (fun wide => ?_)
  refine b_fldM 0 0 T.cl_Turning T.na_Turning_own_left rfl rfl (m_conv (e_callZ (conv := fun q : Int × Unit => (q.1, ())) (dfl := []) (dvs := []) (ok_unit_rows T) pass0 spf_M2 (hr.mono (by walk_at "lev")) T.m_unit_rows T.F_unit_rows.kp T.cb_unit_rows_1 (fun _ => .nil) (hh_pos (aa_cons (e_lenE (e_fldO 0 0 T.cl_Turning T.na_Turning_work rfl rfl rfl) (List.mem_cons_of_mem _ List.mem_cons_self) T.b_len) fun _ => aa_nil) (fun _ => rfl)) (fun _ => rfl)) (by walk_at "wn")) (fun ol L => ?_)
  refine b_perm (List.perm_middle) ?_
  refine b_fldM 0 0 T.cl_Turning T.na_Turning_own_right rfl rfl (m_conv (e_callZ (conv := fun q : Int × Unit => (q.1, ())) (dfl := []) (dvs := []) (ok_unit_rows T) pass0 spf_M2 (hr.mono (by walk_at "lev")) T.m_unit_rows T.F_unit_rows.kp T.cb_unit_rows_1 (fun _ => .nil) (hh_pos (aa_cons (e_fldO (s := rInt) 0 0 T.cl_Turning T.na_Turning_wide rfl rfl rfl) fun _ => aa_nil) (fun _ => rfl)) (fun _ => rfl)) (by walk_at "wn")) (fun orr R => ?_)
  have tk := tos_start (C := ad.c_Turning) (k := (⟨self0, ow, ol, orr, own_rows, wide⟩ : TK)) (s := ⟨W, L, R⟩)
  refine b_re tk.1 tk.2 ?_
  refine b_set 3 (e_conv e_int (by walk_at "wn")) (fun at_ => ?_) sc_Turning_init.nd
  refine b_whileT (A := Int) (c := m_Turning_init_v0c wide) (f := m_Turning_init_v0b wide) (fun at_ => [sv (rAdr self0) (), sv (rLst (rLst rInt)) a_rows, sa, sv rInt at_]) (tos ad.c_Turning (⟨self0, ow, ol, orr, own_rows, wide⟩ : TK)) at_ ⟨W, L, R⟩ PassesOwn.never (fun at_ s => ?_) (fun at_ s => ?_) (fun at_ s => ?_) ⟨.inl rfl, .inl rfl, .inl rfl, .inl rfl, trivial⟩ rfl
  · unfold m_Turning_init_v0c
    exact ts_conv (ts_pw (ws_and (ts_of (t_lt (e_name 3) fun _ => (e_min2 rfl (e_lenE (e_fldO 0 0 T.cl_Turning T.na_Turning_work rfl rfl rfl) in_w T.b_len) (fun _ => (e_fldO (s := rInt) 0 0 T.cl_Turning T.na_Turning_wide rfl rfl rfl)) T.b_min))) fun s' => ws_and1 (ts_val (es_methO 0 0 (ok_Turning_bring_least T) pass0 (sps_T (c := (⟨self0, ow, ol, orr, own_rows, wide⟩ : TK))) (hr.mono (by walk_at "lev")) T.cl_Turning T.mt_Turning_bring_least T.cb_Turning_bring_least_1 (fun _ => .nil) (hh_pos (aa_cons (e_name 3) fun _ => aa_nil) (fun _ => rfl)) (fun _ => rfl) rfl rfl rfl)))) (by walk_at "wn")
  · unfold m_Turning_init_v0b
    refine b_ifJS (w1 := fun s' => bnd (noX (m_Turning_make_positive s' at_)) fun y => bnd (ret (1 : Int)) fun y8 => bnd (ret (at_ + y8)) fun a => ret (a, y.2)) (w2 := fun s' => ret (at_, s')) (w3 := ret) (S := Int × TRs) (s := s) (osf := tos ad.c_Turning (⟨self0, ow, ol, orr, own_rows, wide⟩ : TK)) (fun y => [sv (rAdr self0) (), sv (rLst (rLst rInt)) a_rows, sa, sv rInt y.1]) (fun y => tos ad.c_Turning (⟨self0, ow, ol, orr, own_rows, wide⟩ : TK) y.2) ?_ (fun s' => ?_) (fun s' => ?_) (fun y => ?_)
    · exact ts_conv (ts_pw (ws_and (ts_val (es_methO 0 0 (ok_Turning_clear_cross T) pass0 (sps_T (c := (⟨self0, ow, ol, orr, own_rows, wide⟩ : TK))) (hr.mono (by walk_at "lev")) T.cl_Turning T.mt_Turning_clear_cross T.cb_Turning_clear_cross_1 (fun _ => .nil) (hh_pos (aa_cons (e_name 3) fun _ => aa_nil) (fun _ => rfl)) (fun _ => rfl) rfl rfl rfl)) fun s' => ws_and1 (ts_val (es_methO 0 0 (ok_Turning_mix_in T) pass0 (sps_T (c := (⟨self0, ow, ol, orr, own_rows, wide⟩ : TK))) (hr.mono (by walk_at "lev")) T.cl_Turning T.mt_Turning_mix_in T.cb_Turning_mix_in_1 (fun _ => .nil) (hh_pos (aa_cons (e_name 3) fun _ => aa_nil) (fun _ => rfl)) (fun _ => rfl) rfl rfl rfl)))) (by walk_at "wn")
    · refine b_exprP (s := s') (osf := tos ad.c_Turning (⟨self0, ow, ol, orr, own_rows, wide⟩ : TK)) (es_conv (es_methO 0 0 (ok_Turning_make_positive T) pass0 (sps_T (c := (⟨self0, ow, ol, orr, own_rows, wide⟩ : TK))) (hr.mono (by walk_at "lev")) T.cl_Turning T.mt_Turning_make_positive T.cb_Turning_make_positive_1 (fun _ => .nil) (hh_pos (aa_cons (e_name 3) fun _ => aa_nil) (fun _ => rfl)) (fun _ => rfl) rfl rfl rfl) (by walk_at "wn")) (fun y => ?_)
      refine b_augI 3 ip_add rfl (e_conv e_int (by walk_at "wn")) (fun at_7 => ?_) sc_Turning_init.nd
      exact b_end (NxOk.nx (s := ((at_7, y.2) : Int × TRs)) ⟨.inl rfl, .inl rfl, .inl rfl, .inl rfl, trivial⟩)
    · exact b_end (NxOk.nx (s := ((at_, s') : Int × TRs)) ⟨.inl rfl, .inl rfl, .inl rfl, .inl rfl, trivial⟩)
    · exact b_end (NxOk.nx (s := y) ⟨.inl rfl, .inl rfl, .inl rfl, .inl rfl, trivial⟩)
  · refine b_fldO (r := rInt) 0 0 T.cl_Turning T.na_Turning_own_rank rfl rfl (e_name 3) (fun rk => ?_)
    exact b_end (made_T (C := ad.c_Turning) (k := (⟨self0, ow, ol, orr, own_rows, wide⟩ : TK)) rfl)
def m_Turning_init_v1c (wide at_ : Int) (s : TRs) : W (Bool × TRs) :=
  bnd (bnd (ret (decide (at_ < (if wide < (s.w.length : Int) then wide else (s.w.length : Int))))) fun x => ret (x, s)) fun x => if x.1 = true then noX (m_Turning_bring_least wide x.2 at_) else ret (false, x.2)
def m_Turning_init_v1b (wide at_ : Int) (s : TRs) : W (Int × TRs) :=
  bnd (bnd (noX (m_Turning_clear_cross wide s at_)) fun x => if x.1 = true then noX (m_Turning_mix_in wide x.2 at_) else ret (false, x.2)) fun b => bnd (if b.1 = true then (bnd (noX (m_Turning_make_positive b.2 at_)) fun y => bnd (ret (1 : Int)) fun y8 => bnd (ret (at_ + y8)) fun a => ret (a, y.2)) else ret (at_, b.2)) ret
def m_Turning_init_v1 (a_rows : List (List Int)) : W Turning_ :=
  bnd (noX (m_need_rows_v1 a_rows)) fun _ => bnd (mapW (fun (x : List Int) => ret x) a_rows) fun own_rows => bnd (mapW (fun (x : List Int) => ret x) a_rows) fun xss => bnd (newM xss) fun W => bnd (bnd (ret (!W.isEmpty)) fun c => if c = true then (bnd (idx W 0) fun q => chk (q ∈ W) (ret (q.2.length : Int))) else ret 0) fun wide => bnd (noX (m_unit_rows (W.length : Int))) fun lss => bnd (newM lss) fun L => bnd (noX (m_unit_rows wide)) fun rss => bnd (newM rss) fun R => bnd (ret 0) fun at_ => bnd (whileT (m_Turning_init_v1c wide) (m_Turning_init_v1b wide) at_ ⟨W, L, R⟩) fun y => bnd (ret y.1) fun rk => ret (⟨own_rows, y.2.w.map (·.2), wide, y.2.l.map (·.2), y.2.r.map (·.2), rk⟩ : Turning_)
theorem ok_Turning_init_v1 (T : Txt P K mg ad) : FnOk P w K mg base CX0 4 ad.f_Turning_init ad.d_Turning_init ["self", "rows"] (spI ad.c_Turning (fun i : (List (List Int)) × Unit => [sv (rLst (rTup K rInt)) i.1]) (fun i => m_Turning_init_v1 i.1) (fl_Turning K ad)) := by
  refine initW T.F_Turning_init sc_Turning_init (fun _ => rfl) fun cdv A outer s0 H0 E0 B self0 i hr => ?_
  obtain ⟨a_rows, _⟩ := i
  have hu := hr.units
  have hu2 := room100 hr
  have hu8 := Nat.lt_of_le_of_lt (Nat.add_le_add_left (show 8 ≤ 100 by decide) _) hu2
  show BG _ _ _ _ _ _ (m_Turning_init_v1 a_rows)
  unfold m_Turning_init_v1
  refine b_expr (e_conv (e_call (ok_need_rows_v1 T) (hr.mono (by walk_at "lev")) T.m_need_rows T.F_need_rows.kp T.bd_need_rows (aa_cons (e_name 1) fun _ => aa_nil) (fun _ => OsLe.none) (fun _ => List.nodup_nil)) (by walk_at "wn")) ?_
  refine b_fldO 0 0 T.cl_Turning T.na_Turning_own_rows rfl rfl (e_conv (e_new (n_comp (s := (rLst rInt)) rfl sc_Turning_init.nd (s_list (e_name 1)) (blkOk_by (own := [("row", 2)]) rfl) (tg_name (i := 2)) (fun _ _ _ _ _ => (pg_name (i := 2) sc_Turning_init.nd rfl (by walk_at "loc"))) (by decide) (fun _ _ _ _ _ _ _ _ _ => (e_new (n_listT (e_name 2) T.b_list))))) (by walk_at "wn")) (fun own_rows => ?_)
  refine b_fldM 0 0 T.cl_Turning T.na_Turning_work rfl rfl (m_conv (m_comp rfl sc_Turning_init.nd (s_list (e_name 1)) (blkOk_by (own := [("row", 2)]) rfl) (tg_name (i := 2)) (fun _ _ _ _ _ => (pg_name (i := 2) sc_Turning_init.nd rfl (by walk_at "loc"))) (by decide) (fun _ _ _ _ _ _ _ _ _ => (n_listT (e_name 2) T.b_list))) (by walk_at "wn")) (fun ow W => ?_)
  refine b_perm List.perm_append_comm ?_
  refine b_fldO (r := rInt) 0 0 T.cl_Turning T.na_Turning_wide rfl rfl (e_conv (e_if (t_neNilE hu (e_fldO 0 0 T.cl_Turning T.na_Turning_work rfl rfl rfl) (List.mem_cons_of_mem _ List.mem_cons_self)) (e_lenP (rows := W) (fun p hp => List.mem_cons_of_mem _ (List.mem_cons_of_mem _ (List.mem_map_of_mem hp))) (e_idxE (e_fldO 0 0 T.cl_Turning T.na_Turning_work rfl rfl rfl) (List.mem_cons_of_mem _ List.mem_cons_self) e_int) T.b_len) e_int) (by walk_at "wn")) (fun wide => ?_)
  refine b_fldM 0 0 T.cl_Turning T.na_Turning_own_left rfl rfl (m_conv (e_callZ (conv := fun q : Int × Unit => (q.1, ())) (dfl := []) (dvs := []) (ok_unit_rows T) pass0 spf_M2 (hr.mono (by walk_at "lev")) T.m_unit_rows T.F_unit_rows.kp T.cb_unit_rows_1 (fun _ => .nil) (hh_pos (aa_cons (e_lenE (e_fldO 0 0 T.cl_Turning T.na_Turning_work rfl rfl rfl) (List.mem_cons_of_mem _ List.mem_cons_self) T.b_len) fun _ => aa_nil) (fun _ => rfl)) (fun _ => rfl)) (by walk_at "wn")) (fun ol L => ?_)
  refine b_perm (List.perm_middle) ?_
  refine b_fldM 0 0 T.cl_Turning T.na_Turning_own_right rfl rfl (m_conv (e_callZ (conv := fun q : Int × Unit => (q.1, ())) (dfl := []) (dvs := []) (ok_unit_rows T) pass0 spf_M2 (hr.mono (by walk_at "lev")) T.m_unit_rows T.F_unit_rows.kp T.cb_unit_rows_1 (fun _ => .nil) (hh_pos (aa_cons (e_fldO (s := rInt) 0 0 T.cl_Turning T.na_Turning_wide rfl rfl rfl) fun _ => aa_nil) (fun _ => rfl)) (fun _ => rfl)) (by walk_at "wn")) (fun orr R => ?_)
  have tk := tos_start (C := ad.c_Turning) (k := (⟨self0, ow, ol, orr, own_rows, wide⟩ : TK)) (s := ⟨W, L, R⟩)
  refine b_re tk.1 tk.2 ?_
  refine b_set 3 (e_conv e_int (by walk_at "wn")) (fun at_ => ?_) sc_Turning_init.nd
  refine b_whileT (A := Int) (c := m_Turning_init_v1c wide) (f := m_Turning_init_v1b wide) (fun at_ => [sv (rAdr self0) (), sv (rLst (rTup K rInt)) a_rows, sa, sv rInt at_]) (tos ad.c_Turning (⟨self0, ow, ol, orr, own_rows, wide⟩ : TK)) at_ ⟨W, L, R⟩ PassesOwn.never (fun at_ s => ?_) (fun at_ s => ?_) (fun at_ s => ?_) ⟨.inl rfl, .inl rfl, .inl rfl, .inl rfl, trivial⟩ rfl
  · unfold m_Turning_init_v1c
    exact ts_conv (ts_pw (ws_and (ts_of (t_lt (e_name 3) fun _ => (e_min2 rfl (e_lenE (e_fldO 0 0 T.cl_Turning T.na_Turning_work rfl rfl rfl) in_w T.b_len) (fun _ => (e_fldO (s := rInt) 0 0 T.cl_Turning T.na_Turning_wide rfl rfl rfl)) T.b_min))) fun s' => ws_and1 (ts_val (es_methO 0 0 (ok_Turning_bring_least T) pass0 (sps_T (c := (⟨self0, ow, ol, orr, own_rows, wide⟩ : TK))) (hr.mono (by walk_at "lev")) T.cl_Turning T.mt_Turning_bring_least T.cb_Turning_bring_least_1 (fun _ => .nil) (hh_pos (aa_cons (e_name 3) fun _ => aa_nil) (fun _ => rfl)) (fun _ => rfl) rfl rfl rfl)))) (by walk_at "wn")
  · unfold m_Turning_init_v1b
    refine b_ifJS (w1 := fun s' => bnd (noX (m_Turning_make_positive s' at_)) fun y => bnd (ret (1 : Int)) fun y8 => bnd (ret (at_ + y8)) fun a => ret (a, y.2)) (w2 := fun s' => ret (at_, s')) (w3 := ret) (S := Int × TRs) (s := s) (osf := tos ad.c_Turning (⟨self0, ow, ol, orr, own_rows, wide⟩ : TK)) (fun y => [sv (rAdr self0) (), sv (rLst (rTup K rInt)) a_rows, sa, sv rInt y.1]) (fun y => tos ad.c_Turning (⟨self0, ow, ol, orr, own_rows, wide⟩ : TK) y.2) ?_ (fun s' => ?_) (fun s' => ?_) (fun y => ?_)
    · exact ts_conv (ts_pw (ws_and (ts_val (es_methO 0 0 (ok_Turning_clear_cross T) pass0 (sps_T (c := (⟨self0, ow, ol, orr, own_rows, wide⟩ : TK))) (hr.mono (by walk_at "lev")) T.cl_Turning T.mt_Turning_clear_cross T.cb_Turning_clear_cross_1 (fun _ => .nil) (hh_pos (aa_cons (e_name 3) fun _ => aa_nil) (fun _ => rfl)) (fun _ => rfl) rfl rfl rfl)) fun s' => ws_and1 (ts_val (es_methO 0 0 (ok_Turning_mix_in T) pass0 (sps_T (c := (⟨self0, ow, ol, orr, own_rows, wide⟩ : TK))) (hr.mono (by walk_at "lev")) T.cl_Turning T.mt_Turning_mix_in T.cb_Turning_mix_in_1 (fun _ => .nil) (hh_pos (aa_cons (e_name 3) fun _ => aa_nil) (fun _ => rfl)) (fun _ => rfl) rfl rfl rfl)))) (by walk_at "wn")
    · refine b_exprP (s := s') (osf := tos ad.c_Turning (⟨self0, ow, ol, orr, own_rows, wide⟩ : TK)) (es_conv (es_methO 0 0 (ok_Turning_make_positive T) pass0 (sps_T (c := (⟨self0, ow, ol, orr, own_rows, wide⟩ : TK))) (hr.mono (by walk_at "lev")) T.cl_Turning T.mt_Turning_make_positive T.cb_Turning_make_positive_1 (fun _ => .nil) (hh_pos (aa_cons (e_name 3) fun _ => aa_nil) (fun _ => rfl)) (fun _ => rfl) rfl rfl rfl) (by walk_at "wn")) (fun y => ?_)
      refine b_augI 3 ip_add rfl (e_conv e_int (by walk_at "wn")) (fun at_7 => ?_) sc_Turning_init.nd
      exact b_end (NxOk.nx (s := ((at_7, y.2) : Int × TRs)) ⟨.inl rfl, .inl rfl, .inl rfl, .inl rfl, trivial⟩)
    · exact b_end (NxOk.nx (s := ((at_, s') : Int × TRs)) ⟨.inl rfl, .inl rfl, .inl rfl, .inl rfl, trivial⟩)
    · exact b_end (NxOk.nx (s := y) ⟨.inl rfl, .inl rfl, .inl rfl, .inl rfl, trivial⟩)
  · refine b_fldO (r := rInt) 0 0 T.cl_Turning T.na_Turning_own_rank rfl rfl (e_name 3) (fun rk => ?_)
    exact b_end (made_T (C := ad.c_Turning) (k := (⟨self0, ow, ol, orr, own_rows, wide⟩ : TK)) rfl)
def m_Turning_init_v2 (a_rows : (List PyData)) : W Turning_ :=
  bnd (m_need_rows_v2 a_rows) fun _ => fail
theorem ok_Turning_init_v2 (T : Txt P K mg ad) : FnOk P w K mg base (L2.CX P w) 4 ad.f_Turning_init ad.d_Turning_init ["self", "rows"] (spIX K (tbl K ad) ad.c_Turning (fun i : (List PyData) × Unit => [sv (rLst (rD K)) i.1]) (fun i => m_Turning_init_v2 i.1) (fl_Turning K ad)) := by
  refine initX T.F_Turning_init sc_Turning_init (fun _ => rfl) fun cdv A outer s0 H0 E0 B self0 i hr tk => ?_
  obtain ⟨a_rows, _⟩ := i
  have hu := hr.units
  have hu2 := room100 hr
  have hu8 := Nat.lt_of_le_of_lt (Nat.add_le_add_left (show 8 ≤ 100 by decide) _) hu2
  show BG _ _ _ _ _ _ (m_Turning_init_v2 a_rows)
  unfold m_Turning_init_v2
  refine b_expr (e_conv (er_V (e_callZ (conv := fun q : (List PyData) × Unit => (q.1, ())) (dfl := []) (dvs := []) (ok_need_rows_v2 T) (passB tk) spf_X0 (hr.mono (by walk_at "lev")) T.m_need_rows T.F_need_rows.kp T.cb_need_rows_1 (fun _ => .nil) (hh_pos (aa_cons (e_name 1) fun _ => aa_nil) (fun _ => rfl)) (fun _ => rfl))) (by walk_at "wn")) ?_
  exact b_never
def m_Turning_init_v3 (a_rows : PyData) : W Turning_ :=
  bnd (m_need_rows_v4 a_rows) fun _ => fail
theorem ok_Turning_init_v3 (T : Txt P K mg ad) : FnOk P w K mg base (L2.CX P w) 4 ad.f_Turning_init ad.d_Turning_init ["self", "rows"] (spIX K (tbl K ad) ad.c_Turning (fun i : PyData × Unit => [sv (rD K) i.1]) (fun i => m_Turning_init_v3 i.1) (fl_Turning K ad)) := by
  refine initX T.F_Turning_init sc_Turning_init (fun _ => rfl) fun cdv A outer s0 H0 E0 B self0 i hr tk => ?_
  obtain ⟨a_rows, _⟩ := i
  have hu := hr.units
  have hu2 := room100 hr
  have hu8 := Nat.lt_of_le_of_lt (Nat.add_le_add_left (show 8 ≤ 100 by decide) _) hu2
  show BG _ _ _ _ _ _ (m_Turning_init_v3 a_rows)
  unfold m_Turning_init_v3
  refine b_expr (e_conv (er_V (e_callZ (conv := fun q : PyData × Unit => (q.1, ())) (dfl := []) (dvs := []) (ok_need_rows_v4 T) (passB tk) spf_X0 (hr.mono (by walk_at "lev")) T.m_need_rows T.F_need_rows.kp T.cb_need_rows_1 (fun _ => .nil) (hh_pos (aa_cons (e_name 1) fun _ => aa_nil) (fun _ => rfl)) (fun _ => rfl))) (by walk_at "wn")) ?_
  exact b_never
def m_Turning_left (a_self : Turning_) : W (List (List Int)) :=
  bnd (mapW (fun (x1 : (List Int)) => ret (x1)) a_self.own_left) fun z => ret z
theorem ok_Turning_left (T : Txt P K mg ad) : FnOk P w K mg base CX0 1 ad.f_Turning_left ad.d_Turning_left ["self"] (spW (fun i : Turning_ × Unit => [sv (rObj ad.c_Turning (fl_Turning K ad)) i.1]) (fun _ => []) (fun i => m_Turning_left i.1) (rLst (rLst rInt))) := by
  refine okW T.F_Turning_left sc_Turning_left (fun _ => rfl) fun cdv A outer s0 H0 E0 B i hr => ?_
  obtain ⟨a_self, _⟩ := i
  have hu := hr.units
  have hu2 := room100 hr
  have hu8 := Nat.lt_of_le_of_lt (Nat.add_le_add_left (show 8 ≤ 100 by decide) _) hu2
  show BG _ _ _ _ _ _ (m_Turning_left a_self)
  unfold m_Turning_left
  exact b_ret RtOk.fn OsW.nil (e_conv (e_new (n_comp (s := (rLst rInt)) rfl sc_Turning_left.nd (s_list (e_fld (g := fun q : Turning_ => q.own_left) T.cl_Turning T.na_Turning_own_left (e_name 0))) (blkOk_by (own := [("row", 1)]) rfl) (tg_name (i := 1)) (fun _ _ _ _ _ => (pg_name (i := 1) sc_Turning_left.nd rfl (by walk_at "loc"))) (by decide) (fun _ _ _ _ _ _ _ _ _ => (e_new (n_listL (e_name 1) T.b_list))))) (by walk_at "wn"))
def m_Turning_right (a_self : Turning_) : W (List (List Int)) :=
  bnd (mapW (fun (x1 : (List Int)) => ret (x1)) a_self.own_right) fun z => ret z
theorem ok_Turning_right (T : Txt P K mg ad) : FnOk P w K mg base CX0 1 ad.f_Turning_right ad.d_Turning_right ["self"] (spW (fun i : Turning_ × Unit => [sv (rObj ad.c_Turning (fl_Turning K ad)) i.1]) (fun _ => []) (fun i => m_Turning_right i.1) (rLst (rLst rInt))) := by
  refine okW T.F_Turning_right sc_Turning_right (fun _ => rfl) fun cdv A outer s0 H0 E0 B i hr => ?_
  obtain ⟨a_self, _⟩ := i
  have hu := hr.units
  have hu2 := room100 hr
  have hu8 := Nat.lt_of_le_of_lt (Nat.add_le_add_left (show 8 ≤ 100 by decide) _) hu2
  show BG _ _ _ _ _ _ (m_Turning_right a_self)
  unfold m_Turning_right
  exact b_ret RtOk.fn OsW.nil (e_conv (e_new (n_comp (s := (rLst rInt)) rfl sc_Turning_right.nd (s_list (e_fld (g := fun q : Turning_ => q.own_right) T.cl_Turning T.na_Turning_own_right (e_name 0))) (blkOk_by (own := [("row", 1)]) rfl) (tg_name (i := 1)) (fun _ _ _ _ _ => (pg_name (i := 1) sc_Turning_right.nd rfl (by walk_at "loc"))) (by decide) (fun _ _ _ _ _ _ _ _ _ => (e_new (n_listL (e_name 1) T.b_list))))) (by walk_at "wn"))
def m_law_bag_l1 (s : Int) (x : Int) : W Int :=
  bnd (bnd (mulI s 50147) fun t1 => bnd (modI x 2147483543) fun t2 => bnd (modI (t1 + t2 + 31) 2147483563) fun t3 => ret t3) fun m => ret m
def m_law_bag (ns : List Int) : W (List Int × Int) :=
  bnd (ret 12021) fun m => bnd (ret (cutL ns none (some 63))) fun xs => bnd (forW m_law_bag_l1 m xs) fun s : Int => bnd (ret (cutL ns none (some 63))) fun c => bnd (ret s) fun y => ret (c, y)
theorem ok_law_bag (T : Txt P K mg ad) : FnOk P w K mg base CX0 1 ad.f_law_bag ad.d_law_bag ["_law_script"] (spBag K) := by
  refine T.F_law_bag.ok sc_law_bag (fun vs H Q E ⟨a, ns, e, _⟩ => by rw [e]; rfl) fun cdv A outer s H vs Q E hr hsp => ?_
  obtain ⟨a, ns, rfl, hsq, hlen, hk⟩ := hsp
  refine ⟨_, (?_ : BG _ (bs0 H H []) [sv (rScr K) ns, sa, sa] [] _ (pBag (bs0 H H [])) (m_law_bag ns)), H, fun _ => True, ⟨bs0_start (Ex.refl H) (fun p hp => nomatch hp), .cons ⟨_, rfl, a, rfl, hsq, hlen⟩ (.cons trivial (.cons trivial .nil)), (fun p hp => nomatch hp), List.nodup_nil⟩, ?_, fun y hy b c H' h1 h2 h3 h4 h5 h6 h7 => hk b c _ _ H' h1 h2 h3 h4 h5 h6 h7⟩
  · unfold m_law_bag
    refine b_set 1 e_int (fun m => ?_) sc_law_bag.nd
    refine b_for (S := Int) (fun s => [sv (rScr K) ns, sv rInt s, sa]) (fun _ => []) (m : Int) rfl PassesOwn.never (s_conv (s_list (e_new (n_sliceScr (e_name 0) o_none (o_some e_int)))) (by walk_at "wn")) (tg_name (i := 2)) (pg_name (i := 2) sc_law_bag.nd rfl (by walk_at "loc")) (fun M s x => ?_) (fun s => ?_) ⟨.inl rfl, .inl rfl, .inr rfl, trivial⟩ rfl
    · unfold m_law_bag_l1
      refine b_set 1 (e_conv (e_mod (e_intI (e_add (e_add (e_mul (e_name 1) fun _ => e_int) fun _ => e_mod (e_intI (e_name 2) T.b_int) fun _ => e_int) fun _ => e_int) T.b_int) fun _ => e_int) (by walk_at "wn")) (fun m => ?_) sc_law_bag.nd
      exact b_end (NxOk.nxS (s := m) ⟨.inl rfl, .inl rfl, .inr rfl, trivial⟩ .slnil)
    · exact b_bagR (w1 := ret (cutL ns none (some 63))) (w2 := fun _ => ret s) (fun _ h => nomatch h) (n_conv (n_listL (e_new (n_sliceScr (e_name 0) o_none (o_some e_int))) T.b_list) (by walk_at "wn")) (fun _ _ => e_name 1)
  · unfold m_law_bag
    show forW m_law_bag_l1 12021 _ (fun _ => True) (fun _ => False)
    refine forW_of (I := fun _ => True) (fun s x Q _ h => ?_) trivial (fun _ _ => trivial)
    unfold m_law_bag_l1
    refine mulI_of (mul_small (by decide)) ?_
    refine modI_of (by decide) fun _ _ _ => ?_
    exact modI_of (by decide) fun _ _ _ => h _ trivial
theorem ok_law_draw (T : Txt P K mg ad) (b : Addr) (cells : List Int) : FnOk P w K mg base CX0 1 ad.f_law_draw ad.d_law_draw ["_law_bag_here", "_law_most"] (spW (fun i : Unit × Int × Unit => [sv (rAdr b) i.1, sv rInt i.2.1]) (fun _ => [(b, oBag cells)]) (fun i => drawW i.2.1) rInt) := by
  refine okW T.F_law_draw sc_law_draw (fun _ => rfl) fun cdv A outer s H E B i hr => ?_
  obtain ⟨_, most, _⟩ := i
  refine b_open 0 rfl bag_in fun p => ?_
  obtain ⟨n, d, m, k⟩ := p
  refine BG.imp (w := bnd (drC cells n d most) fun b => bnd (if b = true then drA cells n m else ret ()) fun _ : Unit => drawW most) ?_ ?_
  · unfold drC
    refine b_ifJ (S := Unit) (fun _ => [sv (rAdr b) (), sv rInt most, sa, sa, sa, sa]) (fun _ => [(b, oBag cells)])
      (t_conv (t_pw (w_and (t_lt (e_hidx 0 0 2 rfl rfl rfl) fun _ => e_name 1) (w_and1 (t_lt (e_hidx 0 0 1 rfl rfl rfl) fun _ => e_len (e_hidx 0 0 0 rfl rfl rfl) T.b_len)))) (by walk_at "wn")) ?_ ?_ (fun _ => ?_)
    · unfold drA
      refine b_set 2 (e_conv (e_idx (e_hidx 0 0 0 rfl rfl rfl) fun _ => e_hidx 0 0 1 rfl rfl rfl) (by walk_at "wn")) (fun cell => ?_) sc_law_draw.nd
      refine b_hput 0 0 1 rfl rfl (by show (1 : Nat) < 5; decide) (e_conv (e_add (e_hidx 0 0 1 rfl rfl rfl) fun _ => e_int) (by walk_at "wn")) (fun i1 => ?_)
      refine b_chk fun hi1 => ?_
      refine b_hput 0 0 3 rfl rfl (by show (3 : Nat) < 5; decide) (e_conv (e_mod (e_intI (e_add (e_add (e_mul (e_hidx 0 0 3 rfl rfl rfl) fun _ => e_int) fun _ => e_mod (e_intI (e_name 2) T.b_int) fun _ => e_int) fun _ => e_int) T.b_int) fun _ => e_int) (by walk_at "wn")) (fun m1 => ?_)
      refine b_hput 0 0 2 rfl rfl (by show (2 : Nat) < 5; decide) (e_conv (e_if (t_ge (e_name 2) fun _ => e_pow e_int fun _ => e_int) (e_name 2) e_int) (by walk_at "wn")) (fun d1 => ?_)
      exact b_end (NxOk.one rfl ⟨.inl rfl, .inl rfl, .inr rfl, .inr rfl, .inr rfl, .inr rfl, trivial⟩ (bag_out (n := n + 1) (by omega)))
    · exact b_end (NxOk.one rfl ⟨.inl rfl, .inl rfl, .inr rfl, .inr rfl, .inr rfl, .inr rfl, trivial⟩ (bag_out rfl))
    · refine b_open 0 rfl bag_in fun p => ?_
      obtain ⟨n, d, m, k⟩ := p
      refine BG.imp (w := bnd (ret (decide (most ≤ d))) fun b => if b = true then drB d most else drR m k most) ?_ ?_
      · refine b_ifA (t_conv (t_ge (e_hidx 0 0 2 rfl rfl rfl) fun _ => e_name 1) (by walk_at "wn")) ?_ ?_
        · unfold drB
          refine b_set 3 (e_conv (e_mod (e_intI (e_hidx 0 0 2 rfl rfl rfl) T.b_int) fun _ => e_name 1) (by walk_at "wn")) (fun digit => ?_) sc_law_draw.nd
          refine b_hput 0 0 2 rfl rfl (by show (2 : Nat) < 5; decide) (e_conv (e_div (e_hidx 0 0 2 rfl rfl rfl) fun _ => e_name 1) (by walk_at "wn")) (fun d1 => ?_)
          exact b_ret (RtOk.x RtOk.fn) (OsW.one (bag_out rfl)) (e_name 3)
        · unfold drR
          refine b_hput 0 0 4 rfl rfl (by show (4 : Nat) < 5; decide) (e_conv (e_add (e_hidx 0 0 4 rfl rfl rfl) fun _ => e_int) (by walk_at "wn")) (fun k1 => ?_)
          refine b_set 4 (e_conv (e_mod (e_intI (e_add (e_hidx 0 0 3 rfl rfl rfl) fun _ => e_mul (e_hidx 0 0 4 rfl rfl rfl) fun _ => e_int) T.b_int) fun _ => e_int) (by walk_at "wn")) (fun base => ?_) sc_law_draw.nd
          refine b_set 5 (e_conv (e_mul (e_mod (e_intI (e_mul (e_name 4) fun _ => e_name 4) T.b_int) fun _ => e_int) fun _ => e_add (e_mod (e_intI (e_name 4) T.b_int) fun _ => e_int) fun _ => e_int) (by walk_at "wn")) (fun late => ?_) sc_law_draw.nd
          refine b_hput 0 0 3 rfl rfl (by show (3 : Nat) < 5; decide) (e_conv (e_mod (e_intI (e_add (e_add (e_name 5) fun _ => e_mul e_int fun _ => e_name 4) fun _ => e_int) T.b_int) fun _ => e_int) (by walk_at "wn")) (fun m1 => ?_)
          exact b_ret RtOk.fn (OsW.one (bag_out rfl)) (e_conv (e_mod (e_intI (e_add (e_div (e_hidx 0 0 3 rfl rfl rfl) fun _ => e_int) fun _ => e_mul (e_mod (e_intI (e_hidx 0 0 3 rfl rfl rfl) T.b_int) fun _ => e_int) fun _ => e_int) T.b_int) fun _ => e_name 1) (by walk_at "wn"))
      · rintro P E ⟨h1, h2, h3⟩
        show (if decide (most ≤ d) = true then drB d most else drR m k most) P E
        split
        · exact drB_of h1 h2 h3
        · exact drR_of h1 h2 h3
  · intro P E h
    refine drC_of (fun hn => drA_of hn ?_) ?_
    · exact h
    · exact h
theorem ok_law_any {α : Type} (T : Txt P K mg ad) (b : Addr) (cells : List Int) (r : Rp α) : FnOk P w K mg base CX0 2 ad.f_law_any ad.d_law_any ["_law_bag_here", "_law_some"] (spW (fun i : Unit × List α × Unit => [sv (rAdr b) i.1, sv (rLst r) i.2.1]) (fun _ => [(b, oBag cells)]) (fun i => anyW i.2.1) r) := by
  refine okW T.F_law_any sc_law_any (fun _ => rfl) fun cdv A outer s H E B i hr => ?_
  obtain ⟨_, xs, _⟩ := i
  show BG _ _ _ _ _ _ (anyW xs)
  refine b_conv (b_ret RtOk.fn (OsW.of (OsLe.mem (List.Mem.head _))) (e_idx (e_name 1) fun _ => e_call (ok_law_draw T b cells) (hr.mono (by walk_at "lev")) T.m_law_draw T.F_law_draw.kp T.bd_law_draw (aa_cons (e_name 0) fun _ => aa_cons (e_len (e_name 1) T.b_len) fun _ => aa_nil) (fun _ => OsLe.mem (List.Mem.head _)) (fun _ => by simp))) ?_
  unfold anyW
  simp only [Mi.wn_bb, Mi.wn_br, Mi.wn_rb]
def wtX : Nat → W Str

  | _ => fail
def sameXs (x y : List (Str × PyData)) : W Bool := bnd (reprXs wtX x) fun a => bnd (reprXs wtX y) fun b => ret (decide (a = b))
theorem ok_law_same_x (T : Txt P K mg ad) : FnG P w K mg base CX0 6 ad.f_law_same ad.d_law_same ["_law_found", "_law_due"] (spW (fun i : List (Str × PyData) × List (Str × PyData) × Unit => [sv (rLst (rT2 K rStr (rX K (tbl K ad)))) i.1, sv (rLst (rT2 K rStr (rX K (tbl K ad)))) i.2.1]) (fun _ => []) (fun i => sameXs i.1 i.2.1) rBool) := by
  refine fnW T.F_law_same sc_law_same (fun _ => rfl) fun cdv A outer s0 H E B i hr hgu0 => ?_
  obtain ⟨x, y, _⟩ := i
  have hu2 := room100 hr
  have hgu := guards_deeper (q := "_law_same") (sc := defScope s_law_same) (n := s0.heap.objs.size) (f := ad.f_law_same) (c := cdv) hgu0
  have hT : ObT (cxOf CX0 P w K mg base N_law_same "_law_same" (defScope s_law_same) ad.f_law_same cdv A outer s0 H E).nox 1 (tbl K ad) wtX := fun n t h => h.elim
  show BG _ _ _ _ _ _ (sameXs x y)
  refine b_conv (b_ret RtOk.fn OsW.nil (e_eqS (e_reprXs hu2 hgu (hr.mono (by walk_at "lev")) hT (e_name 0) T.b_repr) fun _ => e_reprXs hu2 hgu (hr.mono (by walk_at "lev")) hT (e_name 1) T.b_repr)) ?_
  unfold sameXs
  simp only [Mi.wn_bb, Mi.wn_br, Mi.wn_rb]
def m_law_field (a_law_e : Er) : W PyData :=
  bnd (ret (decide (Str.ofString a_law_e.cls ∈ ([("InvalidForm" : Str), ("InvalidRows" : Str), ("InvalidPoly" : Str), ("InvalidTable" : Str), ("InvalidSingles" : Str), ("InvalidDeed" : Str)])))) fun b1 => if b1 = true then (bnd (excF ftb a_law_e "at") fun z => ret z) else (bnd (ret (decide (Str.ofString a_law_e.cls ∈ ([("DuplicateName" : Str), ("UnknownName" : Str), ("TooMany" : Str), ("TooDeep" : Str)])))) fun b3 => if b3 = true then (bnd (bnd (ret (decide (Str.ofString a_law_e.cls ∈ ([("DuplicateName" : Str), ("UnknownName" : Str)])))) fun c => if c = true then excF ftb a_law_e "name" else excF ftb a_law_e "most") fun z => ret z) else (bnd (ret (decide (Str.ofString a_law_e.cls ∈ ([("InvalidText" : Str), ("OtherParameters" : Str), ("NothingLeft" : Str)])))) fun b7 => if b7 = true then (bnd (ret ((fun _ => .none) (()))) fun z => ret z) else (bnd (ret (decide (Str.ofString a_law_e.cls ∈ ([("InvalidPage" : Str), ("InUse" : Str)])))) fun b8 => if b8 = true then (bnd (bnd (ret (decide (Str.ofString a_law_e.cls = ("InvalidPage" : Str)))) fun c => if c = true then excF ftb a_law_e "line" else excF ftb a_law_e "user") fun z => ret z) else (bnd (ret (decide (Str.ofString a_law_e.cls ∈ ([("Full" : Str), ("NotEnough" : Str)])))) fun b12 => if b12 = true then (bnd (bnd (ret (decide (Str.ofString a_law_e.cls = ("Full" : Str)))) fun c => if c = true then excF ftb a_law_e "limit" else excF ftb a_law_e "number") fun z => ret z) else (bnd (excF ftb a_law_e "given") fun z => ret z)))))
theorem ok_law_field (T : Txt P K mg ad) : FnS P w K mg base 1 ad.f_law_field ad.d_law_field ["_law_e"] (fun p => spW (fun i : Er × Unit => [sv (rExc K (tbl K ad) p) i.1]) (fun _ => []) (fun i => m_law_field i.1) (rX K (tbl K ad))) := by
  refine okS T.F_law_field sc_law_field (fun _ _ => rfl) fun cdv A outer s0 H0 B p i => ?_
  obtain ⟨a_law_e, _⟩ := i
  show BG _ _ _ _ _ _ (m_law_field a_law_e)
  unfold m_law_field
  refine b_ifA (t_conv (t_inST (e_excCode 0 (List.Mem.head _) T.tbok) fun _ => (e_tupL (al_cons e_str (al_cons e_str (al_cons e_str (al_cons e_str (al_cons e_str (al_cons e_str al_nil)))))))) (by walk_at "wn")) ?_ ?_
  · exact b_ret (RtOk.x RtOk.fn) OsW.nil (e_conv (e_excFldX 0 (List.Mem.head _) T.tbok) (by walk_at "wn"))
  · refine b_ifA (t_conv (t_inST (e_excCode 0 (List.Mem.head _) T.tbok) fun _ => (e_tupL (al_cons e_str (al_cons e_str (al_cons e_str (al_cons e_str al_nil)))))) (by walk_at "wn")) ?_ ?_
    · exact b_ret (RtOk.x RtOk.fn) OsW.nil (e_conv (e_if (t_inST (e_excCode 0 (List.Mem.head _) T.tbok) fun _ => (e_tupL (al_cons e_str (al_cons e_str al_nil)))) (e_excFldX 0 (List.Mem.head _) T.tbok) (e_excFldX 0 (List.Mem.head _) T.tbok)) (by walk_at "wn"))
    · refine b_ifA (t_conv (t_inST (e_excCode 0 (List.Mem.head _) T.tbok) fun _ => (e_tupL (al_cons e_str (al_cons e_str (al_cons e_str al_nil))))) (by walk_at "wn")) ?_ ?_
      · exact b_ret (RtOk.x RtOk.fn) OsW.nil (e_conv (e_upX (tb := tbl K ad) (e_toD dd_non e_non)) (by walk_at "wn"))
      · refine b_ifA (t_conv (t_inST (e_excCode 0 (List.Mem.head _) T.tbok) fun _ => (e_tupL (al_cons e_str (al_cons e_str al_nil)))) (by walk_at "wn")) ?_ ?_
        · exact b_ret (RtOk.x RtOk.fn) OsW.nil (e_conv (e_if (t_eqS (e_excCode 0 (List.Mem.head _) T.tbok) fun _ => e_str) (e_excFldX 0 (List.Mem.head _) T.tbok) (e_excFldX 0 (List.Mem.head _) T.tbok)) (by walk_at "wn"))
        · refine b_ifA (t_conv (t_inST (e_excCode 0 (List.Mem.head _) T.tbok) fun _ => (e_tupL (al_cons e_str (al_cons e_str al_nil)))) (by walk_at "wn")) ?_ ?_
          · exact b_ret (RtOk.x RtOk.fn) OsW.nil (e_conv (e_if (t_eqS (e_excCode 0 (List.Mem.head _) T.tbok) fun _ => e_str) (e_excFldX 0 (List.Mem.head _) T.tbok) (e_excFldX 0 (List.Mem.head _) T.tbok)) (by walk_at "wn"))
          · exact b_ret RtOk.fn OsW.nil (e_conv (e_excFldX 0 (List.Mem.head _) T.tbok) (by walk_at "wn"))
def m_law_got (ask : W PyData) : W (Str × PyData) := tryW (bnd ask fun x => ret (("" : Str), x)) fun e => bnd (noX (m_law_field e)) fun x => ret (Str.ofString e.cls, x)
theorem ok_law_got (T : Txt P K mg ad) : FnOk P w K mg base CX0 15 ad.f_law_got ad.d_law_got ["_law_ask"] (spW (fun i : (W PyData) × Unit => [sv (rClo P w K mg base (tbl K ad) 14 (rX K (tbl K ad))) i.1]) (fun _ => []) (fun i => m_law_got i.1) (rT2 K rStr (rX K (tbl K ad)))) := by
  refine tryFn (x1 := "DialError") (x2 := "Missing") (n := "_law_e") (i := 1) (w1 := fun i : (W PyData) × Unit => bnd i.1 fun x => ret (("" : Str), x)) (w2 := fun e => bnd (noX (m_law_field e)) fun x => ret (Str.ofString e.cls, x)) T.F_law_got sc_law_got (fun _ => rfl) rfl rfl rfl rfl rfl (by decide) (by decide) T.n_DialError T.n_Missing T.xall ?_ ?_
  · intro cdv A outer s0 H0 E0 pn xe B i0 hr tk
    obtain ⟨ask, _⟩ := i0
    exact (b_conv (b_ret RtOk.fn OsW.nil (e_tup2 e_str fun _ => e_callClo 0 tk (hr.mono (by walk_at "lev")))) (by walk_at "wn"))
  · intro cdv A outer s0 H0 E0 a oe pn B e hr
    exact (b_conv (b_ret RtOk.fn OsW.nil (e_tup2 (e_excCode 1 (List.Mem.head _) T.tbok) fun _ => e_callS (ok_law_field T) (List.Mem.head _) (L2H.RoomH.mono (k := 14) ⟨hr.dp, hr.un⟩ (by walk_at "lev")) T.m_law_field T.F_law_field.kp T.bd_law_field (aa_cons (e_name 1) fun _ => aa_nil))) (by walk_at "wn"))
def m_law_all_got (a_law_asks : (List (W PyData))) : W (List (Str × PyData)) :=
  bnd (mapW (fun (x1 : (W PyData)) => noX (m_law_got x1)) a_law_asks) fun z => ret z
theorem ok_law_all_got (T : Txt P K mg ad) : FnOk P w K mg base CX0 16 ad.f_law_all_got ad.d_law_all_got ["_law_asks"] (spW (fun i : (List (W PyData)) × Unit => [sv (rLst (rClo P w K mg base (tbl K ad) 14 (rX K (tbl K ad)))) i.1]) (fun _ => []) (fun i => m_law_all_got i.1) (rLst (rT2 K rStr (rX K (tbl K ad))))) := by
  refine okW T.F_law_all_got sc_law_all_got (fun _ => rfl) fun cdv A outer s0 H0 E0 B i hr => ?_
  obtain ⟨a_law_asks, _⟩ := i
  have hu := hr.units
  have hu2 := room100 hr
  have hu8 := Nat.lt_of_le_of_lt (Nat.add_le_add_left (show 8 ≤ 100 by decide) _) hu2
  show BG _ _ _ _ _ _ (m_law_all_got a_law_asks)
  unfold m_law_all_got
  exact b_ret RtOk.fn OsW.nil (e_conv (e_new (n_comp (s := (rT2 K rStr (rX K (tbl K ad)))) rfl sc_law_all_got.nd (s_list (e_name 0)) (blkOk_by (own := [("_law_ask", 1)]) rfl) (tg_name (i := 1)) (fun _ _ _ _ _ => (pg_name (i := 1) sc_law_all_got.nd rfl (by walk_at "loc"))) (by decide) (fun _ _ _ _ _ _ _ _ _ => (e_call (ok_law_got T) (hr.mono (by walk_at "lev")) T.m_law_got T.F_law_got.kp T.bd_law_got (aa_cons (e_name 1) fun _ => aa_nil) (fun _ => OsLe.none) (fun _ => List.nodup_nil))))) (by walk_at "wn"))
def m_law_code (a_law_ask : (W PyData)) : W Str :=
  bnd (bnd (noX (m_law_got a_law_ask)) fun r1 => ret (r1.1)) fun z => ret z
theorem ok_law_code (T : Txt P K mg ad) : FnOk P w K mg base CX0 16 ad.f_law_code ad.d_law_code ["_law_ask"] (spW (fun i : (W PyData) × Unit => [sv (rClo P w K mg base (tbl K ad) 14 (rX K (tbl K ad))) i.1]) (fun _ => []) (fun i => m_law_code i.1) rStr) := by
  refine okW T.F_law_code sc_law_code (fun _ => rfl) fun cdv A outer s0 H0 E0 B i hr => ?_
  obtain ⟨a_law_ask, _⟩ := i
  have hu := hr.units
  have hu2 := room100 hr
  have hu8 := Nat.lt_of_le_of_lt (Nat.add_le_add_left (show 8 ≤ 100 by decide) _) hu2
  show BG _ _ _ _ _ _ (m_law_code a_law_ask)
  unfold m_law_code
  exact b_ret RtOk.fn OsW.nil (e_conv (e_fst (e_call (ok_law_got T) (hr.mono (by walk_at "lev")) T.m_law_got T.F_law_got.kp T.bd_law_got (aa_cons (e_name 0) fun _ => aa_nil) (fun _ => OsLe.none) (fun _ => List.nodup_nil))) (by walk_at "wn"))
def m_law_rows_l1 (a_law_wide : Int) (a_law_far : Int) (s5 : (List (List Int))) (x4 : Int) : W (List (List Int)) :=
  bnd (noX (drawW ((6 : Int)))) fun way_6 => bnd (bnd (ret (decide (way_6 = (0 : Int)))) fun c8 => if c8 = true then (ret (!s5.isEmpty)) else ret false) fun b10 => bnd (if b10 = true then (bnd (bnd (noX (drawW ((5 : Int)))) fun r12 => ret (r12 - ((2 : Int)))) fun by_11 => bnd (bnd (idx s5 (((s5.length : Int)) - ((1 : Int)))) fun t13 => mapW (fun (x14 : Int) => mulI x14 by_11) t13) fun y17 => chk (s5.length < sizeLine) (ret ((s5 ++ [y17])))) else (bnd (bnd (rng1 a_law_wide) fun l18 => mapW (fun (x19 : Int) => bnd (mulI ((2 : Int)) a_law_far) fun t20 => bnd (noX (drawW (t20 + ((1 : Int))))) fun r21 => noX (anyW ([(0 : Int), r21 - a_law_far]))) l18) fun y24 => chk (s5.length < sizeLine) (ret ((s5 ++ [y24]))))) fun (s25 : (List (List Int))) => ret (s25)
def m_law_rows (a_law_many : Int) (a_law_wide : Int) (a_law_far : Int) : W (List (List Int)) :=
  bnd (ret (([] : (List (List Int))))) fun found_1 => bnd (rng1 a_law_many) fun xs26 => bnd (forW (m_law_rows_l1 a_law_wide a_law_far) (found_1) xs26) fun (s27 : (List (List Int))) => bnd (ret (s27)) fun z => ret z
theorem ok_law_rows (T : Txt P K mg ad) (b : Addr) (cells : List Int) : FnOk P w K mg base CX0 3 ad.f_law_rows ad.d_law_rows ["_law_bag_here", "_law_many", "_law_wide", "_law_far"] (spW (fun i : Unit × Int × Int × Int × Unit => [sv (rAdr b) i.1, sv rInt i.2.1, sv rInt i.2.2.1, sv rInt i.2.2.2.1]) (fun _ => [(b, oBag cells)]) (fun i => m_law_rows i.2.1 i.2.2.1 i.2.2.2.1) (rLst (rLst rInt))) := by
  refine okW T.F_law_rows sc_law_rows (fun _ => rfl) fun cdv A outer s0 H0 E0 B i hr => ?_
  obtain ⟨_, a_law_many, a_law_wide, a_law_far, _⟩ := i
  have hu := hr.units
  have hu2 := room100 hr
  have hu8 := Nat.lt_of_le_of_lt (Nat.add_le_add_left (show 8 ≤ 100 by decide) _) hu2
  show BG _ _ _ _ _ _ (m_law_rows a_law_many a_law_wide a_law_far)
  unfold m_law_rows
  refine b_own 4 (n_conv (n_list (r := (rLst rInt)) al_nil) (by walk_at "wn")) (fun p2 found_1 => ?_) sc_law_rows.nd
  refine b_for (S := (List (List Int))) (fun s => [sv (rAdr b) (()), sv rInt a_law_many, sv rInt a_law_wide, sv rInt a_law_far, sv (rAdr p2) (), sa, sa, sa, sa, sa]) (fun s => [(p2, oLst (rLst rInt) s), (b, oBag cells)]) (found_1 : (List (List Int))) rfl PassesOwn.never (s_conv (s_rng1 (e_name 1) T.b_range) (by walk_at "wn")) (tg_name (i := 5)) (pg_name (i := 5) sc_law_rows.nd rfl (by walk_at "loc")) (fun M s5 x4 => ?_) (fun s27 => ?_) ⟨.inl rfl, .inl rfl, .inl rfl, .inl rfl, .inl rfl, .inr rfl, .inr rfl, .inr rfl, .inr rfl, .inr rfl, trivial⟩ rfl
  · unfold m_law_rows_l1
    refine b_set 6 (e_conv (e_call (ok_law_draw T b cells) (hr.mono (by walk_at "lev")) T.m_law_draw T.F_law_draw.kp T.bd_law_draw (aa_cons (e_name 0) fun _ => (aa_cons e_int fun _ => aa_nil)) (fun _ => OsLe.mem (List.Mem.tail _ (List.Mem.head _))) (fun _ => by simp)) (by walk_at "wn")) (fun way_6 => ?_) sc_law_rows.nd
    refine b_ifJ (S := (List (List Int))) (fun s => [sv (rAdr b) (()), sv rInt a_law_many, sv rInt a_law_wide, sv rInt a_law_far, sv (rAdr p2) (), sv rInt x4, sv rInt way_6, sa, sa, sa]) (fun s => [(p2, oLst (rLst rInt) s), (b, oBag cells)]) (t_conv (t_pw (w_and (t_eqI (e_name 6) fun _ => e_int) (w_and1 (t_neNilO 4 0 hu (dd_lst dd_int) rfl rfl)))) (by walk_at "wn")) ?_ ?_ (fun s25 => ?_)
    · refine b_set 7 (e_conv (e_sub (e_call (ok_law_draw T b cells) (hr.mono (by walk_at "lev")) T.m_law_draw T.F_law_draw.kp T.bd_law_draw (aa_cons (e_name 0) fun _ => (aa_cons e_int fun _ => aa_nil)) (fun _ => OsLe.mem (List.Mem.tail _ (List.Mem.head _))) (fun _ => by simp)) fun _ => e_int) (by walk_at "wn")) (fun by_11 => ?_) sc_law_rows.nd
      refine b_append 4 0 rfl rfl (e_conv (e_new (n_comp (s := rInt) rfl sc_law_rows.nd (s_list (e_idxO 4 0 rfl rfl (e_sub (e_lenO 4 0 rfl rfl T.b_len) fun _ => e_int))) (blkOk_by (own := [("_law_item", 8)]) rfl) (tg_name (i := 8)) (fun _ _ _ _ _ => (pg_name (i := 8) sc_law_rows.nd rfl (by walk_at "loc"))) (by decide) (fun _ _ _ _ _ _ _ _ _ => (e_mul (e_name 8) fun _ => (e_name 7))))) (by walk_at "wn")) (fun y17 => ?_)
      exact b_end (NxOk.nxS (s := ((s5 ++ [y17]) : (List (List Int)))) ⟨.inl rfl, .inl rfl, .inl rfl, .inl rfl, .inl rfl, .inl rfl, .inl rfl, .inr rfl, .inr rfl, .inr rfl, trivial⟩ (.cons_cons _ (.cons_cons _ .slnil)))
    · refine b_append 4 0 rfl rfl (e_conv (e_new (n_comp (s := rInt) rfl sc_law_rows.nd (s_rng1 (e_name 2) T.b_range) (blkOk_by (own := [("_law_at", 9)]) rfl) (tg_name (i := 9)) (fun _ _ _ _ _ => (pg_name (i := 9) sc_law_rows.nd rfl (by walk_at "loc"))) (by decide) (fun _ _ _ _ _ _ _ _ _ => (e_call (ok_law_any T b cells rInt) (hr.mono (by walk_at "lev")) T.m_law_any T.F_law_any.kp T.bd_law_any (aa_cons (e_name 0) fun _ => (aa_cons (e_new (n_list (al_cons e_int (al_cons (e_sub (e_call (ok_law_draw T b cells) (hr.mono (by walk_at "lev")) T.m_law_draw T.F_law_draw.kp T.bd_law_draw (aa_cons (e_name 0) fun _ => (aa_cons (e_add (e_mul e_int fun _ => (e_name 3)) fun _ => e_int) fun _ => aa_nil)) (fun _ => OsLe.mem (List.Mem.tail _ (List.Mem.tail _ (List.Mem.head _)))) (fun _ => by simp)) fun _ => (e_name 3)) al_nil)))) fun _ => aa_nil)) (fun _ => OsLe.mem (List.Mem.tail _ (List.Mem.tail _ (List.Mem.head _)))) (fun _ => by simp))))) (by walk_at "wn")) (fun y24 => ?_)
      exact b_end (NxOk.nxS (s := ((s5 ++ [y24]) : (List (List Int)))) ⟨.inl rfl, .inl rfl, .inl rfl, .inl rfl, .inl rfl, .inl rfl, .inl rfl, .inr rfl, .inr rfl, .inr rfl, trivial⟩ (.cons_cons _ (.cons_cons _ .slnil)))
    · exact b_end (NxOk.nxS (s := (s25 : (List (List Int)))) ⟨.inl rfl, .inl rfl, .inl rfl, .inl rfl, .inl rfl, .inr rfl, .inr rfl, .inr rfl, .inr rfl, .inr rfl, trivial⟩ (.cons_cons _ (.cons_cons _ .slnil)))
  · refine b_freeze 4 0 rfl rfl ?_
    exact b_ret RtOk.fn (OsW.of (OsLe.mem (List.Mem.head _))) (e_conv (e_name 4) (by walk_at "wn"))
def m_law_l1 (s4 : Unit) (x3 : Int) : W (Fl Unit Bool) :=
  bnd (noX (drawW ((4 : Int)))) fun many_5 => bnd (bnd (noX (drawW ((3 : Int)))) fun r9 => ret (((1 : Int)) + r9)) fun wide_6 => bnd (noX (m_law_rows many_5 wide_6 ((9 : Int)))) fun rows_z_10 => bnd (noX (drawW (many_5 + ((1 : Int))))) fun spot_11 => bnd (bnd (repL ([()]) wide_6) fun t16 => bnd (repL ([(2 : Int)]) (wide_6 - ((1 : Int)))) fun t17 => bnd (catL (([true]).map .bool) (t17.map .int)) fun t18 => bnd (repL ([(2 : Int)]) (wide_6 - ((1 : Int)))) fun t19 => bnd (catL (([("1" : Str)]).map .str) (t19.map .int)) fun t20 => noX (anyW ([(fun _ => .none) (()), .int ((3 : Int)), .str (("ab" : Str)), .bool true, (fun xs => PyData.list (xs.map (fun _ => .none))) t16, (fun xs => PyData.list (xs.map id)) t18, (fun xs => PyData.list (xs.map id)) t20, (fun xs => PyData.list (xs.map (fun xs => PyData.list (xs.map .int)))) ([([] : (List Int))])]))) fun bad_15 => bnd (bnd (ret (decide (((0 : Int)) < spot_11))) fun c23 => if c23 = true then (bnd (noX (drawW ((3 : Int)))) fun r22 => ret (decide (r22 = (0 : Int)))) else ret false) fun b25 => bnd (if b25 = true then (bnd (bnd (noX (anyW ([(1 : Int), -((1 : Int))]))) fun r27 => bnd (repL ([(1 : Int)]) (wide_6 + r27)) fun t28 => ret ((fun xs => PyData.list (xs.map .int)) t28)) fun bad_26 => ret (bad_26)) else (ret (bad_15))) fun (s29 : PyData) => bnd (bnd (catL ((cutL rows_z_10 none (some spot_11)).map (fun xs => PyData.list (xs.map .int))) ([s29])) fun t31 => bnd (catL t31 ((cutL rows_z_10 (some spot_11) none).map (fun xs => PyData.list (xs.map .int)))) fun t32 => catL t32 ([(fun _ => .none) (())])) fun bent_30 => bnd (ret (())) fun asks_34 => bnd (bnd (noX (m_law_all_got [bnd (m_hermite_v2 bent_30) fun r35 => ret ((fun xs => PyData.list (xs.map (fun xs => PyData.list (xs.map .int)))) r35), bnd (m_Turning_init_v2 bent_30) fun q37 => ret ((oD 0)), bnd (m_hermite_v3 (cutL bent_30 none (some (spot_11 + ((1 : Int)))))) fun r38 => ret ((fun xs => PyData.list (xs.map (fun xs => PyData.list (xs.map .int)))) r38), bnd (m_Turning_init_v2 (cutL bent_30 none (some (spot_11 + ((1 : Int)))))) fun q40 => ret ((oD 0))])) fun r41 => bnd (repL ([(("InvalidRows" : Str), .int spot_11)]) ((4 : Int))) fun t42 => bnd (noX (sameXs r41 t42)) fun r43 => ret (!r43)) fun b44 => if b44 = true then (bnd (ret (false)) fun z => ret (.rt z)) else (bnd (noX (anyW ([(fun _ => .none) (()), .int ((3 : Int)), .str (("x" : Str)), .bool true]))) fun none_45 => bnd (bnd (noX (m_law_all_got [bnd (m_hermite_v4 none_45) fun r47 => ret ((fun xs => PyData.list (xs.map (fun xs => PyData.list (xs.map .int)))) r47), bnd (m_Turning_init_v3 none_45) fun q49 => ret ((oD 0))])) fun r50 => bnd (repL ([(("InvalidRows" : Str), .int (-((1 : Int))))]) ((2 : Int))) fun t51 => bnd (noX (sameXs r50 t51)) fun r52 => ret (!r52)) fun b53 => if b53 = true then (bnd (ret (false)) fun z => ret (.rt z)) else (bnd (mapW (fun (x55 : (List Int)) => ret (x55)) rows_z_10) fun good_54 => bnd (bnd (noX (m_law_code (bnd (noX (m_hermite_v1 good_54)) fun r57 => ret ((fun xs => PyData.list (xs.map (fun xs => PyData.list (xs.map .int)))) r57)))) fun r58 => bnd (noX (m_law_code (bnd (noX (m_Turning_init_v1 good_54)) fun q60 => ret ((oD 0))))) fun r61 => ret (!(PyData.eqv ((fun xs => PyData.list (xs.map .str)) ([r58, r61])) ((fun xs => PyData.list (xs.map .str)) ([("" : Str), ("" : Str)]))))) fun b62 => if b62 = true then (bnd (ret (false)) fun z => ret (.rt z)) else (ret (.nx (())))))
def m_law (a_law_script : (List Int)) : W Bool :=
  bnd (rng1 ((5 : Int))) fun xs63 => bnd (forF m_law_l1 (()) xs63) (flEnd (fun z => z) fun (s64 : Unit) => bnd (bnd (bnd (noX (m_hermite_v0 ([([] : (List Int)), ([] : (List Int))]))) fun r65 => ret (PyData.eqv ((fun xs => PyData.list (xs.map (fun xs => PyData.list (xs.map .int)))) r65) ((fun xs => PyData.list (xs.map (fun xs => PyData.list (xs.map .int)))) (([] : (List (List Int))))))) fun c71 => if c71 = true then (bnd (bnd (noX (m_Turning_init_v0 ([([] : (List Int)), ([] : (List Int))]))) fun r66 => bnd (noX (m_Turning_left r66)) fun r67 => ret (PyData.eqv ((fun xs => PyData.list (xs.map (fun xs => PyData.list (xs.map .int)))) r67) ((fun xs => PyData.list (xs.map (fun xs => PyData.list (xs.map .int)))) ([[(1 : Int), (0 : Int)], [(0 : Int), (1 : Int)]])))) fun c70 => if c70 = true then (bnd (noX (m_Turning_init_v0 ([([] : (List Int)), ([] : (List Int))]))) fun r68 => bnd (noX (m_Turning_right r68)) fun r69 => ret (PyData.eqv ((fun xs => PyData.list (xs.map (fun xs => PyData.list (xs.map .int)))) r69) ((fun xs => PyData.list (xs.map (fun xs => PyData.list (xs.map .int)))) (([] : (List (List Int))))))) else ret false) else ret false) fun z => ret z)
theorem ok_law (T : Txt P K mg ad) {cL Tb : Addr} (hfd : ad.d_law.code = .ref cL) (hTB : LamX.TabB base mg cL Tb) : FnG P w K mg base CX0 17 ad.f_law ad.d_law ["_law_script"] (spW (fun i : (List Int) × Unit => [sv (rScr K) i.1]) (fun _ => [(Tb, oTab (("law" : Str) ++ (".<locals>." : Str) ++ ("<lambda>" : Str)))]) (fun i => m_law i.1) rBool) := by
  refine fnWc T.F_law hfd sc_law (fun _ => rfl) fun A outer s0 H0 E0 B i hr hgu0 => ?_
  obtain ⟨a_law_script, _⟩ := i
  have hu := hr.units
  have hu2 := room100 hr
  have hu8 := Nat.lt_of_le_of_lt (Nat.add_le_add_left (show 8 ≤ 100 by decide) _) hu2
  have hgu := guards_deeper (q := "law") (sc := defScope s_law) (n := s0.heap.objs.size) (f := ad.f_law) (c := .ref cL) hgu0
  show BG _ _ _ _ _ _ (m_law a_law_script)
  unfold m_law
  refine b_bag 1 (ok_law_bag T) (hr.mono (by walk_at "lev")) T.m_law_bag T.F_law_bag.kp T.bd_law_bag (e_name 0) (fun b cells => ?_) sc_law.nd
  refine b_forG (S := Unit) (osR := [(Tb, oTab (("law" : Str) ++ (".<locals>." : Str) ++ ("<lambda>" : Str)))]) (ro := rBool) (fun z => z) (fun s => [sv (rScr K) a_law_script, sv (rAdr b) (()), sa, sa, sa, sa, sa, sa, sa, sa, sa, sa, sa]) (fun s => [(b, oBag cells), (Tb, oTab (("law" : Str) ++ (".<locals>." : Str) ++ ("<lambda>" : Str)))]) (() : Unit) rfl PassesOwn.never (s_conv (s_rng1 e_int T.b_range) (by walk_at "wn")) (tg_name (i := 2)) (pg_name (i := 2) sc_law.nd rfl (by walk_at "loc")) (fun M s4 x3 => ?_) (fun s64 => ?_) (fun _ => rfl) RtOk.fn ⟨.inl rfl, .inl rfl, .inr rfl, .inr rfl, .inr rfl, .inr rfl, .inr rfl, .inr rfl, .inr rfl, .inr rfl, .inr rfl, .inr rfl, .inr rfl, trivial⟩ rfl
  · unfold m_law_l1
    first | refine b_par2 (ps_par (i := 3) (j := 4) rfl sc_law.nd rfl rfl (by decide) rfl rfl (pa2 (e_conv (e_call (ok_law_draw T b cells) (hr.mono (by walk_at "lev")) T.m_law_draw T.F_law_draw.kp T.bd_law_draw (aa_cons (e_name 1) fun _ => (aa_cons e_int fun _ => aa_nil)) (fun _ => OsLe.mem (List.Mem.head _)) (fun _ => by simp)) (by walk_at "wn")) (fun _ => e_conv (e_add e_int fun _ => (e_call (ok_law_draw T b cells) (hr.mono (by walk_at "lev")) T.m_law_draw T.F_law_draw.kp T.bd_law_draw (aa_cons (e_name 1) fun _ => (aa_cons e_int fun _ => aa_nil)) (fun _ => OsLe.mem (List.Mem.head _)) (fun _ => by simp))) rfl)) rfl) (fun many_5 wide_6 => ?_) | refine b_par2T (ps_asg (pe_tup (pa2 (e_conv (e_call (ok_law_draw T b cells) (hr.mono (by walk_at "lev")) T.m_law_draw T.F_law_draw.kp T.bd_law_draw (aa_cons (e_name 1) fun _ => (aa_cons e_int fun _ => aa_nil)) (fun _ => OsLe.mem (List.Mem.head _)) (fun _ => by simp)) (by walk_at "wn")) (fun _ => e_conv (e_add e_int fun _ => (e_call (ok_law_draw T b cells) (hr.mono (by walk_at "lev")) T.m_law_draw T.F_law_draw.kp T.bd_law_draw (aa_cons (e_name 1) fun _ => (aa_cons e_int fun _ => aa_nil)) (fun _ => OsLe.mem (List.Mem.head _)) (fun _ => by simp))) rfl))) (pg_tup rfl (pgs_cons (pg_name (i := 3) sc_law.nd rfl (by walk_at "loc")) (pgs_cons (pg_name (i := 4) sc_law.nd rfl (by walk_at "loc")) pgs_nil)))) (fun many_5 wide_6 => ?_)
    first | refine b_par2 (ps_par (i := 5) (j := 6) rfl sc_law.nd rfl rfl (by decide) rfl rfl (pa2 (e_conv (e_call (ok_law_rows T b cells) (hr.mono (by walk_at "lev")) T.m_law_rows T.F_law_rows.kp T.bd_law_rows (aa_cons (e_name 1) fun _ => (aa_cons (e_name 3) fun _ => (aa_cons (e_name 4) fun _ => (aa_cons e_int fun _ => aa_nil)))) (fun _ => OsLe.mem (List.Mem.head _)) (fun _ => by simp)) (by walk_at "wn")) (fun _ => e_conv (e_call (ok_law_draw T b cells) (hr.mono (by walk_at "lev")) T.m_law_draw T.F_law_draw.kp T.bd_law_draw (aa_cons (e_name 1) fun _ => (aa_cons (e_add (e_name 3) fun _ => e_int) fun _ => aa_nil)) (fun _ => OsLe.mem (List.Mem.head _)) (fun _ => by simp)) rfl)) rfl) (fun rows_z_10 spot_11 => ?_) | refine b_par2T (ps_asg (pe_tup (pa2 (e_conv (e_call (ok_law_rows T b cells) (hr.mono (by walk_at "lev")) T.m_law_rows T.F_law_rows.kp T.bd_law_rows (aa_cons (e_name 1) fun _ => (aa_cons (e_name 3) fun _ => (aa_cons (e_name 4) fun _ => (aa_cons e_int fun _ => aa_nil)))) (fun _ => OsLe.mem (List.Mem.head _)) (fun _ => by simp)) (by walk_at "wn")) (fun _ => e_conv (e_call (ok_law_draw T b cells) (hr.mono (by walk_at "lev")) T.m_law_draw T.F_law_draw.kp T.bd_law_draw (aa_cons (e_name 1) fun _ => (aa_cons (e_add (e_name 3) fun _ => e_int) fun _ => aa_nil)) (fun _ => OsLe.mem (List.Mem.head _)) (fun _ => by simp)) rfl))) (pg_tup rfl (pgs_cons (pg_name (i := 5) sc_law.nd rfl (by walk_at "loc")) (pgs_cons (pg_name (i := 6) sc_law.nd rfl (by walk_at "loc")) pgs_nil)))) (fun rows_z_10 spot_11 => ?_)
    refine b_set 7 (e_conv (e_upD (e_call (ok_law_any T b cells (rDk K 13)) (hr.mono (by walk_at "lev")) T.m_law_any T.F_law_any.kp T.bd_law_any (aa_cons (e_name 1) fun _ => (aa_cons (e_new (n_list (al_cons (e_toDk (m := 13) dd_non e_non) (al_cons (e_toDk (m := 13) dd_int e_int) (al_cons (e_toDk (m := 13) dd_str e_str) (al_cons (e_toDk (m := 13) dd_bool e_bl) (al_cons (e_toDk (m := 13) (dd_lst dd_non) (e_new (n_rep (e_new (n_list (al_cons e_non al_nil))) fun _ => (e_name 4)))) (al_cons (e_toDk (m := 13) (dd_lst (dd_Dk (n := 12))) (e_new (n_cat (e_lstDk (m := 12) dd_bool (e_new (n_list (al_cons e_bl al_nil)))) fun _ => (e_lstDk (m := 12) dd_int (e_new (n_rep (e_new (n_list (al_cons e_int al_nil))) fun _ => (e_sub (e_name 4) fun _ => e_int))))))) (al_cons (e_toDk (m := 13) (dd_lst (dd_Dk (n := 12))) (e_new (n_cat (e_lstDk (m := 12) dd_str (e_new (n_list (al_cons e_str al_nil)))) fun _ => (e_lstDk (m := 12) dd_int (e_new (n_rep (e_new (n_list (al_cons e_int al_nil))) fun _ => (e_sub (e_name 4) fun _ => e_int))))))) (al_cons (e_toDk (m := 13) (dd_lst (dd_lst dd_int)) (e_new (n_list (al_cons (e_new (n_list (r := rInt) al_nil)) al_nil)))) al_nil)))))))))) fun _ => aa_nil)) (fun _ => OsLe.mem (List.Mem.head _)) (fun _ => by simp))) (by walk_at "wn")) (fun bad_15 => ?_) sc_law.nd
    refine bg_env (env' := [sv (rScr K) a_law_script, sv (rAdr b) (()), sv rInt x3, sv rInt many_5, sv rInt wide_6, sv (rLst (rLst rInt)) rows_z_10, sv rInt spot_11, sv (rD K) bad_15, sa, sa, sa, sa, sa]) rfl ?_
    refine b_ifJ (S := PyData) (fun s => [sv (rScr K) a_law_script, sv (rAdr b) (()), sv rInt x3, sv rInt many_5, sv rInt wide_6, sv (rLst (rLst rInt)) rows_z_10, sv rInt spot_11, sv (rD K) s, sa, sa, sa, sa, sa]) (fun s => [(b, oBag cells), (Tb, oTab (("law" : Str) ++ (".<locals>." : Str) ++ ("<lambda>" : Str)))]) (t_conv (t_pw (w_and (t_gt (e_name 6) fun _ => e_int) (w_and1 (t_eqI (e_call (ok_law_draw T b cells) (hr.mono (by walk_at "lev")) T.m_law_draw T.F_law_draw.kp T.bd_law_draw (aa_cons (e_name 1) fun _ => (aa_cons e_int fun _ => aa_nil)) (fun _ => OsLe.mem (List.Mem.head _)) (fun _ => by simp)) fun _ => e_int)))) (by walk_at "wn")) ?_ ?_ (fun s29 => ?_)
    · refine b_set 7 (e_conv (e_toD (dd_lst dd_int) (e_new (n_rep (e_new (n_list (al_cons e_int al_nil))) fun _ => (e_add (e_name 4) fun _ => (e_call (ok_law_any T b cells rInt) (hr.mono (by walk_at "lev")) T.m_law_any T.F_law_any.kp T.bd_law_any (aa_cons (e_name 1) fun _ => (aa_cons (e_new (n_list (al_cons e_int (al_cons (e_neg e_int) al_nil)))) fun _ => aa_nil)) (fun _ => OsLe.mem (List.Mem.head _)) (fun _ => by simp)))))) (by walk_at "wn")) (fun bad_26 => ?_) sc_law.nd
      exact b_end (NxOk.nxS (s := (bad_26 : PyData)) ⟨.inl rfl, .inl rfl, .inl rfl, .inl rfl, .inl rfl, .inl rfl, .inl rfl, .inl rfl, .inr rfl, .inr rfl, .inr rfl, .inr rfl, .inr rfl, trivial⟩ (.cons_cons _ (.cons_cons _ .slnil)))
    · exact b_end (NxOk.nxS (s := (bad_15 : PyData)) ⟨.inl rfl, .inl rfl, .inl rfl, .inl rfl, .inl rfl, .inl rfl, .inl rfl, .inl rfl, .inr rfl, .inr rfl, .inr rfl, .inr rfl, .inr rfl, trivial⟩ (.cons_cons _ (.cons_cons _ .slnil)))
    · refine b_set 8 (e_conv (e_new (n_cat (e_new (n_cat (e_new (n_cat (e_lstD (dd_lst dd_int) (e_new (n_slice (e_name 5) o_none (o_some (e_name 6))))) fun _ => (e_new (n_list (al_cons (e_name 7) al_nil))))) fun _ => (e_lstD (dd_lst dd_int) (e_new (n_slice (e_name 5) (o_some (e_name 6)) o_none))))) fun _ => (e_new (n_list (al_cons (e_toD dd_non e_non) al_nil))))) (by walk_at "wn")) (fun bent_30 => ?_) sc_law.nd
      refine b_set 9 (e_conv (e_lams (ll_cons (e_la0 1 hTB rfl rfl (lamS2_by (sc := defScope s_law) (ps := []) (by decide +kernel)).free) (ll_cons (e_la1 1 hTB rfl rfl (lamS2_by (sc := defScope s_law) (ps := ["_law_a"]) (by decide +kernel)).free) (ll_cons (e_la1 1 hTB rfl rfl (lamS2_by (sc := defScope s_law) (ps := ["_law_b"]) (by decide +kernel)).free) (ll_cons (e_la1 1 hTB rfl rfl (lamS2_by (sc := defScope s_law) (ps := ["_law_c"]) (by decide +kernel)).free) ll_nil)))) (by show 4 ≤ sizeLine; decide)) (by walk_at "wn")) (fun asks_34 => ?_) sc_law.nd
      refine b_ifA (t_conv (t_not (t_val (e_callG (ok_law_same_x T) hgu (hr.mono (by walk_at "lev")) T.m_law_same T.F_law_same.kp T.bd_law_same (aa_cons (e_callL (X := (cxOf CX0 P w K mg base N_law "law" (defScope s_law) ad.f_law (Value.ref cL) A outer s0 H0 E0).nox) 9 [bnd (m_hermite_v2 bent_30) fun r35 => ret ((fun xs => PyData.list (xs.map (fun xs => PyData.list (xs.map .int)))) r35), bnd (m_Turning_init_v2 bent_30) fun q37 => ret ((oD 0)), bnd (m_hermite_v3 (cutL bent_30 none (some (spot_11 + ((1 : Int)))))) fun r38 => ret ((fun xs => PyData.list (xs.map (fun xs => PyData.list (xs.map .int)))) r38), bnd (m_Turning_init_v2 (cutL bent_30 none (some (spot_11 + ((1 : Int)))))) fun q40 => ret ((oD 0))] rfl (ok_law_all_got T) (hr.mono (by walk_at "lev")) T.m_law_all_got T.F_law_all_got.kp T.bd_law_all_got rfl rfl (fun _ => rfl) (pl_lst (pl_t2 pl_str (pl_X (plob_ (K := K) (ad := ad))))) (fun pins σ F H s I S => (.cons (fun v hv => clo_of (vs := []) I S hv (lamS2_by (sc := defScope s_law) (ps := []) (by decide +kernel)) (lamBind0 rfl fun _ _ _ => rfl) (hvs_by (N := N_law) (by decide +kernel)) (fun A1 outer1 s1 H1 E1 f1 c1 B1 hr tk => by have hu := hr.units; have hu2 := room100 hr; exact e_conv (e_upX (tb := tbl K ad) (e_toD (dd_lst (dd_lst dd_int)) (er_V (e_callZ (conv := fun q : (List PyData) × Unit => (q.1, ())) (dfl := []) (dvs := []) (ok_hermite_v2 T) (passB tk) spf_X0 (hr.mono (by walk_at "lev")) T.m_hermite T.F_hermite.kp T.cb_hermite_1 (fun _ => .nil) (hh_pos (aa_cons (e_name 8) fun _ => aa_nil) (fun _ => rfl)) (fun _ => rfl))))) (by walk_at "wn"))) (.cons (fun v hv => clo_of (vs := []) I S hv (lamS2_by (sc := defScope s_law) (ps := ["_law_a"]) (by decide +kernel)) (lamBind1 rfl fun _ _ _ _ => ⟨_, rfl, fun _ => rfl⟩) (hvs_by (N := N_law) (by decide +kernel)) (fun A1 outer1 s1 H1 E1 f1 c1 B1 hr tk => by have hu := hr.units; have hu2 := room100 hr; exact e_conv (e_anyX (tb := tbl K ad) 0 rfl (e_makeZ (conv := fun q : (List PyData) × Unit => (q.1, ())) (dfl := []) (dvs := []) T.mk_Turning (ok_Turning_init_v2 T) (passB tk) spm_X (hr.mono (by walk_at "lev")) T.n_Turning T.cb_Turning_init_1 (fun _ => .nil) (hh_pos (aa_cons (e_name 8) fun _ => aa_nil) (fun _ => rfl)) (fun _ => rfl))) (by walk_at "wn"))) (.cons (fun v hv => clo_of (vs := []) I S hv (lamS2_by (sc := defScope s_law) (ps := ["_law_b"]) (by decide +kernel)) (lamBind1 rfl fun _ _ _ _ => ⟨_, rfl, fun _ => rfl⟩) (hvs_by (N := N_law) (by decide +kernel)) (fun A1 outer1 s1 H1 E1 f1 c1 B1 hr tk => by have hu := hr.units; have hu2 := room100 hr; exact e_conv (e_upX (tb := tbl K ad) (e_toD (dd_lst (dd_lst dd_int)) (er_V (e_callZ (conv := fun q : (List PyData) × Unit => (q.1, ())) (dfl := []) (dvs := []) (ok_hermite_v3 T) (passB tk) spf_X0 (hr.mono (by walk_at "lev")) T.m_hermite T.F_hermite.kp T.cb_hermite_0_rows (fun _ => .nil) (hh_kw0 (kk_cons (e_tupleL (e_new (n_slice (e_name 8) o_none (o_some (e_add (e_name 6) fun _ => e_int)))) T.b_tuple) fun _ => kk_nil) (fun _ => rfl)) (fun _ => rfl))))) (by walk_at "wn"))) (.cons (fun v hv => clo_of (vs := []) I S hv (lamS2_by (sc := defScope s_law) (ps := ["_law_c"]) (by decide +kernel)) (lamBind1 rfl fun _ _ _ _ => ⟨_, rfl, fun _ => rfl⟩) (hvs_by (N := N_law) (by decide +kernel)) (fun A1 outer1 s1 H1 E1 f1 c1 B1 hr tk => by have hu := hr.units; have hu2 := room100 hr; exact e_conv (e_anyX (tb := tbl K ad) 0 rfl (e_makeZ (conv := fun q : (List PyData) × Unit => (q.1, ())) (dfl := []) (dvs := []) T.mk_Turning (ok_Turning_init_v2 T) (passB tk) spm_X (hr.mono (by walk_at "lev")) T.n_Turning T.cb_Turning_init_0_rows (fun _ => .nil) (hh_kw0 (kk_cons (e_new (n_slice (e_name 8) o_none (o_some (e_add (e_name 6) fun _ => e_int)))) fun _ => kk_nil) (fun _ => rfl)) (fun _ => rfl))) (by walk_at "wn"))) .nil)))))) fun _ => (aa_cons (e_new (n_rep (e_new (n_list (al_cons (e_tup2 e_str fun _ => (e_upX (tb := tbl K ad) (e_toD dd_int (e_name 6)))) al_nil))) fun _ => e_int)) fun _ => aa_nil)) (fun _ => OsLe.none) (fun _ => List.nodup_nil)))) (by walk_at "wn")) ?_ ?_
      · exact b_ret (RtOk.x RtOk.fl) (OsW.of (OsLe.mem (List.Mem.tail _ (List.Mem.head _)))) (e_conv e_bl (by walk_at "wn"))
      · refine b_set 10 (e_conv (e_call (ok_law_any T b cells (rDk K 0)) (hr.mono (by walk_at "lev")) T.m_law_any T.F_law_any.kp T.bd_law_any (aa_cons (e_name 1) fun _ => (aa_cons (e_new (n_list (al_cons (e_toDk (m := 0) dd_non e_non) (al_cons (e_toDk (m := 0) dd_int e_int) (al_cons (e_toDk (m := 0) dd_str e_str) (al_cons (e_toDk (m := 0) dd_bool e_bl) al_nil)))))) fun _ => aa_nil)) (fun _ => OsLe.mem (List.Mem.head _)) (fun _ => by simp)) (by walk_at "wn")) (fun none_45 => ?_) sc_law.nd
        refine b_ifA (t_conv (t_not (t_val (e_callG (ok_law_same_x T) hgu (hr.mono (by walk_at "lev")) T.m_law_same T.F_law_same.kp T.bd_law_same (aa_cons (e_conv (e_callC (X := (cxOf CX0 P w K mg base N_law "law" (defScope s_law) ad.f_law (Value.ref cL) A outer s0 H0 E0).nox) ([bnd (m_hermite_v4 none_45) fun r47 => ret ((fun xs => PyData.list (xs.map (fun xs => PyData.list (xs.map .int)))) r47), bnd (m_Turning_init_v3 none_45) fun q49 => ret ((oD 0))], ()) (ok_law_all_got T) (hr.mono (by walk_at "lev")) T.m_law_all_got T.F_law_all_got.kp T.bd_law_all_got (e_lams (ll_cons (e_la0 1 hTB rfl rfl (lamS2_by (sc := defScope s_law) (ps := []) (by decide +kernel)).free) (ll_cons (e_la1 1 hTB rfl rfl (lamS2_by (sc := defScope s_law) (ps := ["_law_a"]) (by decide +kernel)).free) ll_nil)) (by show 2 ≤ sizeLine; decide)) rfl rfl (fun _ => rfl) (pl_lst (pl_t2 pl_str (pl_X (plob_ (K := K) (ad := ad))))) (fun pins σ F H s v y I S ok => clos_ok I S ok (.cons (fun v hv => clo_of (vs := []) I S hv (lamS2_by (sc := defScope s_law) (ps := []) (by decide +kernel)) (lamBind0 rfl fun _ _ _ => rfl) (hvs_by (N := N_law) (by decide +kernel)) (fun A1 outer1 s1 H1 E1 f1 c1 B1 hr tk => by have hu := hr.units; have hu2 := room100 hr; exact e_conv (e_upX (tb := tbl K ad) (e_toD (dd_lst (dd_lst dd_int)) (er_V (e_callZ (conv := fun q : PyData × Unit => (q.1, ())) (dfl := []) (dvs := []) (ok_hermite_v4 T) (passB tk) spf_X0 (hr.mono (by walk_at "lev")) T.m_hermite T.F_hermite.kp T.cb_hermite_1 (fun _ => .nil) (hh_pos (aa_cons (e_upD (e_name 10)) fun _ => aa_nil) (fun _ => rfl)) (fun _ => rfl))))) (by walk_at "wn"))) (.cons (fun v hv => clo_of (vs := []) I S hv (lamS2_by (sc := defScope s_law) (ps := ["_law_a"]) (by decide +kernel)) (lamBind1 rfl fun _ _ _ _ => ⟨_, rfl, fun _ => rfl⟩) (hvs_by (N := N_law) (by decide +kernel)) (fun A1 outer1 s1 H1 E1 f1 c1 B1 hr tk => by have hu := hr.units; have hu2 := room100 hr; exact e_conv (e_anyX (tb := tbl K ad) 0 rfl (e_makeZ (conv := fun q : PyData × Unit => (q.1, ())) (dfl := []) (dvs := []) T.mk_Turning (ok_Turning_init_v3 T) (passB tk) spm_X (hr.mono (by walk_at "lev")) T.n_Turning T.cb_Turning_init_1 (fun _ => .nil) (hh_pos (aa_cons (e_upD (e_name 10)) fun _ => aa_nil) (fun _ => rfl)) (fun _ => rfl))) (by walk_at "wn"))) .nil)))) rfl) fun _ => (aa_cons (e_new (n_rep (e_new (n_list (al_cons (e_tup2 e_str fun _ => (e_upX (tb := tbl K ad) (e_toD dd_int (e_neg e_int)))) al_nil))) fun _ => e_int)) fun _ => aa_nil)) (fun _ => OsLe.none) (fun _ => List.nodup_nil)))) (by walk_at "wn")) ?_ ?_
        · exact b_ret (RtOk.x RtOk.fl) (OsW.of (OsLe.mem (List.Mem.tail _ (List.Mem.head _)))) (e_conv e_bl (by walk_at "wn"))
        · first | refine b_setC 11 (c_conv (c_comp (s := (rTup K rInt)) rfl sc_law.nd (s_list (e_name 5)) (blkOk_by (own := [("_law_row", 12)]) rfl) (tg_name (i := 12)) (fun _ _ _ _ _ => (pg_name (i := 12) sc_law.nd rfl (by walk_at "loc"))) (by decide) (fun _ _ _ _ _ _ _ _ _ => (e_tupleL (e_name 12) T.b_tuple)) rfl rfl (sw_true rfl rfl rfl (by decide +kernel))) (by walk_at "wn")) (fun good_54 => ?_) | refine b_set 11 (e_conv (e_new (n_comp (s := (rTup K rInt)) rfl sc_law.nd (s_list (e_name 5)) (blkOk_by (own := [("_law_row", 12)]) rfl) (tg_name (i := 12)) (fun _ _ _ _ _ => (pg_name (i := 12) sc_law.nd rfl (by walk_at "loc"))) (by decide) (fun _ _ _ _ _ _ _ _ _ => (e_tupleL (e_name 12) T.b_tuple)))) (by walk_at "wn")) (fun good_54 => ?_) sc_law.nd
          refine b_ifA (t_conv (t_neD hu (dd_lst dd_str) (dd_lst dd_str) (e_new (n_list (al_cons (e_conv (e_callC (X := (cxOf CX0 P w K mg base N_law "law" (defScope s_law) ad.f_law (Value.ref cL) A outer s0 H0 E0).nox) ((bnd (noX (m_hermite_v1 good_54)) fun r57 => ret ((fun xs => PyData.list (xs.map (fun xs => PyData.list (xs.map .int)))) r57)), ()) (ok_law_code T) (hr.mono (by walk_at "lev")) T.m_law_code T.F_law_code.kp T.bd_law_code (e_la0 1 hTB rfl rfl (lamS2_by (sc := defScope s_law) (ps := []) (by decide +kernel)).free) rfl rfl (fun _ => rfl) pl_str (fun pins σ F H s v y I S ok => clo1_ok ok (fun v hv => clo_of (vs := []) I S hv (lamS2_by (sc := defScope s_law) (ps := []) (by decide +kernel)) (lamBind0 rfl fun _ _ _ => rfl) (hvs_by (N := N_law) (by decide +kernel)) (fun A1 outer1 s1 H1 E1 f1 c1 B1 hr tk => by have hu := hr.units; have hu2 := room100 hr; exact e_conv (e_upX (tb := tbl K ad) (e_toD (dd_lst (dd_lst dd_int)) (e_call (ok_hermite_v1 T) (hr.mono (by walk_at "lev")) T.m_hermite T.F_hermite.kp T.bd_hermite (aa_cons (e_name 11) fun _ => aa_nil) (fun _ => OsLe.none) (fun _ => List.nodup_nil)))) (by walk_at "wn"))))) rfl) (al_cons (e_conv (e_callC (X := (cxOf CX0 P w K mg base N_law "law" (defScope s_law) ad.f_law (Value.ref cL) A outer s0 H0 E0).nox) ((bnd (noX (m_Turning_init_v1 good_54)) fun q60 => ret ((oD 0))), ()) (ok_law_code T) (hr.mono (by walk_at "lev")) T.m_law_code T.F_law_code.kp T.bd_law_code (e_la1 1 hTB rfl rfl (lamS2_by (sc := defScope s_law) (ps := ["_law_a"]) (by decide +kernel)).free) rfl rfl (fun _ => rfl) pl_str (fun pins σ F H s v y I S ok => clo1_ok ok (fun v hv => clo_of (vs := []) I S hv (lamS2_by (sc := defScope s_law) (ps := ["_law_a"]) (by decide +kernel)) (lamBind1 rfl fun _ _ _ _ => ⟨_, rfl, fun _ => rfl⟩) (hvs_by (N := N_law) (by decide +kernel)) (fun A1 outer1 s1 H1 E1 f1 c1 B1 hr tk => by have hu := hr.units; have hu2 := room100 hr; exact e_conv (e_anyX (tb := tbl K ad) 0 rfl (e_makeZ (conv := fun q : (List (List Int)) × Unit => (q.1, ())) (dfl := []) (dvs := []) T.mk_Turning (ok_Turning_init_v1 T) pass0 spm_W (hr.mono (by walk_at "lev")) T.n_Turning T.cb_Turning_init_1 (fun _ => .nil) (hh_pos (aa_cons (e_name 11) fun _ => aa_nil) (fun _ => rfl)) (fun _ => rfl))) (by walk_at "wn"))))) rfl) al_nil)))) fun _ => (e_new (n_list (al_cons e_str (al_cons e_str al_nil))))) (by walk_at "wn")) ?_ ?_
          · exact b_ret (RtOk.x RtOk.fl) (OsW.of (OsLe.mem (List.Mem.tail _ (List.Mem.head _)))) (e_conv e_bl (by walk_at "wn"))
          · exact b_end (NxOk.flS (s := (() : Unit)) ⟨.inl rfl, .inl rfl, .inr rfl, .inr rfl, .inr rfl, .inr rfl, .inr rfl, .inr rfl, .inr rfl, .inr rfl, .inr rfl, .inr rfl, .inr rfl, trivial⟩ (.cons_cons _ (.cons_cons _ .slnil)))
  · refine bg_nx ?_
    exact b_ret RtOk.fn (OsW.of (OsLe.mem (List.Mem.tail _ (List.Mem.head _)))) (e_conv (e_and (e_eqD hu (dd_lst (dd_lst dd_int)) (dd_lst (dd_lst dd_int)) (e_call (ok_hermite_v0 T) (hr.mono (by walk_at "lev")) T.m_hermite T.F_hermite.kp T.bd_hermite (aa_cons (e_new (n_list (al_cons (e_new (n_list (r := rInt) al_nil)) (al_cons (e_new (n_list (r := rInt) al_nil)) al_nil)))) fun _ => aa_nil) (fun _ => OsLe.none) (fun _ => List.nodup_nil)) fun _ => (e_new (n_list (r := (rLst rInt)) al_nil))) (e_and (e_eqD hu (dd_lst (dd_lst dd_int)) (dd_lst (dd_lst dd_int)) (er_V (e_methZ (conv := fun q : Unit => (())) (dfl := []) (dvs := []) (fl := fl_Turning K ad) (ok_Turning_left T) pass0 spf_W0 (hr.mono (by walk_at "lev")) T.cl_Turning T.mt_Turning_left T.cb_Turning_left_0 (fun _ => .nil) (e_makeZ (conv := fun q : (List (List Int)) × Unit => (q.1, ())) (dfl := []) (dvs := []) T.mk_Turning (ok_Turning_init_v0 T) pass0 spm_W (hr.mono (by walk_at "lev")) T.n_Turning T.cb_Turning_init_1 (fun _ => .nil) (hh_pos (aa_cons (e_new (n_list (al_cons (e_new (n_list (r := rInt) al_nil)) (al_cons (e_new (n_list (r := rInt) al_nil)) al_nil)))) fun _ => aa_nil) (fun _ => rfl)) (fun _ => rfl)) (fun _ => hh_none) (fun _ _ => rfl))) fun _ => (e_new (n_list (al_cons (e_new (n_list (al_cons e_int (al_cons e_int al_nil)))) (al_cons (e_new (n_list (al_cons e_int (al_cons e_int al_nil)))) al_nil))))) (e_one (e_eqD hu (dd_lst (dd_lst dd_int)) (dd_lst (dd_lst dd_int)) (er_V (e_methZ (conv := fun q : Unit => (())) (dfl := []) (dvs := []) (fl := fl_Turning K ad) (ok_Turning_right T) pass0 spf_W0 (hr.mono (by walk_at "lev")) T.cl_Turning T.mt_Turning_right T.cb_Turning_right_0 (fun _ => .nil) (e_makeZ (conv := fun q : (List (List Int)) × Unit => (q.1, ())) (dfl := []) (dvs := []) T.mk_Turning (ok_Turning_init_v0 T) pass0 spm_W (hr.mono (by walk_at "lev")) T.n_Turning T.cb_Turning_init_1 (fun _ => .nil) (hh_pos (aa_cons (e_new (n_list (al_cons (e_new (n_list (r := rInt) al_nil)) (al_cons (e_new (n_list (r := rInt) al_nil)) al_nil)))) fun _ => aa_nil) (fun _ => rfl)) (fun _ => rfl)) (fun _ => hh_none) (fun _ _ => rfl))) fun _ => (e_new (n_list (r := (rLst rInt)) al_nil)))))) (by walk_at "wn"))
end
end K10
namespace K10
abbrev Vec := Nat → Int
def Spn : List Vec → Vec → Prop
  | [], v => ∀ i, v i = 0
  | r :: E, v => ∃ k : Int, Spn E fun i => v i - k * r i
theorem sp_zero : ∀ E : List Vec, Spn E fun _ => 0
  | [] => fun _ => rfl
  | r :: E => ⟨0, by
    have e : (fun i => (0 : Int) - 0 * r i) = fun _ => 0 := by funext i; omega
    rw [e]
    exact sp_zero E⟩
theorem sp_lin : ∀ {E : List Vec} {u v : Vec} (a b : Int), Spn E u → Spn E v → Spn E fun i => a * u i + b * v i
  | [], u, v, a, b, hu, hv => fun i => by
    show a * u i + b * v i = 0
    rw [hu i, hv i, Int.mul_zero, Int.mul_zero]; rfl
  | r :: E, u, v, a, b, ⟨k, hu⟩, ⟨l, hv⟩ => ⟨a * k + b * l, by
    have := sp_lin a b hu hv
    have e : (fun i => a * (u i - k * r i) + b * (v i - l * r i)) = fun i => a * u i + b * v i - (a * k + b * l) * r i := by
      funext i
      rw [Int.mul_sub, Int.mul_sub, Int.add_mul, Int.mul_assoc, Int.mul_assoc]
      omega
    rwa [e] at this⟩
theorem sp_smul {E : List Vec} {u : Vec} (a : Int) (h : Spn E u) : Spn E fun i => a * u i := by
  have := sp_lin a 0 h (sp_zero E)
  have e : (fun i => a * u i + 0 * (0 : Int)) = fun i => a * u i := by funext i; omega
  rwa [e] at this
theorem sp_sub {E : List Vec} {u v : Vec} (k : Int) (hu : Spn E u) (hv : Spn E v) : Spn E fun i => u i - k * v i := by
  have := sp_lin 1 (-k) hu hv
  have e : (fun i => 1 * u i + -k * v i) = fun i => u i - k * v i := by
    funext i
    rw [Int.neg_mul]
    omega
  rwa [e] at this
theorem sp_add {E : List Vec} {u v : Vec} (k : Int) (hu : Spn E u) (hv : Spn E v) : Spn E fun i => u i + k * v i := by
  have := sp_lin 1 k hu hv
  have e : (fun i => 1 * u i + k * v i) = fun i => u i + k * v i := by
    funext i
    omega
  rwa [e] at this
theorem sp_cons {E : List Vec} {r v : Vec} (h : Spn E v) : Spn (r :: E) v := ⟨0, by
  have e : (fun i => v i - 0 * r i) = v := by funext i; omega
  rw [e]
  exact h⟩
theorem sp_head {E : List Vec} {r : Vec} : Spn (r :: E) r := ⟨1, by
  have e : (fun i => r i - 1 * r i) = fun _ => 0 := by funext i; omega
  rw [e]
  exact sp_zero E⟩
theorem sp_mem : ∀ {E : List Vec} {r : Vec}, r ∈ E → Spn E r
  | r' :: E, r, h => by
    rcases List.mem_cons.mp h with e | h
    · subst e
      exact sp_head
    · exact sp_cons (sp_mem h)
theorem sp_le : ∀ {E E' : List Vec} {v : Vec}, (∀ r ∈ E, Spn E' r) → Spn E v → Spn E' v
  | [], E', v, _, hv => by
    have e : v = fun _ => 0 := funext hv
    rw [e]
    exact sp_zero E'
  | r :: E, E', v, h, ⟨k, hv⟩ => by
    have h1 := sp_le (fun r hr => h r (List.mem_cons_of_mem _ hr)) hv
    have h2 := sp_add k h1 (h r List.mem_cons_self)
    have e : (fun i => v i - k * r i + k * r i) = v := by funext i; omega
    rwa [e] at h2
/-- what is so for all rows by whole combinations is so for what they make -/
theorem sp_zeros : ∀ {E : List Vec} {v : Vec} {i : Nat}, (∀ r ∈ E, r i = 0) → Spn E v → v i = 0
  | [], v, i, _, hv => hv i
  | r :: E, v, i, h, ⟨k, hv⟩ => by
    have := sp_zeros (fun r hr => h r (List.mem_cons_of_mem _ hr)) hv
    rw [h r List.mem_cons_self] at this
    omega
def Sle (E E' : List Vec) : Prop := ∀ r ∈ E, Spn E' r
theorem Sle.refl (E : List Vec) : Sle E E := fun r hr => sp_mem hr
theorem Sle.trans {E F G : List Vec} (h : Sle E F) (k : Sle F G) : Sle E G := fun r hr => sp_le k (h r hr)
theorem Sle.sub {E F : List Vec} (h : ∀ r ∈ E, r ∈ F) : Sle E F := fun r hr => sp_mem (h r hr)
def Seq (E E' : List Vec) : Prop := Sle E E' ∧ Sle E' E
theorem Seq.refl (E : List Vec) : Seq E E := ⟨Sle.refl E, Sle.refl E⟩
theorem Seq.symm {E F : List Vec} (h : Seq E F) : Seq F E := ⟨h.2, h.1⟩
theorem Seq.trans {E F G : List Vec} (h : Seq E F) (k : Seq F G) : Seq E G := ⟨h.1.trans k.1, k.2.trans h.2⟩
theorem Seq.of_mem {E F : List Vec} (h : ∀ r, r ∈ E ↔ r ∈ F) : Seq E F := ⟨Sle.sub fun r hr => (h r).mp hr, Sle.sub fun r hr => (h r).mpr hr⟩
/-- rows in echelon form, each with the place of its first number -/
def Ech : List (Nat × Vec) → Prop
  | [] => True
  | e :: E => (∀ i, i < e.1 → e.2 i = 0) ∧ 0 < e.2 e.1 ∧ (∀ f ∈ E, e.1 < f.1) ∧ (∀ f ∈ E, 0 ≤ e.2 f.1 ∧ e.2 f.1 < f.2 f.1) ∧ Ech E
/-- a new first place behind all others, the others made less than it -/
theorem ech_snoc {at_ : Nat} {p : Vec} (hp0 : ∀ i, i < at_ → p i = 0) (hp : 0 < p at_) : ∀ {E : List (Nat × Vec)}, Ech E → (∀ e ∈ E, e.1 < at_) → Ech (E.map (fun e => (e.1, fun i => e.2 i - (e.2 at_).fdiv (p at_) * p i)) ++ [(at_, p)])
  | [], _, _ => ⟨hp0, hp, fun f hf => (List.not_mem_nil hf).elim, fun f hf => (List.not_mem_nil hf).elim, trivial⟩
  | e :: E, h, hl => by
    obtain ⟨h1, h2, h3, h4, h5⟩ := h
    have le := hl e List.mem_cons_self
    refine ⟨fun i hi => ?_, ?_, fun f hf => ?_, fun f hf => ?_, ech_snoc hp0 hp h5 fun f hf => hl f (List.mem_cons_of_mem _ hf)⟩
    · show e.2 i - _ * p i = 0
      have hi : i < e.1 := hi
      rw [h1 i hi, hp0 i (by omega)]
      omega
    · show 0 < e.2 e.1 - _ * p e.1
      rw [hp0 _ le]
      omega
    · rcases List.mem_append.mp hf with hf | hf
      · obtain ⟨g, hg, q⟩ := List.mem_map.mp hf
        subst q
        exact h3 g hg
      · rw [List.mem_singleton.mp hf]
        exact le
    · rcases List.mem_append.mp hf with hf | hf
      · obtain ⟨g, hg, q⟩ := List.mem_map.mp hf
        subst q
        have := h4 g hg
        have z := hp0 g.1 (hl g (List.mem_cons_of_mem _ hg))
        show 0 ≤ e.2 g.1 - _ * p g.1 ∧ e.2 g.1 - _ * p g.1 < g.2 g.1 - _ * p g.1
        rw [z]
        omega
      · rw [List.mem_singleton.mp hf]
        show 0 ≤ e.2 at_ - (e.2 at_).fdiv (p at_) * p at_ ∧ e.2 at_ - (e.2 at_).fdiv (p at_) * p at_ < p at_
        have q1 := Int.mul_fdiv_add_fmod (e.2 at_) (p at_)
        have q2 := Int.fmod_nonneg_of_pos (e.2 at_) hp
        have q3 := Int.fmod_lt_of_pos (e.2 at_) hp
        rw [Int.mul_comm] at q1
        omega
end K10
namespace K10
def vc (r : List Int) : Vec := fun i => r.getD i 0
abbrev vcs (rs : List (List Int)) : List Vec := rs.map vc
def sb (r : List Int) (q : Int) (o : List Int) : List Int := (r.zip o).map fun x => x.1 - q * x.2
def Wd (w : Nat) (rs : List (List Int)) : Prop := ∀ r ∈ rs, r.length = w
theorem sb_len {r o : List Int} {q : Int} {w : Nat} (h : r.length = w) (h2 : o.length = w) : (sb r q o).length = w := by
  unfold sb
  rw [List.length_map, List.length_zip, h, h2, Nat.min_self]
theorem vc_out {r : List Int} {i : Nat} (h : r.length ≤ i) : vc r i = 0 := by
  unfold vc
  rw [List.getD_eq_getElem?_getD, List.getElem?_eq_none h]
  rfl
theorem vc_in {r : List Int} {i : Nat} (h : i < r.length) : r[i]? = some (vc r i) := by
  unfold vc
  rw [List.getD_eq_getElem?_getD, List.getElem?_eq_getElem h]
  rfl
theorem vc_sb {r o : List Int} {q : Int} {w : Nat} (h : r.length = w) (h2 : o.length = w) (i : Nat) : vc (sb r q o) i = vc r i - q * vc o i := by
  by_cases hi : i < w
  · have e1 := vc_in (r := r) (i := i) (by omega)
    have e2 := vc_in (r := o) (i := i) (by omega)
    have e3 := vc_in (r := sb r q o) (i := i) (by rw [sb_len h h2]; exact hi)
    unfold sb at e3
    rw [List.getElem?_map, (List.getElem?_zip_eq_some (z := (vc r i, vc o i))).mpr ⟨e1, e2⟩] at e3
    exact (Option.some.inj e3).symm
  · rw [vc_out (by rw [sb_len h h2]; omega), vc_out (by omega), vc_out (by omega)]
    omega
theorem vc_sbf {r o : List Int} {q : Int} {w : Nat} (h : r.length = w) (h2 : o.length = w) : vc (sb r q o) = fun i => vc r i - q * vc o i := funext (vc_sb h h2)
theorem sc_j {xj xg aj A L C L' q r : Nat} (hj : xj * A * (A + L) ≤ C) (hg : xg * A * (A + L) ≤ C) (haj : aj ≤ A) (e : aj = q * L + r) (hq : 1 ≤ q) (hr : L' ≤ r) : ((xj + q * xg) * L + xg * r) * (L + L') ≤ C := by
  have h1 : L + L' ≤ aj := by
    rw [e]
    have := Nat.mul_le_mul_right L hq
    omega
  have h2 : (xj + q * xg) * L + xg * r = xj * L + xg * aj := by
    rw [e, Nat.add_mul, Nat.mul_add, Nat.mul_right_comm q xg L, Nat.mul_comm (q * L) xg]
    omega
  rw [h2]
  have key : ∀ U, xj ≤ U → xg ≤ U → U * A * (A + L) ≤ C → (xj * L + xg * aj) * (L + L') ≤ C := fun U a b c =>
    calc (xj * L + xg * aj) * (L + L') ≤ (U * L + U * A) * A := Nat.mul_le_mul (Nat.add_le_add (Nat.mul_le_mul_right _ a) (Nat.mul_le_mul b haj)) (Nat.le_trans h1 haj)
      _ = U * A * (A + L) := by rw [← Nat.mul_add, Nat.mul_assoc, Nat.mul_assoc, Nat.mul_comm A, Nat.add_comm]
      _ ≤ C := c
  rcases Nat.le_total xj xg with q | q
  · exact key xg q (Nat.le_refl _) hg
  · exact key xj (Nat.le_refl _) q hj
theorem sc_j0 {xj xg aj A L C q r : Nat} (hj : xj * A * (A + L) ≤ C) (hg : xg * A * (A + L) ≤ C) (haj : aj ≤ A) (e : aj = q * L + r) (hq : 1 ≤ q) (hL : 1 ≤ L) : xj + q * xg ≤ C := by
  have hA : 1 ≤ A := by
    have := Nat.mul_le_mul hq hL
    omega
  have h0 : xj + q * xg ≤ (xj + q * xg) * L := Nat.le_mul_of_pos_right _ hL
  have h2 : (xj + q * xg) * L ≤ xj * L + xg * aj := by
    rw [e, Nat.add_mul, Nat.mul_add, Nat.mul_right_comm q xg L, Nat.mul_comm (q * L) xg]
    omega
  have key : ∀ U, xj ≤ U → xg ≤ U → U * A * (A + L) ≤ C → xj * L + xg * aj ≤ C := fun U a b c =>
    calc xj * L + xg * aj ≤ U * L + U * A := Nat.add_le_add (Nat.mul_le_mul_right _ a) (Nat.mul_le_mul b haj)
      _ = U * 1 * (A + L) := by rw [← Nat.mul_add, Nat.mul_one, Nat.add_comm]
      _ ≤ U * A * (A + L) := Nat.mul_le_mul_right _ (Nat.mul_le_mul_left _ hA)
      _ ≤ C := c
  rcases Nat.le_total xj xg with q | q
  · exact Nat.le_trans h0 (Nat.le_trans h2 (key xg q (Nat.le_refl _) hg))
  · exact Nat.le_trans h0 (Nat.le_trans h2 (key xj (Nat.le_refl _) q hj))
theorem sc_f {xf xg A L C L' q r : Nat} (hg : (xg * A + xf * L) * (A + L) ≤ C) (e : A = q * L + r) (hr : L' ≤ A) : ((xf + q * xg) * L + xg * r) * (L + L') ≤ C := by
  have h2 : (xf + q * xg) * L + xg * r = xg * A + xf * L := by
    rw [e, Nat.add_mul, Nat.mul_add, Nat.mul_right_comm q xg L, Nat.mul_comm (q * L) xg]
    omega
  rw [h2]
  exact Nat.le_trans (Nat.mul_le_mul_left _ (by omega)) hg
theorem sc_f0 {xf xg A L C q r : Nat} (hg : (xg * A + xf * L) * (A + L) ≤ C) (e : A = q * L + r) (hL : 1 ≤ L) : xf + q * xg ≤ C := by
  have h2 : (xf + q * xg) * L ≤ xg * A + xf * L := by
    rw [e, Nat.add_mul, Nat.mul_add, Nat.mul_right_comm q xg L, Nat.mul_comm (q * L) xg]
    omega
  exact Nat.le_trans (Nat.le_mul_of_pos_right _ hL) (Nat.le_trans h2 (Nat.le_trans (Nat.le_mul_of_pos_right _ (by omega)) hg))
/-- the first step of a column, where nothing is known of the signs -/
theorem sc_1 {xj xg aj L M L' q r : Nat} (h1 : xj ≤ M) (h2 : xg ≤ M) (h3 : aj ≤ M) (hL : 1 ≤ L) (h4 : L ≤ aj) (h5 : q * L ≤ aj + r) (h6 : r < L) (h7 : L' ≤ L) : ((xj + q * xg) * L + xg * r) * (L + L') ≤ 8 * M ^ 3 ∧ xj + q * xg ≤ 8 * M ^ 3 := by
  have hM : 1 ≤ M := by omega
  have a1 : (xj + q * xg) * L ≤ 3 * (M * M) := by
    rw [Nat.add_mul, Nat.mul_right_comm q xg L]
    have b1 : xj * L ≤ M * M := Nat.mul_le_mul h1 (by omega)
    have b2 : q * L * xg ≤ 2 * (M * M) := by
      rw [← Nat.mul_assoc]
      exact Nat.mul_le_mul (by omega) h2
    omega
  have a2 : xg * r ≤ M * M := Nat.mul_le_mul h2 (by omega)
  have a3 : ((xj + q * xg) * L + xg * r) * (L + L') ≤ 4 * (M * M) * (2 * M) := Nat.mul_le_mul (by omega) (by omega)
  have e : 8 * M ^ 3 = 4 * (M * M) * (2 * M) := by
    rw [Nat.mul_mul_mul_comm, show M ^ 3 = M * M * M by rw [Nat.pow_succ, Nat.pow_succ, Nat.pow_one]]
  refine ⟨by rw [e]; exact a3, ?_⟩
  have a4 : xj + q * xg ≤ (xj + q * xg) * L := Nat.le_mul_of_pos_right _ hL
  have a5 : 3 * (M * M) * 1 ≤ 4 * (M * M) * (2 * M) := Nat.mul_le_mul (by omega) (by omega)
  rw [e]
  omega
end K10
namespace K10
open Mi
open PySem L2 Evl
theorem less_ok {r o : List Int} {q : Int} {m : Nat} (hq : q.natAbs < 2 ^ m) (ho : ∀ x ∈ o, x.natAbs < 2 ^ m) (hm : m ≤ 1048576) : Ok (m_less r q o) (· = sb r q o) := by
  unfold m_less
  exact Ok.bndE (Ok.map (g := fun x : Int × Int => x.1 - q * x.2) fun x hx => Ok.bndE (Ok.mul hq (ho x.2 (List.of_mem_zip hx).2) hm) Ok.eq) Ok.eq
theorem vc_mem {o : List Int} {x : Int} (h : x ∈ o) : ∃ i, x = vc o i := by
  obtain ⟨i, hi, e⟩ := List.getElem_of_mem h
  exact ⟨i, by
    have := vc_in hi
    rw [List.getElem?_eq_getElem hi] at this
    rw [← e]
    exact Option.some.inj this⟩
theorem min_ex : ∀ {xs : List Int}, xs ≠ [] → ∃ m ∈ xs, ∀ y ∈ xs, m ≤ y
  | [], h => absurd rfl h
  | [x], _ => ⟨x, List.mem_cons_self, fun y hy => by rw [List.mem_singleton.mp hy]; exact Int.le_refl _⟩
  | x :: y :: r, _ => by
    obtain ⟨m, h1, h2⟩ := min_ex (xs := y :: r) (by simp)
    by_cases q : x ≤ m
    · refine ⟨x, List.mem_cons_self, fun z hz => ?_⟩
      rcases List.mem_cons.mp hz with e | hz
      · omega
      · have := h2 z hz
        omega
    · refine ⟨m, List.mem_cons_of_mem _ h1, fun z hz => ?_⟩
      rcases List.mem_cons.mp hz with e | hz
      · omega
      · exact h2 z hz
theorem idx_at {r : List Int} {w at_ : Nat} (h : r.length = w) (ha : at_ < w) : Ok (idx r (at_ : Int)) (· = vc r at_) := Ok.idxN (vc_in (by omega))
theorem least_ok {live : List (List Int)} {w at_ : Nat} (h0 : live ≠ []) (hw : Wd w live) (ha : at_ < w) : Ok (m_least_row live (at_ : Int)) fun z => ∃ k : Nat, z = (k : Int) ∧ ∃ f, live[k]? = some f ∧ ∀ r ∈ live, (vc f at_).natAbs ≤ (vc r at_).natAbs := by
  unfold m_least_row
  refine Ok.bndE (Ok.map (g := fun r => ((vc r at_).natAbs : Int)) fun r hr => Ok.bndE (idx_at (hw r hr) ha) Ok.eq) ?_
  have hne : (live.map fun r => ((vc r at_).natAbs : Int)) ≠ [] := by
    intro z
    exact h0 (List.map_eq_nil_iff.mp z)
  obtain ⟨m, m1, m2⟩ := min_ex hne
  have em := minL_is m1 m2
  refine Ok.bnd (J := fun z => z = (((live.map fun r => ((vc r at_).natAbs : Int)).idxOf m : Nat) : Int)) (Ok.bndE (x := m) (Ok.chk hne (Ok.ret em)) (Ok.chk m1 Ok.eq)) fun z hz => Ok.ret ?_
  subst hz
  have hl := List.idxOf_lt_length_of_mem m1
  have hg := List.getElem_idxOf hl
  rw [List.length_map] at hl
  refine ⟨_, rfl, live[List.idxOf m (live.map fun r => ((vc r at_).natAbs : Int))], List.getElem?_eq_getElem hl, fun r hr => ?_⟩
  rw [List.getElem_map] at hg
  have := m2 _ (List.mem_map_of_mem (f := fun r => ((vc r at_).natAbs : Int)) hr)
  omega
/-- division where the signs are alike -/
theorem fd_pos {a g : Int} (hg : 0 < g) : a.fdiv g * g = a - a.fmod g ∧ 0 ≤ a.fmod g ∧ a.fmod g < g := by
  have h1 := Int.mul_fdiv_add_fmod a g
  rw [Int.mul_comm] at h1
  exact ⟨by omega, Int.fmod_nonneg_of_pos a hg, Int.fmod_lt_of_pos a hg⟩
theorem fd {a g s : Int} (hs : s = 1 ∨ s = -1) (hg : 0 < s * g) : ∃ r, a - a.fdiv g * g = s * r ∧ 0 ≤ r ∧ r < s * g ∧ s * a = a.fdiv g * (s * g) + r := by
  rcases hs with e | e
  · subst e
    have hg : 0 < g := by omega
    obtain ⟨h1, h2, h3⟩ := fd_pos (a := a) hg
    exact ⟨a.fmod g, by omega, h2, by omega, by rw [Int.one_mul, Int.one_mul]; omega⟩
  · subst e
    have hg : 0 < -g := by omega
    obtain ⟨h1, h2, h3⟩ := fd_pos (a := -a) hg
    rw [Int.neg_fdiv_neg, Int.mul_neg] at h1
    exact ⟨(-a).fmod (-g), by omega, h2, by omega, by rw [Int.neg_mul, Int.one_mul, Int.neg_mul, Int.one_mul, Int.mul_neg]; omega⟩
/-- what one row gives up -/
structure Cut (a g s : Int) (q : Nat) (r : Nat) : Prop where
  qe : (a.fdiv g).natAbs = q
  re : (a - a.fdiv g * g).natAbs = r
  lt : r < g.natAbs
  sg : a - a.fdiv g * g ≠ 0 → 0 < s * (a - a.fdiv g * g)
  le : q * g.natAbs ≤ a.natAbs + r
theorem cut_any {a g s : Int} (hs : s = 1 ∨ s = -1) (hg : 0 < s * g) : ∃ q r, Cut a g s q r := by
  obtain ⟨r, h1, h2, h3, h4⟩ := fd (a := a) hs hg
  have e1 : (a - a.fdiv g * g).natAbs = r.natAbs := by
    rw [h1]
    rcases hs with e | e <;> subst e <;> omega
  refine ⟨_, _, ⟨rfl, rfl, ?_, fun hne => ?_, ?_⟩⟩
  · rw [e1]
    rcases hs with e | e <;> subst e <;> omega
  · rw [h1] at hne ⊢
    rcases hs with e | e <;> subst e <;> omega
  · have : a.fdiv g * g = a - (a - a.fdiv g * g) := by omega
    have h5 := congrArg Int.natAbs this
    rw [Int.natAbs_mul] at h5
    rw [h5]
    exact Int.natAbs_sub_le _ _
theorem cut_same {a g s : Int} (hs : s = 1 ∨ s = -1) (hg : 0 < s * g) (ha : 0 < s * a) (hle : g.natAbs ≤ a.natAbs) {q r : Nat} (c : Cut a g s q r) : a.natAbs = q * g.natAbs + r ∧ 1 ≤ q := by
  obtain ⟨r', h1, h2, h3, h4⟩ := fd (a := a) hs hg
  have e1 : r = r'.natAbs := by
    rw [← c.re, h1]
    rcases hs with e | e <;> subst e <;> omega
  have ga : s * g = (g.natAbs : Int) := by rcases hs with e | e <;> subst e <;> omega
  have aa : s * a = (a.natAbs : Int) := by rcases hs with e | e <;> subst e <;> omega
  rw [ga, aa] at h4
  have gp : (0 : Int) < (g.natAbs : Int) := by omega
  have qp : 0 < a.fdiv g := by
    by_cases z : 0 < a.fdiv g
    · exact z
    · exfalso
      have z : a.fdiv g ≤ 0 := by omega
      have : a.fdiv g * (g.natAbs : Int) ≤ 0 * (g.natAbs : Int) := Int.mul_le_mul_of_nonneg_right z (by omega)
      omega
  have qe : a.fdiv g = (q : Int) := by
    rw [← c.qe]
    omega
  rw [qe] at h4 qp
  refine ⟨?_, by omega⟩
  have : ((a.natAbs : Nat) : Int) = ((q * g.natAbs + r : Nat) : Int) := by
    rw [h4, Int.natCast_add, Int.natCast_mul]
    omega
  exact Int.ofNat_inj.mp this
/-- a column's rows that follow one another: the first is the largest -/
def LB (at_ C : Nat) (live : List (List Int)) : Prop := ∃ (f : List Int) (rest : List (List Int)) (s : Int), live = f :: rest ∧ (s = 1 ∨ s = -1) ∧ (∀ r ∈ live, 0 < s * vc r at_) ∧ (∀ r ∈ rest, (vc r at_).natAbs < (vc f at_).natAbs) ∧
  ∀ L, (∀ r ∈ rest, L ≤ (vc r at_).natAbs) → ∀ r ∈ rest, ∀ i, ((vc r i).natAbs * (vc f at_).natAbs + (vc f i).natAbs * (vc r at_).natAbs) * ((vc f at_).natAbs + L) ≤ C
structure PI (rows : List (List Int)) (w at_ M : Nat) (s : List (List Int) × List (List Int)) : Prop where
  wl : Wd w s.1
  ws : Wd w s.2
  nz : ∀ r ∈ s.1, vc r at_ ≠ 0
  z : ∀ r ∈ s.2, vc r at_ = 0
  seq : Seq (vcs (s.1 ++ s.2)) (vcs rows)
  len : s.1.length + s.2.length ≤ rows.length
  small : ∀ r ∈ s.1 ++ s.2, ∀ i, (vc r i).natAbs ≤ 8 * M ^ 3
  al : ∀ r ∈ s.1, (vc r at_).natAbs ≤ M
  bd : (∀ r ∈ s.1, ∀ i, (vc r i).natAbs ≤ M) ∨ LB at_ (8 * M ^ 3) s.1
theorem sb_natAbs {x y q : Int} {a b c : Nat} (hx : x.natAbs ≤ a) (hq : q.natAbs ≤ b) (hy : y.natAbs ≤ c) : (x - q * y).natAbs ≤ a + b * c := by
  have := Int.natAbs_sub_le x (q * y)
  rw [Int.natAbs_mul] at this
  have := Nat.mul_le_mul hq hy
  omega
theorem filt_len {α : Type} (p : α → Bool) : ∀ l : List α, l.length = (l.filter p).length + (l.filter fun x => !p x).length
  | [] => rfl
  | x :: l => by
    have ih := filt_len p l
    cases q : p x with
    | true =>
      rw [List.filter_cons_of_pos q, List.filter_cons_of_neg (by simp [q]), List.length_cons, List.length_cons]
      omega
    | false =>
      rw [List.filter_cons_of_neg (by simp [q]), List.filter_cons_of_pos (by simp [q]), List.length_cons, List.length_cons]
      omega
/-- one step, as a fact about rows -/
theorem step_pi {rows live still late : List (List Int)} {g : List Int} {w at_ M : Nat} (h : PI rows w at_ M (live, still)) (hg : g ∈ live) (hmin : ∀ r ∈ live, (vc g at_).natAbs ≤ (vc r at_).natAbs) (h2 : 1 < live.length)
    (l1 : ∀ y ∈ late, ∃ r ∈ live, y = sb r ((vc r at_).fdiv (vc g at_)) g) (l2 : ∀ r ∈ live, r = g ∨ sb r ((vc r at_).fdiv (vc g at_)) g ∈ late) (l3 : late.length + 1 ≤ live.length) :
    PI rows w at_ M (g :: late.filter (fun r => !decide (vc r at_ = 0)), still ++ late.filter (fun r => decide (vc r at_ = 0))) ∧ ∀ y ∈ late, (vc y at_).natAbs < (vc g at_).natAbs := by
  have gw : g.length = w := h.wl g hg
  have gn : vc g at_ ≠ 0 := h.nz g hg
  have late_w : Wd w late := fun y hy => by
    obtain ⟨r, hr, e⟩ := l1 y hy
    rw [e]
    exact sb_len (h.wl r hr) gw
  have vy : ∀ r ∈ live, ∀ i, vc (sb r ((vc r at_).fdiv (vc g at_)) g) i = vc r i - (vc r at_).fdiv (vc g at_) * vc g i := fun r hr i => vc_sb (h.wl r hr) gw i
  -- the sign
  obtain ⟨s, hs, hsg, hcase⟩ : ∃ s : Int, (s = 1 ∨ s = -1) ∧ 0 < s * vc g at_ ∧ ((∀ r ∈ live, ∀ i, (vc r i).natAbs ≤ M) ∨ ∃ (f : List Int) (rest : List (List Int)), live = f :: rest ∧ g ∈ rest ∧ (∀ r ∈ live, 0 < s * vc r at_) ∧ (∀ r ∈ rest, (vc r at_).natAbs < (vc f at_).natAbs) ∧
      ∀ r ∈ rest, ∀ i, ((vc r i).natAbs * (vc f at_).natAbs + (vc f i).natAbs * (vc r at_).natAbs) * ((vc f at_).natAbs + (vc g at_).natAbs) ≤ 8 * M ^ 3) := by
    rcases h.bd with b | ⟨f, rest, s, e, hs, hp, hf, hb⟩
    · rcases Int.lt_or_gt_of_ne gn with q | q
      · exact ⟨-1, .inr rfl, by omega, .inl b⟩
      · exact ⟨1, .inl rfl, by omega, .inl b⟩
    · have e : live = f :: rest := e
      refine ⟨s, hs, hp g hg, .inr ⟨f, rest, e, ?_, hp, hf, fun r hr i => hb _ (fun r hr => hmin r (by rw [e]; exact List.mem_cons_of_mem _ hr)) r hr i⟩⟩
      rw [e] at hg h2 hmin
      rcases List.mem_cons.mp hg with q | q
      · exfalso
        subst q
        cases rest with
        | nil => exact absurd h2 (by simp)
        | cons r rest =>
          have a1 := hf r List.mem_cons_self
          have a2 := hmin r (List.mem_cons_of_mem _ List.mem_cons_self)
          omega
      · exact q
  have gL : 1 ≤ (vc g at_).natAbs := by omega
  have cutr : ∀ r ∈ live, ∃ q t, Cut (vc r at_) (vc g at_) s q t := fun r hr => cut_any hs hsg
  have late_lt : ∀ y ∈ late, (vc y at_).natAbs < (vc g at_).natAbs := fun y hy => by
    obtain ⟨r, hr, e⟩ := l1 y hy
    obtain ⟨q, t, c⟩ := cutr r hr
    rw [e, vy r hr, c.re]
    exact c.lt
  have fsmall : 8 * M ^ 3 = 8 * M ^ 3 := rfl
  -- what one row becomes
  have key : ∀ r ∈ live, r ≠ g ∨ True → ∀ L', ∀ i, (∀ q t, Cut (vc r at_) (vc g at_) s q t → L' ≤ t) → ((vc (sb r ((vc r at_).fdiv (vc g at_)) g) i).natAbs * (vc g at_).natAbs + (vc g i).natAbs * (vc (sb r ((vc r at_).fdiv (vc g at_)) g) at_).natAbs) * ((vc g at_).natAbs + L') ≤ 8 * M ^ 3 := fun r hr _ L' i hL => by
    obtain ⟨q, t, c⟩ := cutr r hr
    have hL := hL q t c
    rw [vy r hr, vy r hr, c.re]
    have x1 : (vc r i - (vc r at_).fdiv (vc g at_) * vc g i).natAbs ≤ (vc r i).natAbs + q * (vc g i).natAbs := sb_natAbs (Nat.le_refl _) (Nat.le_of_eq c.qe) (Nat.le_refl _)
    refine Nat.le_trans (Nat.mul_le_mul_right _ (Nat.add_le_add_right (Nat.mul_le_mul_right _ x1) _)) ?_
    rcases hcase with b | ⟨f, rest, e, hgr, hp, hf, hb⟩
    · exact (sc_1 (b r hr i) (b g hg i) (b r hr at_) gL (hmin r hr) c.le c.lt (by have := c.lt; omega)).1
    · obtain ⟨ea, q1⟩ := cut_same hs hsg (hp r hr) (hmin r hr) c
      have hgb := hb g hgr i
      rw [e] at hr
      rcases List.mem_cons.mp hr with z | z
      · subst z
        exact sc_f (A := (vc r at_).natAbs) hgb ea (by omega)
      · have hrb := hb r z i
        have hra := hf r z
        have mono : ∀ {a b c d : Nat}, (a + b) * c ≤ d → a * c ≤ d := fun {a b c d} hh => Nat.le_trans (Nat.mul_le_mul_right _ (Nat.le_add_right _ _)) hh
        exact sc_j (A := (vc f at_).natAbs) (mono hrb) (mono hgb) (by omega) ea q1 hL
  have small : ∀ y ∈ late, ∀ i, (vc y i).natAbs ≤ 8 * M ^ 3 := fun y hy i => by
    obtain ⟨r, hr, ey⟩ := l1 y hy
    obtain ⟨q, t, c⟩ := cutr r hr
    rw [ey, vy r hr]
    refine Nat.le_trans (sb_natAbs (Nat.le_refl _) (Nat.le_of_eq c.qe) (Nat.le_refl _)) ?_
    rcases hcase with b | ⟨f, rest, e, hgr, hp, hf, hb⟩
    · exact (sc_1 (L' := 0) (b r hr i) (b g hg i) (b r hr at_) gL (hmin r hr) c.le c.lt (by omega)).2
    · obtain ⟨ea, q1⟩ := cut_same hs hsg (hp r hr) (hmin r hr) c
      have hgb := hb g hgr i
      rw [e] at hr
      rcases List.mem_cons.mp hr with z | z
      · subst z
        exact sc_f0 hgb ea gL
      · have hrb := hb r z i
        have hra := hf r z
        have mono : ∀ {a b c d : Nat}, (a + b) * c ≤ d → a * c ≤ d := fun {a b c d} hh => Nat.le_trans (Nat.mul_le_mul_right _ (Nat.le_add_right _ _)) hh
        exact sc_j0 (A := (vc f at_).natAbs) (mono hrb) (mono hgb) (by omega) ea q1 gL
  have memF : ∀ {y}, y ∈ late.filter (fun r => !decide (vc r at_ = 0)) → y ∈ late ∧ vc y at_ ≠ 0 := fun {y} hy => by
    obtain ⟨a, b⟩ := List.mem_filter.mp hy
    exact ⟨a, by simpa using b⟩
  have memZ : ∀ {y}, y ∈ late.filter (fun r => decide (vc r at_ = 0)) → y ∈ late ∧ vc y at_ = 0 := fun {y} hy => by
    obtain ⟨a, b⟩ := List.mem_filter.mp hy
    exact ⟨a, by simpa using b⟩
  refine ⟨⟨fun r hr => ?_, fun r hr => ?_, fun r hr => ?_, fun r hr => ?_, ⟨fun v hv => ?_, fun v hv => ?_⟩, ?_, fun r hr i => ?_, fun r hr => ?_, .inr ⟨g, _, s, rfl, hs, fun r hr => ?_, fun r hr => late_lt r (memF hr).1, fun L' hL r hr i => ?_⟩⟩, late_lt⟩
  · rcases List.mem_cons.mp hr with e | hr
    · rw [e]
      exact gw
    · exact late_w r (memF hr).1
  · rcases List.mem_append.mp hr with hr | hr
    · exact h.ws r hr
    · exact late_w r (memZ hr).1
  · rcases List.mem_cons.mp hr with e | hr
    · rw [e]
      exact gn
    · exact (memF hr).2
  · rcases List.mem_append.mp hr with hr | hr
    · exact h.z r hr
    · exact (memZ hr).2
  · obtain ⟨r, hr, e⟩ := List.mem_map.mp hv
    refine sp_le h.seq.1 ?_
    have fromL : ∀ y ∈ late, Spn (vcs (live ++ still)) (vc y) := fun y hy => by
      obtain ⟨r, hr, e⟩ := l1 y hy
      rw [e, vc_sbf (h.wl r hr) gw]
      exact sp_sub _ (sp_mem (List.mem_map_of_mem (List.mem_append_left _ hr))) (sp_mem (List.mem_map_of_mem (List.mem_append_left _ hg)))
    rw [← e]
    rcases List.mem_append.mp hr with hr | hr
    · rcases List.mem_cons.mp hr with e | hr
      · rw [e]
        exact sp_mem (List.mem_map_of_mem (List.mem_append_left _ hg))
      · exact fromL r (memF hr).1
    · rcases List.mem_append.mp hr with hr | hr
      · exact sp_mem (List.mem_map_of_mem (List.mem_append_right _ hr))
      · exact fromL r (memZ hr).1
  · refine sp_le (E := vcs (live ++ still)) (fun u hu => ?_) (h.seq.2 v hv)
    obtain ⟨r, hr, e⟩ := List.mem_map.mp hu
    rw [← e]
    have hgm : Spn (vcs ((g :: late.filter (fun r => !decide (vc r at_ = 0))) ++ (still ++ late.filter (fun r => decide (vc r at_ = 0))))) (vc g) := sp_mem (List.mem_map_of_mem (List.mem_append_left _ List.mem_cons_self))
    rcases List.mem_append.mp hr with hr | hr
    · rcases l2 r hr with q | q
      · rw [q]
        exact hgm
      · have hy : Spn (vcs ((g :: late.filter (fun r => !decide (vc r at_ = 0))) ++ (still ++ late.filter (fun r => decide (vc r at_ = 0))))) (vc (sb r ((vc r at_).fdiv (vc g at_)) g)) := by
          refine sp_mem (List.mem_map_of_mem ?_)
          by_cases z : vc (sb r ((vc r at_).fdiv (vc g at_)) g) at_ = 0
          · exact List.mem_append_right _ (List.mem_append_right _ (List.mem_filter.mpr ⟨q, by simpa using z⟩))
          · exact List.mem_append_left _ (List.mem_cons_of_mem _ (List.mem_filter.mpr ⟨q, by simpa using z⟩))
        have := sp_add ((vc r at_).fdiv (vc g at_)) hy hgm
        have e2 : (fun i => vc (sb r ((vc r at_).fdiv (vc g at_)) g) i + (vc r at_).fdiv (vc g at_) * vc g i) = vc r := by
          funext i
          rw [vy r hr]
          omega
        rwa [e2] at this
    · exact sp_mem (List.mem_map_of_mem (List.mem_append_right _ (List.mem_append_left _ hr)))
  · have hl := h.len
    have hs : late.length = (late.filter (fun r => decide (vc r at_ = 0))).length + (late.filter (fun r => !decide (vc r at_ = 0))).length := by
      exact filt_len (fun r => decide (vc r at_ = 0)) late
    show (g :: _).length + (still ++ _).length ≤ _
    rw [List.length_cons, List.length_append]
    have hl : live.length + still.length ≤ rows.length := hl
    omega
  · rcases List.mem_append.mp hr with hr | hr
    · rcases List.mem_cons.mp hr with e | hr
      · rw [e]
        exact h.small g (List.mem_append_left _ hg) i
      · exact small r (memF hr).1 i
    · rcases List.mem_append.mp hr with hr | hr
      · exact h.small r (List.mem_append_right _ hr) i
      · exact small r (memZ hr).1 i
  · have := h.al g hg
    rcases List.mem_cons.mp hr with e | hr
    · rw [e]
      exact this
    · have := late_lt r (memF hr).1
      omega
  · rcases List.mem_cons.mp hr with e | hr
    · rw [e]
      exact hsg
    · obtain ⟨r', hr', e⟩ := l1 r (memF hr).1
      obtain ⟨q, t, c⟩ := cutr r' hr'
      have nz := (memF hr).2
      rw [e, vy r' hr'] at nz ⊢
      exact c.sg nz
  · have hL := hL r hr
    obtain ⟨r', hr', e⟩ := l1 r (memF hr).1
    rw [e] at hL ⊢
    refine key r' hr' (.inr trivial) L' i fun q t c => ?_
    rw [vy r' hr', c.re] at hL
    exact hL
end K10
namespace K10
open Mi
open PySem L2 Evl
theorem eqv_nilL (xs : List (List Int)) : PyData.eqv (.list (xs.map fun x => .list (x.map .int))) (.list (([] : List (List Int)).map fun x => .list (x.map .int))) = xs.isEmpty := by
  rw [List.map_nil, eqv_nil]
def mu (at_ : Nat) (s : List (List Int) × List (List Int)) : Nat := if s.1.length ≤ 1 then 0 else (minL (s.1.map fun r => ((vc r at_).natAbs : Int))).toNat
theorem rangeI_get {n j : Nat} (h : j < n) : (rangeI 0 (n : Int))[j]? = some (j : Int) := by
  unfold rangeI
  rw [List.getElem?_map, List.getElem?_range (by omega)]
  simp
theorem rows_num {r : List Int} {B m : Nat} (h : ∀ i, (vc r i).natAbs ≤ B) (hB : B < 2 ^ m) : ∀ x ∈ r, x.natAbs < 2 ^ m := fun x hx => by
  obtain ⟨i, e⟩ := vc_mem hx
  rw [e]
  exact Nat.lt_of_le_of_lt (h i) hB
theorem fdiv_abs {a g : Int} (hg : g ≠ 0) : (a.fdiv g).natAbs ≤ a.natAbs + g.natAbs := by
  obtain ⟨s, hs, hsg⟩ : ∃ s : Int, (s = 1 ∨ s = -1) ∧ 0 < s * g := by
    rcases Int.lt_or_gt_of_ne hg with q | q
    · exact ⟨-1, .inr rfl, by omega⟩
    · exact ⟨1, .inl rfl, by omega⟩
  obtain ⟨q, t, c⟩ := cut_any (a := a) hs hsg
  have h1 := c.le
  have h2 := c.lt
  rw [c.qe]
  have h3 : q ≤ q * g.natAbs := Nat.le_mul_of_pos_right _ (by omega)
  omega
theorem part_step {rows : List (List Int)} {w at_ M m : Nat} (ha : at_ < w) (hM : M < 2 ^ 9000) (hm : m ≤ 1048576) (h8 : 8 * M ^ 3 < 2 ^ m) (h8' : 2 * M < 2 ^ m) (hz : rows.length ≤ 1000) {s : List (List Int) × List (List Int)} (h : PI rows w at_ M s) (h2 : 1 < s.1.length) :
    Ok (m_parted_l1 (at_ : Int) s) fun s' => PI rows w at_ M s' ∧ mu at_ s' < mu at_ s := by
  obtain ⟨live, still⟩ := s
  have h2 : 1 < live.length := h2
  have hl : live.length + still.length ≤ rows.length := h.len
  unfold m_parted_l1
  refine Ok.bnd (Ok.noX (least_ok (by intro z; have z : live = [] := z; rw [z] at h2; exact absurd h2 (by simp)) h.wl ha)) fun z ⟨k, ez, g, hg, hmin⟩ => ?_
  subst ez
  refine Ok.bndE (Ok.idxN hg) ?_
  have gm : g ∈ live := List.mem_of_getElem? hg
  have gn : vc g at_ ≠ 0 := h.nz g gm
  have gw : g.length = w := h.wl g gm
  have gsm := h.small g (List.mem_append_left _ gm)
  refine Ok.bndE (Ok.filt (p := fun x : Int × List Int => !decide (x.1 = (k : Int))) (g := fun x : Int × List Int => sb x.2 ((vc x.2 at_).fdiv (vc g at_)) g) (fun x hx => Ok.eq) fun x hx _ => ?_) ?_
  · have xm : x.2 ∈ live := (List.of_mem_zip hx).2
    refine Ok.bndE (idx_at (h.wl _ xm) ha) (Ok.bndE (idx_at gw ha) (Ok.bndE (Ok.div gn (Nat.lt_of_le_of_lt (h.al g gm) hM)) (Ok.noX (less_ok (m := m) ?_ (rows_num gsm h8) hm))))
    have := fdiv_abs (a := vc x.2 at_) gn
    have := h.al _ xm
    have := h.al g gm
    omega
  generalize elate : List.map (fun x : Int × List Int => sb x.2 ((vc x.2 at_).fdiv (vc g at_)) g) (List.filter (fun x : Int × List Int => !decide (x.1 = (k : Int))) ((rangeI 0 (live.length : Int)).zip live)) = late
  have inZ : ∀ {j : Nat} {r : List Int}, live[j]? = some r → ((j : Int), r) ∈ (rangeI 0 (live.length : Int)).zip live := fun {j r} hj => by
    have hjl := (List.getElem?_eq_some_iff.mp hj).1
    exact List.mem_of_getElem? ((List.getElem?_zip_eq_some (z := ((j : Int), r))).mpr ⟨rangeI_get hjl, hj⟩)
  have l1 : ∀ y ∈ late, ∃ r ∈ live, y = sb r ((vc r at_).fdiv (vc g at_)) g := fun y hy => by
    rw [← elate] at hy
    obtain ⟨x, hx, e⟩ := List.mem_map.mp hy
    exact ⟨x.2, (List.of_mem_zip (List.mem_filter.mp hx).1).2, e.symm⟩
  have l2 : ∀ r ∈ live, r = g ∨ sb r ((vc r at_).fdiv (vc g at_)) g ∈ late := fun r hr => by
    obtain ⟨j, hj, e⟩ := List.getElem_of_mem hr
    have hj' : live[j]? = some r := by rw [List.getElem?_eq_getElem hj, e]
    by_cases q : j = k
    · subst q
      rw [hg] at hj'
      exact .inl (Option.some.inj hj').symm
    · refine .inr ?_
      rw [← elate]
      exact List.mem_map.mpr ⟨_, List.mem_filter.mpr ⟨inZ hj', by simpa using fun z : (j : Int) = (k : Int) => q (by omega)⟩, rfl⟩
  have lz : ((rangeI 0 (live.length : Int)).zip live).length = live.length := by
    rw [List.length_zip, rangeI_len]
    omega
  have l3 : late.length + 1 ≤ live.length := by
    rw [← elate, List.length_map]
    have := List.length_filter_lt_length_iff_exists (p := fun x : Int × List Int => !decide (x.1 = (k : Int))) (l := (rangeI 0 (live.length : Int)).zip live) |>.mpr ⟨_, inZ hg, by simp⟩
    omega
  have late_w : Wd w late := fun y hy => by
    obtain ⟨r, hr, e⟩ := l1 y hy
    rw [e]
    exact sb_len (h.wl r hr) gw
  obtain ⟨pi, lt⟩ := step_pi h gm hmin h2 l1 l2 l3
  have hz16 : sizeLine ≥ 1000 := by decide
  have f1 := List.length_filter_le (fun r => !decide (vc r at_ = 0)) late
  have f2 := List.length_filter_le (fun r => decide (vc r at_ = 0)) late
  refine Ok.bndE (x := g :: late.filter (fun r => !decide (vc r at_ = 0))) (Ok.bndE (Ok.filt (p := fun r => !decide (vc r at_ = 0)) (g := fun r => r) (fun x hx => Ok.bndE (idx_at (late_w x hx) ha) Ok.eq) fun x hx _ => Ok.eq) ?_) (Ok.bndE (x := still ++ late.filter (fun r => decide (vc r at_ = 0))) (Ok.bndE (Ok.filt (p := fun r => decide (vc r at_ = 0)) (g := fun r => r) (fun x hx => Ok.bndE (idx_at (late_w x hx) ha) Ok.eq) fun x hx _ => Ok.eq) ?_) (Ok.ret ⟨pi, ?_⟩))
  · rw [List.map_id']
    exact Ok.chk (by rw [List.length_singleton]; omega) Ok.eq
  · rw [List.map_id']
    exact Ok.chk (by show still.length + _ ≤ _; omega) Ok.eq
  · have e1 : mu at_ (live, still) = (vc g at_).natAbs := by
      unfold mu
      rw [if_neg (by show ¬ live.length ≤ 1; omega), minL_is (m := ((vc g at_).natAbs : Int)) (List.mem_map_of_mem (f := fun r => ((vc r at_).natAbs : Int)) gm) fun y hy => ?_]
      · exact Int.toNat_natCast _
      · obtain ⟨r, hr, e⟩ := List.mem_map.mp hy
        rw [← e]
        exact Int.ofNat_le.mpr (hmin r hr)
    rw [e1]
    unfold mu
    split
    · omega
    · rename_i hne
      cases hf : late.filter (fun r => !decide (vc r at_ = 0)) with
      | nil =>
        rw [hf] at hne
        exact absurd (Nat.le_refl 1) hne
      | cons y r =>
        have hy : y ∈ late := (List.mem_filter.mp (by rw [hf]; exact List.mem_cons_self : y ∈ late.filter (fun r => !decide (vc r at_ = 0)))).1
        have hlt := lt y hy
        obtain ⟨m0, q1, q2⟩ := min_ex (xs := (g :: y :: r).map fun r => ((vc r at_).natAbs : Int)) (by simp)
        show (minL ((g :: y :: r).map fun r => ((vc r at_).natAbs : Int))).toNat < _
        rw [minL_is q1 q2]
        have := q2 ((vc y at_).natAbs : Int) (List.mem_map_of_mem (f := fun r => ((vc r at_).natAbs : Int)) (List.mem_cons_of_mem _ List.mem_cons_self))
        omega
structure PR (rows : List (List Int)) (w at_ M : Nat) (z : Option (List Int) × List (List Int)) : Prop where
  ws : Wd w z.2
  zz : ∀ r ∈ z.2, vc r at_ = 0
  small : ∀ r ∈ z.2, ∀ i, (vc r i).natAbs ≤ 8 * M ^ 3
  len : z.2.length ≤ rows.length
  piv : match z.1 with
    | none => Seq (vcs z.2) (vcs rows)
    | some p => p.length = w ∧ vc p at_ ≠ 0 ∧ (∀ i, (vc p i).natAbs ≤ 8 * M ^ 3) ∧ (vc p at_).natAbs ≤ M ∧ Seq (vcs (p :: z.2)) (vcs rows)
theorem cube_le (M : Nat) : M ≤ 8 * M ^ 3 := by
  rcases Nat.eq_zero_or_pos M with e | e
  · subst e
    decide
  · have : M ^ 1 ≤ M ^ 3 := Nat.pow_le_pow_right e (by decide)
    rw [Nat.pow_one] at this
    omega
theorem parted_ok {rows : List (List Int)} {w at_ M m : Nat} (hw : Wd w rows) (ha : at_ < w) (hM : M < 2 ^ 9000) (hm : m ≤ 1048576) (h8 : 8 * M ^ 3 < 2 ^ m) (h8' : 2 * M < 2 ^ m) (hz : rows.length ≤ 1000) (hb : ∀ r ∈ rows, ∀ i, (vc r i).natAbs ≤ M) : Ok (m_parted rows (at_ : Int)) (PR rows w at_ M) := by
  unfold m_parted
  refine Ok.bndE (Ok.filt (p := fun r => !decide (vc r at_ = 0)) (g := fun r => r) (fun x hx => Ok.bndE (idx_at (hw x hx) ha) Ok.eq) fun x hx _ => Ok.eq) (Ok.bndE (Ok.filt (p := fun r => decide (vc r at_ = 0)) (g := fun r => r) (fun x hx => Ok.bndE (idx_at (hw x hx) ha) Ok.eq) fun x hx _ => Ok.eq) ?_)
  rw [List.map_id', List.map_id']
  have memF : ∀ {y}, y ∈ rows.filter (fun r => !decide (vc r at_ = 0)) → y ∈ rows ∧ vc y at_ ≠ 0 := fun {y} hy => by
    obtain ⟨a, b⟩ := List.mem_filter.mp hy
    exact ⟨a, by simpa using b⟩
  have memZ : ∀ {y}, y ∈ rows.filter (fun r => decide (vc r at_ = 0)) → y ∈ rows ∧ vc y at_ = 0 := fun {y} hy => by
    obtain ⟨a, b⟩ := List.mem_filter.mp hy
    exact ⟨a, by simpa using b⟩
  have mem2 : ∀ {y}, y ∈ rows.filter (fun r => !decide (vc r at_ = 0)) ++ rows.filter (fun r => decide (vc r at_ = 0)) ↔ y ∈ rows := fun {y} => by
    constructor
    · intro hy
      rcases List.mem_append.mp hy with hy | hy
      · exact (memF hy).1
      · exact (memZ hy).1
    · intro hy
      by_cases q : vc y at_ = 0
      · exact List.mem_append_right _ (List.mem_filter.mpr ⟨hy, by simpa using q⟩)
      · exact List.mem_append_left _ (List.mem_filter.mpr ⟨hy, by simpa using q⟩)
  have start : PI rows w at_ M (rows.filter (fun r => !decide (vc r at_ = 0)), rows.filter (fun r => decide (vc r at_ = 0))) :=
    ⟨fun r hr => hw r (memF hr).1, fun r hr => hw r (memZ hr).1, fun r hr => (memF hr).2, fun r hr => (memZ hr).2, Seq.of_mem fun v => by
      constructor
      · intro hv
        obtain ⟨r, hr, e⟩ := List.mem_map.mp hv
        exact List.mem_map.mpr ⟨r, mem2.mp hr, e⟩
      · intro hv
        obtain ⟨r, hr, e⟩ := List.mem_map.mp hv
        exact List.mem_map.mpr ⟨r, mem2.mpr hr, e⟩, by
      have := filt_len (fun r => decide (vc r at_ = 0)) rows
      show (rows.filter _).length + (rows.filter _).length ≤ _
      omega, fun r hr i => Nat.le_trans (hb r (mem2.mp hr) i) (cube_le M), fun r hr => hb r (memF hr).1 at_, .inl fun r hr i => hb r (memF hr).1 i⟩
  refine Ok.bnd (J := fun s => PI rows w at_ M s ∧ s.1.length ≤ 1) (Ok.while (PI rows w at_ M) (mu at_) (fun s hs => ⟨decide ((1 : Int) < (s.1.length : Int)), Ok.eq, fun q => part_step ha hM hm h8 h8' hz hs (by have := of_decide_eq_true q; omega), fun q => ⟨hs, by have := of_decide_eq_false q; omega⟩⟩) start) fun s ⟨hs, hl⟩ => ?_
  obtain ⟨live, still⟩ := s
  have hl : live.length ≤ 1 := hl
  refine Ok.bnd (J := PR rows w at_ M) ?_ fun z hz => Ok.ret hz
  refine Ok.bndE (x := live.head?) ?_ (Ok.ret ?_)
  · show Ok (bnd (ret (!PyData.eqv (.list (live.map fun x => .list (x.map .int))) (.list (([] : List (List Int)).map fun x => .list (x.map .int))))) _) _
    rw [eqv_nilL]
    cases live with
    | nil => exact Ok.eq
    | cons p r =>
      refine Ok.bndE (x := true) Ok.eq ?_
      show Ok (bnd (idx (p :: r) ((0 : Nat) : Int)) fun t => ret (some t)) (· = some p)
      exact Ok.bndE (x := p) (Ok.idxN (xs := p :: r) (n := 0) rfl) Ok.eq
  · have hlen := hs.len
    refine ⟨hs.ws, hs.z, fun r hr => hs.small r (List.mem_append_right _ hr), by show still.length ≤ _; have hlen : live.length + still.length ≤ rows.length := hlen; omega, ?_⟩
    cases live with
    | nil => exact hs.seq
    | cons p r =>
      cases r with
      | nil => exact ⟨hs.wl p List.mem_cons_self, hs.nz p List.mem_cons_self, hs.small p (List.mem_append_left _ List.mem_cons_self), hs.al p List.mem_cons_self, hs.seq⟩
      | cons q r => exact absurd hl (by simp)
end K10
namespace K10
open Mi
open PySem L2 Evl
def ng (p : List Int) : List Int := p.map fun x => -x
theorem ng_len (p : List Int) : (ng p).length = p.length := List.length_map ..
theorem vc_ng (p : List Int) (i : Nat) : vc (ng p) i = -vc p i := by
  by_cases h : i < p.length
  · have e1 := vc_in (r := ng p) (i := i) (by rw [ng_len]; exact h)
    have e2 := vc_in h
    unfold ng at e1
    rw [List.getElem?_map, e2] at e1
    exact (Option.some.inj e1).symm
  · rw [vc_out (by rw [ng_len]; omega), vc_out (by omega)]
    omega
def bnd3 (M : Nat) : Nat → Nat
  | 0 => M
  | k + 1 => 8 * (bnd3 M k) ^ 3
def bndF (M : Nat) : Nat → Nat
  | 0 => 0
  | k + 1 => bndF M k + (bndF M k + bnd3 M k) * bnd3 M (k + 1) + bnd3 M (k + 1)
def hendF (M : Nat) : Nat → Nat
  | 0 => 0
  | k + 1 => bndF M k + bnd3 M k
def nowF (M w k : Nat) : Nat := if k = w then hendF M w else bndF M k
structure HI (rows : List (List Int)) (w M k : Nat) (s : List (List Int) × List (List Int)) : Prop where
  ww : Wd w s.1
  wf : Wd w s.2
  ech : ∃ cs : List Nat, cs.length = s.2.length ∧ Ech (cs.zip (vcs s.2)) ∧ ∀ c ∈ cs, c < k
  zer : ∀ r ∈ s.1, ∀ i, i < k → vc r i = 0
  seq : Seq (vcs (s.2 ++ s.1)) (vcs rows)
  lw : s.1.length ≤ rows.length
  lf : s.2.length ≤ k
  bw : ∀ r ∈ s.1, ∀ i, (vc r i).natAbs ≤ bnd3 M k
  bf : ∀ r ∈ s.2, ∀ i, (vc r i).natAbs ≤ nowF M w k
theorem vcs_app (a b : List (List Int)) : vcs (a ++ b) = vcs a ++ vcs b := List.map_append ..
theorem sp_appL {E F : List Vec} {v : Vec} (h : Spn E v) : Spn (E ++ F) v := sp_le (Sle.sub fun r hr => List.mem_append_left _ hr) h
theorem sp_appR {E F : List Vec} {v : Vec} (h : Spn F v) : Spn (E ++ F) v := sp_le (Sle.sub fun r hr => List.mem_append_right _ hr) h
/-- what stands in found once a pivot is known -/
def newF (k : Nat) (p : List Int) (found : List (List Int)) : List (List Int) := found.map (fun r => sb r ((vc r k).fdiv (vc p k)) p) ++ [p]
theorem newF_step {rows work found work' : List (List Int)} {p : List Int} {w M k : Nat} (h : HI rows w M k (work, found)) (hk : k < w) (pw : p.length = w) (pp : 0 < vc p k) (pb : ∀ i, (vc p i).natAbs ≤ bnd3 M (k + 1)) (pk : (vc p k).natAbs ≤ bnd3 M k)
    (pr : PR work w k (bnd3 M k) (none, work') ∨ (Wd w work' ∧ (∀ r ∈ work', vc r k = 0) ∧ (∀ r ∈ work', ∀ i, (vc r i).natAbs ≤ bnd3 M (k + 1)) ∧ work'.length ≤ work.length)) (sq : Seq (vcs (p :: work')) (vcs work)) : HI rows w M (k + 1) (work', newF k p found) := by
  have q : Wd w work' ∧ (∀ r ∈ work', vc r k = 0) ∧ (∀ r ∈ work', ∀ i, (vc r i).natAbs ≤ bnd3 M (k + 1)) ∧ work'.length ≤ work.length := by
    rcases pr with h | h
    · exact ⟨h.ws, h.zz, h.small, h.len⟩
    · exact h
  obtain ⟨q1, q2, q3, q4⟩ := q
  have zw : ∀ r ∈ p :: work', ∀ i, i < k → vc r i = 0 := fun r hr i hi => sp_zeros (E := vcs work) (fun v hv => by
    obtain ⟨u, hu, e⟩ := List.mem_map.mp hv
    rw [← e]
    exact h.zer u hu i hi) (sq.1 _ (List.mem_map_of_mem hr))
  have pz : ∀ i, i < k → vc p i = 0 := zw p List.mem_cons_self
  obtain ⟨cs, e1, e2, e3⟩ := h.ech
  have e1 : cs.length = found.length := e1
  have vn : vcs (found.map fun r => sb r ((vc r k).fdiv (vc p k)) p) = (vcs found).map fun v => fun i => v i - (v k).fdiv (vc p k) * vc p i := by
    show List.map vc (List.map _ found) = List.map _ (List.map vc found)
    rw [List.map_map, List.map_map]
    refine List.map_congr_left fun r hr => ?_
    exact vc_sbf (h.wf r hr) pw
  have lw : work.length ≤ rows.length := h.lw
  have lf : found.length ≤ k := h.lf
  refine ⟨q1, fun r hr => ?_, ⟨cs ++ [k], ?_, ?_, fun c hc => ?_⟩, fun r hr i hi => ?_, ⟨fun v hv => ?_, fun v hv => ?_⟩, by show work'.length ≤ _; omega, ?_, q3, fun r hr i => ?_⟩
  · rcases List.mem_append.mp hr with hr | hr
    · obtain ⟨u, hu, e⟩ := List.mem_map.mp hr
      rw [← e]
      exact sb_len (h.wf u hu) pw
    · rw [List.mem_singleton.mp hr]
      exact pw
  · show (cs ++ [k]).length = (newF k p found).length
    unfold newF
    rw [List.length_append, List.length_append, List.length_map, e1]
    rfl
  · show Ech ((cs ++ [k]).zip (vcs (newF k p found)))
    unfold newF
    rw [vcs_app, vn, List.zip_append (by rw [List.length_map, List.length_map, e1]), List.zip_map_right]
    exact ech_snoc pz pp e2 fun e he => e3 _ (List.of_mem_zip (a := e.1) (b := e.2) he).1
  · rcases List.mem_append.mp hc with hc | hc
    · have := e3 c hc
      omega
    · rw [List.mem_singleton.mp hc]
      omega
  · rcases Nat.lt_or_eq_of_le (Nat.le_of_lt_succ hi) with z | z
    · exact zw r (List.mem_cons_of_mem _ hr) i z
    · rw [z]
      exact q2 r hr
  · refine sp_le h.seq.1 ?_
    show Spn (vcs (found ++ work)) v
    rw [vcs_app]
    have hv : v ∈ vcs (newF k p found ++ work') := hv
    obtain ⟨r, hr, e⟩ := List.mem_map.mp hv
    have pS : Spn (vcs found ++ vcs work) (vc p) := sp_appR (sq.1 _ (List.mem_map_of_mem List.mem_cons_self))
    rw [← e]
    rcases List.mem_append.mp hr with hr | hr
    · rcases List.mem_append.mp hr with hr | hr
      · obtain ⟨u, hu, e⟩ := List.mem_map.mp hr
        rw [← e, vc_sbf (h.wf u hu) pw]
        exact sp_sub _ (sp_appL (sp_mem (List.mem_map_of_mem hu))) pS
      · rw [List.mem_singleton.mp hr]
        exact pS
    · exact sp_appR (sq.1 _ (List.mem_map_of_mem (List.mem_cons_of_mem _ hr)))
  · refine sp_le (E := vcs found ++ vcs work) (fun u hu => ?_) (by
      have := h.seq.2 v hv
      have this : Spn (vcs (found ++ work)) v := this
      rwa [vcs_app] at this)
    show Spn (vcs (newF k p found ++ work')) u
    rw [vcs_app]
    have pS : Spn (vcs (newF k p found) ++ vcs work') (vc p) := sp_appL (sp_mem (List.mem_map_of_mem (List.mem_append_right _ (List.mem_singleton.mpr rfl))))
    rcases List.mem_append.mp hu with hu | hu
    · obtain ⟨r, hr, e⟩ := List.mem_map.mp hu
      have hy : Spn (vcs (newF k p found) ++ vcs work') (vc (sb r ((vc r k).fdiv (vc p k)) p)) := sp_appL (sp_mem (List.mem_map_of_mem (List.mem_append_left _ (List.mem_map.mpr ⟨r, hr, rfl⟩))))
      rw [vc_sbf (h.wf r hr) pw] at hy
      have := sp_add ((vc r k).fdiv (vc p k)) hy pS
      rw [← e]
      have e2 : (fun i => vc r i - (vc r k).fdiv (vc p k) * vc p i + (vc r k).fdiv (vc p k) * vc p i) = vc r := by
        funext i
        omega
      rwa [e2] at this
    · refine sp_le (fun t ht => ?_) (sq.2 u hu)
      obtain ⟨r, hr, e⟩ := List.mem_map.mp ht
      rw [← e]
      rcases List.mem_cons.mp hr with z | hr
      · rw [z]
        exact pS
      · exact sp_appR (sp_mem (List.mem_map_of_mem hr))
  · show (newF k p found).length ≤ k + 1
    unfold newF
    rw [List.length_append, List.length_map, List.length_singleton]
    omega
  · have bfk : ∀ u ∈ found, ∀ i, (vc u i).natAbs ≤ bndF M k := fun u hu i => by
      have := h.bf u hu i
      unfold nowF at this
      rwa [if_neg (Nat.ne_of_lt hk)] at this
    -- the numbers behind the last place are 0
    have last : k + 1 = w → ∀ i, i ≠ k → vc p i = 0 := fun e i hi => by
      by_cases z : i < k
      · exact pz i z
      · exact vc_out (by omega)
    unfold nowF
    rcases List.mem_append.mp hr with hr | hr
    · obtain ⟨u, hu, e⟩ := List.mem_map.mp hr
      rw [← e, vc_sb (h.wf u hu) pw]
      split
      · rename_i ew
        rw [← ew]
        show _ ≤ bndF M k + bnd3 M k
        by_cases z : i = k
        · subst z
          obtain ⟨a1, a2, a3⟩ := fd_pos (a := vc u i) pp
          rw [a1]
          omega
        · rw [last ew i z]
          have := bfk u hu i
          omega
      · show _ ≤ bndF M k + (bndF M k + bnd3 M k) * bnd3 M (k + 1) + bnd3 M (k + 1)
        have fa := fdiv_abs (a := vc u k) (g := vc p k) (by omega)
        have fu := bfk u hu k
        have := sb_natAbs (bfk u hu i) (Nat.le_trans fa (Nat.add_le_add fu pk)) (pb i)
        omega
    · rw [List.mem_singleton.mp hr]
      split
      · rename_i ew
        rw [← ew]
        show _ ≤ bndF M k + bnd3 M k
        by_cases z : i = k
        · rw [z]
          omega
        · rw [last ew i z]
          exact Nat.zero_le _
      · show _ ≤ bndF M k + (bndF M k + bnd3 M k) * bnd3 M (k + 1) + bnd3 M (k + 1)
        have := pb i
        omega
theorem none_step {rows work found work' : List (List Int)} {w M k : Nat} (h : HI rows w M k (work, found)) (hk : k < w) (pr : PR work w k (bnd3 M k) (none, work')) : HI rows w M (k + 1) (work', found) := by
  have sq : Seq (vcs work') (vcs work) := pr.piv
  obtain ⟨cs, e1, e2, e3⟩ := h.ech
  have lw : work.length ≤ rows.length := h.lw
  have lf : found.length ≤ k := h.lf
  have q4 : work'.length ≤ work.length := pr.len
  refine ⟨pr.ws, h.wf, ⟨cs, e1, e2, fun c hc => by have := e3 c hc; omega⟩, fun r hr i hi => ?_, ⟨fun v hv => ?_, fun v hv => ?_⟩, by show work'.length ≤ _; omega, by show found.length ≤ _; omega, pr.small, fun r hr i => ?_⟩
  · rcases Nat.lt_or_eq_of_le (Nat.le_of_lt_succ hi) with z | z
    · exact sp_zeros (E := vcs work) (fun v hv => by
        obtain ⟨u, hu, e⟩ := List.mem_map.mp hv
        rw [← e]
        exact h.zer u hu i z) (sq.1 _ (List.mem_map_of_mem hr))
    · rw [z]
      exact pr.zz r hr
  · refine sp_le h.seq.1 ?_
    show Spn (vcs (found ++ work)) v
    have hv : v ∈ vcs (found ++ work') := hv
    rw [vcs_app] at hv ⊢
    rcases List.mem_append.mp hv with hv | hv
    · exact sp_appL (sp_mem hv)
    · exact sp_appR (sq.1 _ hv)
  · have h1 : Spn (vcs (found ++ work)) v := h.seq.2 v hv
    show Spn (vcs (found ++ work')) v
    rw [vcs_app] at h1 ⊢
    refine sp_le (fun u hu => ?_) h1
    rcases List.mem_append.mp hu with hu | hu
    · exact sp_appL (sp_mem hu)
    · exact sp_appR (sq.2 _ hu)
  · have := h.bf r hr i
    unfold nowF at this ⊢
    rw [if_neg (Nat.ne_of_lt hk)] at this
    split
    · rename_i ew
      rw [← ew]
      show _ ≤ bndF M k + bnd3 M k
      omega
    · show _ ≤ bndF M k + (bndF M k + bnd3 M k) * bnd3 M (k + 1) + bnd3 M (k + 1)
      omega
/-- the numbers that a law's rows need -/
def NumOk (M w m : Nat) : Prop := ∀ k, k < w → bnd3 M k < 2 ^ 9000 ∧ bnd3 M (k + 1) < 2 ^ m ∧ 2 * bnd3 M k < 2 ^ m ∧ bndF M k + bnd3 M k < 2 ^ m
theorem loop_ok {rows : List (List Int)} {w M m k : Nat} (hn : NumOk M w m) (hm : m ≤ 1048576) (hz : rows.length ≤ 1000) (hk : k < w) (hw1 : w ≤ 1000) {s : List (List Int) × List (List Int)} (h : HI rows w M k s) : Ok (m_hermite_v0_l1 s (k : Int)) (HI rows w M (k + 1)) := by
  obtain ⟨work, found⟩ := s
  obtain ⟨n1, n2, n3, n4⟩ := hn k hk
  have lw : work.length ≤ rows.length := h.lw
  have lf : found.length ≤ k := h.lf
  unfold m_hermite_v0_l1
  refine Ok.bnd (Ok.noX (parted_ok h.ww hk n1 hm n2 n3 (by show work.length ≤ _; omega) h.bw)) fun u pr => ?_
  obtain ⟨op, work'⟩ := u
  cases op with
  | none =>
    refine Ok.bndE (x := false) Ok.eq ?_
    exact Ok.bndE (x := found) Ok.eq (Ok.ret (none_step h hk pr))
  | some p =>
    obtain ⟨pw, pn, ps, pk, sq⟩ := pr.piv
    have q := pr.ws
    refine Ok.bndE (x := true) Ok.eq ?_
    have big : ∀ {p' : List Int}, p'.length = w → 0 < vc p' k → (∀ i, (vc p' i).natAbs ≤ bnd3 M (k + 1)) → (vc p' k).natAbs ≤ bnd3 M k → Seq (vcs (p' :: work')) (vcs work) →
        Ok (bnd (bnd (mapW (fun (x25 : (List Int)) => bnd (idx x25 (k : Int)) fun t26 => bnd (optW (some p')) fun t27 => bnd (idx t27 (k : Int)) fun t28 => bnd (divI t26 t28) fun t29 => bnd (optW (some p')) fun t30 => noX (m_less x25 t29 t30)) found) fun ys32 => bnd (optW (some p')) fun t33 => catL ys32 ([t33])) fun found_24 => ret (found_24)) (· = newF k p' found) := fun {p'} a1 a2 a3 a4 _ => by
      refine Ok.bndE (Ok.bndE (Ok.map (g := fun r => sb r ((vc r k).fdiv (vc p' k)) p') fun r hr => ?_) (Ok.bndE (x := p') Ok.eq (Ok.chk ?_ Ok.eq))) Ok.eq
      · refine Ok.bndE (idx_at (h.wf r hr) hk) (Ok.bndE (x := p') Ok.eq (Ok.bndE (idx_at a1 hk) (Ok.bndE (Ok.div (by omega) (by omega)) (Ok.bndE (x := p') Ok.eq (Ok.noX (less_ok (m := m) ?_ (rows_num a3 n2) hm))))))
        have fa := fdiv_abs (a := vc r k) (g := vc p' k) (by omega)
        have := h.bf r hr k
        unfold nowF at this
        rw [if_neg (Nat.ne_of_lt hk)] at this
        omega
      · rw [List.length_map, List.length_singleton]
        have : sizeLine ≥ 2000 := by decide
        show found.length + 1 ≤ _
        omega
    have fin : ∀ {p' : List Int}, p'.length = w → 0 < vc p' k → (∀ i, (vc p' i).natAbs ≤ bnd3 M (k + 1)) → (vc p' k).natAbs ≤ bnd3 M k → Seq (vcs (p' :: work')) (vcs work) → HI rows w M (k + 1) (work', newF k p' found) := fun {p'} a1 a2 a3 a4 a5 =>
      newF_step h hk a1 a2 a3 a4 (.inr ⟨pr.ws, pr.zz, pr.small, pr.len⟩) a5
    by_cases pos : 0 < vc p k
    · refine Ok.bndE (x := newF k p found) ?_ (Ok.ret (fin pw pos ps pk sq))
      rw [if_pos rfl]
      refine Ok.bndE (x := some p) (Ok.bndE (x := true) (Ok.bndE (x := p) Ok.eq (Ok.bndE (idx_at pw hk) (Ok.ret (by simpa using pos)))) Ok.eq) ?_
      exact big pw pos ps pk sq
    · have n0 : 0 < vc (ng p) k := by
        rw [vc_ng]
        omega
      have nb : ∀ i, (vc (ng p) i).natAbs ≤ bnd3 M (k + 1) := fun i => by
        rw [vc_ng, Int.natAbs_neg]
        exact ps i
      have nk : (vc (ng p) k).natAbs ≤ bnd3 M k := by
        rw [vc_ng, Int.natAbs_neg]
        exact pk
      have en : vc (ng p) = fun i => (-1) * vc p i := by
        funext i
        rw [vc_ng]
        omega
      have ep : vc p = fun i => (-1) * vc (ng p) i := by
        funext i
        rw [vc_ng]
        omega
      have sn : Seq (vcs (ng p :: work')) (vcs (p :: work')) := ⟨fun v hv => by
        rcases List.mem_cons.mp hv with z | z
        · rw [z, en]
          exact sp_smul _ sp_head
        · exact sp_mem (List.mem_cons_of_mem _ z), fun v hv => by
        rcases List.mem_cons.mp hv with z | z
        · rw [z, ep]
          exact sp_smul _ sp_head
        · exact sp_mem (List.mem_cons_of_mem _ z)⟩
      have nw : (ng p).length = w := by rw [ng_len]; exact pw
      refine Ok.bndE (x := newF k (ng p) found) ?_ (Ok.ret (fin nw n0 nb nk (sn.trans sq)))
      rw [if_pos rfl]
      refine Ok.bndE (x := some (ng p)) (Ok.bndE (x := false) (Ok.bndE (x := p) Ok.eq (Ok.bndE (idx_at pw hk) (Ok.ret (by simpa using pos)))) ?_) ?_
      · rw [if_neg (by decide)]
        exact Ok.bndE (x := p) Ok.eq (Ok.bndE (Ok.map (g := fun x => -x) fun x _ => Ok.eq) Ok.eq)
      exact big nw n0 nb nk (sn.trans sq)
end K10
namespace K10
open Mi
open PySem L2 Evl
structure HR (rows : List (List Int)) (w G : Nat) (L : List (List Int)) : Prop where
  wf : Wd w L
  ech : ∃ cs : List Nat, cs.length = L.length ∧ Ech (cs.zip (vcs L)) ∧ ∀ c ∈ cs, c < w
  seq : Seq (vcs L) (vcs rows)
  lf : L.length ≤ w
  bf : ∀ r ∈ L, ∀ i, (vc r i).natAbs ≤ G
theorem need_ok {rows : List (List Int)} {w : Nat} (hw : Wd w rows) : Ok (m_need_rows_v0 rows) fun _ => True := by
  unfold m_need_rows_v0
  refine Ok.bndE (x := false) Ok.eq ?_
  rw [if_neg (by decide)]
  refine Ok.bndE Ok.eq ?_
  refine Ok.bnd (J := fun _ => True) (Ok.forW (fun _ _ => True) trivial (fun k hk s _ => ?_) fun _ _ => trivial) fun _ _ => Ok.ret trivial
  have hx : (((rangeI 0 (rows.length : Int)).zip rows)[k]) ∈ (rangeI 0 (rows.length : Int)).zip rows := List.getElem_mem hk
  generalize ((rangeI 0 (rows.length : Int)).zip rows)[k] = x at hx
  have xm := (List.of_mem_zip (a := x.1) (b := x.2) hx).2
  unfold m_need_rows_v0_l1
  refine Ok.bndE (x := false) ?_ ?_
  · refine Ok.bndE (x := false) Ok.eq ?_
    rw [if_neg (by decide)]
    refine Ok.bndE (Ok.map (g := fun _ => true) fun y _ => ?_) (Ok.ret ?_)
    · exact Ok.noX (Ok.bndE (x := true) (Ok.bndE (x := true) Ok.eq Ok.eq) Ok.eq)
    · have e : (List.map (fun _ => true) x.2).all id = true := by
        rw [List.all_eq_true]
        intro b hb
        obtain ⟨_, _, e⟩ := List.mem_map.mp hb
        rw [← e]
        rfl
      rw [e]
      rfl
  · rw [if_neg (by decide)]
    obtain ⟨a, r, e⟩ : ∃ a r, rows = a :: r := by
      cases rows with
      | nil => cases xm
      | cons a r => exact ⟨a, r, rfl⟩
    refine Ok.bndE (x := false) (Ok.bndE (x := a) (by rw [e]; exact Ok.idxN (n := 0) rfl) (Ok.ret ?_)) ?_
    · have h1 := hw x.2 xm
      have h2 := hw a (by rw [e]; exact List.mem_cons_self)
      rw [h1, h2]
      simp
    · rw [if_neg (by decide)]
      exact Ok.ret trivial
theorem wide_ok {rows : List (List Int)} {w : Nat} (hw : Wd w rows) : Ok (bnd (ret (!(PyData.eqv ((fun xs => PyData.list (xs.map (fun xs => PyData.list (xs.map .int)))) rows) ((fun xs => PyData.list (xs.map (fun xs => PyData.list (xs.map .int)))) (([] : (List (List Int)))))))) fun c => if c = true then bnd (idx rows ((0 : Int))) fun t9 => ret ((t9.length : Int)) else ret ((0 : Int)) : W Int) fun z => z = ((if rows = [] then 0 else w : Nat) : Int) := by
  show Ok (bnd (ret (!PyData.eqv (.list (rows.map fun x => .list (x.map .int))) (.list (([] : List (List Int)).map fun x => .list (x.map .int))))) _) _
  rw [eqv_nilL]
  cases rows with
  | nil => exact Ok.eq
  | cons a r =>
    refine Ok.bndE (x := true) Ok.eq ?_
    rw [if_pos rfl, if_neg (by simp)]
    refine Ok.bndE (x := a) (Ok.idxN (n := 0) rfl) (Ok.ret ?_)
    rw [hw a List.mem_cons_self]
theorem hermite_ok {rows : List (List Int)} {w M m : Nat} (hw : Wd w rows) (hn : NumOk M w m) (hm : m ≤ 1048576) (hz : rows.length ≤ 1000) (hw1 : w ≤ 1000) (hb : ∀ r ∈ rows, ∀ i, (vc r i).natAbs ≤ M) : Ok (m_hermite_v0 rows) (HR rows w (hendF M w)) := by
  unfold m_hermite_v0
  refine Ok.bnd (Ok.noX (need_ok hw)) fun _ _ => Ok.bndE (Ok.map (g := fun x => x) fun x _ => Ok.eq) ?_
  rw [List.map_id']
  refine Ok.bndE (x := []) Ok.eq (Ok.bnd (wide_ok hw) fun wd ewd => ?_)
  subst ewd
  refine Ok.bndE (Ok.rng1 (by split <;> omega)) ?_
  by_cases e : rows = []
  · subst e
    rw [if_pos rfl]
    exact Ok.ret (x := []) ⟨fun r hr => (by cases hr), ⟨[], rfl, trivial, fun c hc => by cases hc⟩, Seq.refl _, Nat.zero_le _, fun r hr => by cases hr⟩
  · rw [if_neg e]
    refine Ok.bnd (J := HI rows w M w) (Ok.forW (fun k s => HI rows w M k s) ⟨hw, fun r hr => (by cases hr), ⟨[], rfl, trivial, fun c hc => by cases hc⟩, fun r _ i hi => absurd hi (Nat.not_lt_zero i), Seq.refl _, Nat.le_refl _, Nat.le_refl _, hb, fun r hr => by cases hr⟩ (fun k hk s hs => ?_) fun s hs => ?_) fun s hs => Ok.ret ?_
    · have hk' : k < w := by
        rw [List.length_map, List.length_range] at hk
        exact hk
      rw [List.getElem_map, List.getElem_range]
      exact loop_ok hn hm hz hk' hw1 hs
    · rw [List.length_map, List.length_range] at hs
      exact hs
    · have lf := hs.lf
      have zr : ∀ r ∈ s.1, ∀ i, vc r i = 0 := fun r hr i => by
        by_cases q : i < w
        · exact hs.zer r hr i q
        · exact vc_out (by rw [hs.ww r hr]; omega)
      refine ⟨hs.wf, hs.ech, Seq.trans ⟨fun v hv => ?_, fun v hv => ?_⟩ hs.seq, lf, fun r hr i => ?_⟩
      · rw [vcs_app]
        exact sp_appL (sp_mem hv)
      · rw [vcs_app] at hv
        rcases List.mem_append.mp hv with hv | hv
        · exact sp_mem hv
        · obtain ⟨r, hr, e⟩ := List.mem_map.mp hv
          have : v = fun _ => 0 := by
            rw [← e]
            exact funext (zr r hr)
          rw [this]
          exact sp_zero _
      · have := hs.bf r hr i
        unfold nowF at this
        rwa [if_pos rfl] at this
theorem v1_is : m_hermite_v1 = m_hermite_v0 := rfl
end K10
namespace K10
def rm (x p : Int) : Int := x - x.fdiv p * p
theorem rm_fmod (x p : Int) : rm x p = x.fmod p := by
  have := Int.mul_fdiv_add_fmod x p
  unfold rm
  grind
theorem rm_spec {x p : Int} (hp : p ≠ 0) : (rm x p).natAbs < p.natAbs ∧ 0 ≤ rm x p * p := by
  rw [rm_fmod]
  rcases Int.lt_or_gt_of_ne hp with h | h
  · have h1 : 0 < -p := by omega
    have e : x.fmod p = -((-x).fmod (-p)) := by
      rw [Int.fmod_def, Int.fmod_def, Int.neg_fdiv_neg]
      grind
    have h2 := Int.fmod_nonneg_of_pos (-x) h1
    have h3 := Int.fmod_lt_of_pos (-x) h1
    rw [e]
    exact ⟨by omega, by rw [Int.neg_mul, ← Int.mul_neg]; exact Int.mul_nonneg h2 (by omega)⟩
  · have h2 := Int.fmod_nonneg_of_pos x h
    have h3 := Int.fmod_lt_of_pos x h
    exact ⟨by omega, Int.mul_nonneg h2 (by omega)⟩
theorem sg_iff {x p : Int} : 0 ≤ x * p ↔ (x = 0 ∨ p = 0 ∨ (0 < x ∧ 0 < p) ∨ (x < 0 ∧ p < 0)) := by
  constructor
  · intro h
    rcases Int.lt_trichotomy x 0 with a | a | a
    · rcases Int.lt_trichotomy p 0 with b | b | b
      · exact .inr (.inr (.inr ⟨a, b⟩))
      · exact .inr (.inl b)
      · have := Int.mul_neg_of_neg_of_pos a b
        omega
    · exact .inl a
    · rcases Int.lt_trichotomy p 0 with b | b | b
      · have := Int.mul_neg_of_pos_of_neg a b
        omega
      · exact .inr (.inl b)
      · exact .inr (.inr (.inl ⟨a, b⟩))
  · rintro (rfl | rfl | ⟨a, b⟩ | ⟨a, b⟩)
    · simp
    · simp
    · exact Int.mul_nonneg (by omega) (by omega)
    · exact Int.mul_nonneg_of_nonpos_of_nonpos (by omega) (by omega)
theorem quot_pos {x p q r : Int} (hp : 0 < p) (e : x = q * p + r) (hr : r < p) (h : p ≤ x) : p + r ≤ x := by
  have : 1 ≤ q := by
    refine Int.not_lt.mp fun h0 => ?_
    have : q * p ≤ 0 * p := Int.mul_le_mul_of_nonneg_right (by omega) (by omega)
    omega
  have : 1 * p ≤ q * p := Int.mul_le_mul_of_nonneg_right this (by omega)
  omega
/-- like signs: what is left is less than half -/
theorem half {x p : Int} (hp : p ≠ 0) (hs : 0 ≤ x * p) (h : p.natAbs ≤ x.natAbs) : 2 * (rm x p).natAbs ≤ x.natAbs := by
  obtain ⟨h1, h2⟩ := rm_spec (x := x) hp
  have e : x = x.fdiv p * p + rm x p := by unfold rm; omega
  generalize x.fdiv p = q at e
  generalize rm x p = r at *
  rcases Int.lt_or_gt_of_ne hp with hp | hp
  · have hx : x < 0 := by
      rcases sg_iff.mp hs with a | a | a | a <;> omega
    have hr : r ≤ 0 := by
      rcases sg_iff.mp h2 with a | a | a | a <;> omega
    have := quot_pos (x := -x) (p := -p) (q := q) (r := -r) (by omega) (by rw [Int.mul_neg]; omega) (by omega) (by omega)
    omega
  · have hx : 0 < x := by
      rcases sg_iff.mp hs with a | a | a | a <;> omega
    have hr : 0 ≤ r := by
      rcases sg_iff.mp h2 with a | a | a | a <;> omega
    have := quot_pos (x := x) (p := p) (q := q) (r := r) hp e (by omega) (by omega)
    omega
theorem rm_dvd {x p : Int} (h : rm x p = 0) : x.natAbs = (x.fdiv p).natAbs * p.natAbs := by
  have e : x = x.fdiv p * p := by unfold rm at h; omega
  rw [← Int.natAbs_mul, ← e]
theorem crossp {a p : Int} (hp : p ≠ 0) (hl : p.natAbs < a.natAbs) (hs : 0 ≤ p * a) : (rm a p ≠ 0 ∧ 2 * (rm a p).natAbs ≤ a.natAbs) ∨ (rm a p = 0 ∧ 2 * p.natAbs ≤ a.natAbs) := by
  by_cases h : rm a p = 0
  · have := rm_dvd h
    refine .inr ⟨h, ?_⟩
    have h2 : 2 ≤ (a.fdiv p).natAbs := by
      refine Nat.not_lt.mp fun h0 => ?_
      have : (a.fdiv p).natAbs * p.natAbs ≤ 1 * p.natAbs := Nat.mul_le_mul_right _ (by omega)
      omega
    rw [this]
    exact Nat.mul_le_mul_right _ h2
  · exact .inl ⟨h, half hp (by rw [Int.mul_comm]; exact hs) (by omega)⟩
theorem lg_le {m n : Nat} (h : m ≤ n) : m.log2 ≤ n.log2 := by
  rcases Nat.eq_zero_or_pos m with h0 | h0
  · subst h0
    exact Nat.zero_le _
  · exact (Nat.le_log2 (by omega)).mpr (Nat.le_trans ((Nat.le_log2 (by omega)).mp (Nat.le_refl _)) h)
theorem lg_half {m n : Nat} (h0 : m ≠ 0) (h : 2 * m ≤ n) : m.log2 + 1 ≤ n.log2 := by
  refine (Nat.le_log2 (by omega)).mpr ?_
  have := (Nat.le_log2 h0).mp (Nat.le_refl _)
  rw [Nat.pow_succ]
  omega
theorem same_abs_rm {x p : Int} (h : x.natAbs = p.natAbs) : rm x p = 0 := by
  by_cases hp : p = 0
  · subst hp
    unfold rm
    simp at h
    simp [h]
  · obtain ⟨h1, h2⟩ := rm_spec (x := x) hp
    rcases Int.natAbs_eq_natAbs_iff.mp h with e | e
    · subst e
      unfold rm
      rw [Int.fdiv_self hp]
      omega
    · subst e
      have : (-p).fdiv p = -1 := by
        rw [Int.fdiv_eq_ediv_of_dvd ⟨-1, by omega⟩, Int.neg_ediv_self _ hp]
      unfold rm
      rw [this]
      omega
def nz (n : Nat) (x : Int) : Prop := x ≠ 0 ∧ x.natAbs ≤ n
def GS (N : Nat) (a b c d : Int) : Prop := ∃ n, 6 * n.log2 + 6 ≤ N ∧ (nz n a ∨ nz n b ∨ nz n c ∨ nz n d)
def Cr (a b c : Int) : Prop := a ≠ 0 ∧ (b ≠ 0 ∨ c ≠ 0) ∧ b.natAbs < a.natAbs ∧ c.natAbs < a.natAbs ∧ 0 ≤ b * a ∧ 0 ≤ c * a
def Far (b c d : Int) : Prop := d = 0 ∨ (b ≠ 0 ∧ b.natAbs < d.natAbs) ∨ (c ≠ 0 ∧ c.natAbs < d.natAbs)
def MS (N : Nat) (a b c d : Int) : Prop := a ≠ 0 ∧ c = 0 ∧ b = d ∧ rm d a ≠ 0 ∧ ((a.natAbs < d.natAbs ∧ 6 * a.natAbs.log2 + 3 ≤ N) ∨ (d.natAbs < a.natAbs ∧ 6 * a.natAbs.log2 + 4 ≤ N))
def P2 (N : Nat) (a b c d : Int) : Prop := GS N a b c d ∨ (Cr a b c ∧ 6 * a.natAbs.log2 + 5 ≤ N) ∨ MS N a b c d ∨ (Cr a b c ∧ Far b c d ∧ 6 * a.natAbs.log2 + 2 ≤ N)
/-- what a round leaves -/
def Aft (N : Nat) (p r s y : Int) : Prop := ((r ≠ 0 ∨ s ≠ 0) → P2 N p r s y) ∧ (r = 0 → s = 0 → rm y p ≠ 0 → P2 N p y 0 y)
theorem ms_of {N : Nat} {p y : Int} (hp : p ≠ 0) (h : rm y p ≠ 0) (hN : 6 * p.natAbs.log2 + 4 ≤ N) : P2 N p y 0 y := by
  refine .inr (.inr (.inl ⟨hp, rfl, rfl, h, ?_⟩))
  rcases Nat.lt_trichotomy p.natAbs y.natAbs with q | q | q
  · exact .inl ⟨q, by omega⟩
  · exact absurd (same_abs_rm q.symm) h
  · exact .inr ⟨q, hN⟩
theorem aft {N : Nat} {p x z y : Int} (hp : p ≠ 0) (hN : 6 * p.natAbs.log2 + 5 ≤ N) : Aft N p (rm x p) (rm z p) y := by
  obtain ⟨h1, h2⟩ := rm_spec (x := x) hp
  obtain ⟨h3, h4⟩ := rm_spec (x := z) hp
  exact ⟨fun h => .inr (.inl ⟨⟨hp, h, h1, h3, h2, h4⟩, hN⟩), fun _ _ h => ms_of hp h (by omega)⟩
theorem gs_half {N : Nat} {a e : Int} (he : e ≠ 0) (h : 2 * e.natAbs ≤ a.natAbs) (hN : 6 * a.natAbs.log2 + 1 ≤ N) : 6 * e.natAbs.log2 + 6 ≤ N - 1 ∧ nz e.natAbs e := by
  have := lg_half (by omega) h
  exact ⟨by omega, he, Nat.le_refl _⟩
/-- the pivot lay in the cross -/
theorem aft_b {N : Nat} {a p s y : Int} (hp : p ≠ 0) (hl : p.natAbs < a.natAbs) (hs : 0 ≤ p * a) (hN : 6 * a.natAbs.log2 + 1 ≤ N) : Aft (N - 1) p (rm a p) s y := by
  rcases crossp hp hl hs with ⟨h1, h2⟩ | ⟨h1, h2⟩
  · obtain ⟨h3, h4⟩ := gs_half h1 h2 hN
    exact ⟨fun _ => .inl ⟨_, h3, .inr (.inl h4)⟩, fun h => absurd h h1⟩
  · obtain ⟨h3, h4⟩ := gs_half hp h2 hN
    exact ⟨fun _ => .inl ⟨_, h3, .inl h4⟩, fun _ _ _ => .inl ⟨_, h3, .inl h4⟩⟩
theorem aft_c {N : Nat} {a p r y : Int} (hp : p ≠ 0) (hl : p.natAbs < a.natAbs) (hs : 0 ≤ p * a) (hN : 6 * a.natAbs.log2 + 1 ≤ N) : Aft (N - 1) p r (rm a p) y := by
  rcases crossp hp hl hs with ⟨h1, h2⟩ | ⟨h1, h2⟩
  · obtain ⟨h3, h4⟩ := gs_half h1 h2 hN
    exact ⟨fun _ => .inl ⟨_, h3, .inr (.inr (.inl h4))⟩, fun _ h => absurd h h1⟩
  · obtain ⟨h3, h4⟩ := gs_half hp h2 hN
    exact ⟨fun _ => .inl ⟨_, h3, .inl h4⟩, fun _ _ _ => .inl ⟨_, h3, .inl h4⟩⟩
/-- the pivot lay across: like signs halve, unlike signs leave the far corner far -/
theorem far_of {p x z d y s r : Int} (hd : d ≠ 0) (hdp : d.natAbs < p.natAbs) (hx : x ≠ 0 → d.natAbs ≤ x.natAbs) (hz : z ≠ 0 → d.natAbs ≤ z.natAbs) (h0 : x ≠ 0 ∨ z ≠ 0) (hxp : 0 ≤ x * p) (hzp : 0 ≤ z * p) (hop : d * p < 0)
    (hr0 : x = 0 → r = 0) (hs0 : z = 0 → s = 0) (hr : r.natAbs < d.natAbs) (hs : s.natAbs < d.natAbs) (hD : d * y = (d * p - x * z) + r * s) (h1 : r ≠ 0 ∨ s ≠ 0) : Far r s y := by
  refine Classical.byContradiction fun hn => ?_
  have n0 : y ≠ 0 := fun h => hn (.inl h)
  have n1 : r ≠ 0 → y.natAbs ≤ r.natAbs := fun h => Nat.not_lt.mp fun q => hn (.inr (.inl ⟨h, q⟩))
  have n2 : s ≠ 0 → y.natAbs ≤ s.natAbs := fun h => Nat.not_lt.mp fun q => hn (.inr (.inr ⟨h, q⟩))
  have xz : 0 ≤ x * z := by
    rcases sg_iff.mp hxp with a | a | a | a <;> rcases sg_iff.mp hzp with b | b | b | b <;> first | (subst a; simp; done) | (subst b; simp; done) | exact Int.mul_nonneg (by omega) (by omega) | exact Int.mul_nonneg_of_nonpos_of_nonpos (by omega) (by omega) | (subst a; simp at hdp)
  have hY : y.natAbs < d.natAbs := by
    rcases h1 with h | h
    · have := n1 h
      omega
    · have := n2 h
      omega
  have e1 : (d * p - x * z).natAbs = d.natAbs * p.natAbs + x.natAbs * z.natAbs := by
    rw [← Int.natAbs_mul, ← Int.natAbs_mul]
    omega
  have e2 : (d * p - x * z).natAbs ≤ d.natAbs * y.natAbs + r.natAbs * s.natAbs := by
    rw [← Int.natAbs_mul, ← Int.natAbs_mul]
    omega
  have e3 : d.natAbs * (y.natAbs + 1) ≤ d.natAbs * p.natAbs := Nat.mul_le_mul_left _ (by omega)
  have e4 : d.natAbs * (y.natAbs + 1) = d.natAbs * y.natAbs + d.natAbs := Nat.mul_succ _ _
  have e5 : r.natAbs * s.natAbs ≤ x.natAbs * z.natAbs := by
    by_cases qx : x = 0
    · rw [hr0 qx]
      simp
    by_cases qz : z = 0
    · rw [hs0 qz]
      simp
    exact Nat.mul_le_mul (Nat.le_trans (Nat.le_of_lt hr) (hx qx)) (Nat.le_trans (Nat.le_of_lt hs) (hz qz))
  omega
theorem rm_zero (p : Int) : rm 0 p = 0 := by
  unfold rm
  rw [Int.zero_fdiv, Int.zero_mul]
  rfl
theorem rm_self (p : Int) : rm p p = 0 := same_abs_rm rfl
/-- the four ways to bring an entry to the corner -/
def Pos2 (a b c d p x z w : Int) : Prop := (p = a ∧ x = b ∧ z = c ∧ w = d) ∨ (p = b ∧ x = a ∧ z = d ∧ w = c) ∨ (p = c ∧ x = d ∧ z = a ∧ w = b) ∨ (p = d ∧ x = c ∧ z = b ∧ w = a)
def Low (p a b c d : Int) : Prop := p ≠ 0 ∧ (a ≠ 0 → p.natAbs ≤ a.natAbs) ∧ (b ≠ 0 → p.natAbs ≤ b.natAbs) ∧ (c ≠ 0 → p.natAbs ≤ c.natAbs) ∧ (d ≠ 0 → p.natAbs ≤ d.natAbs)
abbrev yy (p x z w : Int) : Int := w - z.fdiv p * x - x.fdiv p * rm z p
theorem yy_det {p x z w : Int} : p * yy p x z w = (p * w - x * z) + rm x p * rm z p := by
  have h1 : x = x.fdiv p * p + rm x p := by unfold rm; omega
  have h2 : z = z.fdiv p * p + rm z p := by unfold rm; omega
  unfold yy
  generalize x.fdiv p = q at *
  generalize z.fdiv p = g at *
  generalize rm x p = r at *
  generalize rm z p = s at *
  subst h1 h2
  grind
theorem cr_step {N : Nat} {a b c d p x z w : Int} (h : Cr a b c) (hN : 6 * a.natAbs.log2 + 1 ≤ N) (hp : Pos2 a b c d p x z w) (hl : Low p a b c d) (hf : p ≠ d ∨ Far b c d ∨ 6 * a.natAbs.log2 + 5 ≤ N) : Aft (N - 1) p (rm x p) (rm z p) (yy p x z w) := by
  obtain ⟨h0, h1, h2, h3, h4, h5⟩ := h
  obtain ⟨l0, l1, l2, l3, l4⟩ := hl
  rcases hp with ⟨rfl, rfl, rfl, rfl⟩ | ⟨rfl, rfl, rfl, rfl⟩ | ⟨rfl, rfl, rfl, rfl⟩ | ⟨rfl, rfl, rfl, rfl⟩
  · exfalso
    rcases h1 with h | h
    · have := l2 h
      omega
    · have := l3 h
      omega
  · exact aft_b l0 h2 h4 hN
  · exact aft_c l0 h3 h5 hN
  · have hN5 : 6 * w.natAbs.log2 + 5 ≤ N := by
      rcases hf with h | h | h
      · exact absurd rfl h
      · exfalso
        rcases h with h | ⟨h, q⟩ | ⟨h, q⟩
        · exact l0 h
        · have := l2 h
          omega
        · have := l3 h
          omega
      · exact h
    have hpw : p.natAbs < w.natAbs := by
      rcases h1 with h | h
      · have := l2 h
        omega
      · have := l3 h
        omega
    have lg := lg_le (Nat.le_of_lt hpw)
    refine ⟨fun hnc => ?_, fun _ _ h => ms_of l0 h (by omega)⟩
    by_cases sg : 0 ≤ p * w
    · have key : ∀ u : Int, 0 ≤ u * w → (u ≠ 0 → p.natAbs ≤ u.natAbs) → u.natAbs < w.natAbs → rm u p ≠ 0 → 6 * (rm u p).natAbs.log2 + 6 ≤ N - 1 ∧ nz (rm u p).natAbs (rm u p) := by
        intro u q1 q2 q3 q4
        have hu : u ≠ 0 := fun e => q4 (by rw [e]; exact rm_zero p)
        have : 0 ≤ u * p := by
          rcases sg_iff.mp q1 with a | a | a | a <;> rcases sg_iff.mp sg with b | b | b | b <;> first | exact absurd a hu | exact absurd b l0 | exact absurd a h0 | exact absurd b h0 | exact sg_iff.mpr (by omega)
        have := half l0 this (q2 hu)
        exact gs_half q4 (a := w) (by omega) (by omega)
      rcases hnc with h | h
      · obtain ⟨k1, k2⟩ := key x h5 l3 h3 h
        exact .inl ⟨_, k1, .inr (.inl k2)⟩
      · obtain ⟨k1, k2⟩ := key z h4 l2 h2 h
        exact .inl ⟨_, k1, .inr (.inr (.inl k2))⟩
    · obtain ⟨m1, m2⟩ := rm_spec (x := x) l0
      obtain ⟨m3, m4⟩ := rm_spec (x := z) l0
      refine .inr (.inr (.inr ⟨⟨l0, hnc, m1, m3, m2, m4⟩, ?_, by omega⟩))
      exact far_of (p := w) (x := x) (z := z) l0 hpw l3 l2 (h1.symm) h5 h4 (by omega) (fun e => by rw [e]; exact rm_zero p) (fun e => by rw [e]; exact rm_zero p) m1 m3 yy_det hnc
theorem rnd2 {N : Nat} {a b c d p x z w : Int} (h : P2 N a b c d) (hp : Pos2 a b c d p x z w) (hl : Low p a b c d) : 1 ≤ N ∧ Aft (N - 1) p (rm x p) (rm z p) (yy p x z w) := by
  rcases h with ⟨n, hN, hn⟩ | ⟨h, hN⟩ | ⟨h0, h1, h2, h3, h4⟩ | ⟨h, hf, hN⟩
  · have : p.natAbs ≤ n := by
      obtain ⟨l0, l1, l2, l3, l4⟩ := hl
      rcases hn with ⟨h, q⟩ | ⟨h, q⟩ | ⟨h, q⟩ | ⟨h, q⟩
      · exact Nat.le_trans (l1 h) q
      · exact Nat.le_trans (l2 h) q
      · exact Nat.le_trans (l3 h) q
      · exact Nat.le_trans (l4 h) q
    have := lg_le this
    exact ⟨by omega, aft hl.1 (by omega)⟩
  · exact ⟨by omega, cr_step h (by omega) hp hl (.inr (.inr hN))⟩
  · refine ⟨by omega, ?_⟩
    have hd : b ≠ 0 := fun e => h3 (by rw [← h2, e]; exact rm_zero a)
    obtain ⟨l0, l1, l2, l3, l4⟩ := hl
    rcases hp with ⟨rfl, rfl, rfl, rfl⟩ | ⟨rfl, rfl, rfl, rfl⟩ | ⟨rfl, rfl, rfl, rfl⟩ | ⟨rfl, rfl, rfl, rfl⟩
    · subst h1
      subst h2
      obtain ⟨m1, m2⟩ := rm_spec (x := x) l0
      have hl : p.natAbs ≤ x.natAbs := l2 hd
      have e : yy p x 0 x = x := by
        unfold yy
        rw [rm_zero, Int.zero_fdiv]
        omega
      rw [rm_zero, e]
      refine ⟨fun _ => .inr (.inr (.inr ⟨⟨l0, .inl h3, m1, by simp; omega, m2, by simp⟩, .inr (.inl ⟨h3, by omega⟩), by omega⟩)), fun h => absurd h h3⟩
    · subst h1
      subst h2
      have hpx : p.natAbs < x.natAbs := by
        have := l1 h0
        rcases Nat.lt_or_eq_of_le this with q | q
        · exact q
        · exact absurd (same_abs_rm q) h3
      have e : yy p x p 0 = -x := by
        unfold yy
        rw [rm_self, Int.fdiv_self l0]
        omega
      rw [rm_self, e]
      obtain ⟨m1, m2⟩ := rm_spec (x := x) l0
      have lg := lg_le (Nat.le_of_lt hpx)
      refine ⟨fun hnc => ?_, fun h _ q => absurd ?_ q⟩
      · have hr : rm x p ≠ 0 := by
          rcases hnc with h | h
          · exact h
          · exact absurd rfl h
        exact .inr (.inr (.inr ⟨⟨l0, .inl hr, m1, by simp; omega, m2, by simp⟩, .inr (.inl ⟨hr, by omega⟩), by omega⟩))
      · have e := rm_dvd h
        have : x = x.fdiv p * p := by unfold rm at h; omega
        generalize x.fdiv p = g at this
        subst this
        unfold rm
        have : (-(g * p)).fdiv p = -g := by rw [← Int.neg_mul]; exact Int.mul_fdiv_cancel _ l0
        rw [this, Int.neg_mul]
        omega
    · exact absurd h1 l0
    · subst h1
      subst h2
      have hpx : z.natAbs < w.natAbs := by
        have := l1 h0
        rcases Nat.lt_or_eq_of_le this with q | q
        · exact q
        · exact absurd (same_abs_rm q) h3
      have e : yy z 0 z w = w := by
        unfold yy
        rw [rm_self, Int.zero_fdiv]
        omega
      rw [rm_zero, rm_self, e]
      have lg := lg_le (Nat.le_of_lt hpx)
      exact ⟨fun h => by rcases h with h | h <;> exact absurd rfl h, fun _ _ h => .inr (.inr (.inl ⟨l0, rfl, rfl, h, .inl ⟨hpx, by omega⟩⟩))⟩
  · exact ⟨by omega, cr_step h (by omega) hp hl (.inr (.inl hf))⟩
end K10
namespace K10
abbrev Mx := Nat → Nat → Int
def sw (t k i : Nat) : Nat := if i = t then k else if i = k then t else i
def Brg (t : Nat) (X Y : Mx) : Prop := ∃ k j, t ≤ k ∧ t ≤ j ∧ X k j ≠ 0 ∧ (∀ i l, t ≤ i → t ≤ l → X i l ≠ 0 → (X k j).natAbs ≤ (X i l).natAbs) ∧ (X t t ≠ 0 → (X t t).natAbs ≤ (X k j).natAbs → k = t ∧ j = t) ∧ ∀ i l, Y i l = X (sw t k i) (sw t j l)
def crR (t : Nat) (X : Mx) : Mx := fun i l => if t < i then X i l - (X i t).fdiv (X t t) * X t l else X i l
def crs (t : Nat) (X : Mx) : Mx := fun i l => if t < l then crR t X i l - (crR t X t l).fdiv (X t t) * crR t X i t else crR t X i l
def mixM (t k : Nat) (Y : Mx) : Mx := fun i l => if i = t then Y t l + Y k l else Y i l
def Sup (X : Mx) : Prop := ∀ i l, (3 ≤ i ∨ 3 ≤ l) → X i l = 0
theorem Sup.lt {X : Mx} (h : Sup X) {i l : Nat} (hn : X i l ≠ 0) : i < 3 ∧ l < 3 := ⟨Nat.not_le.mp fun q => hn (h i l (.inl q)), Nat.not_le.mp fun q => hn (h i l (.inr q))⟩
theorem Sup.brg {t : Nat} {X Y : Mx} (h : Sup X) (ht : t < 3) (hb : Brg t X Y) : Sup Y := by
  obtain ⟨k, j, h1, h2, h3, h4, h5, h6⟩ := hb
  obtain ⟨hk, hj⟩ := h.lt h3
  intro i l hil
  rw [h6]
  refine h _ _ ?_
  unfold sw
  rcases hil with q | q
  · left
    rw [if_neg (by omega), if_neg (by omega)]
    exact q
  · right
    rw [if_neg (by omega), if_neg (by omega)]
    exact q
theorem Sup.crs {t : Nat} {X : Mx} (h : Sup X) (ht : t < 3) : Sup (crs t X) := by
  have hR : Sup (crR t X) := by
    intro i l hil
    unfold crR
    have := h i l hil
    rcases hil with q | q
    · rw [if_pos (by omega), this, h i t (.inl q), Int.zero_fdiv]
      simp
    · rw [this, h t l (.inr q)]
      simp
  intro i l hil
  unfold K10.crs
  have := hR i l hil
  rcases hil with q | q
  · rw [this, hR i t (.inl q)]
    simp
  · rw [this, hR t l (.inr q), Int.zero_fdiv]
    simp
theorem Sup.mix {t k : Nat} {Y : Mx} (h : Sup Y) (ht : t < 3) : Sup (mixM t k Y) := by
  intro i l hil
  unfold mixM
  split
  · rename_i e
    subst e
    rcases hil with q | q
    · omega
    · rw [h _ _ (.inr q), h _ _ (.inr q)]
      rfl
  · exact h _ _ hil
section
variable {t : Nat} {X : Mx}
theorem crs_tt : crs t X t t = X t t := by
  unfold crs crR
  simp
theorem crs_tl {l : Nat} (h : t < l) : crs t X t l = rm (X t l) (X t t) := by
  unfold crs crR rm
  simp [h]
theorem crs_it {i : Nat} (h : t < i) : crs t X i t = rm (X i t) (X t t) := by
  unfold crs crR rm
  simp [h]
theorem crs_il {i l : Nat} (hi : t < i) (hl : t < l) : crs t X i l = yy (X t t) (X t l) (X i t) (X i l) := by
  unfold crs crR yy rm
  simp [hi, hl]
end
def Bd (t e : Nat) (X : Mx) : Prop := ∀ i l, t ≤ i → t ≤ l → (X i l).natAbs < 2 ^ e
def Lv1 (N : Nat) (X : Mx) : Prop := Sup X ∧ Bd 1 626 X ∧ (X 1 1 * X 2 2 - X 1 2 * X 2 1).natAbs < 2 ^ 625 ∧ ((∀ i l, 1 ≤ i → 1 ≤ l → X i l = 0) ∨ ((∃ i l, 1 ≤ i ∧ 1 ≤ l ∧ nz (2 ^ 312) (X i l)) ∧ P2 N (X 1 1) (X 1 2) (X 2 1) (X 2 2)))
def Lv2 (N : Nat) (X : Mx) : Prop := Sup X ∧ Bd 2 626 X ∧ 1 ≤ N
theorem two_cases {i : Nat} (h1 : 1 ≤ i) (h3 : i < 3) : i = 1 ∨ i = 2 := by omega
theorem Bd.one {e : Nat} {X : Mx} (hs : Sup X) (h1 : (X 1 1).natAbs < 2 ^ e) (h2 : (X 1 2).natAbs < 2 ^ e) (h3 : (X 2 1).natAbs < 2 ^ e) (h4 : (X 2 2).natAbs < 2 ^ e) : Bd 1 e X := by
  intro i l hi hl
  by_cases q : 3 ≤ i ∨ 3 ≤ l
  · rw [hs i l q]
    exact Nat.two_pow_pos e
  · rcases two_cases hi (by omega) with rfl | rfl <;> rcases two_cases hl (by omega) with rfl | rfl <;> assumption
theorem Bd.brg {t e : Nat} {X Y : Mx} (h : Bd t e X) (hb : Brg t X Y) : Bd t e Y := by
  obtain ⟨k, j, h1, h2, h3, h4, h5, h6⟩ := hb
  intro i l hi hl
  rw [h6]
  refine h _ _ ?_ ?_ <;> unfold sw <;> split <;> first | assumption | (split <;> omega)
theorem pos2 {X Y : Mx} {k j : Nat} (hk : k = 1 ∨ k = 2) (hj : j = 1 ∨ j = 2) (h : ∀ i l, Y i l = X (sw 1 k i) (sw 1 j l)) : Pos2 (X 1 1) (X 1 2) (X 2 1) (X 2 2) (Y 1 1) (Y 1 2) (Y 2 1) (Y 2 2) := by
  unfold Pos2
  rcases hk with rfl | rfl <;> rcases hj with rfl | rfl
  · exact .inl ⟨h 1 1, h 1 2, h 2 1, h 2 2⟩
  · exact .inr (.inl ⟨h 1 1, h 1 2, h 2 1, h 2 2⟩)
  · exact .inr (.inr (.inl ⟨h 1 1, h 1 2, h 2 1, h 2 2⟩))
  · exact .inr (.inr (.inr ⟨h 1 1, h 1 2, h 2 1, h 2 2⟩))
theorem pos2_det {a b c d p x z w : Int} (h : Pos2 a b c d p x z w) : (p * w - x * z).natAbs = (a * d - b * c).natAbs := by
  rcases h with ⟨rfl, rfl, rfl, rfl⟩ | ⟨rfl, rfl, rfl, rfl⟩ | ⟨rfl, rfl, rfl, rfl⟩ | ⟨rfl, rfl, rfl, rfl⟩
  · rfl
  · have : x * z - p * w = -(p * w - x * z) := by omega
    rw [this, Int.natAbs_neg]
  · have : z * x - w * p = -(p * w - x * z) := by grind
    rw [this, Int.natAbs_neg]
  · congr 1
    grind
theorem div_bd {p y : Int} {m c : Nat} (hp : p ≠ 0) (h : (p * y).natAbs ≤ c + p.natAbs * m) : y.natAbs ≤ c + m := by
  rw [Int.natAbs_mul] at h
  refine Nat.not_lt.mp fun q => ?_
  have h1 : p.natAbs * (c + m + 1) ≤ p.natAbs * y.natAbs := Nat.mul_le_mul_left _ q
  have h2 : p.natAbs * (c + m + 1) = p.natAbs * c + p.natAbs * m + p.natAbs := by grind
  have h3 : 1 * c ≤ p.natAbs * c := Nat.mul_le_mul_right _ (by omega)
  omega
theorem lv1_step {N : Nat} {X X1 : Mx} (h : Lv1 N X) (hb : Brg 1 X X1) : X1 1 1 ≠ 0 ∧ 1 ≤ N ∧ Bd 1 626 (crs 1 X1) ∧
    ((∃ i, 1 < i ∧ crs 1 X1 i 1 ≠ 0) ∨ (∃ l, 1 < l ∧ crs 1 X1 1 l ≠ 0) → Lv1 (N - 1) (crs 1 X1)) ∧
    ((∀ i, 1 < i → crs 1 X1 i 1 = 0) → (∀ l, 1 < l → crs 1 X1 1 l = 0) → (∀ k, 1 < k → (∃ j, 1 < j ∧ rm (crs 1 X1 k j) (crs 1 X1 1 1) ≠ 0) → Lv1 (N - 1) (mixM 1 k (crs 1 X1))) ∧ Lv2 1872 (crs 1 X1)) := by
  obtain ⟨hs, hB, hD, hz⟩ := h
  have hs1 := hs.brg (by decide) hb
  have hB1 := hB.brg hb
  have hb0 := hb
  obtain ⟨k, j, h1, h2, h3, h4, h5, h6⟩ := hb
  obtain ⟨hk, hj⟩ := hs.lt h3
  have e11 : X1 1 1 = X k j := by
    rw [h6]
    unfold sw
    simp
  have hp : X1 1 1 ≠ 0 := by
    rw [e11]
    exact h3
  rcases hz with hz | ⟨⟨i0, l0, hi0, hl0, hn0⟩, hP⟩
  · exact absurd (hz k j h1 h2) h3
  have hps := pos2 (two_cases h1 hk) (two_cases h2 hj) h6
  have hlow : Low (X1 1 1) (X 1 1) (X 1 2) (X 2 1) (X 2 2) := ⟨hp, by rw [e11]; exact h4 1 1 (by decide) (by decide), by rw [e11]; exact h4 1 2 (by decide) (by decide), by rw [e11]; exact h4 2 1 (by decide) (by decide), by rw [e11]; exact h4 2 2 (by decide) (by decide)⟩
  have hpn : (X1 1 1).natAbs ≤ 2 ^ 312 := by
    rw [e11]
    exact Nat.le_trans (h4 i0 l0 hi0 hl0 hn0.1) hn0.2
  obtain ⟨hN, hA1, hA2⟩ := rnd2 hP hps hlow
  have hS := hs1.crs (t := 1) (by decide)
  have hp1 := hp
  have hd := pos2_det hps
  rw [← hd] at hD
  have hyd := yy_det (p := X1 1 1) (x := X1 1 2) (z := X1 2 1) (w := X1 2 2)
  obtain ⟨m1, m2⟩ := rm_spec (x := X1 1 2) hp
  obtain ⟨m3, m4⟩ := rm_spec (x := X1 2 1) hp
  rw [← crs_tl (t := 1) (X := X1) (l := 2) (by decide)] at hA1 hA2 hyd m1
  rw [← crs_it (t := 1) (X := X1) (i := 2) (by decide)] at hA1 hA2 hyd m3
  rw [← crs_il (t := 1) (X := X1) (i := 2) (l := 2) (by decide) (by decide)] at hA1 hA2 hyd
  have ett : crs 1 X1 1 1 = X1 1 1 := crs_tt
  rw [← ett] at hA1 hA2 hyd m1 m3 hp hpn
  rw [← ett] at hD
  refine ⟨hp1, hN, ?_⟩
  generalize crs 1 X1 = Y at *
  have hYD : (Y 1 1 * Y 2 2 - Y 1 2 * Y 2 1).natAbs < 2 ^ 625 := by
    have : Y 1 1 * Y 2 2 - Y 1 2 * Y 2 1 = Y 1 1 * X1 2 2 - X1 1 2 * X1 2 1 := by omega
    rw [this]
    exact hD
  have e312 : (2 : Nat) ^ 312 < 2 ^ 625 := by decide +kernel
  have e625 : (2 : Nat) ^ 625 + 2 ^ 625 = 2 ^ 626 := by decide +kernel
  have hy : (Y 2 2).natAbs < 2 ^ 626 := by
    have : (Y 1 1 * Y 2 2).natAbs ≤ (2 ^ 625 - 1) + (Y 1 1).natAbs * 2 ^ 312 := by
      have q : (Y 1 2 * Y 2 1).natAbs ≤ (Y 1 1).natAbs * 2 ^ 312 := by
        rw [Int.natAbs_mul]
        exact Nat.mul_le_mul (by omega) (by omega)
      omega
    have := div_bd hp this
    omega
  have hBY : Bd 1 626 Y := Bd.one hS (by omega) (by omega) (by omega) hy
  refine ⟨hBY, fun hnc => ?_, fun hc1 hc2 => ⟨fun i hi ⟨l, hl, hne⟩ => ?_, hS, fun i l hi hl => hBY i l (by omega) (by omega), by decide⟩⟩
  · refine ⟨hS, hBY, hYD, .inr ⟨⟨1, 1, by decide, by decide, hp, hpn⟩, hA1 ?_⟩⟩
    rcases hnc with ⟨i, hi, hn⟩ | ⟨l, hl, hn⟩
    · have := (hS.lt hn).1
      obtain rfl : i = 2 := by omega
      exact .inr hn
    · have := (hS.lt hn).2
      obtain rfl : l = 2 := by omega
      exact .inl hn
  · have hn : Y i l ≠ 0 := fun e => hne (by rw [e]; exact rm_zero _)
    obtain ⟨q1, q2⟩ := hS.lt hn
    obtain rfl : i = 2 := by omega
    obtain rfl : l = 2 := by omega
    have z1 := hc1 2 (by decide)
    have z2 := hc2 2 (by decide)
    have f11 : mixM 1 2 Y 1 1 = Y 1 1 := by
      unfold mixM
      simp [z1]
    have f12 : mixM 1 2 Y 1 2 = Y 2 2 := by
      unfold mixM
      simp [z2]
    have f21 : mixM 1 2 Y 2 1 = 0 := by
      unfold mixM
      simp [z1]
    have f22 : mixM 1 2 Y 2 2 = Y 2 2 := by
      unfold mixM
      simp
    have hZ := hS.mix (t := 1) (k := 2) (by decide)
    refine ⟨hZ, Bd.one hZ (by rw [f11]; omega) (by rw [f12]; exact hy) (by rw [f21]; exact Nat.two_pow_pos _) (by rw [f22]; exact hy), ?_, .inr ⟨⟨1, 1, by decide, by decide, by rw [f11]; exact hp, by rw [f11]; exact hpn⟩, ?_⟩⟩
    · rw [f11, f12, f21, f22, Int.mul_zero, Int.sub_zero]
      rw [z1, Int.mul_zero, Int.sub_zero] at hYD
      exact hYD
    · rw [f11, f12, f21, f22]
      exact hA2 z2 z1 hne
theorem lv2_step {N : Nat} {X X1 : Mx} (h : Lv2 N X) (hb : Brg 2 X X1) : X1 2 2 ≠ 0 ∧ 1 ≤ N ∧ Bd 2 626 (crs 2 X1) ∧ (∀ i, 2 < i → crs 2 X1 i 2 = 0) ∧ (∀ l, 2 < l → crs 2 X1 2 l = 0) ∧ ∀ i j, 2 < i → crs 2 X1 i j = 0 := by
  obtain ⟨hs, hB, hN⟩ := h
  have hs1 := hs.brg (by decide) hb
  have hB1 := hB.brg hb
  have hS := hs1.crs (t := 2) (by decide)
  obtain ⟨k, j, h1, h2, h3, h4, h5, h6⟩ := hb
  have hp : X1 2 2 ≠ 0 := by
    rw [h6]
    unfold sw
    simp [h3]
  refine ⟨hp, hN, fun i l hi hl => ?_, fun i hi => hS i 2 (.inl hi), fun l hl => hS 2 l (.inr hl), fun i j hi => hS i j (.inl hi)⟩
  by_cases q : 3 ≤ i ∨ 3 ≤ l
  · rw [hS i l q]
    exact Nat.two_pow_pos _
  · obtain rfl : i = 2 := by omega
    obtain rfl : l = 2 := by omega
    rw [crs_tt]
    exact hB1 2 2 (by decide) (by decide)
end K10
namespace K10
abbrev mn (X : Mx) (i i' l l' : Nat) : Int := X i l * X i' l' - X i l' * X i' l
def det3 (X : Mx) : Int := X 0 0 * (X 1 1 * X 2 2 - X 1 2 * X 2 1) - X 0 1 * (X 1 0 * X 2 2 - X 1 2 * X 2 0) + X 0 2 * (X 1 0 * X 2 1 - X 1 1 * X 2 0)
def Mb (m : Nat) (X : Mx) : Prop := ∀ i i' l l', (mn X i i' l l').natAbs ≤ m
theorem Mb.brg {t m : Nat} {X Y : Mx} (h : Mb m X) (hb : Brg t X Y) : Mb m Y := by
  obtain ⟨k, j, h1, h2, h3, h4, h5, h6⟩ := hb
  intro i i' l l'
  unfold mn
  rw [h6, h6, h6, h6]
  exact h _ _ _ _
theorem det_brg {X Y : Mx} (hs : Sup X) (hb : Brg 0 X Y) : (det3 Y).natAbs = (det3 X).natAbs := by
  obtain ⟨k, j, h1, h2, h3, h4, h5, h6⟩ := hb
  obtain ⟨hk, hj⟩ := hs.lt h3
  have key : ∀ {Y : Mx} {k : Nat}, k < 3 → (∀ i l, Y i l = X (sw 0 k i) l) → (det3 Y).natAbs = (det3 X).natAbs := by
    intro Y k hk hY
    have : det3 Y = det3 X ∨ det3 Y = -det3 X := by
      have : k = 0 ∨ k = 1 ∨ k = 2 := by omega
      rcases this with rfl | rfl | rfl
      · left
        unfold det3
        simp only [hY]
        rfl
      · right
        have e : ∀ i l, Y i l = X (sw 0 1 i) l := hY
        have a0 : ∀ l, Y 0 l = X 1 l := e 0
        have a1 : ∀ l, Y 1 l = X 0 l := e 1
        have a2 : ∀ l, Y 2 l = X 2 l := e 2
        unfold det3
        simp only [a0, a1, a2]
        grind
      · right
        have e : ∀ i l, Y i l = X (sw 0 2 i) l := hY
        have a0 : ∀ l, Y 0 l = X 2 l := e 0
        have a1 : ∀ l, Y 1 l = X 1 l := e 1
        have a2 : ∀ l, Y 2 l = X 0 l := e 2
        unfold det3
        simp only [a0, a1, a2]
        grind
    rcases this with e | e
    · rw [e]
    · rw [e, Int.natAbs_neg]
  have key2 : ∀ {X Y : Mx} {k : Nat}, k < 3 → (∀ i l, Y i l = X i (sw 0 k l)) → (det3 Y).natAbs = (det3 X).natAbs := by
    intro X Y k hk hY
    have : det3 Y = det3 X ∨ det3 Y = -det3 X := by
      have : k = 0 ∨ k = 1 ∨ k = 2 := by omega
      rcases this with rfl | rfl | rfl
      · left
        unfold det3
        simp only [hY]
        rfl
      · right
        have a0 : ∀ i, Y i 0 = X i 1 := fun i => hY i 0
        have a1 : ∀ i, Y i 1 = X i 0 := fun i => hY i 1
        have a2 : ∀ i, Y i 2 = X i 2 := fun i => hY i 2
        unfold det3
        simp only [a0, a1, a2]
        grind
      · right
        have a0 : ∀ i, Y i 0 = X i 2 := fun i => hY i 0
        have a1 : ∀ i, Y i 1 = X i 1 := fun i => hY i 1
        have a2 : ∀ i, Y i 2 = X i 0 := fun i => hY i 2
        unfold det3
        simp only [a0, a1, a2]
        grind
    rcases this with e | e
    · rw [e]
    · rw [e, Int.natAbs_neg]
  rw [key2 (X := fun i l => X (sw 0 k i) l) (Y := Y) hj fun i l => h6 i l]
  exact key hk fun i l => rfl
theorem abs_le {p y : Int} {m : Nat} (hp : p ≠ 0) (h : (p * y).natAbs ≤ p.natAbs * m) : y.natAbs ≤ m := by
  have := div_bd (p := p) (y := y) (c := 0) (m := m) hp (by omega)
  omega
theorem crs_rel {X : Mx} {k l : Nat} (hk : 0 < k) (hl : 0 < l) : X 0 0 * crs 0 X k l = mn X 0 k 0 l + crs 0 X k 0 * crs 0 X 0 l := by
  rw [crs_il hk hl, crs_it hk, crs_tl hl, yy_det]
  unfold mn
  grind
theorem prod_le {a b p : Int} {m : Nat} (ha : a.natAbs ≤ p.natAbs) (hb : b.natAbs ≤ m) : (a * b).natAbs ≤ p.natAbs * m := by
  rw [Int.natAbs_mul]
  exact Nat.mul_le_mul ha hb
section
variable {X : Mx} {m e : Nat} (hs : Sup X) (hp : X 0 0 ≠ 0) (hm : Mb m X) (hd : (det3 X).natAbs ≤ e)
include hs hp hm hd
theorem det_crs : det3 (crs 0 X) = det3 X := by
  have r11 := crs_rel (X := X) (k := 1) (l := 1) (by decide) (by decide)
  have r12 := crs_rel (X := X) (k := 1) (l := 2) (by decide) (by decide)
  have r21 := crs_rel (X := X) (k := 2) (l := 1) (by decide) (by decide)
  have r22 := crs_rel (X := X) (k := 2) (l := 2) (by decide) (by decide)
  have e0 : crs 0 X 0 0 = X 0 0 := crs_tt
  unfold mn at r11 r12 r21 r22
  have : X 0 0 * det3 (crs 0 X) = X 0 0 * det3 X := by
    unfold det3
    rw [e0]
    generalize crs 0 X = Y at *
    generalize X 0 0 = p at *
    generalize X 0 1 = b1 at *
    generalize X 0 2 = b2 at *
    generalize X 1 0 = c1 at *
    generalize X 2 0 = c2 at *
    generalize X 1 1 = d11 at *
    generalize X 1 2 = d12 at *
    generalize X 2 1 = d21 at *
    generalize X 2 2 = d22 at *
    generalize Y 0 1 = r1 at *
    generalize Y 0 2 = r2 at *
    generalize Y 1 0 = s1 at *
    generalize Y 2 0 = s2 at *
    generalize Y 1 1 = y11 at *
    generalize Y 1 2 = y12 at *
    generalize Y 2 1 = y21 at *
    generalize Y 2 2 = y22 at *
    grind
  exact Int.eq_of_mul_eq_mul_left hp this
theorem mb_crs : Mb (4 * m + e) (crs 0 X) := by
  have hS := hs.crs (t := 0) (by decide)
  have e0 : crs 0 X 0 0 = X 0 0 := crs_tt
  have hr : ∀ l, 0 < l → (crs 0 X 0 l).natAbs ≤ (X 0 0).natAbs := fun l h => by
    rw [crs_tl h]
    exact Nat.le_of_lt (rm_spec hp).1
  have hc : ∀ k, 0 < k → (crs 0 X k 0).natAbs ≤ (X 0 0).natAbs := fun k h => by
    rw [crs_it h]
    exact Nat.le_of_lt (rm_spec hp).1
  have hR : ∀ k l, 0 < k → 0 < l → X 0 0 * crs 0 X k l = mn X 0 k 0 l + crs 0 X k 0 * crs 0 X 0 l := fun k l h1 h2 => crs_rel h1 h2
  have hDt := det_crs hs hp hm hd
  generalize hY : crs 0 X = Y at *
  generalize hP : X 0 0 = p at *
  -- rows 0 and k, columns 0 and l
  have A : ∀ k l, 0 < k → 0 < l → (mn Y 0 k 0 l).natAbs ≤ m := fun k l h1 h2 => by
    have : mn Y 0 k 0 l = mn X 0 k 0 l := by
      unfold mn at *
      rw [e0, hR k l h1 h2]
      grind
    rw [this]
    exact hm ..
  have Bq : ∀ k l l', 0 < k → 0 < l → 0 < l' → (mn Y 0 k l l').natAbs ≤ 2 * m := fun k l l' h1 h2 h3 => by
    refine abs_le hp ?_
    have e1 := hR k l h1 h2
    have e2 := hR k l' h1 h3
    have : p * mn Y 0 k l l' = Y 0 l * mn X 0 k 0 l' - Y 0 l' * mn X 0 k 0 l := by
      unfold mn
      unfold mn at e1 e2
      grind
    rw [this]
    have q1 := prod_le (hr l h2) (hm 0 k 0 l')
    have q2 := prod_le (hr l' h3) (hm 0 k 0 l)
    have q3 : p.natAbs * (2 * m) = p.natAbs * m + p.natAbs * m := by grind
    omega
  have Cq : ∀ k k' l, 0 < k → 0 < k' → 0 < l → (mn Y k k' 0 l).natAbs ≤ 2 * m := fun k k' l h1 h2 h3 => by
    refine abs_le hp ?_
    have e1 := hR k l h1 h3
    have e2 := hR k' l h2 h3
    have : p * mn Y k k' 0 l = Y k 0 * mn X 0 k' 0 l - Y k' 0 * mn X 0 k 0 l := by
      unfold mn
      unfold mn at e1 e2
      grind
    rw [this]
    have q1 := prod_le (hc k h1) (hm 0 k' 0 l)
    have q2 := prod_le (hc k' h2) (hm 0 k 0 l)
    have q3 : p.natAbs * (2 * m) = p.natAbs * m + p.natAbs * m := by grind
    omega
  have D0 : (mn Y 1 2 1 2).natAbs ≤ 4 * m + e := by
    have r11 := hR 1 1 (by decide) (by decide)
    have r12 := hR 1 2 (by decide) (by decide)
    have r21 := hR 2 1 (by decide) (by decide)
    have r22 := hR 2 2 (by decide) (by decide)
    have : p * mn Y 1 2 1 2 = det3 X + (Y 0 1 * mn Y 1 2 0 2 - Y 0 2 * mn Y 1 2 0 1) := by
      rw [← hDt]
      unfold det3 mn
      rw [e0]
      grind
    have q1 := prod_le (hr 1 (by decide)) (Cq 1 2 2 (by decide) (by decide) (by decide))
    have q2 := prod_le (hr 2 (by decide)) (Cq 1 2 1 (by decide) (by decide) (by decide))
    have q3 : p.natAbs * (4 * m) = p.natAbs * (2 * m) + p.natAbs * (2 * m) := by grind
    have := div_bd (p := p) (y := mn Y 1 2 1 2) (c := e) (m := 4 * m) hp (by rw [this]; omega)
    omega
  have neg1 : ∀ i i' l l', mn Y i i' l l' = -mn Y i' i l l' := fun i i' l l' => by
    unfold mn
    grind
  have neg2 : ∀ i i' l l', mn Y i i' l l' = -mn Y i i' l' l := fun i i' l l' => by
    unfold mn
    grind
  have row0 : ∀ k l l', 0 < k → (mn Y 0 k l l').natAbs ≤ 4 * m + e := fun k l l' h => by
    rcases Nat.eq_zero_or_pos l with q | q <;> rcases Nat.eq_zero_or_pos l' with q' | q'
    · subst q q'
      unfold mn
      rw [show Y 0 0 * Y k 0 - Y 0 0 * Y k 0 = 0 by omega]
      simp
    · subst q
      have := A k l' h q'
      omega
    · subst q'
      rw [neg2, Int.natAbs_neg]
      have := A k l h q
      omega
    · have := Bq k l l' h q q'
      omega
  have rowk : ∀ k k' l l', 0 < k → 0 < k' → (mn Y k k' l l').natAbs ≤ 4 * m + e := fun k k' l l' h h' => by
    rcases Nat.eq_zero_or_pos l with q | q <;> rcases Nat.eq_zero_or_pos l' with q' | q'
    · subst q q'
      unfold mn
      rw [show Y k 0 * Y k' 0 - Y k 0 * Y k' 0 = 0 by omega]
      simp
    · subst q
      have := Cq k k' l' h h' q'
      omega
    · subst q'
      rw [neg2, Int.natAbs_neg]
      have := Cq k k' l h h' q
      omega
    · by_cases z : k < 3 ∧ k' < 3 ∧ l < 3 ∧ l' < 3
      · obtain ⟨z1, z2, z3, z4⟩ := z
        have same1 : ∀ k l l', (mn Y k k l l').natAbs ≤ 4 * m + e := fun k l l' => by
          unfold mn
          rw [show Y k l * Y k l' - Y k l' * Y k l = 0 by grind]
          simp
        have same2 : ∀ k k' l, (mn Y k k' l l).natAbs ≤ 4 * m + e := fun k k' l => by
          unfold mn
          rw [show Y k l * Y k' l - Y k l * Y k' l = 0 by omega]
          simp
        have d1 : (mn Y 2 1 1 2).natAbs ≤ 4 * m + e := by
          rw [neg1, Int.natAbs_neg]
          exact D0
        have d2 : (mn Y 1 2 2 1).natAbs ≤ 4 * m + e := by
          rw [neg2, Int.natAbs_neg]
          exact D0
        have d3 : (mn Y 2 1 2 1).natAbs ≤ 4 * m + e := by
          rw [neg2, Int.natAbs_neg]
          exact d1
        rcases two_cases h z1 with rfl | rfl <;> rcases two_cases h' z2 with rfl | rfl <;> rcases two_cases q z3 with rfl | rfl <;> rcases two_cases q' z4 with rfl | rfl <;> first | assumption | exact same1 .. | exact same2 ..
      · have : mn Y k k' l l' = 0 := by
          unfold mn
          have : (3 ≤ k ∨ 3 ≤ l ∨ 3 ≤ k' ∨ 3 ≤ l') := by omega
          rcases this with w | w | w | w
          · rw [hS k l (.inl w), hS k l' (.inl w)]
            simp
          · rw [hS k l (.inr w), hS k' l (.inr w)]
            simp
          · rw [hS k' l (.inl w), hS k' l' (.inl w)]
            simp
          · rw [hS k l' (.inr w), hS k' l' (.inr w)]
            simp
        rw [this]
        simp
  intro i i' l l'
  rcases Nat.eq_zero_or_pos i with q | q <;> rcases Nat.eq_zero_or_pos i' with q' | q'
  · subst q q'
    unfold mn
    rw [show Y 0 l * Y 0 l' - Y 0 l' * Y 0 l = 0 by grind]
    simp
  · subst q
    exact row0 i' l l' q'
  · subst q'
    rw [neg1, Int.natAbs_neg]
    exact row0 i l l' q
  · exact rowk i i' l l' q q'
theorem bd_crs {E : Nat} (hE : (X 0 0).natAbs ≤ E) : ∀ i l, (crs 0 X i l).natAbs ≤ m + E := fun i l => by
  rcases Nat.eq_zero_or_pos i with q | q <;> rcases Nat.eq_zero_or_pos l with q' | q'
  · subst q q'
    rw [crs_tt]
    omega
  · subst q
    rw [crs_tl q']
    have := (rm_spec (x := X 0 l) hp).1
    omega
  · subst q'
    rw [crs_it q]
    have := (rm_spec (x := X i 0) hp).1
    omega
  · have h := crs_rel (X := X) q q'
    have h1 : (crs 0 X i 0).natAbs ≤ (X 0 0).natAbs := by
      rw [crs_it q]
      exact Nat.le_of_lt (rm_spec hp).1
    have h2 : (crs 0 X 0 l).natAbs ≤ E := by
      rw [crs_tl q']
      exact Nat.le_trans (Nat.le_of_lt (rm_spec hp).1) hE
    have h3 := prod_le h1 h2
    have h4 := hm 0 i 0 l
    exact div_bd hp (by rw [h]; omega)
end
def m0 (N : Nat) : Nat := 4 * (73 - N) + 19
def Z0 (N : Nat) (X : Mx) : Prop := (∃ n i l, nz n (X i l) ∧ n ≤ 36 ∧ 2 * n + 1 ≤ N) ∨ (X 0 0 ≠ 0 ∧ (X 0 0).natAbs ≤ 36 ∧ 2 * (X 0 0).natAbs ≤ N ∧ ∃ l, 0 < l ∧ rm (X 0 l) (X 0 0) ≠ 0) ∨ ∀ i l, X i l = 0
def Lv0 (N : Nat) (X : Mx) : Prop := Sup X ∧ N ≤ 73 ∧ Mb (2 ^ m0 N) X ∧ (det3 X).natAbs ≤ 2 ^ 19 ∧ (∀ i l, (X i l).natAbs ≤ 2 ^ m0 N + 36) ∧ Z0 N X
theorem m0_le (N : Nat) : 2 ^ 19 ≤ 2 ^ m0 N ∧ 2 ^ m0 N ≤ 2 ^ 311 := ⟨Nat.pow_le_pow_right (by decide) (by unfold m0; omega), Nat.pow_le_pow_right (by decide) (by unfold m0; omega)⟩
theorem m0_pred {N : Nat} (h1 : 1 ≤ N) (h : N ≤ 73) : 2 ^ m0 (N - 1) = 16 * 2 ^ m0 N := by
  have : m0 (N - 1) = m0 N + 4 := by
    unfold m0
    omega
  rw [this, Nat.pow_add]
  omega
theorem lv0_bd {N : Nat} {X : Mx} (h : ∀ i l, (X i l).natAbs ≤ 2 ^ m0 N + 36) : Bd 0 626 X := fun i l _ _ => by
  have h1 := h i l
  have h2 := (m0_le N).2
  have : (2 : Nat) ^ 311 + 36 < 2 ^ 626 := by decide +kernel
  omega
theorem lv0_step {N : Nat} {X X1 : Mx} (h : Lv0 N X) (hb : Brg 0 X X1) : X1 0 0 ≠ 0 ∧ 1 ≤ N ∧ Bd 0 626 (crs 0 X1) ∧
    ((∃ i, 0 < i ∧ crs 0 X1 i 0 ≠ 0) ∨ (∃ l, 0 < l ∧ crs 0 X1 0 l ≠ 0) → Lv0 (N - 1) (crs 0 X1)) ∧
    ((∀ i, 0 < i → crs 0 X1 i 0 = 0) → (∀ l, 0 < l → crs 0 X1 0 l = 0) → (∀ k, 0 < k → (∃ j, 0 < j ∧ rm (crs 0 X1 k j) (crs 0 X1 0 0) ≠ 0) → Lv0 (N - 1) (mixM 0 k (crs 0 X1))) ∧ Lv1 1872 (crs 0 X1)) := by
  obtain ⟨hs, hN, hm, hd, he, hz⟩ := h
  have hs1 := hs.brg (by decide) hb
  have hm1 := hm.brg hb
  have hd1 : (det3 X1).natAbs ≤ 2 ^ 19 := by
    rw [det_brg hs hb]
    exact hd
  obtain ⟨k, j, h1, h2, h3, h4, h5, h6⟩ := hb
  have e00 : X1 0 0 = X k j := by
    rw [h6]
    unfold sw
    simp
  have hp : X1 0 0 ≠ 0 := by
    rw [e00]
    exact h3
  -- the pivot's size
  have hpiv : (X1 0 0).natAbs ≤ 36 ∧ 2 * (X1 0 0).natAbs ≤ N ∧ (2 * (X1 0 0).natAbs + 1 ≤ N ∨ ∃ l, 0 < l ∧ rm (X1 0 l) (X1 0 0) ≠ 0) := by
    rcases hz with ⟨n, i, l, ⟨q1, q2⟩, q3, q4⟩ | ⟨q1, q2, q3, q4⟩ | q
    · have := h4 i l (Nat.zero_le _) (Nat.zero_le _) q1
      rw [e00]
      omega
    · have := h4 0 0 (Nat.zero_le _) (Nat.zero_le _) q1
      by_cases z : (X 0 0).natAbs ≤ (X k j).natAbs
      · obtain ⟨rfl, rfl⟩ := h5 q1 z
        have eX : X1 = X := by
          funext i l
          rw [h6]
          congr 1
          · unfold sw
            split
            · omega
            · rfl
          · unfold sw
            split
            · omega
            · rfl
        rw [eX]
        exact ⟨q2, q3, .inr q4⟩
      · rw [e00]
        omega
    · exact absurd (q k j) h3
  obtain ⟨hp36, hpN, hpl⟩ := hpiv
  have hp1 : 1 ≤ (X1 0 0).natAbs := by omega
  have hN1 : 1 ≤ N := by omega
  have hS := hs1.crs (t := 0) (by decide)
  have hmY := mb_crs hs1 hp hm1 hd1
  have hdY := det_crs hs1 hp hm1 hd1
  have heY := bd_crs hs1 hp hm1 hd1 hp36
  have e00' : crs 0 X1 0 0 = X1 0 0 := crs_tt
  have hpow := m0_pred hN1 hN
  have ⟨hlow, hhigh⟩ := m0_le N
  have heY' : ∀ i l, (crs 0 X1 i l).natAbs ≤ 2 ^ m0 (N - 1) + 36 := fun i l => by
    have := heY i l
    omega
  refine ⟨hp, hN1, lv0_bd heY', fun hnc => ?_, fun hc1 hc2 => ⟨fun i hi ⟨l, hl, hne⟩ => ?_, ?_⟩⟩
  · refine ⟨hS, by omega, fun i i' l l' => ?_, by rw [hdY]; exact hd1, heY', .inl ?_⟩
    · have := hmY i i' l l'
      omega
    · rcases hnc with ⟨i, hi, hn⟩ | ⟨l, hl, hn⟩
      · refine ⟨(X1 0 0).natAbs - 1, i, 0, ⟨hn, ?_⟩, by omega, by omega⟩
        rw [crs_it hi]
        have := (rm_spec (x := X1 i 0) hp).1
        omega
      · refine ⟨(X1 0 0).natAbs - 1, 0, l, ⟨hn, ?_⟩, by omega, by omega⟩
        rw [crs_tl hl]
        have := (rm_spec (x := X1 0 l) hp).1
        omega
  · have hn : crs 0 X1 i l ≠ 0 := fun e => hne (by rw [e]; exact rm_zero _)
    have hi3 := (hS.lt hn).1
    have hpl : 2 * (X1 0 0).natAbs + 1 ≤ N := by
      rcases hpl with q | ⟨l, q1, q2⟩
      · exact q
      · have := hc2 l q1
        rw [crs_tl q1] at this
        exact absurd this q2
    rw [← hdY] at hd1
    rw [e00'] at hne
    generalize crs 0 X1 = Y at *
    generalize X1 0 0 = p at *
    have z0 : ∀ l, mixM 0 i Y 0 l = Y 0 l + Y i l := fun l => by
      unfold mixM
      simp
    have z1 : ∀ k l, 0 < k → mixM 0 i Y k l = Y k l := fun k l h => by
      unfold mixM
      rw [if_neg (by omega)]
    have f0 : mixM 0 i Y 0 0 = p := by
      rw [z0, hc1 i hi, e00']
      omega
    have fl : ∀ l, 0 < l → mixM 0 i Y 0 l = Y i l := fun l h => by
      rw [z0, hc2 l h]
      omega
    refine ⟨hS.mix (by decide), by omega, ?_, ?_, fun a b => ?_, .inr (.inl ⟨by rw [f0]; exact hp, by rw [f0]; exact hp36, by rw [f0]; omega, l, hl, by rw [f0, fl l hl]; exact hne⟩)⟩
    · intro a a' b b'
      rcases Nat.eq_zero_or_pos a with q | q <;> rcases Nat.eq_zero_or_pos a' with q' | q'
      · subst q q'
        unfold mn
        rw [show mixM 0 i Y 0 b * mixM 0 i Y 0 b' - mixM 0 i Y 0 b' * mixM 0 i Y 0 b = 0 by grind]
        simp
      · subst q
        have : mn (mixM 0 i Y) 0 a' b b' = mn Y 0 a' b b' + mn Y i a' b b' := by
          unfold mn
          rw [z0, z0, z1 _ _ q', z1 _ _ q']
          grind
        rw [this]
        have u1 := hmY 0 a' b b'
        have u2 := hmY i a' b b'
        omega
      · subst q'
        have : mn (mixM 0 i Y) a 0 b b' = mn Y a 0 b b' + mn Y a i b b' := by
          unfold mn
          rw [z0, z0, z1 _ _ q, z1 _ _ q]
          grind
        rw [this]
        have u1 := hmY a 0 b b'
        have u2 := hmY a i b b'
        omega
      · unfold mn
        rw [z1 _ _ q, z1 _ _ q, z1 _ _ q', z1 _ _ q']
        have := hmY a a' b b'
        unfold mn at this
        omega
    · have : det3 (mixM 0 i Y) = det3 Y := by
        unfold det3
        rw [z0, z0, z0, z1 1 _ (by decide), z1 1 _ (by decide), z1 1 _ (by decide), z1 2 _ (by decide), z1 2 _ (by decide), z1 2 _ (by decide)]
        rcases two_cases hi hi3 with rfl | rfl <;> grind
      rw [this]
      exact hd1
    · rcases Nat.eq_zero_or_pos a with q | q
      · subst q
        rcases Nat.eq_zero_or_pos b with q' | q'
        · subst q'
          rw [f0]
          omega
        · rw [fl b q']
          exact heY' i b
      · rw [z1 a b q]
        exact heY' a b
  · have c1 : (2 : Nat) ^ 311 + 36 < 2 ^ 312 := by decide +kernel
    have c2 : (2 : Nat) ^ 312 < 2 ^ 626 := by decide +kernel
    have c3 : 4 * (2 : Nat) ^ 311 + 2 ^ 19 < 2 ^ 625 := by decide +kernel
    have hall : ∀ i l, (crs 0 X1 i l).natAbs < 2 ^ 312 := fun i l => by
      have := heY i l
      omega
    refine ⟨hS, fun i l _ _ => by have := hall i l; omega, ?_, ?_⟩
    · have := hmY 1 2 1 2
      unfold mn at this
      omega
    · by_cases hz : ∀ i l, 1 ≤ i → 1 ≤ l → crs 0 X1 i l = 0
      · exact .inl hz
      · have : ∃ i l, 1 ≤ i ∧ 1 ≤ l ∧ crs 0 X1 i l ≠ 0 := Classical.byContradiction fun q => hz fun i l hi hl => Classical.byContradiction fun z => q ⟨i, l, hi, hl, z⟩
        obtain ⟨i, l, hi, hl, hn⟩ := this
        have hlt := hall i l
        have lg : (crs 0 X1 i l).natAbs.log2 < 312 := (Nat.log2_lt (by omega)).mpr hlt
        refine .inr ⟨⟨i, l, hi, hl, hn, Nat.le_of_lt hlt⟩, .inl ⟨(crs 0 X1 i l).natAbs, by omega, ?_⟩⟩
        obtain ⟨q1, q2⟩ := hS.lt hn
        have hnn : nz (crs 0 X1 i l).natAbs (crs 0 X1 i l) := ⟨hn, Nat.le_refl _⟩
        rcases two_cases hi q1 with rfl | rfl <;> rcases two_cases hl q2 with rfl | rfl
        · exact .inl hnn
        · exact .inr (.inl hnn)
        · exact .inr (.inr (.inl hnn))
        · exact .inr (.inr (.inr hnn))
/-- what the loop starts with -/
theorem lv0_start {X : Mx} (hs : Sup X) (h : ∀ i l, (X i l).natAbs ≤ 36) : Lv0 73 X := by
  have pr : ∀ a b c d, (X a b * X c d).natAbs ≤ 36 * 36 := fun a b c d => by
    rw [Int.natAbs_mul]
    exact Nat.mul_le_mul (h a b) (h c d)
  have pr3 : ∀ (u : Int) a b, u.natAbs ≤ 2592 → (X a b * u).natAbs ≤ 36 * 2592 := fun u a b hu => by
    rw [Int.natAbs_mul]
    exact Nat.mul_le_mul (h a b) hu
  have hm : ∀ i i' l l', (mn X i i' l l').natAbs ≤ 2592 := fun i i' l l' => by
    have q1 := pr i l i' l'
    have q2 := pr i l' i' l
    unfold mn
    omega
  have e : 2 ^ m0 73 = 2 ^ 19 := rfl
  refine ⟨hs, Nat.le_refl _, fun i i' l l' => ?_, ?_, fun i l => ?_, ?_⟩
  · have := hm i i' l l'
    omega
  · have q1 := pr3 _ 0 0 (hm 1 2 1 2)
    have q2 := pr3 _ 0 1 (hm 1 2 0 2)
    have q3 := pr3 _ 0 2 (hm 1 2 0 1)
    unfold mn at q1 q2 q3
    unfold det3
    omega
  · have := h i l
    omega
  · by_cases hz : ∀ i l, X i l = 0
    · exact .inr (.inr hz)
    · have : ∃ i l, X i l ≠ 0 := Classical.byContradiction fun q => hz fun i l => Classical.byContradiction fun z => q ⟨i, l, z⟩
      obtain ⟨i, l, hn⟩ := this
      exact .inl ⟨36, i, l, ⟨hn, h i l⟩, by decide, by decide⟩
end K10
namespace K10
open Mi
open PySem L2 Evl
def row (M : List Rw2) (i : Nat) : List Int := (M.map (·.2)).getD i []
def ent (M : List Rw2) : Mx := fun i l => vc (row M i) l
def Wr (n : Nat) (M : List Rw2) : Prop := ∀ p ∈ M, p.2.length = n
structure Shp (s : TRs) (m n : Nat) : Prop where
  lw : s.w.length = m
  ll : s.l.length = m
  lr : s.r.length = n
  ww : Wr n s.w
  wl : Wr m s.l
  wr : Wr n s.r
def Bg (e : Nat) (M : List Rw2) : Prop := ∀ p ∈ M, ∀ x ∈ p.2, x.natAbs < 2 ^ e
structure Big (s : TRs) (e : Nat) : Prop where
  w : Bg e s.w
  l : Bg e s.l
  r : Bg e s.r
theorem Bg.mono {e f : Nat} {M : List Rw2} (h : Bg e M) (q : e ≤ f) : Bg f M := fun p hp x hx => Nat.lt_of_lt_of_le (h p hp x hx) (Nat.pow_le_pow_right (by decide) q)
theorem Big.mono {s : TRs} {e f : Nat} (h : Big s e) (q : e ≤ f) : Big s f := ⟨h.w.mono q, h.l.mono q, h.r.mono q⟩
theorem row_of {M : List Rw2} {i : Nat} {p : Rw2} (h : M[i]? = some p) : row M i = p.2 := by
  unfold row
  rw [List.getD_eq_getElem?_getD, List.getElem?_map, h]
  rfl
theorem row_out {M : List Rw2} {i : Nat} (h : M.length ≤ i) : row M i = [] := by
  unfold row
  rw [List.getD_eq_getElem?_getD, List.getElem?_map, List.getElem?_eq_none h]
  rfl
theorem ent_out {M : List Rw2} {i l : Nat} (h : M.length ≤ i) : ent M i l = 0 := by
  unfold ent
  rw [row_out h]
  rfl
theorem ent_wide {M : List Rw2} {n i l : Nat} (h : Wr n M) (hl : n ≤ l) : ent M i l = 0 := by
  unfold ent
  by_cases q : i < M.length
  · rw [row_of (List.getElem?_eq_getElem q)]
    exact vc_out (by rw [h _ (List.getElem_mem q)]; exact hl)
  · rw [row_out (by omega)]
    rfl
theorem sup_ent {M : List Rw2} {n : Nat} (h : Wr n M) (hm : M.length ≤ 3) (hn : n ≤ 3) : Sup (ent M) := fun i l q => by
  rcases q with q | q
  · exact ent_out (by omega)
  · exact ent_wide h (by omega)
theorem row_set {M : List Rw2} {k i : Nat} {q : Rw2} (h : k < M.length) : row (M.set k q) i = if i = k then q.2 else row M i := by
  unfold row
  rw [List.map_set, List.getD_eq_getElem?_getD, List.getElem?_set, List.getD_eq_getElem?_getD]
  by_cases e : k = i
  · subst e
    rw [if_pos rfl, if_pos rfl, if_pos (by rw [List.length_map]; exact h)]
    rfl
  · rw [if_neg e, if_neg (fun q => e q.symm)]
theorem Wr.set {M : List Rw2} {n k : Nat} {q : Rw2} (h : Wr n M) (hq : q.2.length = n) : Wr n (M.set k q) := fun p hp => by
  rcases List.mem_or_eq_of_mem_set hp with z | z
  · exact h p z
  · rw [z]
    exact hq
theorem Bg.set {M : List Rw2} {e k : Nat} {q : Rw2} (h : Bg e M) (hq : ∀ x ∈ q.2, x.natAbs < 2 ^ e) : Bg e (M.set k q) := fun p hp => by
  rcases List.mem_or_eq_of_mem_set hp with z | z
  · exact h p z
  · rw [z]
    exact hq
theorem ok_mul {x y : Int} {m : Nat} (hx : x.natAbs < 2 ^ m) (hy : y.natAbs < 2 ^ m) (hm : m ≤ 33554432) : Ok (mulI x y) (· = x * y) := by
  refine Ok.chk ?_ Ok.eq
  have b : ∀ {k : Int}, k.natAbs < 2 ^ m → Builtin.Int.intBits k ≤ 33554432 := by
    intro k hk
    unfold Builtin.Int.intBits
    split
    · omega
    · rename_i h0
      have h0 : k ≠ 0 := fun e => h0 (by first | exact e | (rw [e]; rfl) | simp [e])
      have : k.natAbs.log2 < m := (Nat.log2_lt (by omega)).mpr hk
      omega
  have h1 := b hx
  have h2 := b hy
  have h : Builtin.Int.intTooBig (Builtin.Int.intBits x + Builtin.Int.intBits y) = false := by
    unfold Builtin.Int.intTooBig bitsLine
    exact decide_eq_false (by omega)
  unfold IntMulOk
  rw [h]
  simp
theorem ixN_nat {n k : Nat} (h : k < n) : ixN n (k : Int) = some k := by
  unfold ixN
  rw [if_pos (by omega), if_pos (by omega)]
  rfl
theorem ok_put {α : Type} {xs : List α} {k : Nat} {y : α} (h : k < xs.length) : Ok (putL xs (k : Int) y) (· = xs.set k y) := by
  unfold putL
  rw [ixN_nat h]
  exact Ok.eq
theorem ok_putA {M : List Rw2} {k : Nat} {xs : List Int} (h : k < M.length) : Ok (putA M (k : Int) xs) fun M' => ∃ a, M' = M.set k (a, xs) := by
  unfold putA
  rw [ixN_nat h]
  exact fun P E hp a => hp _ ⟨a, rfl⟩
theorem ok_idx {α : Type} {xs : List α} {k : Nat} (h : k < xs.length) : Ok (idx xs (k : Int)) (· = xs[k]) := Ok.idxN (List.getElem?_eq_getElem h)
theorem ok_cell {M : List Rw2} {N : List Rw2} {n k j : Nat} (hk : k < M.length) (hw : Wr n M) (hj : j < n) (hN : ∀ p ∈ M, p ∈ N) : Ok (bnd (idx M (k : Int)) fun p => chk (p ∈ N) (idx p.2 (j : Int))) (· = ent M k j) := by
  refine Ok.bndE (ok_idx hk) ?_
  refine Ok.chk (hN _ (List.getElem_mem hk)) ?_
  have e : ent M k j = vc (M[k]).2 j := by
    unfold ent
    rw [row_of (List.getElem?_eq_getElem hk)]
  rw [e]
  exact Ok.idxN (vc_in (by rw [hw _ (List.getElem_mem hk)]; exact hj))
theorem mem_w {s : TRs} : ∀ p ∈ s.w, p ∈ s.all := fun p hp => List.mem_append_left _ hp
theorem mem_l {s : TRs} : ∀ p ∈ s.l, p ∈ s.all := fun p hp => List.mem_append_right _ (List.mem_append_left _ hp)
def plus (r : List Int) (q : Int) (o : List Int) : List Int := (r.zip o).map fun z => z.1 + q * z.2
theorem plus_sb (r o : List Int) (q : Int) : plus r q o = sb r (-q) o := by
  unfold plus sb
  refine List.map_congr_left fun z _ => ?_
  rw [Int.neg_mul]
  omega
theorem plus_bd {r o : List Int} {q : Int} {e c : Nat} (hr : ∀ x ∈ r, x.natAbs < 2 ^ e) (ho : ∀ x ∈ o, x.natAbs < 2 ^ e) (hq : q.natAbs < 2 ^ c) : ∀ x ∈ plus r q o, x.natAbs < 2 ^ (e + c + 1) := fun x hx => by
  obtain ⟨z, hz, rfl⟩ := List.mem_map.mp hx
  obtain ⟨h1, h2⟩ := List.of_mem_zip hz
  have a1 := hr _ h1
  have a2 := ho _ h2
  have a3 : (q * z.2).natAbs ≤ 2 ^ c * 2 ^ e := by
    rw [Int.natAbs_mul]
    exact Nat.mul_le_mul (Nat.le_of_lt hq) (Nat.le_of_lt a2)
  have a4 : 2 ^ (e + c + 1) = 2 ^ c * 2 ^ e + 2 ^ c * 2 ^ e := by
    rw [Nat.pow_succ, Nat.pow_add, Nat.mul_comm (2 ^ e)]
    omega
  have a5 : 1 * 2 ^ e ≤ 2 ^ c * 2 ^ e := Nat.mul_le_mul_right _ (Nat.pow_pos (by decide))
  omega
def addW (M N : List Rw2) (k o q : Int) : W (List Rw2) := bnd (bnd (idx M k) fun x => bnd (idx M o) fun y => bnd (chk (x ∈ N ∧ y ∈ N) (ret (x.2.zip y.2))) fun zs => mapW (fun (z : Int × Int) => bnd (mulI q z.2) fun t => ret (z.1 + t)) zs) fun xs => bnd (ret k) fun k => putA M k xs
theorem add_one {M N : List Rw2} {n k o e c : Nat} {q : Int} (hk : k < M.length) (ho : o < M.length) (hw : Wr n M) (hb : Bg e M) (hq : q.natAbs < 2 ^ c) (he : e + c ≤ 33554432) (hN : ∀ p ∈ M, p ∈ N) :
    Ok (addW M N k o q) fun M' => M'.length = M.length ∧ Wr n M' ∧ Bg (e + c + 1) M' ∧ ∀ i l, ent M' i l = if i = k then ent M k l + q * ent M o l else ent M i l := by
  have wk := hw _ (List.getElem_mem hk)
  have wo := hw _ (List.getElem_mem ho)
  unfold addW
  refine Ok.bndE (x := plus (M[k]).2 q (M[o]).2) ?_ ?_
  · refine Ok.bndE (ok_idx hk) (Ok.bndE (ok_idx ho) ?_)
    refine Ok.bndE (x := (M[k]).2.zip (M[o]).2) (Ok.chk ⟨hN _ (List.getElem_mem hk), hN _ (List.getElem_mem ho)⟩ Ok.eq) ?_
    refine Ok.map (g := fun z : Int × Int => z.1 + q * z.2) fun z hz => ?_
    have h2 := (List.of_mem_zip hz).2
    exact Ok.bndE (ok_mul (m := e + c) (Nat.lt_of_lt_of_le hq (Nat.pow_le_pow_right (by decide) (by omega))) (Nat.lt_of_lt_of_le (hb _ (List.getElem_mem ho) _ h2) (Nat.pow_le_pow_right (by decide) (by omega))) he) Ok.eq
  refine Ok.bndE Ok.eq ?_
  refine (ok_putA hk).mono fun M' ⟨a, e1⟩ => ?_
  subst e1
  have hl : (plus (M[k]).2 q (M[o]).2).length = n := by
    rw [plus_sb]
    exact sb_len wk wo
  refine ⟨List.length_set .., hw.set hl, (hb.mono (by omega)).set (plus_bd (hb _ (List.getElem_mem hk)) (hb _ (List.getElem_mem ho)) hq), fun i l => ?_⟩
  unfold ent
  rw [row_set hk]
  split
  · show vc (plus _ q _) l = _
    rw [plus_sb, vc_sb wk wo, row_of (List.getElem?_eq_getElem hk), row_of (List.getElem?_eq_getElem ho), Int.neg_mul]
    omega
  · rfl
theorem add_ok {s : TRs} {m n k o e c : Nat} {q : Int} (hs : Shp s m n) (hb : Big s e) (hk : k < m) (ho : o < m) (hq : q.natAbs < 2 ^ c) (he : e + c ≤ 33554432) :
    Ok (m_Turning_add_row s (k : Int) (o : Int) q) fun y => Shp y.2 m n ∧ Big y.2 (e + c + 1) ∧ ∀ i l, ent y.2.w i l = if i = k then ent s.w k l + q * ent s.w o l else ent s.w i l := by
  obtain ⟨lw, ll, lr, ww, wl, wr⟩ := hs
  unfold m_Turning_add_row
  refine Ok.bndE Ok.eq ?_
  refine Ok.bnd (J := fun y => Shp y m n ∧ Big y (e + c + 1) ∧ ∀ i l, ent y.w i l = if i = k then ent s.w k l + q * ent s.w o l else ent s.w i l) ?_ fun y hy => Ok.ret hy
  show Ok (bnd (m_Turning_add_row_l1 k o q s true) fun s' => bnd (m_Turning_add_row_l1 k o q s' false) fun s'' => ret s'') _
  refine Ok.bnd (J := fun y => ∃ M', y = ({ s with w := M' } : TRs) ∧ M'.length = s.w.length ∧ Wr n M' ∧ Bg (e + c + 1) M' ∧ ∀ i l, ent M' i l = if i = k then ent s.w k l + q * ent s.w o l else ent s.w i l) ?_ ?_
  · have h := add_one (N := s.all) (by omega : k < s.w.length) (by omega : o < s.w.length) ww hb.w hq he mem_w
    show Ok (bnd (addW s.w s.all k o q) fun M => ret ({ s with w := M } : TRs)) _
    exact Ok.bnd h fun M' hM => Ok.ret ⟨M', rfl, hM⟩
  · rintro _ ⟨M', rfl, h1, h2, h3, h4⟩
    have h := add_one (M := s.l) (N := ({ s with w := M' } : TRs).all) (by omega : k < s.l.length) (by omega : o < s.l.length) wl hb.l hq he (mem_l (s := { s with w := M' }))
    refine Ok.bnd (J := fun y => ∃ L', y = ({ s with w := M', l := L' } : TRs) ∧ L'.length = s.l.length ∧ Wr m L' ∧ Bg (e + c + 1) L') ?_ ?_
    · show Ok (bnd (addW s.l ({ s with w := M' } : TRs).all k o q) fun L => ret ({ s with w := M', l := L } : TRs)) _
      exact Ok.bnd h fun L' hL => Ok.ret ⟨L', rfl, hL.1, hL.2.1, hL.2.2.1⟩
    · rintro _ ⟨L', rfl, g1, g2, g3⟩
      exact Ok.ret ⟨⟨by rw [h1]; exact lw, by rw [g1]; exact ll, lr, h2, g2, wr⟩, ⟨h3, g3, hb.r.mono (by omega)⟩, h4⟩
end K10
namespace K10
open Mi
open PySem L2 Evl
def upN (g : List Int → List Int) (c : Nat) (M : List Rw2) : List Rw2 := (M.take c).map (fun p => (p.1, g p.2)) ++ M.drop c
abbrev allG (g : List Int → List Int) (M : List Rw2) : List Rw2 := M.map fun p => (p.1, g p.2)
theorem upN_len (g : List Int → List Int) (c : Nat) (M : List Rw2) : (upN g c M).length = M.length := by
  unfold upN
  rw [List.length_append, List.length_map, List.length_take, List.length_drop]
  omega
theorem upN_keys (g : List Int → List Int) (c : Nat) (M : List Rw2) : (upN g c M).map (·.1) = M.map (·.1) := by
  unfold upN
  rw [List.map_append, List.map_map]
  show (M.take c).map (·.1) ++ (M.drop c).map (·.1) = _
  rw [← List.map_append, List.take_append_drop]
theorem upN_zero (g : List Int → List Int) (M : List Rw2) : upN g 0 M = M := by
  unfold upN
  rw [List.take_zero, List.drop_zero]
  rfl
theorem upN_all (g : List Int → List Int) {c : Nat} {M : List Rw2} (h : M.length ≤ c) : upN g c M = allG g M := by
  unfold upN
  rw [List.take_of_length_le h, List.drop_of_length_le h, List.append_nil]
theorem upN_get {g : List Int → List Int} {c : Nat} {M : List Rw2} (h : c < M.length) : (upN g c M)[c]? = M[c]? := by
  unfold upN
  have hl : ((M.take c).map fun p => (p.1, g p.2)).length = c := by
    rw [List.length_map, List.length_take]
    omega
  rw [List.getElem?_append_right (by omega), hl, Nat.sub_self, List.getElem?_drop, Nat.add_zero]
theorem setC_upN {g : List Int → List Int} {c : Nat} {M : List Rw2} {p : Rw2} (h : M[c]? = some p) : setC (upN g c M) c (g p.2) = upN g (c + 1) M := by
  have hc : c < M.length := (List.getElem?_eq_some_iff.mp h).1
  unfold setC
  rw [upN_get hc, h]
  show (upN g c M).set c (p.1, g p.2) = _
  have hl : ((M.take c).map fun p => (p.1, g p.2)).length = c := by
    rw [List.length_map, List.length_take]
    omega
  unfold upN
  rw [List.set_append_right _ _ (by omega), hl, Nat.sub_self]
  have e : M.drop c = p :: M.drop (c + 1) := by
    rw [List.drop_eq_getElem_cons hc]
    congr 1
    rw [List.getElem?_eq_getElem hc] at h
    exact Option.some.inj h
  rw [e]
  show _ ++ (p.1, g p.2) :: M.drop (c + 1) = _
  have e2 : M.take (c + 1) = M.take c ++ [p] := by
    rw [List.take_add_one, h]
    rfl
  rw [e2, List.map_append, List.append_assoc]
  rfl
theorem all_rows {s0 : TRs} {g : List Int → List Int} {op : Rw2 → W (List Int)} (h : ∀ p ∈ s0.w ++ s0.r, Ok (op p) (· = g p.2)) {f : TRs → Nat → W TRs}
    (hf : ∀ s i, f s i = chk ((s.w ++ s.r).map (·.1) = (s0.w ++ s0.r).map (·.1)) (match (s.w ++ s.r)[i]? with | some p => bnd (op p) fun ys => ret (s.put i ys) | none => fail)) :
    Ok (forW f s0 (List.range (s0.w.length + s0.r.length))) (· = ⟨allG g s0.w, s0.l, allG g s0.r⟩) := by
  refine Ok.forW (fun c s => s = ⟨upN g c s0.w, s0.l, upN g (c - s0.w.length) s0.r⟩) ?_ ?_ ?_
  · rw [Nat.zero_sub, upN_zero, upN_zero]
  · rintro c hc s rfl
    rw [List.length_range] at hc
    rw [List.getElem_range, hf]
    refine Ok.chk ?_ ?_
    · rw [List.map_append, List.map_append, upN_keys, upN_keys]
    by_cases q : c < s0.w.length
    · have e : (upN g c s0.w ++ upN g (c - s0.w.length) s0.r)[c]? = some s0.w[c] := by
        rw [List.getElem?_append_left (by rw [upN_len]; exact q), upN_get q, List.getElem?_eq_getElem q]
      show Ok (match (upN g c s0.w ++ upN g (c - s0.w.length) s0.r)[c]? with | some p => bnd (op p) fun ys => ret (TRs.put _ c ys) | none => fail) _
      rw [e]
      refine Ok.bndE (h _ (List.mem_append_left _ (List.getElem_mem q))) (Ok.ret ?_)
      unfold TRs.put
      rw [if_pos (by show c < (upN g c s0.w).length; rw [upN_len]; exact q)]
      show TRs.mk (setC (upN g c s0.w) c _) _ _ = _
      rw [setC_upN (List.getElem?_eq_getElem q), show c + 1 - s0.w.length = c - s0.w.length by omega]
    · have hr : c - s0.w.length < s0.r.length := by omega
      have e : (upN g c s0.w ++ upN g (c - s0.w.length) s0.r)[c]? = some s0.r[c - s0.w.length] := by
        rw [List.getElem?_append_right (by rw [upN_len]; omega), upN_len, upN_get hr, List.getElem?_eq_getElem hr]
      show Ok (match (upN g c s0.w ++ upN g (c - s0.w.length) s0.r)[c]? with | some p => bnd (op p) fun ys => ret (TRs.put _ c ys) | none => fail) _
      rw [e]
      refine Ok.bndE (h _ (List.mem_append_right _ (List.getElem_mem hr))) (Ok.ret ?_)
      unfold TRs.put
      rw [if_neg (by show ¬ c < (upN g c s0.w).length; rw [upN_len]; exact q)]
      show TRs.mk _ _ (setC (upN g (c - s0.w.length) s0.r) (c - (upN g c s0.w).length) _) = _
      rw [upN_len, setC_upN (List.getElem?_eq_getElem hr), upN_all g (by omega : s0.w.length ≤ c), upN_all g (by omega : s0.w.length ≤ c + 1), show c + 1 - s0.w.length = c - s0.w.length + 1 by omega]
  · rintro s rfl
    rw [List.length_range, upN_all g (by omega), upN_all g (by omega)]
theorem row_allG {g : List Int → List Int} {M : List Rw2} {i : Nat} (h : i < M.length) : row (allG g M) i = g (row M i) := by
  rw [row_of (p := (M[i].1, g M[i].2)) (by rw [List.getElem?_map, List.getElem?_eq_getElem h]; rfl), row_of (List.getElem?_eq_getElem h)]
theorem Wr.allG {g : List Int → List Int} {M : List Rw2} {n : Nat} (h : Wr n M) (hg : ∀ r : List Int, r.length = n → (g r).length = n) : Wr n (allG g M) := fun p hp => by
  obtain ⟨q, hq, rfl⟩ := List.mem_map.mp hp
  exact hg _ (h q hq)
theorem Bg.allG {g : List Int → List Int} {M : List Rw2} {n e f : Nat} (hw : Wr n M) (h : Bg e M) (hg : ∀ r : List Int, r.length = n → (∀ x ∈ r, x.natAbs < 2 ^ e) → ∀ x ∈ g r, x.natAbs < 2 ^ f) : Bg f (allG g M) := fun p hp => by
  obtain ⟨q, hq, rfl⟩ := List.mem_map.mp hp
  exact hg _ (hw q hq) (h q hq)
theorem vc_set {r : List Int} {k l : Nat} {y : Int} (h : k < r.length) : vc (r.set k y) l = if l = k then y else vc r l := by
  unfold vc
  rw [List.getD_eq_getElem?_getD, List.getElem?_set, List.getD_eq_getElem?_getD]
  by_cases e : k = l
  · subst e
    rw [if_pos rfl, if_pos rfl, if_pos h]
    rfl
  · rw [if_neg e, if_neg fun q => e q.symm]
def cs (t j : Nat) (r : List Int) : List Int := (r.set t (vc r j)).set j (vc r t)
theorem cs_len {t j : Nat} {r : List Int} : (cs t j r).length = r.length := by
  unfold cs
  rw [List.length_set, List.length_set]
theorem cs_vc {t j l : Nat} {r : List Int} (ht : t < r.length) (hj : j < r.length) : vc (cs t j r) l = vc r (sw t j l) := by
  unfold cs sw
  rw [vc_set (by rw [List.length_set]; exact hj), vc_set ht]
  by_cases q : l = t
  · by_cases z : l = j
    · subst q z
      simp
    · simp [q, z]
      intro e
      exact absurd (q.trans e) z
  · by_cases z : l = j
    · subst z
      simp [q]
    · simp [q, z]
theorem cs_bd {t j e : Nat} {r : List Int} (h : ∀ x ∈ r, x.natAbs < 2 ^ e) : ∀ x ∈ cs t j r, x.natAbs < 2 ^ e := fun x hx => by
  have hv : ∀ l, (vc r l).natAbs < 2 ^ e := fun l => by
    by_cases q : l < r.length
    · have := vc_in q
      exact h _ (List.mem_of_getElem? this)
    · rw [vc_out (by omega)]
      exact Nat.two_pow_pos e
  unfold cs at hx
  rcases List.mem_or_eq_of_mem_set hx with q | q
  · rcases List.mem_or_eq_of_mem_set q with z | z
    · exact h x z
    · rw [z]
      exact hv j
  · rw [q]
    exact hv t
theorem ok_cs {p : Rw2} {t j : Nat} (ht : t < p.2.length) (hj : j < p.2.length) : Ok (bnd (idx p.2 (j : Int)) fun u => bnd (idx p.2 (t : Int)) fun v => bnd (ret (t : Int)) fun k1 => bnd (putL p.2 k1 u) fun ys => bnd (ret (j : Int)) fun k2 => putL ys k2 v) (· = cs t j p.2) := by
  refine Ok.bndE (Ok.idxN (vc_in hj)) (Ok.bndE (Ok.idxN (vc_in ht)) (Ok.bndE Ok.eq (Ok.bndE (ok_put ht) (Ok.bndE Ok.eq ?_))))
  exact ok_put (by rw [List.length_set]; exact hj)
def swpW (M : List Rw2) (k t : Int) : W (List Rw2) := bnd (idx M k) fun u => bnd (idx M t) fun v => bnd (ret t) fun k1 => bnd (putL M k1 u) fun ys => bnd (ret k) fun k2 => bnd (putL ys k2 v) fun zs => chk (zs.Perm M) (ret zs)
theorem swp_ok {M : List Rw2} {k t : Nat} (hk : k < M.length) (ht : t < M.length) : Ok (swpW M (k : Int) (t : Int)) fun Z => Z.Perm M ∧ Z.length = M.length ∧ ∀ i, row Z i = row M (sw t k i) := by
  unfold swpW
  refine Ok.bndE (ok_idx hk) (Ok.bndE (ok_idx ht) (Ok.bndE Ok.eq (Ok.bndE (ok_put ht) (Ok.bndE Ok.eq (Ok.bndE (ok_put (by rw [List.length_set]; exact hk)) ?_)))))
  have hp := List.set_set_perm ht hk
  refine Ok.chk hp (Ok.ret ⟨hp, by rw [List.length_set, List.length_set], fun i => ?_⟩)
  rw [row_set (by rw [List.length_set]; exact hk), row_set ht]
  unfold sw
  have rk : row M k = M[k].2 := row_of (List.getElem?_eq_getElem hk)
  have rt : row M t = M[t].2 := row_of (List.getElem?_eq_getElem ht)
  by_cases q : i = t
  · by_cases z : i = k
    · subst q z
      simp [rt]
    · subst q
      simp [z, rk]
  · by_cases z : i = k
    · subst z
      simp [q, rt]
    · simp [q, z]
theorem Wr.perm {n : Nat} {M Z : List Rw2} (h : Wr n M) (p : Z.Perm M) : Wr n Z := fun x hx => h x (p.mem_iff.mp hx)
theorem Bg.perm {e : Nat} {M Z : List Rw2} (h : Bg e M) (p : Z.Perm M) : Bg e Z := fun x hx => h x (p.mem_iff.mp hx)
def Vis (t n i0 l0 i l : Nat) : Prop := t ≤ i ∧ t ≤ l ∧ l < n ∧ (i < i0 ∨ (i = i0 ∧ l < l0))
def Bst (X : Mx) (t n i0 l0 : Nat) : Option (Int × Int × Int) → Prop
  | none => ∀ i l, Vis t n i0 l0 i l → X i l = 0
  | some q => ∃ k j : Nat, q = (((X k j).natAbs : Int), (k : Int), (j : Int)) ∧ Vis t n i0 l0 k j ∧ X k j ≠ 0 ∧ (∀ i l, Vis t n i0 l0 i l → X i l ≠ 0 → (X k j).natAbs ≤ (X i l).natAbs) ∧ (Vis t n i0 l0 t t → X t t ≠ 0 → (X t t).natAbs ≤ (X k j).natAbs → k = t ∧ j = t)
theorem vis_succ {t n i0 l0 i l : Nat} (h : Vis t n i0 (l0 + 1) i l) : Vis t n i0 l0 i l ∨ (i = i0 ∧ l = l0) := by
  obtain ⟨h1, h2, h3, h4⟩ := h
  by_cases q : i = i0 ∧ l = l0
  · exact .inr q
  · exact .inl ⟨h1, h2, h3, by omega⟩
theorem vis_up {t n i0 l0 i l : Nat} (h : Vis t n i0 l0 i l) : Vis t n i0 (l0 + 1) i l := ⟨h.1, h.2.1, h.2.2.1, by have := h.2.2.2; omega⟩
theorem bst_skip {X : Mx} {t n i0 l0 : Nat} {b : Option (Int × Int × Int)} (h : Bst X t n i0 l0 b) (hz : X i0 l0 = 0) : Bst X t n i0 (l0 + 1) b := by
  cases b with
  | none =>
    intro i l hv
    rcases vis_succ hv with q | ⟨rfl, rfl⟩
    · exact h i l q
    · exact hz
  | some q =>
    obtain ⟨k, j, e, h1, h2, h3, h4⟩ := h
    refine ⟨k, j, e, vis_up h1, h2, fun i l hv hn => ?_, fun hv hn hle => ?_⟩
    · rcases vis_succ hv with q | ⟨rfl, rfl⟩
      · exact h3 i l q hn
      · exact absurd hz hn
    · rcases vis_succ hv with q | ⟨rfl, rfl⟩
      · exact h4 q hn hle
      · exact absurd hz hn
theorem bst_first {X : Mx} {t n i0 l0 : Nat} (h : Bst X t n i0 l0 none) (hz : X i0 l0 ≠ 0) (h1 : t ≤ i0) (h2 : t ≤ l0) (h3 : l0 < n) : Bst X t n i0 (l0 + 1) (some (((X i0 l0).natAbs : Int), (i0 : Int), (l0 : Int))) := by
  refine ⟨i0, l0, rfl, ⟨h1, h2, h3, by omega⟩, hz, fun i l hv hn => ?_, fun hv hn hle => ?_⟩
  · rcases vis_succ hv with q | ⟨rfl, rfl⟩
    · exact absurd (h i l q) hn
    · exact Nat.le_refl _
  · rcases vis_succ hv with q | ⟨e1, e2⟩
    · exact absurd (h t t q) hn
    · exact ⟨e1.symm, e2.symm⟩
theorem bst_next {X : Mx} {t n i0 l0 : Nat} {q : Int × Int × Int} (h : Bst X t n i0 l0 (some q)) (hz : X i0 l0 ≠ 0) (h1 : t ≤ i0) (h2 : t ≤ l0) (h3 : l0 < n) (hlt : ((X i0 l0).natAbs : Int) < q.1) : Bst X t n i0 (l0 + 1) (some (((X i0 l0).natAbs : Int), (i0 : Int), (l0 : Int))) := by
  obtain ⟨k, j, e, g1, g2, g3, g4⟩ := h
  subst e
  have hlt' : (X i0 l0).natAbs < (X k j).natAbs := by
    have : ((X i0 l0).natAbs : Int) < ((X k j).natAbs : Int) := hlt
    omega
  refine ⟨i0, l0, rfl, ⟨h1, h2, h3, by omega⟩, hz, fun i l hv hn => ?_, fun hv hn hle => ?_⟩
  · rcases vis_succ hv with q | ⟨rfl, rfl⟩
    · have := g3 i l q hn
      omega
    · exact Nat.le_refl _
  · rcases vis_succ hv with q | ⟨e1, e2⟩
    · have := g3 t t q hn
      omega
    · exact ⟨e1.symm, e2.symm⟩
theorem bst_keep {X : Mx} {t n i0 l0 : Nat} {q : Int × Int × Int} (h : Bst X t n i0 l0 (some q)) (h1 : t ≤ i0) (h2 : t ≤ l0) (hlt : ¬ ((X i0 l0).natAbs : Int) < q.1) : Bst X t n i0 (l0 + 1) (some q) := by
  obtain ⟨k, j, e, g1, g2, g3, g4⟩ := h
  subst e
  have hlt' : ¬ (X i0 l0).natAbs < (X k j).natAbs := fun z => hlt (by show ((X i0 l0).natAbs : Int) < ((X k j).natAbs : Int); omega)
  refine ⟨k, j, rfl, vis_up g1, g2, fun i l hv hn => ?_, fun hv hn hle => ?_⟩
  · rcases vis_succ hv with q | ⟨rfl, rfl⟩
    · exact g3 i l q hn
    · omega
  · rcases vis_succ hv with q | ⟨e1, e2⟩
    · exact g4 q hn hle
    · obtain ⟨a1, a2, a3, a4⟩ := g1
      omega
theorem scan_one {s : TRs} {m n t i l : Nat} {b : Option (Int × Int × Int)} (hs : Shp s m n) (hi : i < m) (hl : l < n) (ti : t ≤ i) (tl : t ≤ l) (h : Bst (ent s.w) t n i l b) : Ok (m_Turning_bring_least_l2 s (i : Int) b (l : Int)) (Bst (ent s.w) t n i (l + 1)) := by
  unfold m_Turning_bring_least_l2
  refine Ok.bndE (x := ((ent s.w i l).natAbs : Int)) (Ok.bndE (ok_cell (by rw [hs.lw]; exact hi) hs.ww hl mem_w) Ok.eq) ?_
  by_cases hz : ent s.w i l = 0
  · refine Ok.bndE (x := false) (Ok.bndE (x := false) (Ok.ret (by simp [hz])) ?_) ?_
    · exact Ok.eq
    · exact Ok.bndE Ok.eq (Ok.ret (bst_skip h hz))
  · have hd : (!decide (((ent s.w i l).natAbs : Int) = 0)) = true := by
      simp
      omega
    rw [hd]
    cases b with
    | none =>
      refine Ok.bndE (x := true) (Ok.bndE Ok.eq Ok.eq) ?_
      exact Ok.bndE Ok.eq (Ok.ret (bst_first h hz ti tl hl))
    | some q =>
      by_cases hlt : ((ent s.w i l).natAbs : Int) < q.1
      · refine Ok.bndE (x := true) (show Ok (ret (decide (((ent s.w i l).natAbs : Int) < q.1))) _ from Ok.ret (decide_eq_true hlt)) ?_
        exact Ok.bndE Ok.eq (Ok.ret (bst_next h hz ti tl hl hlt))
      · refine Ok.bndE (x := false) (show Ok (ret (decide (((ent s.w i l).natAbs : Int) < q.1))) _ from Ok.ret (decide_eq_false hlt)) ?_
        exact Ok.bndE Ok.eq (Ok.ret (bst_keep h ti tl hlt))
theorem scan_row {s : TRs} {m n t i : Nat} {b : Option (Int × Int × Int)} (hs : Shp s m n) (hi : i < m) (tn : t ≤ n) (hn : n ≤ 1000) (ti : t ≤ i) (h : Bst (ent s.w) t n i t b) : Ok (m_Turning_bring_least_l1 (n : Int) s (t : Int) b (i : Int)) (Bst (ent s.w) t n (i + 1) t) := by
  unfold m_Turning_bring_least_l1
  refine Ok.bndE (Ok.rng2 tn (by omega)) ?_
  refine Ok.bnd (J := Bst (ent s.w) t n i n) ?_ ?_
  · refine Ok.forW (fun c b => Bst (ent s.w) t n i (t + c) b) h ?_ ?_
    · intro c hc b hb
      rw [List.length_map, List.length_range] at hc
      rw [List.getElem_map, List.getElem_range]
      exact scan_one hs hi (by omega) ti (by omega) hb
    · intro b hb
      rw [List.length_map, List.length_range, show t + (n - t) = n by omega] at hb
      exact hb
  · intro b hb
    refine Ok.ret ?_
    have hv : ∀ i' l, Vis t n (i + 1) t i' l ↔ Vis t n i n i' l := fun i' l => by
      unfold Vis
      omega
    cases b with
    | none => exact fun i' l h => hb i' l ((hv i' l).mp h)
    | some q =>
      obtain ⟨k, j, e, g1, g2, g3, g4⟩ := hb
      exact ⟨k, j, e, (hv _ _).mpr g1, g2, fun i' l h => g3 i' l ((hv i' l).mp h), fun h => g4 ((hv _ _).mp h)⟩
theorem bst_start (X : Mx) (t n : Nat) : Bst X t n t t none := fun i l h => by
  obtain ⟨h1, h2, h3, h4⟩ := h
  omega
theorem ent_swp {M Z : List Rw2} {t k : Nat} (h : ∀ i, row Z i = row M (sw t k i)) (i l : Nat) : ent Z i l = ent M (sw t k i) l := by
  unfold ent
  rw [h]
theorem ent_cs {M : List Rw2} {n t j : Nat} (hw : Wr n M) (ht : t < n) (hj : j < n) (i l : Nat) : ent (allG (cs t j) M) i l = ent M i (sw t j l) := by
  by_cases q : i < M.length
  · unfold ent
    rw [row_allG q]
    have : (row M i).length = n := by
      rw [row_of (List.getElem?_eq_getElem q)]
      exact hw _ (List.getElem_mem q)
    exact cs_vc (by omega) (by omega)
  · rw [ent_out (by rw [List.length_map]; omega), ent_out (by omega)]
theorem bring_ok {s : TRs} {m n t e : Nat} (hs : Shp s m n) (hb : Big s e) (tm : t ≤ m) (tn : t ≤ n) (hm : m ≤ 1000) (hn : n ≤ 1000) :
    Ok (m_Turning_bring_least (n : Int) s (t : Int)) fun y => if y.1 = true then Brg t (ent s.w) (ent y.2.w) ∧ Shp y.2 m n ∧ Big y.2 e ∧ t < m ∧ t < n else y.2 = s := by
  unfold m_Turning_bring_least
  refine Ok.bndE Ok.eq ?_
  rw [hs.lw]
  refine Ok.bndE (Ok.rng2 tm (by omega)) ?_
  refine Ok.bnd (J := Bst (ent s.w) t n m t) ?_ ?_
  · refine Ok.forW (fun c b => Bst (ent s.w) t n (t + c) t b) (bst_start _ t n) ?_ ?_
    · intro c hc b hb
      rw [List.length_map, List.length_range] at hc
      rw [List.getElem_map, List.getElem_range]
      exact scan_row hs (by omega) tn hn (by omega) hb
    · intro b hb
      rw [List.length_map, List.length_range, show t + (m - t) = m by omega] at hb
      exact hb
  · intro b hB
    cases b with
    | none =>
      refine Ok.bndE (x := true) Ok.eq ?_
      exact Ok.bndE Ok.eq (Ok.ret rfl)
    | some q =>
      refine Ok.bndE (x := false) Ok.eq ?_
      refine Ok.ite (fun h => absurd h (by decide)) fun _ => ?_
      refine Ok.bndE (x := q) Ok.eq ?_
      obtain ⟨k, j, rfl, ⟨g1, g2, g3, g4⟩, hne, hmin, htt⟩ := hB
      have hk : k < m := by omega
      obtain ⟨lw, ll, lr, ww, wl, wr⟩ := hs
      refine Ok.bndE Ok.eq ?_
      have hrw := swp_ok (M := s.w) (k := k) (t := t) (by omega) (by omega)
      have hrl := swp_ok (M := s.l) (k := k) (t := t) (by omega) (by omega)
      refine Ok.bnd (J := fun s' => ∃ Z L, s' = (⟨Z, L, s.r⟩ : TRs) ∧ (Z.Perm s.w ∧ Z.length = s.w.length ∧ ∀ i, row Z i = row s.w (sw t k i)) ∧ L.Perm s.l ∧ L.length = s.l.length) ?_ ?_
      · show Ok (bnd (bnd (swpW s.w k t) fun zs => ret ({ s with w := zs } : TRs)) fun s' => bnd (bnd (swpW s'.l k t) fun zs => ret ({ s' with l := zs } : TRs)) fun s'' => ret s'') _
        refine Ok.bnd (J := fun s' => ∃ Z, s' = ({ s with w := Z } : TRs) ∧ (Z.Perm s.w ∧ Z.length = s.w.length ∧ ∀ i, row Z i = row s.w (sw t k i))) (Ok.bnd hrw fun Z hZ => Ok.ret ⟨Z, rfl, hZ⟩) ?_
        rintro _ ⟨Z, rfl, hZ⟩
        refine Ok.bnd (J := fun s' => ∃ L, s' = (⟨Z, L, s.r⟩ : TRs) ∧ L.Perm s.l ∧ L.length = s.l.length) (Ok.bnd hrl fun L hL => Ok.ret ⟨L, rfl, hL.1, hL.2.1⟩) ?_
        rintro _ ⟨L, rfl, hL⟩
        exact Ok.ret ⟨Z, L, rfl, hZ, hL⟩
      · rintro _ ⟨Z, L, rfl, ⟨hZ1, hZ2, hZ3⟩, hL1, hL2⟩
        have wZ := ww.perm hZ1
        refine Ok.bndE (Ok.chk (show Z.length + s.r.length ≤ sizeLine by rw [PySem.sizeLine_eq]; omega) Ok.eq) ?_
        have hg : ∀ p ∈ Z ++ s.r, p.2.length = n := fun p hp => by
          rcases List.mem_append.mp hp with q | q
          · exact wZ p q
          · exact wr p q
        refine Ok.bndE (all_rows (s0 := ⟨Z, L, s.r⟩) (g := cs t j) (op := fun p => bnd (idx p.2 (j : Int)) fun u => bnd (idx p.2 (t : Int)) fun v => bnd (ret (t : Int)) fun k1 => bnd (putL p.2 k1 u) fun ys => bnd (ret (j : Int)) fun k2 => putL ys k2 v) (fun p hp => ok_cs (by rw [hg p hp]; omega) (by rw [hg p hp]; omega)) (fun s i => rfl)) ?_
        refine Ok.bndE Ok.eq (Ok.ret ?_)
        show if true = true then _ else _
        rw [if_pos rfl]
        refine ⟨⟨k, j, g1, g2, hne, fun i l hi hl hn0 => ?_, fun h0 hle => ?_, fun i l => ?_⟩, ⟨?_, by rw [hL2]; exact ll, ?_, wZ.allG fun r hr => by rw [cs_len]; exact hr, wl.perm hL1, wr.allG fun r hr => by rw [cs_len]; exact hr⟩, ⟨Bg.allG wZ (hb.w.perm hZ1) fun r _ h => cs_bd h, hb.l.perm hL1, Bg.allG wr hb.r fun r _ h => cs_bd h⟩, by omega, by omega⟩
        · have z1 : i < m := Nat.not_le.mp fun q => hn0 (ent_out (by omega))
          have z2 : l < n := Nat.not_le.mp fun q => hn0 (ent_wide ww q)
          exact hmin i l ⟨hi, hl, z2, .inl z1⟩ hn0
        · exact htt ⟨Nat.le_refl _, Nat.le_refl _, by omega, .inl (by omega)⟩ h0 hle
        · show ent (allG (cs t j) Z) i l = _
          rw [ent_cs wZ (by omega) g3, ent_swp hZ3]
        · show (allG (cs t j) Z).length = m
          rw [List.length_map]
          omega
        · show (allG (cs t j) s.r).length = n
          rw [List.length_map]
          omega
end K10
namespace K10
open Mi
open PySem L2 Evl
theorem quo_bd {x p : Int} (hp : p ≠ 0) (hx : x.natAbs < 2 ^ 626) (hq : p.natAbs < 2 ^ 626) : (x.fdiv p).natAbs < 2 ^ 627 := by
  have := fdiv_abs (a := x) hp
  have e : (2 : Nat) ^ 627 = 2 ^ 626 + 2 ^ 626 := by decide +kernel
  omega
theorem div_ok {x p : Int} (hp : p ≠ 0) (hq : p.natAbs < 2 ^ 626) : Ok (divI x p) (· = x.fdiv p) := Ok.div hp (Nat.lt_of_lt_of_le hq (Nat.pow_le_pow_right (by decide) (by decide)))
section
variable {s : TRs} {m n t e : Nat} (hs : Shp s m n) (hb : Big s e) (tm : t < m) (tn : t < n) (hm : m ≤ 3) (hn : n ≤ 3) (hp : ent s.w t t ≠ 0) (hB : Bd t 626 (ent s.w)) (he : e ≤ 33550000)
include hs hb tm tn hm hn hp hB he
def JR (X : Mx) (t m n e c : Nat) (st : Bool × TRs) : Prop := Shp st.2 m n ∧ Big st.2 (e + c * 700) ∧ (∀ i l, ent st.2.w i l = if t < i ∧ i < t + 1 + c then crR t X i l else X i l) ∧ (st.1 = true ↔ ∀ i, t < i → i < t + 1 + c → crR t X i t = 0)
theorem row_step {c : Nat} {st : Bool × TRs} (h : JR (ent s.w) t m n e c st) (hc : t + 1 + c < m) : Ok (m_Turning_clear_cross_l1 (t : Int) (ent s.w t t) st ((t + 1 + c : Nat) : Int)) (JR (ent s.w) t m n e (c + 1)) := by
  obtain ⟨h1, h2, h3, h4⟩ := h
  unfold m_Turning_clear_cross_l1
  have hk : ent st.2.w (t + 1 + c) t = ent s.w (t + 1 + c) t := by
    rw [h3, if_neg (by omega)]
  have ht : ∀ l, ent st.2.w t l = ent s.w t l := fun l => by
    rw [h3, if_neg (by omega)]
  have hq := quo_bd (x := ent s.w (t + 1 + c) t) hp (hB _ _ (by omega) (by omega)) (hB _ _ (Nat.le_refl _) (Nat.le_refl _))
  refine Ok.bnd (J := fun y => Shp y.2 m n ∧ Big y.2 (e + (c + 1) * 700) ∧ ∀ i l, ent y.2.w i l = if t < i ∧ i < t + 1 + (c + 1) then crR t (ent s.w) i l else ent s.w i l) ?_ ?_
  · refine Ok.bndE (x := -(ent s.w (t + 1 + c) t).fdiv (ent s.w t t)) (Ok.bndE (x := (ent s.w (t + 1 + c) t).fdiv (ent s.w t t)) (Ok.bndE (x := ent s.w (t + 1 + c) t) (by rw [← hk]; exact ok_cell (by rw [h1.lw]; omega) h1.ww tn mem_w) (div_ok hp (hB _ _ (Nat.le_refl _) (Nat.le_refl _)))) Ok.eq) ?_
    refine Ok.noX ((add_ok (c := 627) h1 h2 hc tm (by rw [Int.natAbs_neg]; exact hq) (by omega)).mono fun y ⟨g1, g2, g3⟩ => ⟨g1, g2.mono (by omega), fun i l => ?_⟩)
    rw [g3]
    by_cases q : i = t + 1 + c
    · subst q
      rw [if_pos rfl, if_pos (by omega), ht, h3, if_neg (by omega)]
      unfold crR
      rw [if_pos (by omega), Int.neg_mul]
      omega
    · rw [if_neg q, h3]
      by_cases z : t < i ∧ i < t + 1 + c
      · rw [if_pos z, if_pos (by omega)]
      · rw [if_neg z, if_neg (by omega)]
  · intro y ⟨g1, g2, g3⟩
    have hcell : ent y.2.w (t + 1 + c) t = crR t (ent s.w) (t + 1 + c) t := by
      rw [g3, if_pos (by omega)]
    refine Ok.bnd (J := fun b => b = true ↔ ∀ i, t < i → i < t + 1 + (c + 1) → crR t (ent s.w) i t = 0) ?_ fun b hb' => Ok.ret ⟨g1, g2, g3, hb'⟩
    refine Ok.bndE Ok.eq ?_
    refine Ok.ite (fun q => ?_) fun q => Ok.ret ?_
    · refine Ok.bndE (x := crR t (ent s.w) (t + 1 + c) t) (by rw [← hcell]; exact ok_cell (by rw [g1.lw]; omega) g1.ww tn mem_w) (Ok.ret ?_)
      rw [decide_eq_true_iff]
      have h5 := h4.mp q
      constructor
      · intro z i hi hi2
        by_cases w : i = t + 1 + c
        · rw [w]
          exact z
        · exact h5 i hi (by omega)
      · intro z
        exact z _ (by omega) (by omega)
    · constructor
      · intro z
        exact absurd z (by decide)
      · intro z
        exact absurd (h4.mpr fun i hi hi2 => z i hi (by omega)) q
def gc (t j : Nat) (q : Int) (r : List Int) : List Int := r.set j (vc r j - q * vc r t)
def JC (X : Mx) (t m n e c : Nat) (st : Bool × TRs) : Prop := Shp st.2 m n ∧ Big st.2 (e + c * 700) ∧ (∀ i l, ent st.2.w i l = if t < l ∧ l < t + 1 + c then crs t X i l else crR t X i l) ∧ (st.1 = true ↔ (∀ i, t < i → crR t X i t = 0) ∧ ∀ l, t < l → l < t + 1 + c → crs t X t l = 0)
omit hs hb tm tn hm hn hp hB he in
theorem gc_len {t j : Nat} {q : Int} {r : List Int} : (gc t j q r).length = r.length := List.length_set ..
omit hs hb tm tn hm hn hp hB he in
theorem gc_bd {t j e : Nat} {q : Int} {r : List Int} (hq : q.natAbs < 2 ^ 627) (h : ∀ x ∈ r, x.natAbs < 2 ^ e) : ∀ x ∈ gc t j q r, x.natAbs < 2 ^ (e + 700) := fun x hx => by
  have hv : ∀ l, (vc r l).natAbs < 2 ^ e := fun l => by
    by_cases z : l < r.length
    · exact h _ (List.mem_of_getElem? (vc_in z))
    · rw [vc_out (by omega)]
      exact Nat.two_pow_pos e
  rcases List.mem_or_eq_of_mem_set hx with z | z
  · exact Nat.lt_of_lt_of_le (h x z) (Nat.pow_le_pow_right (by decide) (by omega))
  · rw [z]
    have a1 := hv j
    have a2 := hv t
    have a3 : (q * vc r t).natAbs ≤ 2 ^ 627 * 2 ^ e := by
      rw [Int.natAbs_mul]
      exact Nat.mul_le_mul (Nat.le_of_lt hq) (Nat.le_of_lt a2)
    have a4 : 2 ^ (e + 700) = 2 ^ 700 * 2 ^ e := by rw [Nat.pow_add, Nat.mul_comm]
    have a5 : (2 ^ 627 + 1) * 2 ^ e ≤ 2 ^ 700 * 2 ^ e := Nat.mul_le_mul_right _ (by decide +kernel)
    rw [Nat.add_mul] at a5
    omega
omit hs hb tm tn hm hn hp hB he in
theorem ok_gc {p : Rw2} {t j e : Nat} {q : Int} (ht : t < p.2.length) (hj : j < p.2.length) (hq : q.natAbs < 2 ^ 627) (h : ∀ x ∈ p.2, x.natAbs < 2 ^ e) (he : e + 627 ≤ 33554432) :
    Ok (bnd (bnd (idx p.2 (j : Int)) fun a => bnd (bnd (idx p.2 (t : Int)) fun b => mulI q b) fun b => ret (a - b)) fun v => bnd (ret (j : Int)) fun k1 => putL p.2 k1 v) (· = gc t j q p.2) := by
  have hv := h _ (List.mem_of_getElem? (vc_in ht))
  refine Ok.bndE (Ok.bndE (Ok.idxN (vc_in hj)) (Ok.bndE (Ok.bndE (Ok.idxN (vc_in ht)) (ok_mul (m := e + 627) (Nat.lt_of_lt_of_le hq (Nat.pow_le_pow_right (by decide) (by omega))) (Nat.lt_of_lt_of_le hv (Nat.pow_le_pow_right (by decide) (by omega))) he)) Ok.eq)) ?_
  exact Ok.bndE Ok.eq (ok_put hj)
omit hs hb tm tn hm hn hp hB he in
theorem ent_gc {M : List Rw2} {n t j : Nat} {q : Int} (hw : Wr n M) (hj : j < n) (i l : Nat) : ent (allG (gc t j q) M) i l = if l = j then ent M i j - q * ent M i t else ent M i l := by
  by_cases z : i < M.length
  · unfold ent
    rw [row_allG z]
    have : (row M i).length = n := by
      rw [row_of (List.getElem?_eq_getElem z)]
      exact hw _ (List.getElem_mem z)
    unfold gc
    rw [vc_set (by omega)]
  · rw [ent_out (by rw [List.length_map]; omega), ent_out (by omega), ent_out (by omega), ent_out (by omega)]
    simp
theorem col_step {c e1 : Nat} {st : Bool × TRs} (h : JC (ent s.w) t m n e1 c st) (hc : t + 1 + c < n) (he1 : e1 + c * 700 + 627 ≤ 33554432) : Ok (m_Turning_clear_cross_l2 (t : Int) (ent s.w t t) st ((t + 1 + c : Nat) : Int)) (JC (ent s.w) t m n e1 (c + 1)) := by
  obtain ⟨h1, h2, h3, h4⟩ := h
  unfold m_Turning_clear_cross_l2
  have eR : ∀ l, crR t (ent s.w) t l = ent s.w t l := fun l => by
    unfold crR
    rw [if_neg (by omega)]
  have hj : ent st.2.w t (t + 1 + c) = ent s.w t (t + 1 + c) := by
    rw [h3, if_neg (by omega), eR]
  have hpB := hB t t (Nat.le_refl _) (Nat.le_refl _)
  have hq := quo_bd (x := ent s.w t (t + 1 + c)) hp (hB _ _ (by omega) (by omega)) hpB
  refine Ok.bndE (x := (ent s.w t (t + 1 + c)).fdiv (ent s.w t t)) (Ok.bndE (x := ent s.w t (t + 1 + c)) (by rw [← hj]; exact ok_cell (by rw [h1.lw]; omega) h1.ww hc mem_w) (div_ok hp hpB)) ?_
  refine Ok.bndE (Ok.chk (show st.2.w.length + st.2.r.length ≤ sizeLine by rw [PySem.sizeLine_eq, h1.lw, h1.lr]; omega) Ok.eq) ?_
  have hg : ∀ p ∈ st.2.w ++ st.2.r, p.2.length = n ∧ ∀ x ∈ p.2, x.natAbs < 2 ^ (e1 + c * 700) := fun p hp => by
    rcases List.mem_append.mp hp with q | q
    · exact ⟨h1.ww p q, h2.w p q⟩
    · exact ⟨h1.wr p q, h2.r p q⟩
  refine Ok.bndE (all_rows (s0 := st.2) (g := gc t (t + 1 + c) ((ent s.w t (t + 1 + c)).fdiv (ent s.w t t))) (op := fun p => bnd (bnd (idx p.2 ((t + 1 + c : Nat) : Int)) fun a => bnd (bnd (idx p.2 (t : Int)) fun b => mulI ((ent s.w t (t + 1 + c)).fdiv (ent s.w t t)) b) fun b => ret (a - b)) fun v => bnd (ret ((t + 1 + c : Nat) : Int)) fun k1 => putL p.2 k1 v) (fun p hp => ok_gc (by rw [(hg p hp).1]; omega) (by rw [(hg p hp).1]; omega) hq (hg p hp).2 he1) (fun s i => rfl)) ?_
  have g3 : ∀ i l, ent (allG (gc t (t + 1 + c) ((ent s.w t (t + 1 + c)).fdiv (ent s.w t t))) st.2.w) i l = if t < l ∧ l < t + 1 + (c + 1) then crs t (ent s.w) i l else crR t (ent s.w) i l := fun i l => by
    rw [ent_gc h1.ww hc]
    by_cases q : l = t + 1 + c
    · subst q
      rw [if_pos rfl, if_pos (by omega), h3, if_neg (by omega), h3, if_neg (by omega)]
      unfold crs
      rw [if_pos (by omega), eR]
    · rw [if_neg q, h3]
      by_cases z : t < l ∧ l < t + 1 + c
      · rw [if_pos z, if_pos (by omega)]
      · rw [if_neg z, if_neg (by omega)]
  have gs : Shp (⟨allG (gc t (t + 1 + c) ((ent s.w t (t + 1 + c)).fdiv (ent s.w t t))) st.2.w, st.2.l, allG (gc t (t + 1 + c) ((ent s.w t (t + 1 + c)).fdiv (ent s.w t t))) st.2.r⟩ : TRs) m n :=
    ⟨by rw [List.length_map]; exact h1.lw, h1.ll, by rw [List.length_map]; exact h1.lr, h1.ww.allG fun r hr => by rw [gc_len]; exact hr, h1.wl, h1.wr.allG fun r hr => by rw [gc_len]; exact hr⟩
  have gb : Big (⟨allG (gc t (t + 1 + c) ((ent s.w t (t + 1 + c)).fdiv (ent s.w t t))) st.2.w, st.2.l, allG (gc t (t + 1 + c) ((ent s.w t (t + 1 + c)).fdiv (ent s.w t t))) st.2.r⟩ : TRs) (e1 + c * 700 + 700) :=
    ⟨Bg.allG h1.ww h2.w fun r _ h => gc_bd hq h, h2.l.mono (by omega), Bg.allG h1.wr h2.r fun r _ h => gc_bd hq h⟩
  have hcell : ent (allG (gc t (t + 1 + c) ((ent s.w t (t + 1 + c)).fdiv (ent s.w t t))) st.2.w) t (t + 1 + c) = crs t (ent s.w) t (t + 1 + c) := by
    rw [g3, if_pos (by omega)]
  refine Ok.bnd (J := fun b => b = true ↔ (∀ i, t < i → crR t (ent s.w) i t = 0) ∧ ∀ l, t < l → l < t + 1 + (c + 1) → crs t (ent s.w) t l = 0) ?_ fun b hb' => Ok.ret ⟨gs, gb.mono (by omega), g3, hb'⟩
  refine Ok.bndE Ok.eq ?_
  refine Ok.ite (fun q => ?_) fun q => Ok.ret ?_
  · refine Ok.bndE (x := crs t (ent s.w) t (t + 1 + c)) (by rw [← hcell]; exact ok_cell (by rw [gs.lw]; omega) gs.ww hc (mem_w (s := ⟨_, st.2.l, _⟩))) (Ok.ret ?_)
    rw [decide_eq_true_iff]
    obtain ⟨h5, h6⟩ := h4.mp q
    constructor
    · intro z
      refine ⟨h5, fun l hl hl2 => ?_⟩
      by_cases w : l = t + 1 + c
      · rw [w]
        exact z
      · exact h6 l hl (by omega)
    · intro z
      exact z.2 _ (by omega) (by omega)
  · constructor
    · intro z
      exact absurd z (by decide)
    · intro z
      exact absurd (h4.mpr ⟨z.1, fun l hl hl2 => z.2 l hl (by omega)⟩) q
theorem cross_ok : Ok (m_Turning_clear_cross (n : Int) s (t : Int)) fun y => Shp y.2 m n ∧ Big y.2 (e + 2800) ∧ ent y.2.w = crs t (ent s.w) ∧ (y.1 = true ↔ (∀ i, t < i → crs t (ent s.w) i t = 0) ∧ ∀ l, t < l → crs t (ent s.w) t l = 0) := by
  have hS := sup_ent hs.ww (by rw [hs.lw]; exact hm) hn
  unfold m_Turning_clear_cross
  refine Ok.bndE (ok_cell (by rw [hs.lw]; exact tm) hs.ww tn mem_w) ?_
  refine Ok.bndE Ok.eq ?_
  rw [hs.lw, show ((t : Int) + 1) = ((t + 1 : Nat) : Int) from rfl]
  refine Ok.bndE (Ok.rng2 (by omega) (by omega)) ?_
  refine Ok.bnd (J := JC (ent s.w) t m n (e + 1400) 0) ?_ ?_
  · refine Ok.forW (fun c st => JR (ent s.w) t m n e c st) ?_ ?_ ?_
    · refine ⟨hs, hb.mono (by omega), fun i l => ?_, ?_⟩
      · rw [if_neg (by omega)]
      · constructor
        · intro _ i h1 h2
          omega
        · intro _
          rfl
    · intro c hc st h
      rw [List.length_map, List.length_range] at hc
      rw [List.getElem_map, List.getElem_range]
      exact row_step hs hb tm tn hm hn hp hB he h (by omega)
    · intro st h
      rw [List.length_map, List.length_range] at h
      obtain ⟨h1, h2, h3, h4⟩ := h
      have hR : ∀ i, m ≤ i → ∀ l, crR t (ent s.w) i l = 0 := fun i hi l => by
        unfold crR
        rw [if_pos (by omega), ent_out (by rw [hs.lw]; exact hi), ent_out (by rw [hs.lw]; exact hi), Int.zero_fdiv]
        simp
      refine ⟨h1, h2.mono ?_, fun i l => ?_, ?_⟩
      · have : (m - (t + 1)) * 700 ≤ 2 * 700 := Nat.mul_le_mul_right _ (by omega)
        omega
      · rw [if_neg (by omega), h3]
        by_cases q : t < i ∧ i < t + 1 + (m - (t + 1))
        · rw [if_pos q]
        · rw [if_neg q]
          by_cases z : t < i
          · rw [hR i (by omega) l, ent_out (by rw [hs.lw]; omega)]
          · unfold crR
            rw [if_neg z]
      · rw [h4]
        constructor
        · intro z
          refine ⟨fun i hi => ?_, fun l h1 h2 => by omega⟩
          by_cases w : i < m
          · exact z i hi (by omega)
          · exact hR i (by omega) t
        · intro z i hi _
          exact z.1 i hi
  · intro st h
    refine Ok.bndE (Ok.rng2 (by omega) (by omega)) ?_
    refine Ok.bnd (J := fun y => Shp y.2 m n ∧ Big y.2 (e + 2800) ∧ ent y.2.w = crs t (ent s.w) ∧ (y.1 = true ↔ (∀ i, t < i → crs t (ent s.w) i t = 0) ∧ ∀ l, t < l → crs t (ent s.w) t l = 0)) ?_ fun y hy => Ok.ret hy
    refine Ok.forW (fun c st => JC (ent s.w) t m n (e + 1400) c st) h ?_ ?_
    · intro c hc st h
      rw [List.length_map, List.length_range] at hc
      rw [List.getElem_map, List.getElem_range]
      exact col_step hs hb tm tn hm hn hp hB he h (by omega) (by omega)
    · intro st h
      rw [List.length_map, List.length_range] at h
      obtain ⟨h1, h2, h3, h4⟩ := h
      have hC : ∀ i l, n ≤ l → crs t (ent s.w) i l = 0 ∧ crR t (ent s.w) i l = 0 := fun i l hl => by
        have z : ∀ i, crR t (ent s.w) i l = 0 := fun i => by
          unfold crR
          rw [ent_wide hs.ww hl, ent_wide hs.ww hl]
          simp
        refine ⟨?_, z i⟩
        unfold crs
        rw [z, z, Int.zero_fdiv]
        simp
      refine ⟨h1, h2.mono ?_, ?_, ?_⟩
      · have : (n - (t + 1)) * 700 ≤ 2 * 700 := Nat.mul_le_mul_right _ (by omega)
        omega
      · funext i l
        rw [h3]
        by_cases q : t < l ∧ l < t + 1 + (n - (t + 1))
        · rw [if_pos q]
        · rw [if_neg q]
          by_cases z : t < l
          · obtain ⟨z1, z2⟩ := hC i l (by omega)
            rw [z1, z2]
          · unfold crs
            rw [if_neg z]
      · rw [h4]
        have e0 : ∀ i, crs t (ent s.w) i t = crR t (ent s.w) i t := fun i => by
          unfold crs
          rw [if_neg (by omega)]
        constructor
        · intro ⟨z1, z2⟩
          refine ⟨fun i hi => by rw [e0]; exact z1 i hi, fun l hl => ?_⟩
          by_cases w : l < n
          · exact z2 l hl (by omega)
          · exact (hC t l (by omega)).1
        · intro ⟨z1, z2⟩
          exact ⟨fun i hi => by rw [← e0]; exact z1 i hi, fun l hl _ => z2 l hl⟩
end
end K10
namespace K10
open Mi
open PySem L2 Evl
theorem anyF {xs : List Nat} {f : Nat → Bool} : (xs.map f).any id = true ↔ ∃ k ∈ xs, f k = true := by
  rw [List.any_map, List.any_eq_true]
  rfl
section
variable {s : TRs} {m n t e : Nat} (hs : Shp s m n) (hb : Big s e) (tm : t < m) (tn : t < n) (hm : m ≤ 3) (hn : n ≤ 3) (hp : ent s.w t t ≠ 0) (he : e ≤ 33550000)
include hs hb tm tn hm hn hp he
theorem mix_ok : Ok (m_Turning_mix_in (n : Int) s (t : Int)) fun y => if y.1 = true then y.2 = s ∧ (∀ k j, t < k → t < j → rm (ent s.w k j) (ent s.w t t) = 0) else Shp y.2 m n ∧ Big y.2 (e + 700) ∧ ∃ k, t < k ∧ (∃ j, t < j ∧ rm (ent s.w k j) (ent s.w t t) ≠ 0) ∧ ent y.2.w = mixM t k (ent s.w) := by
  unfold m_Turning_mix_in
  refine Ok.bndE (ok_cell (by rw [hs.lw]; exact tm) hs.ww tn mem_w) ?_
  rw [hs.lw, show ((t : Int) + 1) = ((t + 1 : Nat) : Int) from rfl]
  refine Ok.bndE (Ok.rng2 (by omega) (by omega)) ?_
  refine Ok.bnd (J := fun r => match r with | .nx s' => s' = s ∧ (∀ k j, t < k → t < j → rm (ent s.w k j) (ent s.w t t) = 0) | .rt y => y.1 = false ∧ Shp y.2 m n ∧ Big y.2 (e + 700) ∧ ∃ k, t < k ∧ (∃ j, t < j ∧ rm (ent s.w k j) (ent s.w t t) ≠ 0) ∧ ent y.2.w = mixM t k (ent s.w) | _ => False) ?_ ?_
  · refine Ok.forF (fun c s' => s' = s ∧ ∀ k j, t < k → k < t + 1 + c → t < j → rm (ent s.w k j) (ent s.w t t) = 0) (fun y => y.1 = false ∧ Shp y.2 m n ∧ Big y.2 (e + 700) ∧ ∃ k, t < k ∧ (∃ j, t < j ∧ rm (ent s.w k j) (ent s.w t t) ≠ 0) ∧ ent y.2.w = mixM t k (ent s.w)) ?_ ?_ ?_ ?_
    · exact ⟨rfl, fun k j h1 h2 _ => by omega⟩
    · rintro c hc s' ⟨rfl, h⟩
      rw [List.length_map, List.length_range] at hc
      rw [List.getElem_map, List.getElem_range]
      unfold m_Turning_mix_in_l1
      rw [show ((t : Int) + 1) = ((t + 1 : Nat) : Int) from rfl]
      have hk : t + 1 + c < m := by omega
      refine Ok.bndE (x := ((List.range (n - (t + 1))).map fun k => !decide (rm (ent s'.w (t + 1 + c) (t + 1 + k)) (ent s'.w t t) = 0)).any id) ?_ ?_
      · refine Ok.bndE (Ok.rng2 (by omega) (by omega)) ?_
        refine Ok.bndE (Ok.mapR (g := fun j => !decide (rm (ent s'.w (t + 1 + c) j) (ent s'.w t t) = 0)) fun j hj => ?_) Ok.eq
        refine Ok.bndE (ok_cell (by rw [hs.lw]; exact hk) hs.ww (by omega) mem_w) ?_
        refine Ok.bndE (Ok.mod hp) ?_
        rw [← rm_fmod]
        exact Ok.eq
      refine Ok.ite (fun q => ?_) fun q => ?_
      · obtain ⟨j, hj, hne⟩ := anyF.mp q
        rw [List.mem_range] at hj
        have hne' : rm (ent s'.w (t + 1 + c) (t + 1 + j)) (ent s'.w t t) ≠ 0 := by simpa using hne
        refine Ok.bnd (Ok.noX (add_ok (c := 1) (q := 1) hs hb tm hk (by decide) (by omega))) fun y ⟨g1, g2, g3⟩ => ?_
        refine Ok.bndE Ok.eq (Ok.ret ?_)
        refine ⟨rfl, g1, g2.mono (by omega), t + 1 + c, by omega, ⟨t + 1 + j, by omega, hne'⟩, ?_⟩
        funext i l
        rw [g3]
        unfold mixM
        by_cases z : i = t
        · rw [if_pos z, if_pos z, Int.one_mul]
        · rw [if_neg z, if_neg z]
      · refine Ok.ret ⟨rfl, fun k j h1 h2 h3 => ?_⟩
        by_cases z : k = t + 1 + c
        · subst z
          by_cases w : j < n
          · refine Classical.byContradiction fun hne => q (anyF.mpr ⟨j - (t + 1), List.mem_range.mpr (by omega), ?_⟩)
            rw [show t + 1 + (j - (t + 1)) = j by omega]
            simpa using hne
          · rw [ent_wide hs.ww (by omega)]
            exact rm_zero _
        · exact h k j h1 (by omega) h3
    · rintro s' ⟨rfl, h⟩
      rw [List.length_map, List.length_range] at h
      refine ⟨rfl, fun k j h1 h2 => ?_⟩
      by_cases z : k < m
      · exact h k j h1 (by omega) h2
      · rw [ent_out (by rw [hs.lw]; omega)]
        exact rm_zero _
    · intro y h
      exact h
  · intro r hr
    cases r with
    | nx s' => exact Ok.bndE Ok.eq (Ok.ret (by rw [if_pos rfl]; exact hr))
    | rt y =>
      refine Ok.ret ?_
      obtain ⟨h1, h2⟩ := hr
      show if y.1 = true then _ else _
      rw [if_neg (by rw [h1]; decide)]
      exact h2
    | bk s' => exact False.elim hr
    | ct s' => exact False.elim hr
theorem pos_ok : Ok (m_Turning_make_positive s (t : Int)) fun y => Shp y.2 m n ∧ Big y.2 (e + 700) ∧ ∀ i l, i ≠ t → ent y.2.w i l = ent s.w i l := by
  unfold m_Turning_make_positive
  refine Ok.bndE (Ok.bndE (ok_cell (by rw [hs.lw]; exact tm) hs.ww tn mem_w) Ok.eq) ?_
  refine Ok.bnd (J := fun y => Shp y m n ∧ Big y (e + 700) ∧ ∀ i l, i ≠ t → ent y.w i l = ent s.w i l) ?_ fun y hy => Ok.ret hy
  refine Ok.ite (fun _ => ?_) fun _ => Ok.ret ⟨hs, hb.mono (by omega), fun _ _ _ => rfl⟩
  refine Ok.bnd (Ok.noX (add_ok (c := 2) (q := -2) hs hb tm tm (by decide) (by omega))) fun y ⟨g1, g2, g3⟩ => Ok.ret ⟨g1, g2.mono (by omega), fun i l h => ?_⟩
  rw [g3, if_neg h]
end
def Lv : Nat → Nat → Mx → Prop
  | 0, N, X => Lv0 N X
  | 1, N, X => Lv1 N X
  | 2, N, X => Lv2 N X
  | _, _, _ => True
theorem lv_bd {t N : Nat} {X : Mx} (ht : t < 3) (h : Lv t N X) : Bd t 626 X := by
  have : t = 0 ∨ t = 1 ∨ t = 2 := by omega
  rcases this with rfl | rfl | rfl
  · exact lv0_bd h.2.2.2.2.1
  · exact h.2.1
  · exact h.2.1
theorem lv_step {t N : Nat} {X X1 : Mx} (ht : t < 3) (h : Lv t N X) (hb : Brg t X X1) : X1 t t ≠ 0 ∧ 1 ≤ N ∧ Bd t 626 X1 ∧
    ((∃ i, t < i ∧ crs t X1 i t ≠ 0) ∨ (∃ l, t < l ∧ crs t X1 t l ≠ 0) → Lv t (N - 1) (crs t X1)) ∧
    ((∀ i, t < i → crs t X1 i t = 0) → (∀ l, t < l → crs t X1 t l = 0) → (∀ k, t < k → (∃ j, t < j ∧ rm (crs t X1 k j) (crs t X1 t t) ≠ 0) → Lv t (N - 1) (mixM t k (crs t X1))) ∧ Lv (t + 1) 1872 (crs t X1)) := by
  have hB := (lv_bd ht h).brg hb
  have : t = 0 ∨ t = 1 ∨ t = 2 := by omega
  rcases this with rfl | rfl | rfl
  · obtain ⟨h1, h2, h3, h4, h5⟩ := lv0_step h hb
    exact ⟨h1, h2, hB, h4, h5⟩
  · obtain ⟨h1, h2, h3, h4, h5⟩ := lv1_step h hb
    exact ⟨h1, h2, hB, h4, h5⟩
  · obtain ⟨h1, h2, h3, h4, h5, h6⟩ := lv2_step h hb
    refine ⟨h1, h2, hB, fun q => ?_, fun _ _ => ⟨fun k hk ⟨j, hj, hne⟩ => ?_, trivial⟩⟩
    · rcases q with ⟨i, hi, hn⟩ | ⟨l, hl, hn⟩
      · exact absurd (h4 i hi) hn
      · exact absurd (h5 l hl) hn
    · rw [h6 k j hk] at hne
      exact absurd (rm_zero _) hne
/-- a level looks at its block only -/
theorem lv_cong {t N : Nat} {X Y : Mx} (h : Lv (t + 1) N X) (hs : Sup Y) (e : ∀ i l, i ≠ t → Y i l = X i l) : Lv (t + 1) N Y := by
  have : t = 0 ∨ t = 1 ∨ 2 ≤ t := by omega
  rcases this with rfl | rfl | q
  · obtain ⟨h1, h2, h3, h4⟩ := h
    have e' : ∀ i l, 1 ≤ i → Y i l = X i l := fun i l hi => e i l (by omega)
    refine ⟨hs, fun i l hi hl => by rw [e' i l hi]; exact h2 i l hi hl, by rw [e' 1 1 (by decide), e' 2 2 (by decide), e' 1 2 (by decide), e' 2 1 (by decide)]; exact h3, ?_⟩
    rw [e' 1 1 (by decide), e' 2 2 (by decide), e' 1 2 (by decide), e' 2 1 (by decide)]
    rcases h4 with h4 | ⟨⟨i, l, hi, hl, hn⟩, h5⟩
    · exact .inl fun i l hi hl => by rw [e' i l hi]; exact h4 i l hi hl
    · exact .inr ⟨⟨i, l, hi, hl, by rw [e' i l hi]; exact hn⟩, h5⟩
  · obtain ⟨h1, h2, h3⟩ := h
    exact ⟨hs, fun i l hi hl => by rw [e i l (by omega)]; exact h2 i l hi hl, h3⟩
  · match t, q with
    | t + 2, _ => trivial
def fuel (t N : Nat) : Nat := N + (2 - t) * 1872
def Inv (m n : Nat) (F : Nat) (a : Int) (s : TRs) : Prop := ∃ t N, a = ((t : Nat) : Int) ∧ t ≤ m ∧ t ≤ n ∧ Shp s m n ∧ Lv t N (ent s.w) ∧ (t < 3 → fuel t N ≤ F) ∧ Big s (33550000 - F * 4200 - 10000)
theorem Ok.whileT {A τ : Type} {c : A → τ → W (Bool × τ)} {b : A → τ → W (A × τ)} {J : A × τ → Prop} (inv : Nat → A → τ → Prop) (step : ∀ n x s, inv n x s → Ok (c x s) fun y => if y.1 = true then 1 ≤ n ∧ Ok (b x y.2) (fun z => inv (n - 1) z.1 z.2) else J (x, y.2)) :
    ∀ {n x s}, inv n x s → Ok (Mi.whileT c b x s) J := by
  intro n x s h P E hp
  refine ⟨n + 1, ?_⟩
  have all : ∀ (n : Nat) (x : A) (s : τ), inv n x s → whileNT c b (n + 1) x s P E := by
    intro n
    induction n with
    | zero =>
      intro x s h
      refine step _ _ _ h _ _ fun y hy => ?_
      simp only [] at hy
      split at hy
      · omega
      · rename_i q
        show (if y.1 = true then _ else _ : W (A × τ)) P E
        rw [if_neg q]
        exact hp _ hy
    | succ n ih =>
      intro x s h
      refine step _ _ _ h _ _ fun y hy => ?_
      simp only [] at hy
      split at hy
      · rename_i q
        show (if y.1 = true then _ else _ : W (A × τ)) P E
        rw [if_pos q]
        exact hy.2 _ _ fun z hz => ih z.1 z.2 hz
      · rename_i q
        show (if y.1 = true then _ else _ : W (A × τ)) P E
        rw [if_neg q]
        exact hp _ hy
  exact all n x s h
theorem turn_loop {m n : Nat} (hm : m ≤ 3) (hn : n ≤ 3) {F : Nat} (hF : F ≤ 7900) {a : Int} {s : TRs} (h : Inv m n F a s) : Ok (Mi.whileT (m_Turning_init_v0c (n : Int)) (m_Turning_init_v0b (n : Int)) a s) fun y => True := by
  refine Ok.whileT (fun F a s => F ≤ 7900 ∧ Inv m n F a s) ?_ (⟨hF, h⟩ : F ≤ 7900 ∧ Inv m n F a s)
  rintro F _ s ⟨hF, t, N, rfl, tm, tn, hs, hL, hf, hb⟩
  unfold m_Turning_init_v0c
  refine Ok.bnd (J := fun x => x = (decide (t < m ∧ t < n), s)) ?_ ?_
  · refine Ok.bndE (x := decide (t < m ∧ t < n)) (Ok.ret ?_) Ok.eq
    rw [hs.lw]
    refine decide_eq_decide.mpr ?_
    split <;> omega
  · rintro _ rfl
    refine Ok.ite (fun q => ?_) fun q => Ok.ret (by rw [if_neg Bool.false_ne_true]; trivial)
    have hq : t < m ∧ t < n := of_decide_eq_true q
    have ht : t < 3 := by omega
    have hf' := hf ht
    refine Ok.noX ((bring_ok hs hb (by omega) (by omega) (by omega) (by omega)).mono fun y hy => ?_)
    by_cases hy1 : y.1 = true
    · rw [if_pos hy1] at hy ⊢
      obtain ⟨hB, hs1, hb1, _, _⟩ := hy
      obtain ⟨g1, g2, g3, g4, g5⟩ := lv_step ht hL hB
      have hF1 : 1 ≤ F := by
        unfold fuel at hf'
        omega
      refine ⟨hF1, ?_⟩
      generalize y.2 = s1 at *
      unfold m_Turning_init_v0b
      have hE : 33550000 - F * 4200 - 10000 + 4200 = 33550000 - (F - 1) * 4200 - 10000 := by omega
      generalize hE0 : 33550000 - F * 4200 - 10000 = E at *
      have hE1 : E + 4200 ≤ 33540000 := by omega
      refine Ok.bnd (J := fun b => if b.1 = true then Shp b.2 m n ∧ Big b.2 (E + 2800) ∧ ent b.2.w t t ≠ 0 ∧ Lv (t + 1) 1872 (ent b.2.w) else Shp b.2 m n ∧ Big b.2 (E + 3500) ∧ Lv t (N - 1) (ent b.2.w)) ?_ ?_
      · refine Ok.bnd (Ok.noX (cross_ok hs1 hb1 hq.1 hq.2 hm hn g1 g3 (by omega))) fun x ⟨k1, k2, k3, k4⟩ => ?_
        refine Ok.ite (fun hx => ?_) fun hx => Ok.ret ?_
        · obtain ⟨c1, c2⟩ := k4.mp hx
          obtain ⟨c3, c4⟩ := g5 c1 c2
          have hp2 : ent x.2.w t t ≠ 0 := by
            rw [k3, crs_tt]
            exact g1
          refine Ok.noX ((mix_ok k1 k2 hq.1 hq.2 hm hn hp2 (by omega)).mono fun z hz => ?_)
          by_cases hz1 : z.1 = true
          · rw [if_pos hz1] at hz ⊢
            obtain ⟨z1, z2⟩ := hz
            rw [z1]
            exact ⟨k1, k2, hp2, by rw [k3]; exact c4⟩
          · rw [if_neg hz1] at hz ⊢
            obtain ⟨z1, z2, k, hk, hj, hZ⟩ := hz
            rw [k3] at hj hZ
            exact ⟨z1, z2.mono (by omega), by rw [hZ]; exact c3 k hk hj⟩
        · show if false = true then _ else _
          rw [if_neg (by decide)]
          refine ⟨k1, k2.mono (by omega), ?_⟩
          rw [k3]
          refine g4 (Classical.byContradiction fun w => hx (k4.mpr ⟨fun i hi => ?_, fun l hl => ?_⟩))
          · exact Classical.byContradiction fun z => w (.inl ⟨i, hi, z⟩)
          · exact Classical.byContradiction fun z => w (.inr ⟨l, hl, z⟩)
      · intro b hb2
        refine Ok.bnd (J := fun z => F - 1 ≤ 7900 ∧ Inv m n (F - 1) z.1 z.2) ?_ fun z hz => Ok.ret hz
        refine Ok.ite (fun hb3 => ?_) fun hb3 => Ok.ret ?_
        · rw [if_pos hb3] at hb2
          obtain ⟨b1, b2, b3, b4⟩ := hb2
          refine Ok.bnd (Ok.noX (pos_ok b1 b2 hq.1 hq.2 hm hn b3 (by omega))) fun y ⟨k1, k2, k3⟩ => ?_
          refine Ok.bndE Ok.eq (Ok.bndE Ok.eq (Ok.ret ⟨by omega, t + 1, 1872, rfl, by omega, by omega, k1, ?_, fun h3 => ?_, ?_⟩))
          · exact lv_cong b4 (sup_ent k1.ww (by rw [k1.lw]; exact hm) hn) k3
          · unfold fuel at hf' ⊢
            omega
          · rw [← hE]
            exact k2.mono (by omega)
        · rw [if_neg hb3] at hb2
          obtain ⟨b1, b2, b3⟩ := hb2
          refine ⟨by omega, t, N - 1, rfl, tm, tn, b1, b3, fun _ => ?_, ?_⟩
          · unfold fuel at hf' ⊢
            omega
          · rw [← hE]
            exact b2.mono (by omega)
    · rw [if_neg hy1]
      trivial
end K10
namespace K10
open Mi
open PySem L2 Evl
def unitL (k : Nat) : List (List Int) := (List.range k).map fun a : Nat => (List.range k).map fun b : Nat => if decide ((b : Int) = (a : Int)) = true then (1 : Int) else 0
theorem unit_ok {k : Nat} (h : k ≤ 1000) : Ok (m_unit_rows (k : Int)) (· = unitL k) := by
  unfold m_unit_rows
  refine Ok.bndE (x := unitL k) (Ok.bndE (Ok.rng1 (by omega)) ?_) Ok.eq
  refine Ok.mapR0 (g := fun a : Nat => (List.range k).map fun b : Nat => if decide ((b : Int) = (a : Int)) = true then (1 : Int) else 0) fun a ha => ?_
  refine Ok.bndE (Ok.rng1 (by omega)) ?_
  exact Ok.mapR0 (g := fun b : Nat => if decide ((b : Int) = (a : Int)) = true then (1 : Int) else 0) fun b hb => Ok.eq
theorem unit_len (k : Nat) : (unitL k).length = k := by
  unfold unitL
  rw [List.length_map, List.length_range]
theorem unit_row {k : Nat} {r : List Int} (h : r ∈ unitL k) : r.length = k ∧ ∀ x ∈ r, x.natAbs ≤ 1 := by
  obtain ⟨a, ha, rfl⟩ := List.mem_map.mp h
  refine ⟨by rw [List.length_map, List.length_range], fun x hx => ?_⟩
  obtain ⟨b, hb, rfl⟩ := List.mem_map.mp hx
  split <;> decide
theorem new_ok (xss : List (List Int)) : Ok (newM xss) fun M => M.map (·.2) = xss := fun P E hp M h => hp M h
theorem need1_ok {rows : List (List Int)} {w : Nat} (hw : Wd w rows) : Ok (m_need_rows_v1 rows) fun _ => True := need_ok hw
theorem mem_snd {M : List Rw2} {xss : List (List Int)} (h : M.map (·.2) = xss) : ∀ p ∈ M, p.2 ∈ xss := fun p hp => by
  rw [← h]
  exact List.mem_map_of_mem hp
theorem snd_len {M : List Rw2} {xss : List (List Int)} (h : M.map (·.2) = xss) : M.length = xss.length := by
  rw [← h, List.length_map]
/-- the state the loop starts with -/
theorem start_inv {rows : List (List Int)} {n : Nat} {W L R : List Rw2} (hw : Wd n rows) (hm : rows.length ≤ 3) (hn : n ≤ 3) (hb : ∀ r ∈ rows, ∀ x ∈ r, x.natAbs ≤ 36) (eW : W.map (·.2) = rows) (eL : L.map (·.2) = unitL rows.length) (eR : R.map (·.2) = unitL n) : Inv rows.length n 3817 0 ⟨W, L, R⟩ := by
  have wW : Wr n W := fun p hp => hw _ (mem_snd eW p hp)
  have wL : Wr rows.length L := fun p hp => (unit_row (mem_snd eL p hp)).1
  have wR : Wr n R := fun p hp => (unit_row (mem_snd eR p hp)).1
  have lW : W.length = rows.length := snd_len eW
  have lL : L.length = rows.length := by rw [snd_len eL, unit_len]
  have lR : R.length = n := by rw [snd_len eR, unit_len]
  have small : ∀ {M : List Rw2} {c : Nat}, (∀ p ∈ M, ∀ x ∈ p.2, x.natAbs ≤ c) → c ≤ 36 → Bg (33550000 - 3817 * 4200 - 10000) M := fun {M c} h hc => by
    have : Bg 10 M := fun p hp x hx => by
      have := h p hp x hx
      show x.natAbs < 1024
      omega
    exact this.mono (by decide)
  refine ⟨0, 73, rfl, Nat.zero_le _, Nat.zero_le _, ⟨lW, lL, lR, wW, wL, wR⟩, ?_, fun _ => by decide, ⟨small (fun p hp => hb _ (mem_snd eW p hp)) (Nat.le_refl _), small (fun p hp => (unit_row (mem_snd eL p hp)).2) (by decide), small (fun p hp => (unit_row (mem_snd eR p hp)).2) (by decide)⟩⟩
  refine lv0_start (sup_ent wW (show W.length ≤ 3 by omega) hn) fun i l => ?_
  show (vc (row W i) l).natAbs ≤ 36
  by_cases q : i < W.length
  · rw [row_of (List.getElem?_eq_getElem q)]
    by_cases z : l < W[i].2.length
    · exact hb _ (mem_snd eW _ (List.getElem_mem q)) _ (List.mem_of_getElem? (vc_in z))
    · rw [vc_out (by omega)]
      decide
  · rw [row_out (by omega)]
    exact Nat.zero_le 36
theorem wide_init {rows : List (List Int)} {n : Nat} {W : List Rw2} (hw : Wd n rows) (eW : W.map (·.2) = rows) (h0 : rows = [] → n = 0) : Ok (bnd (ret (!W.isEmpty)) fun c => if c = true then (bnd (idx W 0) fun q => chk (q ∈ W) (ret (q.2.length : Int))) else ret 0 : Mi.W Int) (· = (n : Int)) := by
  cases W with
  | nil =>
    have : rows = [] := eW.symm
    rw [h0 this]
    exact Ok.eq
  | cons q W =>
    refine Ok.bndE (x := true) Ok.eq (Ok.ite (fun _ => ?_) fun h => absurd rfl h)
    refine Ok.bndE (x := q) (Ok.idxN (n := 0) rfl) (Ok.chk List.mem_cons_self (Ok.ret ?_))
    rw [hw _ (mem_snd eW q List.mem_cons_self)]
theorem turn_ok {rows : List (List Int)} {w : Nat} (hw : Wd w rows) (hm : rows.length ≤ 3) (hn : w ≤ 3) (hb : ∀ r ∈ rows, ∀ x ∈ r, x.natAbs ≤ 36) : Ok (m_Turning_init_v1 rows) fun _ => True := by
  obtain ⟨n, hw', hn', h0⟩ : ∃ n, Wd n rows ∧ n ≤ 3 ∧ (rows = [] → n = 0) := by
    by_cases e : rows = []
    · exact ⟨0, by rw [e]; exact fun r hr => (by cases hr), by decide, fun _ => rfl⟩
    · exact ⟨w, hw, hn, fun z => absurd z e⟩
  unfold m_Turning_init_v1
  refine Ok.bnd (Ok.noX (need1_ok hw')) fun _ _ => ?_
  refine Ok.bndE (Ok.map (g := fun x => x) fun x _ => Ok.eq) (Ok.bndE (Ok.map (g := fun x => x) fun x _ => Ok.eq) ?_)
  rw [List.map_id']
  refine Ok.bnd (new_ok rows) fun W eW => ?_
  refine Ok.bndE (wide_init hw' eW h0) ?_
  rw [snd_len eW]
  refine Ok.bndE (Ok.noX (unit_ok (by omega))) (Ok.bnd (new_ok _) fun L eL => ?_)
  refine Ok.bndE (Ok.noX (unit_ok (by omega))) (Ok.bnd (new_ok _) fun R eR => ?_)
  refine Ok.bndE Ok.eq ?_
  exact Ok.bnd (turn_loop hm hn' (by decide) (start_inv hw' hm hn' hb eW eL eR)) fun y _ => Ok.bndE Ok.eq (Ok.ret trivial)
/-- two rows of no numbers -/
theorem turn_two : Ok (m_Turning_init_v0 [[], []]) fun t => t.own_left = [[1, 0], [0, 1]] ∧ t.own_right = [] := by
  have hw : Wd 0 [([] : List Int), []] := fun r hr => by
    rcases List.mem_cons.mp hr with e | hr
    · rw [e]
      rfl
    · rw [List.mem_singleton.mp hr]
      rfl
  unfold m_Turning_init_v0
  refine Ok.bnd (Ok.noX (need_ok hw)) fun _ _ => ?_
  refine Ok.bndE (Ok.map (g := fun x => x) fun x _ => Ok.eq) (Ok.bndE (Ok.map (g := fun x => x) fun x _ => Ok.eq) ?_)
  rw [List.map_id']
  refine Ok.bnd (new_ok _) fun W eW => ?_
  refine Ok.bndE (wide_init hw eW (fun h => rfl)) ?_
  rw [snd_len eW]
  refine Ok.bndE (Ok.noX (unit_ok (k := 2) (by omega))) (Ok.bnd (new_ok _) fun L eL => ?_)
  refine Ok.bndE (Ok.noX (unit_ok (k := 0) (by omega))) (Ok.bnd (new_ok _) fun R eR => ?_)
  refine Ok.bndE Ok.eq ?_
  refine Ok.bnd (J := fun y => y.2 = ⟨W, L, R⟩) (Ok.whileT (n := 0) (fun _ a s => a = 0 ∧ s = ⟨W, L, R⟩) ?_ ⟨rfl, rfl⟩) fun y hy => Ok.bndE Ok.eq (Ok.ret ?_)
  · rintro n _ _ ⟨rfl, rfl⟩
    unfold m_Turning_init_v0c
    refine Ok.bndE (x := (false, ⟨W, L, R⟩)) (Ok.bndE (x := false) (Ok.ret ?_) Ok.eq) (Ok.ret ?_)
    · have : W.length = 2 := snd_len eW
      show decide ((0 : Int) < if ((0 : Nat) : Int) < (W.length : Int) then ((0 : Nat) : Int) else (W.length : Int)) = false
      rw [this]
      decide
    · rw [if_neg Bool.false_ne_true]
  · rw [hy]
    exact ⟨eL, eR⟩
theorem rows_ok {many w : Nat} (hm : many ≤ 3) (hw : w ≤ 4) : Ok (m_law_rows (many : Int) (w : Int) 9) fun R => R.length = many ∧ Wd w R ∧ ∀ r ∈ R, ∀ x ∈ r, x.natAbs ≤ 36 := by
  unfold m_law_rows
  refine Ok.bndE (x := []) Ok.eq (Ok.bndE (Ok.rng1 (by omega)) ?_)
  refine Ok.bnd (J := fun R => R.length = many ∧ Wd w R ∧ ∀ r ∈ R, ∀ x ∈ r, x.natAbs ≤ 9 * 2 ^ (many - 1)) (Ok.forW (fun k R => R.length = k ∧ Wd w R ∧ ∀ r ∈ R, ∀ x ∈ r, x.natAbs ≤ 9 * 2 ^ (k - 1)) ⟨rfl, fun r hr => (by cases hr), fun r hr => by cases hr⟩ (fun k hk s ⟨s1, s2, s3⟩ => ?_) fun s hs => ?_) fun R ⟨h1, h2, h3⟩ => Ok.ret ⟨h1, h2, fun r hr x hx => ?_⟩
  · rw [List.length_map, List.length_range] at hk
    unfold m_law_rows_l1
    have sz : s.length < sizeLine := Nat.lt_of_lt_of_le (show s.length < 100 by omega) (by decide)
    have up : 9 * 2 ^ (k - 1) ≤ 9 * 2 ^ k := Nat.mul_le_mul_left _ (Nat.pow_le_pow_right (by decide) (by omega))
    have grow : ∀ {y : List Int}, y.length = w → (∀ x ∈ y, x.natAbs ≤ 9 * 2 ^ k) → (s ++ [y]).length = k + 1 ∧ Wd w (s ++ [y]) ∧ ∀ r ∈ s ++ [y], ∀ x ∈ r, x.natAbs ≤ 9 * 2 ^ (k + 1 - 1) := fun {y} h1 h2 => by
      refine ⟨by rw [List.length_append, s1]; rfl, fun r hr => ?_, fun r hr x hx => ?_⟩
      · rcases List.mem_append.mp hr with hr | hr
        · exact s2 r hr
        · rw [List.mem_singleton.mp hr]
          exact h1
      · rw [Nat.add_sub_cancel]
        rcases List.mem_append.mp hr with hr | hr
        · exact Nat.le_trans (s3 r hr x hx) up
        · rw [List.mem_singleton.mp hr] at hx
          exact h2 x hx
    refine Ok.bnd (Ok.noX (Ok.draw (by decide) (by decide +kernel))) fun way _ => ?_
    refine Ok.bnd (J := fun b => b = true → s ≠ []) (Ok.bndE Ok.eq (Ok.ite (fun _ => Ok.ret fun h z => by rw [z] at h; cases h) fun _ => Ok.ret fun h => by cases h)) fun b hb => ?_
    refine Ok.bnd (J := fun R => R.length = k + 1 ∧ Wd w R ∧ ∀ r ∈ R, ∀ x ∈ r, x.natAbs ≤ 9 * 2 ^ (k + 1 - 1)) (Ok.ite (fun h => ?_) fun h => ?_) fun R hR => Ok.ret hR
    · have hne := hb h
      have hl : 0 < s.length := List.length_pos_iff.mpr hne
      refine Ok.bnd (J := fun z => -2 ≤ z ∧ z ≤ 2) (Ok.bnd (Ok.noX (Ok.draw (by decide) (by decide +kernel))) fun r hr => Ok.ret (by omega)) fun by_ hby => ?_
      have e1 : ((s.length : Int) - 1) = ((s.length - 1 : Nat) : Int) := by omega
      have lm : s[s.length - 1]'(by omega) ∈ s := List.getElem_mem _
      refine Ok.bndE (x := (s[s.length - 1]'(by omega)).map fun x => x * by_) (Ok.bndE (x := s[s.length - 1]'(by omega)) (by rw [e1]; exact Ok.idxN (List.getElem?_eq_getElem (by omega))) (Ok.map fun x hx => Ok.mulR (by omega))) (Ok.chk sz (Ok.ret (grow ?_ fun x hx => ?_)))
      · rw [List.length_map]
        exact s2 _ lm
      · obtain ⟨z, hz, e⟩ := List.mem_map.mp hx
        have := s3 _ lm z hz
        have e3 : 2 ^ k = 2 ^ (k - 1) * 2 := by
          rw [← Nat.pow_succ]
          congr 1
          omega
        rw [← e, Int.natAbs_mul, e3]
        have h2 : by_.natAbs ≤ 2 := by omega
        have := Nat.mul_le_mul this h2
        omega
    · refine Ok.bnd (J := fun y => y.length = w ∧ ∀ x ∈ y, x.natAbs ≤ 9) (Ok.bndE (Ok.rng1 (by omega)) ((Ok.mapP (I := fun x : Int => x.natAbs ≤ 9) fun x _ => ?_).mono fun y hy => ⟨by rw [hy.1, List.length_map, List.length_range], hy.2⟩)) fun y hy => Ok.chk sz (Ok.ret (grow hy.1 fun x hx => ?_))
      · refine Ok.bndE (Ok.mulL (by decide)) (Ok.bnd (Ok.noX (Ok.draw (by decide) (by decide +kernel))) fun r hr => Ok.noX (Ok.any (by simp) (by simp) fun x hx => ?_))
        rcases List.mem_cons.mp hx with e | hx
        · rw [e]
          decide
        · rw [List.mem_singleton.mp hx]
          omega
      · have := hy.2 x hx
        have h1 : 1 ≤ 2 ^ k := Nat.one_le_two_pow
        have := Nat.mul_le_mul_left 9 h1
        omega
  · rw [List.length_map, List.length_range] at hs
    exact hs
  · have := h3 r hr x hx
    have big : 9 * 2 ^ (many - 1) ≤ 36 := by
      have : 2 ^ (many - 1) ≤ 2 ^ 2 := Nat.pow_le_pow_right (by decide) (by omega)
      omega
    omega
theorem numH : NumOk 36 4 20000 := by
  unfold NumOk
  decide +kernel
theorem herm_good {rows : List (List Int)} {w : Nat} (hw : Wd w rows) (hm : rows.length ≤ 3) (hn : w ≤ 4) (hb : ∀ r ∈ rows, ∀ x ∈ r, x.natAbs ≤ 36) : Ok (m_hermite_v1 rows) fun _ => True := by
  rw [v1_is]
  refine (hermite_ok (M := 36) (m := 20000) hw (fun k hk => numH k (by omega)) (by decide) (by omega) (by omega) fun r hr i => ?_).mono fun _ _ => trivial
  by_cases q : i < r.length
  · exact hb r hr _ (List.mem_of_getElem? (vc_in q))
  · rw [vc_out (by omega)]
    decide
theorem herm_two : Ok (m_hermite_v0 [[], []]) (· = []) := by
  have hw : Wd 0 [([] : List Int), []] := fun r hr => by
    rcases List.mem_cons.mp hr with e | hr
    · rw [e]
      rfl
    · rw [List.mem_singleton.mp hr]
      rfl
  unfold m_hermite_v0
  refine Ok.bnd (Ok.noX (need_ok hw)) fun _ _ => Ok.bndE (Ok.map (g := fun x => x) fun x _ => Ok.eq) ?_
  rw [List.map_id']
  refine Ok.bndE (x := []) Ok.eq (Ok.bnd (wide_ok hw) fun wd ewd => ?_)
  subst ewd
  rw [if_neg (by simp)]
  exact Ok.bndE (Ok.rng1 (n := 0) (by decide)) (Ok.ret rfl)
end K10
namespace K10
open Mi
open PySem L2 Evl
theorem cut_pre {α : Type} {xs : List α} {n : Nat} (h : n ≤ xs.length) : cutL xs none (some (n : Int)) = xs.take n := by
  have q : min n xs.length = n := by omega
  unfold cutL
  rw [HT.sIx_nat, q]
  simp [HT.sIx]
theorem cut_post {α : Type} {xs : List α} {n : Nat} (h : n ≤ xs.length) : cutL xs (some (n : Int)) none = xs.drop n := by
  have q : min n xs.length = n := by omega
  unfold cutL
  rw [HT.sIx_nat, q]
  simp [HT.sIx]
  exact List.take_of_length_le (by simp)
theorem whole1 (d : PyData) : Ok (m_is_whole_v1 d) (· = whole d) := whole_ok d
def dR (r : List Int) : PyData := .list (r.map .int)
/-- the test of one item, as the text has it -/
def tst (d : PyData) : W Bool := bnd (ret (!((tyD d == "list" || tyD d == "tuple")))) fun c8 => if c8 = true then ret true else (bnd (seqD d) fun l4 => bnd (mapW (fun (x5 : PyData) => noX (m_is_whole_v1 x5)) l4) fun ys7 => ret (!(ys7.all id)))
theorem tst_list {ds : List PyData} (h : ds.length ≤ 100) : Ok (tst (.list ds)) (· = !(ds.map whole).all id) := by
  unfold tst
  refine Ok.bndE (x := false) Ok.eq (Ok.ite (fun z => absurd z (by decide)) fun _ => ?_)
  exact Ok.bndE (x := ds) (Ok.chk (Nat.le_trans h (by decide)) Ok.eq) (Ok.bndE (Ok.map fun x _ => Ok.noX (whole1 x)) Ok.eq)
theorem tst_row {r : List Int} (h : r.length ≤ 100) : Ok (tst (dR r)) (· = false) := by
  refine (tst_list (by rw [List.length_map]; exact h)).mono fun x e => ?_
  rw [e, List.map_map, List.all_map]
  have : r.all (id ∘ (whole ∘ PyData.int)) = true := List.all_eq_true.mpr fun x _ => rfl
  rw [this]
  rfl
theorem tst_bad {ds : List PyData} {d : PyData} (h : ds.length ≤ 100) (hd : d ∈ ds) (hw : whole d = false) : Ok (tst (.list ds)) (· = true) := by
  refine (tst_list h).mono fun x e => ?_
  rw [e]
  have : (ds.map whole).all id = false := by
    rw [List.all_eq_false]
    exact ⟨_, List.mem_map_of_mem hd, by show ¬ id (whole d) = true; rw [hw]; decide⟩
  rw [this]
  rfl
def bodyW (ds : List PyData) (d : PyData) (i : Int) : W Unit := bnd (tst d) fun b10 => if b10 = true then (bnd (ret i) fun v => thr ⟨"InvalidRows", [.int v]⟩) else (bnd (bnd (lenD d) fun t11 => bnd (idx ds ((0 : Int))) fun t12 => bnd (lenD t12) fun t13 => ret (!decide (t11 = t13))) fun b14 => if b14 = true then (bnd (ret i) fun v => thr ⟨"InvalidRows", [.int v]⟩) else (ret (())))
/-- a list whose item i is the first that is wrong -/
def BadAt (w i : Nat) (d : PyData) : Prop := Ok (tst d) (· = true) ∨ (0 < i ∧ ∃ r : List Int, d = dR r ∧ r.length ≠ w ∧ r.length ≤ 100)
theorem need2_thr {ds : List PyData} {i w : Nat} (hi : i < ds.length) (hw : w ≤ 100) (hg : ∀ k (hk : k < i), ∃ r : List Int, ds[k]'(by omega) = dR r ∧ r.length = w) (hb : BadAt w i ds[i]) : Thr (m_need_rows_v2 ds) ⟨"InvalidRows", [.int (i : Int)]⟩ := by
  unfold m_need_rows_v2
  refine Thr.after (x := false) Ok.eq ?_
  show Thr (bnd (ret ((rangeI 0 ds.length).zip ds)) fun xs15 => bnd (forW (m_need_rows_v2_l1 ds) (()) xs15) fun s16 => ret ()) _
  refine Thr.retB (Thr.bnd ?_)
  have hd0 : 0 < i → ∃ r0 : List Int, ds[0]'(by omega) = dR r0 ∧ r0.length = w := fun h => hg 0 h
  have cmp : ∀ (r : List Int), 0 < i → Ok (bnd (lenD (dR r)) fun t11 => bnd (idx ds ((0 : Int))) fun t12 => bnd (lenD t12) fun t13 => ret (!decide (t11 = t13)) : W Bool) (· = !decide (r.length = w)) := fun r h => by
    obtain ⟨r0, e0, l0⟩ := hd0 h
    refine Ok.bndE (x := (r.length : Int)) (Ok.ret (by rw [List.length_map])) (Ok.bndE (x := ds[0]'(by omega)) (Ok.idxN (n := 0) (List.getElem?_eq_getElem (by omega))) ?_)
    rw [e0]
    refine Ok.bndE (x := (w : Int)) (Ok.ret (by rw [List.length_map, l0])) (Ok.ret ?_)
    congr 1
    exact decide_eq_decide.mpr (by omega)
  refine Thr.enum hi (fun _ _ => True) trivial (fun k hk s _ => ?_) fun s _ => ?_
  · obtain ⟨r, e, hl⟩ := hg k hk
    show Ok (bodyW ds (ds[k]'(by omega)) (k : Int)) _
    rw [e]
    unfold bodyW
    refine Ok.bndE (tst_row (by omega)) (Ok.ite (fun z => absurd z (by decide)) fun _ => ?_)
    refine Ok.bndE (cmp r (by omega)) (Ok.ite (fun z => ?_) fun _ => Ok.ret trivial)
    rw [decide_eq_true hl] at z
    exact absurd z (by decide)
  · show Thr (bodyW ds ds[i] (i : Int)) _
    unfold bodyW
    rcases hb with hb | ⟨h0, r, e, hl, h100⟩
    · exact Thr.after hb (Thr.retB Thr.thr)
    · rw [e]
      refine Thr.after (tst_row h100) ?_
      show Thr (bnd _ fun b14 => if b14 = true then _ else _) _
      refine Thr.after (cmp r h0) ?_
      rw [decide_eq_false hl]
      exact Thr.retB Thr.thr
theorem need4_thr {d : PyData} (h : (tyD d == "list" || tyD d == "tuple") = false) : Thr (m_need_rows_v4 d) ⟨"InvalidRows", [.int (-1)]⟩ := by
  unfold m_need_rows_v4
  rw [h]
  exact Thr.retB (Thr.retB Thr.thr)
theorem fieldR {x : PyData} : Ok (m_law_field ⟨"InvalidRows", [x]⟩) (· = x) := by
  unfold m_law_field
  dsimp only
  rw [bnd_ret, if_pos (decide_eq_true (by decide +kernel))]
  exact Ok.bndE (Ok.chk (show ftb.lookup "InvalidRows" = some (some ("at" : Str)) by decide +kernel) Ok.eq) Ok.eq
theorem gotT {w : W PyData} {i : Int} (h : Thr w ⟨"InvalidRows", [.int i]⟩) : Ok (noX (m_law_got w)) (· = (("InvalidRows" : Str), .int i)) := by
  refine Ok.noX fun P E hp => ?_
  show bnd w (fun x => ret (("" : Str), x)) P fun e => (bnd (noX (m_law_field e)) fun x => ret (Str.ofString e.cls, x)) P E
  refine (Thr.bnd h) P _ ?_
  exact (Ok.bndE (Ok.noX fieldR) Ok.eq : Ok (bnd (noX (m_law_field ⟨"InvalidRows", [.int i]⟩)) fun x => ret (Str.ofString "InvalidRows", x)) (· = (Str.ofString "InvalidRows", .int i))) P E hp
theorem codeR {w : W PyData} (h : Ok w fun _ => True) : Ok (noX (m_law_code w)) (· = ("" : Str)) := by
  unfold m_law_code
  refine Ok.noX (Ok.bndE (x := ("" : Str)) (Ok.bnd (J := fun z => z.1 = ("" : Str)) (Ok.noX fun P E hp => ?_) fun z hz => Ok.ret hz) Ok.eq)
  show bnd w (fun x => ret (("" : Str), x)) P _
  exact h _ _ fun x _ => hp _ rfl
theorem all_got : ∀ {ws : List (W PyData)} {i : Int}, (∀ w ∈ ws, Thr w ⟨"InvalidRows", [.int i]⟩) → Ok (noX (m_law_all_got ws)) (· = ws.map fun _ => (("InvalidRows" : Str), PyData.int i)) := fun {ws i} h => by
  unfold m_law_all_got
  exact Ok.noX (Ok.bndE (Ok.map (g := fun _ => (("InvalidRows" : Str), PyData.int i)) fun w hw => gotT (h w hw)) Ok.eq)
theorem same_due {xs ys : List (Str × PyData)} {i : Int} (hi : i.natAbs ≤ 100) (hl : xs.length ≤ 4) (h : ∀ p ∈ xs, p = (("InvalidRows" : Str), PyData.int i)) (e : xs = ys) : Ok (sameXs xs ys) (· = true) := by
  unfold sameXs
  refine Ok.sameX (fun _ => "") (m := 1921) (n := 4) (fun p hp => ?_) (by decide) hl (by decide) e
  rw [h p hp]
  refine ⟨⟨show PyData.strOk ("InvalidRows" : Str) = true by decide +kernel, show ("InvalidRows" : Str).length ≤ 20 by decide +kernel⟩, (Shw.int ?_).dat rfl⟩
  exact Nat.lt_of_le_of_lt hi (Nat.lt_of_lt_of_le (show 100 < 2 ^ 7 by decide) (Nat.pow_le_pow_right (by decide) (by decide)))
end K10
namespace K10
open Mi
open PySem L2 Evl
theorem rep_ok {α : Type} {x : α} {k : Int} (h0 : 0 ≤ k) (h : k ≤ 100) : Ok (repL [x] k) (· = List.replicate k.toNat x) := by
  refine Ok.chk ⟨by omega, by omega, ?_⟩ (Ok.ret ?_)
  · rw [PySem.sizeLine_eq]
    show 1 * k.toNat ≤ _
    omega
  · have : ∀ n : Nat, (List.replicate n [x]).flatten = List.replicate n x := fun n => by
      induction n with
      | zero => rfl
      | succ n ih =>
        rw [List.replicate_succ, List.replicate_succ, List.flatten_cons, ih]
        rfl
    exact this _
theorem cat_ok {α : Type} {xs ys : List α} (h : xs.length + ys.length ≤ 1000) : Ok (catL xs ys) (· = xs ++ ys) := Ok.chk (Nat.le_trans h (by decide)) Ok.eq
theorem refuse {A C : List PyData} {bad : PyData} {w : Nat} (hw : w ≤ 100) (hA : ∀ a ∈ A, ∃ r : List Int, a = dR r ∧ r.length = w) (hb : BadAt w A.length bad) : Thr (m_need_rows_v2 (A ++ bad :: C)) ⟨"InvalidRows", [.int (A.length : Int)]⟩ := by
  have hl : A.length < (A ++ bad :: C).length := by
    rw [List.length_append, List.length_cons]
    omega
  refine need2_thr hl hw (fun k hk => ?_) ?_
  · rw [List.getElem_append_left hk]
    exact hA _ (List.getElem_mem hk)
  · rw [List.getElem_append_right (Nat.le_refl _)]
    simpa using hb
theorem ty_bad {d : PyData} (h : (tyD d == "list" || tyD d == "tuple") = false) : Ok (tst d) (· = true) := by
  unfold tst
  rw [h]
  exact Ok.bndE (x := true) Ok.eq Ok.eq
theorem l1_ok (x : Int) : Ok (m_law_l1 () x) (· = .nx ()) := by
  unfold m_law_l1
  refine Ok.bnd (Ok.noX (Ok.draw (by decide) (by decide +kernel))) fun mz ⟨m0, m1⟩ => ?_
  obtain ⟨many, rfl⟩ := Int.eq_ofNat_of_zero_le m0
  refine Ok.bnd (J := fun z => ∃ w : Nat, z = (w : Int) ∧ 1 ≤ w ∧ w ≤ 3) (Ok.bnd (Ok.noX (Ok.draw (by decide) (by decide +kernel))) fun r hr => Ok.ret ⟨(1 + r).toNat, by omega, by omega, by omega⟩) fun z ⟨w, e, w1, w4⟩ => ?_
  subst e
  refine Ok.bnd (Ok.noX (rows_ok (many := many) (w := w) (by omega) (by omega))) fun R ⟨r1, r2, r3⟩ => ?_
  refine Ok.bnd (Ok.noX (Ok.draw (by omega) ?_)) fun sz ⟨s0, s1⟩ => ?_
  · refine Nat.lt_of_lt_of_le ((Nat.log2_lt (by omega)).mpr (show _ < 2 ^ 64 from ?_)) (by decide)
    omega
  obtain ⟨spot, rfl⟩ := Int.eq_ofNat_of_zero_le s0
  refine Ok.bnd (J := fun d => Ok (tst d) (· = true)) ?_ fun bad hbad => ?_
  · refine Ok.bndE (rep_ok (by omega) (by omega)) (Ok.bndE (rep_ok (by omega) (by omega)) (Ok.bndE (cat_ok ?_) (Ok.bndE (rep_ok (by omega) (by omega)) (Ok.bndE (cat_ok ?_) (Ok.noX (Ok.any (by simp) (by simp) fun d hd => ?_))))))
    · rw [List.length_map, List.length_map, List.length_replicate]
      show 1 + _ ≤ _
      omega
    · rw [List.length_map, List.length_map, List.length_replicate]
      show 1 + _ ≤ _
      omega
    · simp only [List.mem_cons, List.not_mem_nil, or_false] at hd
      rcases hd with rfl | rfl | rfl | rfl | rfl | rfl | rfl | rfl
      · exact ty_bad rfl
      · exact ty_bad rfl
      · exact ty_bad rfl
      · exact ty_bad rfl
      · refine tst_bad (d := .none) (by rw [List.length_map, List.length_replicate]; omega) ?_ rfl
        refine List.mem_map.mpr ⟨(), List.mem_replicate.mpr ⟨by omega, rfl⟩, rfl⟩
      · refine tst_bad (d := .bool true) ?_ ?_ rfl
        · rw [List.length_map, List.length_append, List.length_map, List.length_map, List.length_replicate]
          show 1 + _ ≤ _
          omega
        · rw [List.map_id]
          exact List.mem_append_left _ List.mem_cons_self
      · refine tst_bad (d := .str "1") ?_ ?_ rfl
        · rw [List.length_map, List.length_append, List.length_map, List.length_map, List.length_replicate]
          show 1 + _ ≤ _
          omega
        · rw [List.map_id]
          exact List.mem_append_left _ List.mem_cons_self
      · exact tst_bad (d := .list []) (by show 1 ≤ 100; decide) List.mem_cons_self rfl
  refine Ok.bnd (J := fun b => b = true → 0 < spot) (Ok.bndE Ok.eq (Ok.ite (fun h => ?_) fun _ => Ok.ret fun h => by cases h)) fun b25 hb => ?_
  · refine Ok.bnd (Ok.noX (Ok.draw (by decide) (by decide +kernel))) fun r _ => Ok.ret fun _ => ?_
    have := of_decide_eq_true h
    omega
  refine Ok.bnd (J := BadAt w spot) (Ok.ite (fun h => ?_) fun _ => Ok.ret (.inl hbad)) fun bad2 hbad2 => ?_
  · refine Ok.bnd (J := BadAt w spot) (Ok.bnd (J := fun r => r = 1 ∨ r = -1) (Ok.noX (Ok.any (by simp) (by simp) fun r hr => ?_)) fun r hr => Ok.bndE (rep_ok (by omega) (by omega)) (Ok.ret (.inr ⟨hb h, _, rfl, ?_, ?_⟩))) fun d hd => Ok.ret hd
    · simp only [List.mem_cons, List.not_mem_nil, or_false] at hr
      exact hr
    · rw [List.length_replicate]
      omega
    · rw [List.length_replicate]
      omega
  have hsp : spot ≤ R.length := by omega
  rw [cut_pre hsp, cut_post hsp]
  have lA : ((R.take spot).map dR).length = spot := by
    rw [List.length_map, List.length_take]
    omega
  have hA : ∀ a ∈ (R.take spot).map dR, ∃ r : List Int, a = dR r ∧ r.length = w := fun a ha => by
    obtain ⟨r, hr, rfl⟩ := List.mem_map.mp ha
    exact ⟨r, rfl, r2 r (List.mem_of_mem_take hr)⟩
  refine Ok.bndE (x := (R.take spot).map dR ++ bad2 :: ((R.drop spot).map dR ++ [.none])) ?_ ?_
  · refine Ok.bndE (x := (R.take spot).map dR ++ [bad2]) (cat_ok ?_) (Ok.bndE (x := (R.take spot).map dR ++ [bad2] ++ (R.drop spot).map dR) (cat_ok ?_) ?_)
    · rw [List.length_map, List.length_take]
      show _ + 1 ≤ _
      omega
    · rw [List.length_append, List.length_map, List.length_take, List.length_map, List.length_drop]
      show _ + 1 + _ ≤ _
      omega
    · refine (cat_ok ?_).mono fun z e => ?_
      · rw [List.length_append, List.length_append, List.length_map, List.length_take, List.length_map, List.length_drop]
        show _ + 1 + _ + 1 ≤ _
        omega
      · rw [e, List.append_assoc, List.append_assoc]
        rfl
  refine Ok.bndE Ok.eq ?_
  have hcut : cutL ((R.take spot).map dR ++ bad2 :: ((R.drop spot).map dR ++ [.none])) none (some ((spot : Int) + 1)) = (R.take spot).map dR ++ bad2 :: [] := by
    rw [show ((spot : Int) + 1) = ((spot + 1 : Nat) : Int) from rfl, cut_pre (by rw [List.length_append, lA, List.length_cons]; omega)]
    rw [List.take_append, lA, List.take_of_length_le (by rw [lA]; omega), show spot + 1 - spot = 1 by omega]
    rfl
  have q1 := refuse (C := (R.drop spot).map dR ++ [.none]) (by omega) hA (by rw [lA]; exact hbad2)
  have q2 := refuse (C := []) (by omega) hA (by rw [lA]; exact hbad2)
  rw [lA] at q1 q2
  rw [hcut]
  refine Ok.bndE (x := false) ?_ (Ok.ite (fun z => absurd z (by decide)) fun _ => ?_)
  · refine Ok.bndE (all_got (i := (spot : Int)) fun v hv => ?_) (Ok.bndE (rep_ok (by decide) (by decide)) (Ok.bndE (x := true) (Ok.noX (same_due (i := (spot : Int)) (by omega) ?_ ?_ rfl)) (Ok.ret rfl)))
    · simp only [List.mem_cons, List.not_mem_nil, or_false] at hv
      rcases hv with rfl | rfl | rfl | rfl
      · exact Thr.bnd (Thr.bnd q1)
      · exact Thr.bnd (Thr.bnd q1)
      · exact Thr.bnd (Thr.bnd q2)
      · exact Thr.bnd (Thr.bnd q2)
    · exact Nat.le_refl 4
    · intro p hp
      obtain ⟨_, _, e⟩ := List.mem_map.mp hp
      exact e.symm
  refine Ok.bnd (J := fun d => (tyD d == "list" || tyD d == "tuple") = false) (Ok.noX (Ok.any (by simp) (by simp) fun d hd => ?_)) fun d hd => ?_
  · simp only [List.mem_cons, List.not_mem_nil, or_false] at hd
    rcases hd with rfl | rfl | rfl | rfl <;> rfl
  refine Ok.bndE (x := false) ?_ (Ok.ite (fun z => absurd z (by decide)) fun _ => ?_)
  · refine Ok.bndE (all_got (i := -1) fun v hv => ?_) (Ok.bndE (rep_ok (by decide) (by decide)) (Ok.bndE (x := true) (Ok.noX (same_due (i := -1) (by decide) ?_ ?_ rfl)) (Ok.ret rfl)))
    · simp only [List.mem_cons, List.not_mem_nil, or_false] at hv
      rcases hv with rfl | rfl
      · exact Thr.bnd (Thr.bnd (need4_thr hd))
      · exact Thr.bnd (Thr.bnd (need4_thr hd))
    · show 2 ≤ 4
      decide
    · intro p hp
      obtain ⟨_, _, e⟩ := List.mem_map.mp hp
      exact e.symm
  refine Ok.bndE (Ok.map (g := fun x => x) fun x _ => Ok.eq) ?_
  rw [List.map_id']
  refine Ok.bndE (x := false) ?_ (Ok.ite (fun z => absurd z (by decide)) fun _ => Ok.eq)
  refine Ok.bndE (codeR (Ok.bnd (Ok.noX (herm_good r2 (by omega) (by omega) r3)) fun _ _ => Ok.ret trivial)) (Ok.bndE (codeR (Ok.bnd (Ok.noX (turn_ok r2 (by omega) w4 r3)) fun _ _ => Ok.ret trivial)) (Ok.ret ?_))
  decide +kernel
theorem left_ok (t : Turning_) : Ok (m_Turning_left t) (· = t.own_left) := by
  unfold m_Turning_left
  refine Ok.bndE (Ok.map (g := fun x => x) fun x _ => Ok.eq) (Ok.ret ?_)
  rw [List.map_id']
theorem right_ok (t : Turning_) : Ok (m_Turning_right t) (· = t.own_right) := by
  unfold m_Turning_right
  refine Ok.bndE (Ok.map (g := fun x => x) fun x _ => Ok.eq) (Ok.ret ?_)
  rw [List.map_id']
theorem law_ok (ns : List Int) : Ok (m_law ns) (· = true) := by
  unfold m_law
  refine Ok.bndE (Ok.rng1 (n := 5) (by decide)) (Ok.bnd (J := (· = (.nx () : Fl Unit Bool))) (Ok.forF (fun _ _ => True) (fun _ => False) trivial (fun k hk s _ => (l1_ok _).mono fun r e => by rw [e]; trivial) (fun s _ => rfl) fun z h => h.elim) fun r e => ?_)
  subst e
  rw [flEnd_nx]
  refine Ok.bndE (x := true) ?_ Ok.eq
  refine Ok.bndE (x := true) (Ok.bndE (Ok.noX herm_two) (Ok.ret (by decide +kernel))) ?_
  rw [if_pos rfl]
  refine Ok.bndE (x := true) (Ok.bnd (Ok.noX turn_two) fun t ⟨h1, h2⟩ => Ok.bndE (Ok.noX (left_ok t)) (Ok.ret (by rw [h1]; decide +kernel))) ?_
  rw [if_pos rfl]
  exact Ok.bnd (Ok.noX turn_two) fun t ⟨h1, h2⟩ => Ok.bndE (Ok.noX (right_ok t)) (Ok.ret (by rw [h2]; decide +kernel))
theorem law_true (ns : List Int) : m_law ns (fun x => x = true) (fun _ => False) := (law_ok ns).run
end K10
section
open PySem PySem.W PyProof.Rows HeadRun
def K10.looseN : List PySem.Str := (["__name__", "DialError", "Missing", "InvalidRows", "NothingLeft", "is_whole", "need_rows", "unit_rows", "less", "least_row", "parted", "hermite", "Turning", "_law_bag", "_law_draw", "_law_any", "_law_same", "_law_field", "_law_got", "_law_all_got", "_law_code", "_law_rows"] : List PySem.Str)
abbrev K10.RR : OpenRow := OpenLaw.row PySem.Challenge.rw_anydial_k10_rows_refused
abbrev K10.qv : Program := PySem.W.view K10.RR.prog [26]
local macro_rules | `(tactic| o_head ($f $K $a $e $ts)) => `(tactic| (assumption; exact ($K, $a, $ts)))
local macro_rules | `(tactic| o_head ($f $K $a $e)) => `(tactic| (assumption; exact ($K, $a, [])))
noncomputable def K10.KA : (Params → Frag) × List Addr × List Addr := by
  refine (fun (x : (Params → Frag) × List Addr × List Addr) (_ : OpenRow.Holds K10.RR → OpenRow.Holds K10.RR) => x) ?x (fun h9 => ?y)
  rotate_left
  k_head
theorem K10.mapFst {α β γ : Type} {o : Option α} {f : α → β} {g : α → γ} {b : β} {c : γ} (h : o.map (fun x => (f x, g x)) = some (b, c)) : o.map f = some b := by
  cases o with
  | none => cases h
  | some x => exact congrArg (Option.map Prod.fst) h
theorem K10.mapSnd {α β γ : Type} {o : Option α} {f : α → β} {g : α → γ} {b : β} {c : γ} (h : o.map (fun x => (f x, g x)) = some (b, c)) : o.map g = some c := by
  cases o with
  | none => cases h
  | some x => exact congrArg (Option.map Prod.snd) h
theorem K10.run0 (w : World) (os : OsState) : (endF (stepQ (denQ tabQ) K10.RR.prog w) 40000 K10.RR.prog w os).map (fun x => (looksF K10.RR.prog (boot_heap w.params) x.abs, (seenQ K10.qv K10.looseN (importedModules K10.RR.prog.main.body) (fun s => xlAt K10.qv [] s && recOk K10.RR.toRowW.records s) x.abs, (K10.KA.2.1.map (getT x), K10.KA.2.2.map (getT x))))) = some (true, (openGood K10.qv K10.looseN, ((K10.KA.heap_1 w.params).map fun p => some p.2, K10.KA.2.2.map fun _ => some (tabObj #[])))) := by kernel_rfl
theorem K10.run1 (w : World) (os : OsState) : (endF (stepQ (denQ tabQ) K10.RR.prog w) 40000 K10.RR.prog w os).map (fun x => looksF K10.RR.prog (boot_heap w.params) x.abs) = some true := K10.mapFst (K10.run0 w os)
theorem K10.run2 (w : World) (os : OsState) : (endF (stepQ (denQ tabQ) K10.RR.prog w) 40000 K10.RR.prog w os).map (fun x => seenQ K10.qv K10.looseN (importedModules K10.RR.prog.main.body) (fun s => xlAt K10.qv [] s && recOk K10.RR.toRowW.records s) x.abs) = some (openGood K10.qv K10.looseN) := K10.mapFst (K10.mapSnd (K10.run0 w os))
theorem K10.run3 (w : World) (os : OsState) : (endF (stepQ (denQ tabQ) K10.RR.prog w) 40000 K10.RR.prog w os).map (fun x => K10.KA.2.1.map (getT x)) = some ((K10.KA.heap_1 w.params).map fun p => some p.2) := K10.mapFst (K10.mapSnd (K10.mapSnd (K10.run0 w os)))
theorem K10.run4 (w : World) (os : OsState) : (endF (stepQ (denQ tabQ) K10.RR.prog w) 40000 K10.RR.prog w os).map (fun x => K10.KA.2.2.map (getT x)) = some (K10.KA.2.2.map fun _ => some (tabObj #[])) := K10.mapSnd (K10.mapSnd (K10.mapSnd (K10.run0 w os)))
theorem K10.run5 (P : Params) : K10.KA.2.1 = (K10.KA.heap_1 P).map (·.1) := by kernel_rfl
theorem K10.run6 : K10.RR.wellSaid = true := by decide +kernel
theorem K10.run7 : (chainsOk K10.qv && opensWell K10.RR.prog && (frees K10.RR.toRowW && K10.RR.within.isEmpty)) = true := by decide +kernel
end
namespace K10
open PySem L2 Evl Mi
abbrev spL (K : PySem.W.Frag) (Tb : Addr) : Sp := spW (fun i : List Int × Unit => [sv (rScr K) i.1]) (fun _ => [(Tb, oTab (("law" : Str) ++ (".<locals>." : Str) ++ ("<lambda>" : Str)))]) (fun i => m_law i.1) rBool
set_option maxHeartbeats 0 in
theorem all_mk {P : Program} {w : World} {K : PySem.W.Frag} {h : Heap} {mg : Str → Option Value} {fa f_is_whole f_need_rows f_unit_rows f_less f_least_row f_parted f_hermite f_Turning_add_row f_Turning_bring_least f_Turning_clear_cross f_Turning_mix_in f_Turning_make_positive f_Turning_init f_Turning_left f_Turning_right f_law_bag f_law_draw f_law_any f_law_same f_law_field f_law_got f_law_all_got f_law_code f_law_rows f_law c_Turning c_DialError c_InvalidRows c_Missing fx_InvalidRows cc_InvalidRows kx_InvalidRows cL Tb : Addr} (X : K.In h) (G : h.Ns mainGlobals mg) (hfa : mg "law" = some (.ref fa))
    {od_is_whole an_is_whole od_need_rows an_need_rows od_unit_rows an_unit_rows od_less an_less od_least_row an_least_row od_parted an_parted od_hermite an_hermite od_Turning_add_row an_Turning_add_row od_Turning_bring_least an_Turning_bring_least od_Turning_clear_cross an_Turning_clear_cross od_Turning_mix_in an_Turning_mix_in od_Turning_make_positive an_Turning_make_positive od_Turning_init an_Turning_init od_Turning_left an_Turning_left od_Turning_right an_Turning_right od_law_bag an_law_bag od_law_draw an_law_draw od_law_any an_law_any od_law_same an_law_same od_law_field an_law_field od_law_got an_law_got od_law_all_got an_law_all_got od_law_code an_law_code od_law_rows an_law_rows od_law an_law : Option Addr} {sl_is_whole sl_need_rows sl_unit_rows sl_less sl_least_row sl_parted sl_hermite sl_Turning_add_row sl_Turning_bring_least sl_Turning_clear_cross sl_Turning_mix_in sl_Turning_make_positive sl_Turning_init sl_Turning_left sl_Turning_right sl_law_bag sl_law_draw sl_law_any sl_law_same sl_law_field sl_law_got sl_law_all_got sl_law_code sl_law_rows sl_law : Array (Option Value)} {oc_is_whole kV_is_whole dc_is_whole pm_is_whole cd_is_whole ct_is_whole oc_need_rows kV_need_rows dc_need_rows pm_need_rows cd_need_rows ct_need_rows oc_unit_rows kV_unit_rows dc_unit_rows pm_unit_rows cd_unit_rows ct_unit_rows oc_less kV_less dc_less pm_less cd_less ct_less oc_least_row kV_least_row dc_least_row pm_least_row cd_least_row ct_least_row oc_parted kV_parted dc_parted pm_parted cd_parted ct_parted oc_hermite kV_hermite dc_hermite pm_hermite cd_hermite ct_hermite oc_Turning_add_row kV_Turning_add_row dc_Turning_add_row pm_Turning_add_row cd_Turning_add_row ct_Turning_add_row oc_Turning_bring_least kV_Turning_bring_least dc_Turning_bring_least pm_Turning_bring_least cd_Turning_bring_least ct_Turning_bring_least oc_Turning_clear_cross kV_Turning_clear_cross dc_Turning_clear_cross pm_Turning_clear_cross cd_Turning_clear_cross ct_Turning_clear_cross oc_Turning_mix_in kV_Turning_mix_in dc_Turning_mix_in pm_Turning_mix_in cd_Turning_mix_in ct_Turning_mix_in oc_Turning_make_positive kV_Turning_make_positive dc_Turning_make_positive pm_Turning_make_positive cd_Turning_make_positive ct_Turning_make_positive oc_Turning_init kV_Turning_init dc_Turning_init pm_Turning_init cd_Turning_init ct_Turning_init oc_Turning_left kV_Turning_left dc_Turning_left pm_Turning_left cd_Turning_left ct_Turning_left oc_Turning_right kV_Turning_right dc_Turning_right pm_Turning_right cd_Turning_right ct_Turning_right oc_law_bag kV_law_bag dc_law_bag pm_law_bag cd_law_bag ct_law_bag oc_law_draw kV_law_draw dc_law_draw pm_law_draw cd_law_draw ct_law_draw oc_law_any kV_law_any dc_law_any pm_law_any cd_law_any ct_law_any oc_law_same kV_law_same dc_law_same pm_law_same cd_law_same ct_law_same oc_law_field kV_law_field dc_law_field pm_law_field cd_law_field ct_law_field oc_law_got kV_law_got dc_law_got pm_law_got cd_law_got ct_law_got oc_law_all_got kV_law_all_got dc_law_all_got pm_law_all_got cd_law_all_got ct_law_all_got oc_law_code kV_law_code dc_law_code pm_law_code cd_law_code ct_law_code oc_law_rows kV_law_rows dc_law_rows pm_law_rows cd_law_rows ct_law_rows oc_law kV_law dc_law pm_law cd_law ct_law : Value} {oc_xInvalidRows od_xInvalidRows kV_xInvalidRows dc_xInvalidRows pm_xInvalidRows an_xInvalidRows ct_xInvalidRows sl_xInvalidRows q1_InvalidRows q2_InvalidRows q3_InvalidRows q4_InvalidRows q5_InvalidRows qv_InvalidRows q6_InvalidRows q7_InvalidRows q8_InvalidRows} {ts : List Addr}
    (a_Turning : PySem.W.nsIn K mainGlobals "Turning" = some (some (.ref c_Turning)))
    (a_is_whole : PySem.W.nsIn K mainGlobals "is_whole" = some (some (.ref f_is_whole)))
    (l_is_whole : K.lookup f_is_whole = some ⟨oc_is_whole, od_is_whole, .func (PySem.W.fnOf "is_whole" "is_whole" (defArgs s_is_whole) (defBody s_is_whole) (defScope s_is_whole) .none kV_is_whole dc_is_whole pm_is_whole an_is_whole cd_is_whole ct_is_whole), sl_is_whole⟩)
    (c_is_whole : PySem.W.codeIn K cd_is_whole "is_whole" = true)
    (k_is_whole : PySem.W.keepIn K (.ref f_is_whole) = true)
    (a_need_rows : PySem.W.nsIn K mainGlobals "need_rows" = some (some (.ref f_need_rows)))
    (l_need_rows : K.lookup f_need_rows = some ⟨oc_need_rows, od_need_rows, .func (PySem.W.fnOf "need_rows" "need_rows" (defArgs s_need_rows) (defBody s_need_rows) (defScope s_need_rows) .none kV_need_rows dc_need_rows pm_need_rows an_need_rows cd_need_rows ct_need_rows), sl_need_rows⟩)
    (c_need_rows : PySem.W.codeIn K cd_need_rows "need_rows" = true)
    (k_need_rows : PySem.W.keepIn K (.ref f_need_rows) = true)
    (a_unit_rows : PySem.W.nsIn K mainGlobals "unit_rows" = some (some (.ref f_unit_rows)))
    (l_unit_rows : K.lookup f_unit_rows = some ⟨oc_unit_rows, od_unit_rows, .func (PySem.W.fnOf "unit_rows" "unit_rows" (defArgs s_unit_rows) (defBody s_unit_rows) (defScope s_unit_rows) .none kV_unit_rows dc_unit_rows pm_unit_rows an_unit_rows cd_unit_rows ct_unit_rows), sl_unit_rows⟩)
    (c_unit_rows : PySem.W.codeIn K cd_unit_rows "unit_rows" = true)
    (k_unit_rows : PySem.W.keepIn K (.ref f_unit_rows) = true)
    (a_less : PySem.W.nsIn K mainGlobals "less" = some (some (.ref f_less)))
    (l_less : K.lookup f_less = some ⟨oc_less, od_less, .func (PySem.W.fnOf "less" "less" (defArgs s_less) (defBody s_less) (defScope s_less) .none kV_less dc_less pm_less an_less cd_less ct_less), sl_less⟩)
    (c_less : PySem.W.codeIn K cd_less "less" = true)
    (k_less : PySem.W.keepIn K (.ref f_less) = true)
    (a_least_row : PySem.W.nsIn K mainGlobals "least_row" = some (some (.ref f_least_row)))
    (l_least_row : K.lookup f_least_row = some ⟨oc_least_row, od_least_row, .func (PySem.W.fnOf "least_row" "least_row" (defArgs s_least_row) (defBody s_least_row) (defScope s_least_row) .none kV_least_row dc_least_row pm_least_row an_least_row cd_least_row ct_least_row), sl_least_row⟩)
    (c_least_row : PySem.W.codeIn K cd_least_row "least_row" = true)
    (k_least_row : PySem.W.keepIn K (.ref f_least_row) = true)
    (a_parted : PySem.W.nsIn K mainGlobals "parted" = some (some (.ref f_parted)))
    (l_parted : K.lookup f_parted = some ⟨oc_parted, od_parted, .func (PySem.W.fnOf "parted" "parted" (defArgs s_parted) (defBody s_parted) (defScope s_parted) .none kV_parted dc_parted pm_parted an_parted cd_parted ct_parted), sl_parted⟩)
    (c_parted : PySem.W.codeIn K cd_parted "parted" = true)
    (k_parted : PySem.W.keepIn K (.ref f_parted) = true)
    (a_hermite : PySem.W.nsIn K mainGlobals "hermite" = some (some (.ref f_hermite)))
    (l_hermite : K.lookup f_hermite = some ⟨oc_hermite, od_hermite, .func (PySem.W.fnOf "hermite" "hermite" (defArgs s_hermite) (defBody s_hermite) (defScope s_hermite) .none kV_hermite dc_hermite pm_hermite an_hermite cd_hermite ct_hermite), sl_hermite⟩)
    (c_hermite : PySem.W.codeIn K cd_hermite "hermite" = true)
    (k_hermite : PySem.W.keepIn K (.ref f_hermite) = true)
    (a_Turning_add_row : PySem.W.findIn K (.ref c_Turning) "add_row" = some (some (.ref f_Turning_add_row)))
    (i_Turning_add_row : PySem.W.isFn K (.ref f_Turning_add_row) = true)
    (l_Turning_add_row : K.lookup f_Turning_add_row = some ⟨oc_Turning_add_row, od_Turning_add_row, .func (PySem.W.fnOf "add_row" "Turning.add_row" (defArgs s_Turning_add_row) (defBody s_Turning_add_row) (defScope s_Turning_add_row) .none kV_Turning_add_row dc_Turning_add_row pm_Turning_add_row an_Turning_add_row cd_Turning_add_row ct_Turning_add_row), sl_Turning_add_row⟩)
    (c_Turning_add_row : PySem.W.codeIn K cd_Turning_add_row "Turning.add_row" = true)
    (k_Turning_add_row : PySem.W.keepIn K (.ref f_Turning_add_row) = true)
    (a_Turning_bring_least : PySem.W.findIn K (.ref c_Turning) "bring_least" = some (some (.ref f_Turning_bring_least)))
    (i_Turning_bring_least : PySem.W.isFn K (.ref f_Turning_bring_least) = true)
    (l_Turning_bring_least : K.lookup f_Turning_bring_least = some ⟨oc_Turning_bring_least, od_Turning_bring_least, .func (PySem.W.fnOf "bring_least" "Turning.bring_least" (defArgs s_Turning_bring_least) (defBody s_Turning_bring_least) (defScope s_Turning_bring_least) .none kV_Turning_bring_least dc_Turning_bring_least pm_Turning_bring_least an_Turning_bring_least cd_Turning_bring_least ct_Turning_bring_least), sl_Turning_bring_least⟩)
    (c_Turning_bring_least : PySem.W.codeIn K cd_Turning_bring_least "Turning.bring_least" = true)
    (k_Turning_bring_least : PySem.W.keepIn K (.ref f_Turning_bring_least) = true)
    (a_Turning_clear_cross : PySem.W.findIn K (.ref c_Turning) "clear_cross" = some (some (.ref f_Turning_clear_cross)))
    (i_Turning_clear_cross : PySem.W.isFn K (.ref f_Turning_clear_cross) = true)
    (l_Turning_clear_cross : K.lookup f_Turning_clear_cross = some ⟨oc_Turning_clear_cross, od_Turning_clear_cross, .func (PySem.W.fnOf "clear_cross" "Turning.clear_cross" (defArgs s_Turning_clear_cross) (defBody s_Turning_clear_cross) (defScope s_Turning_clear_cross) .none kV_Turning_clear_cross dc_Turning_clear_cross pm_Turning_clear_cross an_Turning_clear_cross cd_Turning_clear_cross ct_Turning_clear_cross), sl_Turning_clear_cross⟩)
    (c_Turning_clear_cross : PySem.W.codeIn K cd_Turning_clear_cross "Turning.clear_cross" = true)
    (k_Turning_clear_cross : PySem.W.keepIn K (.ref f_Turning_clear_cross) = true)
    (a_Turning_mix_in : PySem.W.findIn K (.ref c_Turning) "mix_in" = some (some (.ref f_Turning_mix_in)))
    (i_Turning_mix_in : PySem.W.isFn K (.ref f_Turning_mix_in) = true)
    (l_Turning_mix_in : K.lookup f_Turning_mix_in = some ⟨oc_Turning_mix_in, od_Turning_mix_in, .func (PySem.W.fnOf "mix_in" "Turning.mix_in" (defArgs s_Turning_mix_in) (defBody s_Turning_mix_in) (defScope s_Turning_mix_in) .none kV_Turning_mix_in dc_Turning_mix_in pm_Turning_mix_in an_Turning_mix_in cd_Turning_mix_in ct_Turning_mix_in), sl_Turning_mix_in⟩)
    (c_Turning_mix_in : PySem.W.codeIn K cd_Turning_mix_in "Turning.mix_in" = true)
    (k_Turning_mix_in : PySem.W.keepIn K (.ref f_Turning_mix_in) = true)
    (a_Turning_make_positive : PySem.W.findIn K (.ref c_Turning) "make_positive" = some (some (.ref f_Turning_make_positive)))
    (i_Turning_make_positive : PySem.W.isFn K (.ref f_Turning_make_positive) = true)
    (l_Turning_make_positive : K.lookup f_Turning_make_positive = some ⟨oc_Turning_make_positive, od_Turning_make_positive, .func (PySem.W.fnOf "make_positive" "Turning.make_positive" (defArgs s_Turning_make_positive) (defBody s_Turning_make_positive) (defScope s_Turning_make_positive) .none kV_Turning_make_positive dc_Turning_make_positive pm_Turning_make_positive an_Turning_make_positive cd_Turning_make_positive ct_Turning_make_positive), sl_Turning_make_positive⟩)
    (c_Turning_make_positive : PySem.W.codeIn K cd_Turning_make_positive "Turning.make_positive" = true)
    (k_Turning_make_positive : PySem.W.keepIn K (.ref f_Turning_make_positive) = true)
    (a_Turning_init : PySem.W.findIn K (.ref c_Turning) "__init__" = some (some (.ref f_Turning_init)))
    (i_Turning_init : PySem.W.isFn K (.ref f_Turning_init) = true)
    (l_Turning_init : K.lookup f_Turning_init = some ⟨oc_Turning_init, od_Turning_init, .func (PySem.W.fnOf "__init__" "Turning.__init__" (defArgs s_Turning_init) (defBody s_Turning_init) (defScope s_Turning_init) .none kV_Turning_init dc_Turning_init pm_Turning_init an_Turning_init cd_Turning_init ct_Turning_init), sl_Turning_init⟩)
    (c_Turning_init : PySem.W.codeIn K cd_Turning_init "Turning.__init__" = true)
    (k_Turning_init : PySem.W.keepIn K (.ref f_Turning_init) = true)
    (a_Turning_left : PySem.W.findIn K (.ref c_Turning) "left" = some (some (.ref f_Turning_left)))
    (i_Turning_left : PySem.W.isFn K (.ref f_Turning_left) = true)
    (l_Turning_left : K.lookup f_Turning_left = some ⟨oc_Turning_left, od_Turning_left, .func (PySem.W.fnOf "left" "Turning.left" (defArgs s_Turning_left) (defBody s_Turning_left) (defScope s_Turning_left) .none kV_Turning_left dc_Turning_left pm_Turning_left an_Turning_left cd_Turning_left ct_Turning_left), sl_Turning_left⟩)
    (c_Turning_left : PySem.W.codeIn K cd_Turning_left "Turning.left" = true)
    (k_Turning_left : PySem.W.keepIn K (.ref f_Turning_left) = true)
    (a_Turning_right : PySem.W.findIn K (.ref c_Turning) "right" = some (some (.ref f_Turning_right)))
    (i_Turning_right : PySem.W.isFn K (.ref f_Turning_right) = true)
    (l_Turning_right : K.lookup f_Turning_right = some ⟨oc_Turning_right, od_Turning_right, .func (PySem.W.fnOf "right" "Turning.right" (defArgs s_Turning_right) (defBody s_Turning_right) (defScope s_Turning_right) .none kV_Turning_right dc_Turning_right pm_Turning_right an_Turning_right cd_Turning_right ct_Turning_right), sl_Turning_right⟩)
    (c_Turning_right : PySem.W.codeIn K cd_Turning_right "Turning.right" = true)
    (k_Turning_right : PySem.W.keepIn K (.ref f_Turning_right) = true)
    (a_law_bag : PySem.W.nsIn K mainGlobals "_law_bag" = some (some (.ref f_law_bag)))
    (l_law_bag : K.lookup f_law_bag = some ⟨oc_law_bag, od_law_bag, .func (PySem.W.fnOf "_law_bag" "_law_bag" (defArgs s_law_bag) (defBody s_law_bag) (defScope s_law_bag) .none kV_law_bag dc_law_bag pm_law_bag an_law_bag cd_law_bag ct_law_bag), sl_law_bag⟩)
    (c_law_bag : PySem.W.codeIn K cd_law_bag "_law_bag" = true)
    (k_law_bag : PySem.W.keepIn K (.ref f_law_bag) = true)
    (a_law_draw : PySem.W.nsIn K mainGlobals "_law_draw" = some (some (.ref f_law_draw)))
    (l_law_draw : K.lookup f_law_draw = some ⟨oc_law_draw, od_law_draw, .func (PySem.W.fnOf "_law_draw" "_law_draw" (defArgs s_law_draw) (defBody s_law_draw) (defScope s_law_draw) .none kV_law_draw dc_law_draw pm_law_draw an_law_draw cd_law_draw ct_law_draw), sl_law_draw⟩)
    (c_law_draw : PySem.W.codeIn K cd_law_draw "_law_draw" = true)
    (k_law_draw : PySem.W.keepIn K (.ref f_law_draw) = true)
    (a_law_any : PySem.W.nsIn K mainGlobals "_law_any" = some (some (.ref f_law_any)))
    (l_law_any : K.lookup f_law_any = some ⟨oc_law_any, od_law_any, .func (PySem.W.fnOf "_law_any" "_law_any" (defArgs s_law_any) (defBody s_law_any) (defScope s_law_any) .none kV_law_any dc_law_any pm_law_any an_law_any cd_law_any ct_law_any), sl_law_any⟩)
    (c_law_any : PySem.W.codeIn K cd_law_any "_law_any" = true)
    (k_law_any : PySem.W.keepIn K (.ref f_law_any) = true)
    (a_law_same : PySem.W.nsIn K mainGlobals "_law_same" = some (some (.ref f_law_same)))
    (l_law_same : K.lookup f_law_same = some ⟨oc_law_same, od_law_same, .func (PySem.W.fnOf "_law_same" "_law_same" (defArgs s_law_same) (defBody s_law_same) (defScope s_law_same) .none kV_law_same dc_law_same pm_law_same an_law_same cd_law_same ct_law_same), sl_law_same⟩)
    (c_law_same : PySem.W.codeIn K cd_law_same "_law_same" = true)
    (k_law_same : PySem.W.keepIn K (.ref f_law_same) = true)
    (a_law_field : PySem.W.nsIn K mainGlobals "_law_field" = some (some (.ref f_law_field)))
    (l_law_field : K.lookup f_law_field = some ⟨oc_law_field, od_law_field, .func (PySem.W.fnOf "_law_field" "_law_field" (defArgs s_law_field) (defBody s_law_field) (defScope s_law_field) .none kV_law_field dc_law_field pm_law_field an_law_field cd_law_field ct_law_field), sl_law_field⟩)
    (c_law_field : PySem.W.codeIn K cd_law_field "_law_field" = true)
    (k_law_field : PySem.W.keepIn K (.ref f_law_field) = true)
    (a_law_got : PySem.W.nsIn K mainGlobals "_law_got" = some (some (.ref f_law_got)))
    (l_law_got : K.lookup f_law_got = some ⟨oc_law_got, od_law_got, .func (PySem.W.fnOf "_law_got" "_law_got" (defArgs s_law_got) (defBody s_law_got) (defScope s_law_got) .none kV_law_got dc_law_got pm_law_got an_law_got cd_law_got ct_law_got), sl_law_got⟩)
    (c_law_got : PySem.W.codeIn K cd_law_got "_law_got" = true)
    (k_law_got : PySem.W.keepIn K (.ref f_law_got) = true)
    (a_law_all_got : PySem.W.nsIn K mainGlobals "_law_all_got" = some (some (.ref f_law_all_got)))
    (l_law_all_got : K.lookup f_law_all_got = some ⟨oc_law_all_got, od_law_all_got, .func (PySem.W.fnOf "_law_all_got" "_law_all_got" (defArgs s_law_all_got) (defBody s_law_all_got) (defScope s_law_all_got) .none kV_law_all_got dc_law_all_got pm_law_all_got an_law_all_got cd_law_all_got ct_law_all_got), sl_law_all_got⟩)
    (c_law_all_got : PySem.W.codeIn K cd_law_all_got "_law_all_got" = true)
    (k_law_all_got : PySem.W.keepIn K (.ref f_law_all_got) = true)
    (a_law_code : PySem.W.nsIn K mainGlobals "_law_code" = some (some (.ref f_law_code)))
    (l_law_code : K.lookup f_law_code = some ⟨oc_law_code, od_law_code, .func (PySem.W.fnOf "_law_code" "_law_code" (defArgs s_law_code) (defBody s_law_code) (defScope s_law_code) .none kV_law_code dc_law_code pm_law_code an_law_code cd_law_code ct_law_code), sl_law_code⟩)
    (c_law_code : PySem.W.codeIn K cd_law_code "_law_code" = true)
    (k_law_code : PySem.W.keepIn K (.ref f_law_code) = true)
    (a_law_rows : PySem.W.nsIn K mainGlobals "_law_rows" = some (some (.ref f_law_rows)))
    (l_law_rows : K.lookup f_law_rows = some ⟨oc_law_rows, od_law_rows, .func (PySem.W.fnOf "_law_rows" "_law_rows" (defArgs s_law_rows) (defBody s_law_rows) (defScope s_law_rows) .none kV_law_rows dc_law_rows pm_law_rows an_law_rows cd_law_rows ct_law_rows), sl_law_rows⟩)
    (c_law_rows : PySem.W.codeIn K cd_law_rows "_law_rows" = true)
    (k_law_rows : PySem.W.keepIn K (.ref f_law_rows) = true)
    (a_law : PySem.W.nsIn K mainGlobals "law" = some (some (.ref f_law)))
    (l_law : K.lookup f_law = some ⟨oc_law, od_law, .func (PySem.W.fnOf "law" "law" (defArgs s_law) (defBody s_law) (defScope s_law) .none kV_law dc_law pm_law an_law cd_law ct_law), sl_law⟩)
    (c_law : PySem.W.codeIn K cd_law "law" = true)
    (k_law : PySem.W.keepIn K (.ref f_law) = true)
    (a_DialError : PySem.W.nsIn K mainGlobals "DialError" = some (some (.ref c_DialError)))
    (a_InvalidRows : PySem.W.nsIn K mainGlobals "InvalidRows" = some (some (.ref c_InvalidRows)))
    (a_Missing : PySem.W.nsIn K mainGlobals "Missing" = some (some (.ref c_Missing)))
    (xi_InvalidRows : PySem.W.findIn K (.ref c_InvalidRows) "__init__" = some (some (.ref fx_InvalidRows)))
    (xl_InvalidRows : K.lookup fx_InvalidRows = some ⟨oc_xInvalidRows, od_xInvalidRows, .func (PySem.W.fnX "__init__" "InvalidRows.__init__" (defArgs sx_InvalidRows) (defBody sx_InvalidRows) (defScope sx_InvalidRows) [(("__class__" : Str), cc_InvalidRows)] .none kV_xInvalidRows dc_xInvalidRows pm_xInvalidRows an_xInvalidRows (.ref kx_InvalidRows) ct_xInvalidRows), sl_xInvalidRows⟩)
    (xd_InvalidRows : PySem.W.codeIn K (.ref kx_InvalidRows) "InvalidRows.__init__" = true)
    (xe_InvalidRows : K.lookup cc_InvalidRows = some ⟨q1_InvalidRows, q2_InvalidRows, .cell (some (.ref c_InvalidRows)), q3_InvalidRows⟩)
    (xg_InvalidRows : K.lookup kx_InvalidRows = some ⟨q4_InvalidRows, q5_InvalidRows, .fields qv_InvalidRows, q6_InvalidRows⟩)
    (r4x_InvalidRows : qv_InvalidRows[2]? = some (.str q7_InvalidRows q8_InvalidRows))
    (r5x_InvalidRows : ((P.main.file : Str) == q7_InvalidRows) = true)
    (xk_InvalidRows : ∃ nm q N bs bm sn sub ab col dd k0 k1 k2 k3 k5, K.lookup c_InvalidRows = some (excClassObj nm q c_InvalidRows N bs bm true sn sub ab col dd k0 k1 k2 k3 k5 "ValueError.__new__") ∧ refsB PySem.HandSPX.veTail bm = true)
    (xs_InvalidRows : PySem.W.findIn K (.ref c_InvalidRows) "__setattr__" = some (some (.builtin "object.__setattr__")))
    (xb_InvalidRows : PySem.W.subIn K (.ref c_InvalidRows) (.type "BaseException") = some true)
    (xt_InvalidRows : PySem.W.typeIn K (.ref c_InvalidRows) = some (.type "type"))
    (xq_InvalidRows : PySem.W.keepIn K (.ref c_InvalidRows) = true)
    (xf_InvalidRows : xfB K c_InvalidRows = true)
    (xa_InvalidRows : PySem.W.ks_superIn K c_InvalidRows c_InvalidRows "__init__" = some (some (.builtin "ValueError.__init__")))
    (xv_InvalidRows : PySem.W.subIn K (.ref c_InvalidRows) (.type "ValueError") = some true)
    (xm_InvalidRows : PySem.W.mroIn K c_InvalidRows (.ref c_InvalidRows) = some true)
    (xy_InvalidRows : PySem.W.typeIn K (.ref fx_InvalidRows) = some (.type "function"))
    (xc_InvalidRows : PySem.W.findIn K (.ref c_InvalidRows) "code" = some none)
    (xn_InvalidRows : PySem.W.findIn K (.ref c_InvalidRows) "at" = some none)
    (xx_InvalidRows : PySem.W.exmAny K (.ref c_InvalidRows) [.ref c_DialError, .ref c_Missing] = some true)
    (opq : PySem.W.nsIn K cStatics "thirdparty.any" = some none)
    (r4x : (P.main.scope.names.lookup ("super" : Str)).isSome = false)
    (tb_cd : cd_law = .ref cL)
    (tb_ts : Tb ∈ ts)
    (tb_hd : PySem.W.codeHdIn K cL Tb = true)
    (tb_no : K.lookup Tb = none)
    (z_abs : PySem.W.nsIn K mainGlobals "abs" = some none)
    (z_all : PySem.W.nsIn K mainGlobals "all" = some none)
    (z_any : PySem.W.nsIn K mainGlobals "any" = some none)
    (z_bool : PySem.W.nsIn K mainGlobals "bool" = some none)
    (z_enumerate : PySem.W.nsIn K mainGlobals "enumerate" = some none)
    (z_int : PySem.W.nsIn K mainGlobals "int" = some none)
    (z_isinstance : PySem.W.nsIn K mainGlobals "isinstance" = some none)
    (z_len : PySem.W.nsIn K mainGlobals "len" = some none)
    (z_list : PySem.W.nsIn K mainGlobals "list" = some none)
    (z_min : PySem.W.nsIn K mainGlobals "min" = some none)
    (z_range : PySem.W.nsIn K mainGlobals "range" = some none)
    (z_repr : PySem.W.nsIn K mainGlobals "repr" = some none)
    (z_super : PySem.W.nsIn K mainGlobals "super" = some none)
    (z_tuple : PySem.W.nsIn K mainGlobals "tuple" = some none)
    (z_zip : PySem.W.nsIn K mainGlobals "zip" = some none)
    (g1_Turning : PySem.W.plainGet K c_Turning Str.empty = true)
    (g2_Turning : PySem.W.hasDictIn K c_Turning = true)
    (g3_Turning : PySem.W.plainOver K c_Turning = true)
    (g4_Turning : PySem.W.findIn K (.ref c_Turning) "__setattr__" = some (some (.builtin "object.__setattr__")))
    (g5_Turning : PySem.W.makesIn K c_Turning = true)
    (g6_Turning : PySem.W.keepIn K (.ref c_Turning) = true)
    (na_Turning_own_left : PySem.W.findIn K (.ref c_Turning) "own_left" = some none)
    (na_Turning_own_rank : PySem.W.findIn K (.ref c_Turning) "own_rank" = some none)
    (na_Turning_own_right : PySem.W.findIn K (.ref c_Turning) "own_right" = some none)
    (na_Turning_own_rows : PySem.W.findIn K (.ref c_Turning) "own_rows" = some none)
    (na_Turning_wide : PySem.W.findIn K (.ref c_Turning) "wide" = some none)
    (na_Turning_work : PySem.W.findIn K (.ref c_Turning) "work" = some none)
    : ∃ (fd : FuncData) (c T : Addr), T ∈ ts ∧ PySem.W.codeHdIn K c T = true ∧ K.lookup T = none ∧ (∀ (s : Shared) (u : Value), BindsTo s fd ⟨[u], []⟩ [("_law_script", u)]) ∧ ∀ base : Heap, K.In base → base.Ns mainGlobals mg → LamX.TabB base mg c T → FnG P w K mg base CX0 17 fa fd ["_law_script"] (spL K T) := by
  have e := hfa.symm.trans (PySem.W.mg_of X G a_law)
  cases e
  have F_is_whole := fun_mk (st := s_is_whole) l_is_whole c_is_whole k_is_whole
  have F_need_rows := fun_mk (st := s_need_rows) l_need_rows c_need_rows k_need_rows
  have F_unit_rows := fun_mk (st := s_unit_rows) l_unit_rows c_unit_rows k_unit_rows
  have F_less := fun_mk (st := s_less) l_less c_less k_less
  have F_least_row := fun_mk (st := s_least_row) l_least_row c_least_row k_least_row
  have F_parted := fun_mk (st := s_parted) l_parted c_parted k_parted
  have F_hermite := fun_mk (st := s_hermite) l_hermite c_hermite k_hermite
  have F_Turning_add_row := fun_mk (st := s_Turning_add_row) l_Turning_add_row c_Turning_add_row k_Turning_add_row
  have F_Turning_bring_least := fun_mk (st := s_Turning_bring_least) l_Turning_bring_least c_Turning_bring_least k_Turning_bring_least
  have F_Turning_clear_cross := fun_mk (st := s_Turning_clear_cross) l_Turning_clear_cross c_Turning_clear_cross k_Turning_clear_cross
  have F_Turning_mix_in := fun_mk (st := s_Turning_mix_in) l_Turning_mix_in c_Turning_mix_in k_Turning_mix_in
  have F_Turning_make_positive := fun_mk (st := s_Turning_make_positive) l_Turning_make_positive c_Turning_make_positive k_Turning_make_positive
  have F_Turning_init := fun_mk (st := s_Turning_init) l_Turning_init c_Turning_init k_Turning_init
  have F_Turning_left := fun_mk (st := s_Turning_left) l_Turning_left c_Turning_left k_Turning_left
  have F_Turning_right := fun_mk (st := s_Turning_right) l_Turning_right c_Turning_right k_Turning_right
  have F_law_bag := fun_mk (st := s_law_bag) l_law_bag c_law_bag k_law_bag
  have F_law_draw := fun_mk (st := s_law_draw) l_law_draw c_law_draw k_law_draw
  have F_law_any := fun_mk (st := s_law_any) l_law_any c_law_any k_law_any
  have F_law_same := fun_mk (st := s_law_same) l_law_same c_law_same k_law_same
  have F_law_field := fun_mk (st := s_law_field) l_law_field c_law_field k_law_field
  have F_law_got := fun_mk (st := s_law_got) l_law_got c_law_got k_law_got
  have F_law_all_got := fun_mk (st := s_law_all_got) l_law_all_got c_law_all_got k_law_all_got
  have F_law_code := fun_mk (st := s_law_code) l_law_code c_law_code k_law_code
  have F_law_rows := fun_mk (st := s_law_rows) l_law_rows c_law_rows k_law_rows
  have F_law := fun_mk (st := s_law) l_law c_law k_law
  have cl_Turning : Cls K c_Turning := ⟨g1_Turning, g2_Turning, g3_Turning, g4_Turning⟩
  have ox_InvalidRows : OexG K c_InvalidRows "ValueError.__new__" PySem.HandSPX.veTail := ⟨(by obtain ⟨_, _, _, _, _, _, _, _, _, _, _, _, _, _, _, h1, h2⟩ := xk_InvalidRows; exact ⟨_, _, _, _, _, _, _, _, _, _, _, _, _, _, _, h1, refs_by h2⟩), xs_InvalidRows, xb_InvalidRows, xt_InvalidRows, xq_InvalidRows⟩
  subst tb_cd
  have T0 : Txt_0 P K mg ⟨f_is_whole, PySem.W.fnOf "is_whole" "is_whole" (defArgs s_is_whole) (defBody s_is_whole) (defScope s_is_whole) .none kV_is_whole dc_is_whole pm_is_whole an_is_whole cd_is_whole ct_is_whole, f_need_rows, PySem.W.fnOf "need_rows" "need_rows" (defArgs s_need_rows) (defBody s_need_rows) (defScope s_need_rows) .none kV_need_rows dc_need_rows pm_need_rows an_need_rows cd_need_rows ct_need_rows, f_unit_rows, PySem.W.fnOf "unit_rows" "unit_rows" (defArgs s_unit_rows) (defBody s_unit_rows) (defScope s_unit_rows) .none kV_unit_rows dc_unit_rows pm_unit_rows an_unit_rows cd_unit_rows ct_unit_rows, f_less, PySem.W.fnOf "less" "less" (defArgs s_less) (defBody s_less) (defScope s_less) .none kV_less dc_less pm_less an_less cd_less ct_less, f_least_row, PySem.W.fnOf "least_row" "least_row" (defArgs s_least_row) (defBody s_least_row) (defScope s_least_row) .none kV_least_row dc_least_row pm_least_row an_least_row cd_least_row ct_least_row, f_parted, PySem.W.fnOf "parted" "parted" (defArgs s_parted) (defBody s_parted) (defScope s_parted) .none kV_parted dc_parted pm_parted an_parted cd_parted ct_parted, f_hermite, PySem.W.fnOf "hermite" "hermite" (defArgs s_hermite) (defBody s_hermite) (defScope s_hermite) .none kV_hermite dc_hermite pm_hermite an_hermite cd_hermite ct_hermite, f_Turning_add_row, PySem.W.fnOf "add_row" "Turning.add_row" (defArgs s_Turning_add_row) (defBody s_Turning_add_row) (defScope s_Turning_add_row) .none kV_Turning_add_row dc_Turning_add_row pm_Turning_add_row an_Turning_add_row cd_Turning_add_row ct_Turning_add_row, f_Turning_bring_least, PySem.W.fnOf "bring_least" "Turning.bring_least" (defArgs s_Turning_bring_least) (defBody s_Turning_bring_least) (defScope s_Turning_bring_least) .none kV_Turning_bring_least dc_Turning_bring_least pm_Turning_bring_least an_Turning_bring_least cd_Turning_bring_least ct_Turning_bring_least, f_Turning_clear_cross, PySem.W.fnOf "clear_cross" "Turning.clear_cross" (defArgs s_Turning_clear_cross) (defBody s_Turning_clear_cross) (defScope s_Turning_clear_cross) .none kV_Turning_clear_cross dc_Turning_clear_cross pm_Turning_clear_cross an_Turning_clear_cross cd_Turning_clear_cross ct_Turning_clear_cross, f_Turning_mix_in, PySem.W.fnOf "mix_in" "Turning.mix_in" (defArgs s_Turning_mix_in) (defBody s_Turning_mix_in) (defScope s_Turning_mix_in) .none kV_Turning_mix_in dc_Turning_mix_in pm_Turning_mix_in an_Turning_mix_in cd_Turning_mix_in ct_Turning_mix_in, f_Turning_make_positive, PySem.W.fnOf "make_positive" "Turning.make_positive" (defArgs s_Turning_make_positive) (defBody s_Turning_make_positive) (defScope s_Turning_make_positive) .none kV_Turning_make_positive dc_Turning_make_positive pm_Turning_make_positive an_Turning_make_positive cd_Turning_make_positive ct_Turning_make_positive, f_Turning_init, PySem.W.fnOf "__init__" "Turning.__init__" (defArgs s_Turning_init) (defBody s_Turning_init) (defScope s_Turning_init) .none kV_Turning_init dc_Turning_init pm_Turning_init an_Turning_init cd_Turning_init ct_Turning_init, f_Turning_left, PySem.W.fnOf "left" "Turning.left" (defArgs s_Turning_left) (defBody s_Turning_left) (defScope s_Turning_left) .none kV_Turning_left dc_Turning_left pm_Turning_left an_Turning_left cd_Turning_left ct_Turning_left, f_Turning_right, PySem.W.fnOf "right" "Turning.right" (defArgs s_Turning_right) (defBody s_Turning_right) (defScope s_Turning_right) .none kV_Turning_right dc_Turning_right pm_Turning_right an_Turning_right cd_Turning_right ct_Turning_right, f_law_bag, PySem.W.fnOf "_law_bag" "_law_bag" (defArgs s_law_bag) (defBody s_law_bag) (defScope s_law_bag) .none kV_law_bag dc_law_bag pm_law_bag an_law_bag cd_law_bag ct_law_bag, f_law_draw, PySem.W.fnOf "_law_draw" "_law_draw" (defArgs s_law_draw) (defBody s_law_draw) (defScope s_law_draw) .none kV_law_draw dc_law_draw pm_law_draw an_law_draw cd_law_draw ct_law_draw, f_law_any, PySem.W.fnOf "_law_any" "_law_any" (defArgs s_law_any) (defBody s_law_any) (defScope s_law_any) .none kV_law_any dc_law_any pm_law_any an_law_any cd_law_any ct_law_any, f_law_same, PySem.W.fnOf "_law_same" "_law_same" (defArgs s_law_same) (defBody s_law_same) (defScope s_law_same) .none kV_law_same dc_law_same pm_law_same an_law_same cd_law_same ct_law_same, f_law_field, PySem.W.fnOf "_law_field" "_law_field" (defArgs s_law_field) (defBody s_law_field) (defScope s_law_field) .none kV_law_field dc_law_field pm_law_field an_law_field cd_law_field ct_law_field, f_law_got, PySem.W.fnOf "_law_got" "_law_got" (defArgs s_law_got) (defBody s_law_got) (defScope s_law_got) .none kV_law_got dc_law_got pm_law_got an_law_got cd_law_got ct_law_got, f_law_all_got, PySem.W.fnOf "_law_all_got" "_law_all_got" (defArgs s_law_all_got) (defBody s_law_all_got) (defScope s_law_all_got) .none kV_law_all_got dc_law_all_got pm_law_all_got an_law_all_got cd_law_all_got ct_law_all_got, f_law_code, PySem.W.fnOf "_law_code" "_law_code" (defArgs s_law_code) (defBody s_law_code) (defScope s_law_code) .none kV_law_code dc_law_code pm_law_code an_law_code cd_law_code ct_law_code, f_law_rows, PySem.W.fnOf "_law_rows" "_law_rows" (defArgs s_law_rows) (defBody s_law_rows) (defScope s_law_rows) .none kV_law_rows dc_law_rows pm_law_rows an_law_rows cd_law_rows ct_law_rows, fa, PySem.W.fnOf "law" "law" (defArgs s_law) (defBody s_law) (defScope s_law) .none kV_law dc_law pm_law an_law (.ref cL) ct_law, c_Turning, c_DialError, c_InvalidRows, c_Missing, fx_InvalidRows, cc_InvalidRows, kx_InvalidRows, PySem.W.fnX "__init__" "InvalidRows.__init__" (defArgs sx_InvalidRows) (defBody sx_InvalidRows) (defScope sx_InvalidRows) [(("__class__" : Str), cc_InvalidRows)] .none kV_xInvalidRows dc_xInvalidRows pm_xInvalidRows an_xInvalidRows (.ref kx_InvalidRows) ct_xInvalidRows⟩ := ⟨PySem.W.mg_none_of X G z_abs, PySem.W.mg_none_of X G z_all, PySem.W.mg_none_of X G z_any, PySem.W.mg_none_of X G z_bool, PySem.W.mg_none_of X G z_enumerate, PySem.W.mg_none_of X G z_int, PySem.W.mg_none_of X G z_isinstance, PySem.W.mg_none_of X G z_len, PySem.W.mg_none_of X G z_list, PySem.W.mg_none_of X G z_min, PySem.W.mg_none_of X G z_range, PySem.W.mg_none_of X G z_repr, PySem.W.mg_none_of X G z_super, PySem.W.mg_none_of X G z_tuple, PySem.W.mg_none_of X G z_zip, PySem.W.mg_of X G a_is_whole, F_is_whole, F_is_whole.binds fun _ _ _ _ _ _ us hl => match us, hl with | [_], _ => rfl, PySem.W.mg_of X G a_need_rows, F_need_rows, F_need_rows.binds fun _ _ _ _ _ _ us hl => match us, hl with | [_], _ => rfl, PySem.W.mg_of X G a_unit_rows, F_unit_rows, F_unit_rows.binds fun _ _ _ _ _ _ us hl => match us, hl with | [_], _ => rfl, PySem.W.mg_of X G a_less, F_less, F_less.binds fun _ _ _ _ _ _ us hl => match us, hl with | [_, _, _], _ => rfl, PySem.W.mg_of X G a_least_row, F_least_row, F_least_row.binds fun _ _ _ _ _ _ us hl => match us, hl with | [_, _], _ => rfl, PySem.W.mg_of X G a_parted, F_parted, F_parted.binds fun _ _ _ _ _ _ us hl => match us, hl with | [_, _], _ => rfl, PySem.W.mg_of X G a_hermite, F_hermite, F_hermite.binds fun _ _ _ _ _ _ us hl => match us, hl with | [_], _ => rfl, F_Turning_add_row, F_Turning_add_row.binds fun _ _ _ _ _ _ us hl => match us, hl with | [_, _, _, _], _ => rfl, F_Turning_bring_least, F_Turning_bring_least.binds fun _ _ _ _ _ _ us hl => match us, hl with | [_, _], _ => rfl, F_Turning_clear_cross, F_Turning_clear_cross.binds fun _ _ _ _ _ _ us hl => match us, hl with | [_, _], _ => rfl, F_Turning_mix_in, F_Turning_mix_in.binds fun _ _ _ _ _ _ us hl => match us, hl with | [_, _], _ => rfl, F_Turning_make_positive, F_Turning_make_positive.binds fun _ _ _ _ _ _ us hl => match us, hl with | [_, _], _ => rfl, F_Turning_init, F_Turning_init.binds fun _ _ _ _ _ _ us hl => match us, hl with | [_, _], _ => rfl, F_Turning_left, F_Turning_left.binds fun _ _ _ _ _ _ us hl => match us, hl with | [_], _ => rfl, F_Turning_right, F_Turning_right.binds fun _ _ _ _ _ _ us hl => match us, hl with | [_], _ => rfl, PySem.W.mg_of X G a_law_bag, F_law_bag, F_law_bag.binds fun _ _ _ _ _ _ us hl => match us, hl with | [_], _ => rfl, PySem.W.mg_of X G a_law_draw, F_law_draw, F_law_draw.binds fun _ _ _ _ _ _ us hl => match us, hl with | [_, _], _ => rfl, PySem.W.mg_of X G a_law_any, F_law_any⟩
  have T1 : Txt_1 P K mg ⟨f_is_whole, PySem.W.fnOf "is_whole" "is_whole" (defArgs s_is_whole) (defBody s_is_whole) (defScope s_is_whole) .none kV_is_whole dc_is_whole pm_is_whole an_is_whole cd_is_whole ct_is_whole, f_need_rows, PySem.W.fnOf "need_rows" "need_rows" (defArgs s_need_rows) (defBody s_need_rows) (defScope s_need_rows) .none kV_need_rows dc_need_rows pm_need_rows an_need_rows cd_need_rows ct_need_rows, f_unit_rows, PySem.W.fnOf "unit_rows" "unit_rows" (defArgs s_unit_rows) (defBody s_unit_rows) (defScope s_unit_rows) .none kV_unit_rows dc_unit_rows pm_unit_rows an_unit_rows cd_unit_rows ct_unit_rows, f_less, PySem.W.fnOf "less" "less" (defArgs s_less) (defBody s_less) (defScope s_less) .none kV_less dc_less pm_less an_less cd_less ct_less, f_least_row, PySem.W.fnOf "least_row" "least_row" (defArgs s_least_row) (defBody s_least_row) (defScope s_least_row) .none kV_least_row dc_least_row pm_least_row an_least_row cd_least_row ct_least_row, f_parted, PySem.W.fnOf "parted" "parted" (defArgs s_parted) (defBody s_parted) (defScope s_parted) .none kV_parted dc_parted pm_parted an_parted cd_parted ct_parted, f_hermite, PySem.W.fnOf "hermite" "hermite" (defArgs s_hermite) (defBody s_hermite) (defScope s_hermite) .none kV_hermite dc_hermite pm_hermite an_hermite cd_hermite ct_hermite, f_Turning_add_row, PySem.W.fnOf "add_row" "Turning.add_row" (defArgs s_Turning_add_row) (defBody s_Turning_add_row) (defScope s_Turning_add_row) .none kV_Turning_add_row dc_Turning_add_row pm_Turning_add_row an_Turning_add_row cd_Turning_add_row ct_Turning_add_row, f_Turning_bring_least, PySem.W.fnOf "bring_least" "Turning.bring_least" (defArgs s_Turning_bring_least) (defBody s_Turning_bring_least) (defScope s_Turning_bring_least) .none kV_Turning_bring_least dc_Turning_bring_least pm_Turning_bring_least an_Turning_bring_least cd_Turning_bring_least ct_Turning_bring_least, f_Turning_clear_cross, PySem.W.fnOf "clear_cross" "Turning.clear_cross" (defArgs s_Turning_clear_cross) (defBody s_Turning_clear_cross) (defScope s_Turning_clear_cross) .none kV_Turning_clear_cross dc_Turning_clear_cross pm_Turning_clear_cross an_Turning_clear_cross cd_Turning_clear_cross ct_Turning_clear_cross, f_Turning_mix_in, PySem.W.fnOf "mix_in" "Turning.mix_in" (defArgs s_Turning_mix_in) (defBody s_Turning_mix_in) (defScope s_Turning_mix_in) .none kV_Turning_mix_in dc_Turning_mix_in pm_Turning_mix_in an_Turning_mix_in cd_Turning_mix_in ct_Turning_mix_in, f_Turning_make_positive, PySem.W.fnOf "make_positive" "Turning.make_positive" (defArgs s_Turning_make_positive) (defBody s_Turning_make_positive) (defScope s_Turning_make_positive) .none kV_Turning_make_positive dc_Turning_make_positive pm_Turning_make_positive an_Turning_make_positive cd_Turning_make_positive ct_Turning_make_positive, f_Turning_init, PySem.W.fnOf "__init__" "Turning.__init__" (defArgs s_Turning_init) (defBody s_Turning_init) (defScope s_Turning_init) .none kV_Turning_init dc_Turning_init pm_Turning_init an_Turning_init cd_Turning_init ct_Turning_init, f_Turning_left, PySem.W.fnOf "left" "Turning.left" (defArgs s_Turning_left) (defBody s_Turning_left) (defScope s_Turning_left) .none kV_Turning_left dc_Turning_left pm_Turning_left an_Turning_left cd_Turning_left ct_Turning_left, f_Turning_right, PySem.W.fnOf "right" "Turning.right" (defArgs s_Turning_right) (defBody s_Turning_right) (defScope s_Turning_right) .none kV_Turning_right dc_Turning_right pm_Turning_right an_Turning_right cd_Turning_right ct_Turning_right, f_law_bag, PySem.W.fnOf "_law_bag" "_law_bag" (defArgs s_law_bag) (defBody s_law_bag) (defScope s_law_bag) .none kV_law_bag dc_law_bag pm_law_bag an_law_bag cd_law_bag ct_law_bag, f_law_draw, PySem.W.fnOf "_law_draw" "_law_draw" (defArgs s_law_draw) (defBody s_law_draw) (defScope s_law_draw) .none kV_law_draw dc_law_draw pm_law_draw an_law_draw cd_law_draw ct_law_draw, f_law_any, PySem.W.fnOf "_law_any" "_law_any" (defArgs s_law_any) (defBody s_law_any) (defScope s_law_any) .none kV_law_any dc_law_any pm_law_any an_law_any cd_law_any ct_law_any, f_law_same, PySem.W.fnOf "_law_same" "_law_same" (defArgs s_law_same) (defBody s_law_same) (defScope s_law_same) .none kV_law_same dc_law_same pm_law_same an_law_same cd_law_same ct_law_same, f_law_field, PySem.W.fnOf "_law_field" "_law_field" (defArgs s_law_field) (defBody s_law_field) (defScope s_law_field) .none kV_law_field dc_law_field pm_law_field an_law_field cd_law_field ct_law_field, f_law_got, PySem.W.fnOf "_law_got" "_law_got" (defArgs s_law_got) (defBody s_law_got) (defScope s_law_got) .none kV_law_got dc_law_got pm_law_got an_law_got cd_law_got ct_law_got, f_law_all_got, PySem.W.fnOf "_law_all_got" "_law_all_got" (defArgs s_law_all_got) (defBody s_law_all_got) (defScope s_law_all_got) .none kV_law_all_got dc_law_all_got pm_law_all_got an_law_all_got cd_law_all_got ct_law_all_got, f_law_code, PySem.W.fnOf "_law_code" "_law_code" (defArgs s_law_code) (defBody s_law_code) (defScope s_law_code) .none kV_law_code dc_law_code pm_law_code an_law_code cd_law_code ct_law_code, f_law_rows, PySem.W.fnOf "_law_rows" "_law_rows" (defArgs s_law_rows) (defBody s_law_rows) (defScope s_law_rows) .none kV_law_rows dc_law_rows pm_law_rows an_law_rows cd_law_rows ct_law_rows, fa, PySem.W.fnOf "law" "law" (defArgs s_law) (defBody s_law) (defScope s_law) .none kV_law dc_law pm_law an_law (.ref cL) ct_law, c_Turning, c_DialError, c_InvalidRows, c_Missing, fx_InvalidRows, cc_InvalidRows, kx_InvalidRows, PySem.W.fnX "__init__" "InvalidRows.__init__" (defArgs sx_InvalidRows) (defBody sx_InvalidRows) (defScope sx_InvalidRows) [(("__class__" : Str), cc_InvalidRows)] .none kV_xInvalidRows dc_xInvalidRows pm_xInvalidRows an_xInvalidRows (.ref kx_InvalidRows) ct_xInvalidRows⟩ := ⟨F_law_any.binds fun _ _ _ _ _ _ us hl => match us, hl with | [_, _], _ => rfl, PySem.W.mg_of X G a_law_same, F_law_same, F_law_same.binds fun _ _ _ _ _ _ us hl => match us, hl with | [_, _], _ => rfl, PySem.W.mg_of X G a_law_field, F_law_field, F_law_field.binds fun _ _ _ _ _ _ us hl => match us, hl with | [_], _ => rfl, PySem.W.mg_of X G a_law_got, F_law_got, F_law_got.binds fun _ _ _ _ _ _ us hl => match us, hl with | [_], _ => rfl, PySem.W.mg_of X G a_law_all_got, F_law_all_got, F_law_all_got.binds fun _ _ _ _ _ _ us hl => match us, hl with | [_], _ => rfl, PySem.W.mg_of X G a_law_code, F_law_code, F_law_code.binds fun _ _ _ _ _ _ us hl => match us, hl with | [_], _ => rfl, PySem.W.mg_of X G a_law_rows, F_law_rows, F_law_rows.binds fun _ _ _ _ _ _ us hl => match us, hl with | [_, _, _, _], _ => rfl, PySem.W.mg_of X G a_law, F_law, F_law.binds fun _ _ _ _ _ _ us hl => match us, hl with | [_], _ => rfl, cb_of fun fs us ws h0 h1 h2 => match fs, us, ws, h0, h1, h2 with | [_], [_, _, _], [], _, _, _ => rfl, cb_of fun fs us ws h0 h1 h2 => match fs, us, ws, h0, h1, h2 with | [_], [_], [], _, _, _ => rfl, cb_of fun fs us ws h0 h1 h2 => match fs, us, ws, h0, h1, h2 with | [_], [_], [], _, _, _ => rfl, cb_of fun fs us ws h0 h1 h2 => match fs, us, ws, h0, h1, h2 with | [_], [], [_], _, _, _ => rfl, cb_of fun fs us ws h0 h1 h2 => match fs, us, ws, h0, h1, h2 with | [_], [_], [], _, _, _ => rfl, cb_of fun fs us ws h0 h1 h2 => match fs, us, ws, h0, h1, h2 with | [_], [], [], _, _, _ => rfl, cb_of fun fs us ws h0 h1 h2 => match fs, us, ws, h0, h1, h2 with | [_], [_], [], _, _, _ => rfl, cb_of fun fs us ws h0 h1 h2 => match fs, us, ws, h0, h1, h2 with | [_], [_], [], _, _, _ => rfl, cb_of fun fs us ws h0 h1 h2 => match fs, us, ws, h0, h1, h2 with | [_], [], [], _, _, _ => rfl, cb_of fun fs us ws h0 h1 h2 => match fs, us, ws, h0, h1, h2 with | [], [], [_], _, _, _ => rfl, cb_of fun fs us ws h0 h1 h2 => match fs, us, ws, h0, h1, h2 with | [], [_], [], _, _, _ => rfl, cb_of fun fs us ws h0 h1 h2 => match fs, us, ws, h0, h1, h2 with | [], [_], [], _, _, _ => rfl, cb_of fun fs us ws h0 h1 h2 => match fs, us, ws, h0, h1, h2 with | [], [_], [], _, _, _ => rfl, PySem.W.mg_of X G a_Turning, cl_Turning, ⟨g5_Turning, a_Turning_init, i_Turning_init, g6_Turning⟩, na_Turning_own_left, na_Turning_own_rank, na_Turning_own_right, na_Turning_own_rows, na_Turning_wide, na_Turning_work, ⟨a_Turning_add_row, i_Turning_add_row, k_Turning_add_row⟩, ⟨a_Turning_bring_least, i_Turning_bring_least, k_Turning_bring_least⟩, ⟨a_Turning_clear_cross, i_Turning_clear_cross, k_Turning_clear_cross⟩, ⟨a_Turning_left, i_Turning_left, k_Turning_left⟩, ⟨a_Turning_make_positive, i_Turning_make_positive, k_Turning_make_positive⟩, ⟨a_Turning_mix_in, i_Turning_mix_in, k_Turning_mix_in⟩, ⟨a_Turning_right, i_Turning_right, k_Turning_right⟩, PySem.W.mg_of X G a_DialError, PySem.W.mg_of X G a_InvalidRows, PySem.W.mg_of X G a_Missing, ox_InvalidRows, xi_InvalidRows, xy_InvalidRows, ⟨foot_value, ox_InvalidRows, ⟨_, _, _, _, _, rfl⟩, ⟨_, _, _, xl_InvalidRows⟩, rfl, xd_InvalidRows, ⟨_, _, _, xe_InvalidRows⟩, ⟨_, _, _, _, _, _, xg_InvalidRows, r4x_InvalidRows, r5x_InvalidRows⟩, opq, xa_InvalidRows, xv_InvalidRows, xm_InvalidRows, z_super, r4x⟩, (fun _ us _ hl => match us, hl with | [_, _], _ => .of_eq rfl), xc_InvalidRows⟩
  have T2 : Txt_2 P K mg ⟨f_is_whole, PySem.W.fnOf "is_whole" "is_whole" (defArgs s_is_whole) (defBody s_is_whole) (defScope s_is_whole) .none kV_is_whole dc_is_whole pm_is_whole an_is_whole cd_is_whole ct_is_whole, f_need_rows, PySem.W.fnOf "need_rows" "need_rows" (defArgs s_need_rows) (defBody s_need_rows) (defScope s_need_rows) .none kV_need_rows dc_need_rows pm_need_rows an_need_rows cd_need_rows ct_need_rows, f_unit_rows, PySem.W.fnOf "unit_rows" "unit_rows" (defArgs s_unit_rows) (defBody s_unit_rows) (defScope s_unit_rows) .none kV_unit_rows dc_unit_rows pm_unit_rows an_unit_rows cd_unit_rows ct_unit_rows, f_less, PySem.W.fnOf "less" "less" (defArgs s_less) (defBody s_less) (defScope s_less) .none kV_less dc_less pm_less an_less cd_less ct_less, f_least_row, PySem.W.fnOf "least_row" "least_row" (defArgs s_least_row) (defBody s_least_row) (defScope s_least_row) .none kV_least_row dc_least_row pm_least_row an_least_row cd_least_row ct_least_row, f_parted, PySem.W.fnOf "parted" "parted" (defArgs s_parted) (defBody s_parted) (defScope s_parted) .none kV_parted dc_parted pm_parted an_parted cd_parted ct_parted, f_hermite, PySem.W.fnOf "hermite" "hermite" (defArgs s_hermite) (defBody s_hermite) (defScope s_hermite) .none kV_hermite dc_hermite pm_hermite an_hermite cd_hermite ct_hermite, f_Turning_add_row, PySem.W.fnOf "add_row" "Turning.add_row" (defArgs s_Turning_add_row) (defBody s_Turning_add_row) (defScope s_Turning_add_row) .none kV_Turning_add_row dc_Turning_add_row pm_Turning_add_row an_Turning_add_row cd_Turning_add_row ct_Turning_add_row, f_Turning_bring_least, PySem.W.fnOf "bring_least" "Turning.bring_least" (defArgs s_Turning_bring_least) (defBody s_Turning_bring_least) (defScope s_Turning_bring_least) .none kV_Turning_bring_least dc_Turning_bring_least pm_Turning_bring_least an_Turning_bring_least cd_Turning_bring_least ct_Turning_bring_least, f_Turning_clear_cross, PySem.W.fnOf "clear_cross" "Turning.clear_cross" (defArgs s_Turning_clear_cross) (defBody s_Turning_clear_cross) (defScope s_Turning_clear_cross) .none kV_Turning_clear_cross dc_Turning_clear_cross pm_Turning_clear_cross an_Turning_clear_cross cd_Turning_clear_cross ct_Turning_clear_cross, f_Turning_mix_in, PySem.W.fnOf "mix_in" "Turning.mix_in" (defArgs s_Turning_mix_in) (defBody s_Turning_mix_in) (defScope s_Turning_mix_in) .none kV_Turning_mix_in dc_Turning_mix_in pm_Turning_mix_in an_Turning_mix_in cd_Turning_mix_in ct_Turning_mix_in, f_Turning_make_positive, PySem.W.fnOf "make_positive" "Turning.make_positive" (defArgs s_Turning_make_positive) (defBody s_Turning_make_positive) (defScope s_Turning_make_positive) .none kV_Turning_make_positive dc_Turning_make_positive pm_Turning_make_positive an_Turning_make_positive cd_Turning_make_positive ct_Turning_make_positive, f_Turning_init, PySem.W.fnOf "__init__" "Turning.__init__" (defArgs s_Turning_init) (defBody s_Turning_init) (defScope s_Turning_init) .none kV_Turning_init dc_Turning_init pm_Turning_init an_Turning_init cd_Turning_init ct_Turning_init, f_Turning_left, PySem.W.fnOf "left" "Turning.left" (defArgs s_Turning_left) (defBody s_Turning_left) (defScope s_Turning_left) .none kV_Turning_left dc_Turning_left pm_Turning_left an_Turning_left cd_Turning_left ct_Turning_left, f_Turning_right, PySem.W.fnOf "right" "Turning.right" (defArgs s_Turning_right) (defBody s_Turning_right) (defScope s_Turning_right) .none kV_Turning_right dc_Turning_right pm_Turning_right an_Turning_right cd_Turning_right ct_Turning_right, f_law_bag, PySem.W.fnOf "_law_bag" "_law_bag" (defArgs s_law_bag) (defBody s_law_bag) (defScope s_law_bag) .none kV_law_bag dc_law_bag pm_law_bag an_law_bag cd_law_bag ct_law_bag, f_law_draw, PySem.W.fnOf "_law_draw" "_law_draw" (defArgs s_law_draw) (defBody s_law_draw) (defScope s_law_draw) .none kV_law_draw dc_law_draw pm_law_draw an_law_draw cd_law_draw ct_law_draw, f_law_any, PySem.W.fnOf "_law_any" "_law_any" (defArgs s_law_any) (defBody s_law_any) (defScope s_law_any) .none kV_law_any dc_law_any pm_law_any an_law_any cd_law_any ct_law_any, f_law_same, PySem.W.fnOf "_law_same" "_law_same" (defArgs s_law_same) (defBody s_law_same) (defScope s_law_same) .none kV_law_same dc_law_same pm_law_same an_law_same cd_law_same ct_law_same, f_law_field, PySem.W.fnOf "_law_field" "_law_field" (defArgs s_law_field) (defBody s_law_field) (defScope s_law_field) .none kV_law_field dc_law_field pm_law_field an_law_field cd_law_field ct_law_field, f_law_got, PySem.W.fnOf "_law_got" "_law_got" (defArgs s_law_got) (defBody s_law_got) (defScope s_law_got) .none kV_law_got dc_law_got pm_law_got an_law_got cd_law_got ct_law_got, f_law_all_got, PySem.W.fnOf "_law_all_got" "_law_all_got" (defArgs s_law_all_got) (defBody s_law_all_got) (defScope s_law_all_got) .none kV_law_all_got dc_law_all_got pm_law_all_got an_law_all_got cd_law_all_got ct_law_all_got, f_law_code, PySem.W.fnOf "_law_code" "_law_code" (defArgs s_law_code) (defBody s_law_code) (defScope s_law_code) .none kV_law_code dc_law_code pm_law_code an_law_code cd_law_code ct_law_code, f_law_rows, PySem.W.fnOf "_law_rows" "_law_rows" (defArgs s_law_rows) (defBody s_law_rows) (defScope s_law_rows) .none kV_law_rows dc_law_rows pm_law_rows an_law_rows cd_law_rows ct_law_rows, fa, PySem.W.fnOf "law" "law" (defArgs s_law) (defBody s_law) (defScope s_law) .none kV_law dc_law pm_law an_law (.ref cL) ct_law, c_Turning, c_DialError, c_InvalidRows, c_Missing, fx_InvalidRows, cc_InvalidRows, kx_InvalidRows, PySem.W.fnX "__init__" "InvalidRows.__init__" (defArgs sx_InvalidRows) (defBody sx_InvalidRows) (defScope sx_InvalidRows) [(("__class__" : Str), cc_InvalidRows)] .none kV_xInvalidRows dc_xInvalidRows pm_xInvalidRows an_xInvalidRows (.ref kx_InvalidRows) ct_xInvalidRows⟩ := ⟨xn_InvalidRows, ⟨(fm_cons (xfB_ok xf_InvalidRows) fm_nil), (fm_cons xc_InvalidRows fm_nil), (fm_cons (fun f e => by cases e; exact xn_InvalidRows) fm_nil), (fm_cons ⟨(show (Str.ofString "InvalidRows").length ≤ sizeLine by decide +kernel), (show PyData.strOk (Str.ofString "InvalidRows") = true by decide +kernel)⟩ fm_nil), (fm_cons (show ftb.lookup "InvalidRows" = some (some ("at" : Str)) by decide +kernel) fm_nil)⟩, (fm_cons xx_InvalidRows fm_nil)⟩
  have T : Txt P K mg ⟨f_is_whole, PySem.W.fnOf "is_whole" "is_whole" (defArgs s_is_whole) (defBody s_is_whole) (defScope s_is_whole) .none kV_is_whole dc_is_whole pm_is_whole an_is_whole cd_is_whole ct_is_whole, f_need_rows, PySem.W.fnOf "need_rows" "need_rows" (defArgs s_need_rows) (defBody s_need_rows) (defScope s_need_rows) .none kV_need_rows dc_need_rows pm_need_rows an_need_rows cd_need_rows ct_need_rows, f_unit_rows, PySem.W.fnOf "unit_rows" "unit_rows" (defArgs s_unit_rows) (defBody s_unit_rows) (defScope s_unit_rows) .none kV_unit_rows dc_unit_rows pm_unit_rows an_unit_rows cd_unit_rows ct_unit_rows, f_less, PySem.W.fnOf "less" "less" (defArgs s_less) (defBody s_less) (defScope s_less) .none kV_less dc_less pm_less an_less cd_less ct_less, f_least_row, PySem.W.fnOf "least_row" "least_row" (defArgs s_least_row) (defBody s_least_row) (defScope s_least_row) .none kV_least_row dc_least_row pm_least_row an_least_row cd_least_row ct_least_row, f_parted, PySem.W.fnOf "parted" "parted" (defArgs s_parted) (defBody s_parted) (defScope s_parted) .none kV_parted dc_parted pm_parted an_parted cd_parted ct_parted, f_hermite, PySem.W.fnOf "hermite" "hermite" (defArgs s_hermite) (defBody s_hermite) (defScope s_hermite) .none kV_hermite dc_hermite pm_hermite an_hermite cd_hermite ct_hermite, f_Turning_add_row, PySem.W.fnOf "add_row" "Turning.add_row" (defArgs s_Turning_add_row) (defBody s_Turning_add_row) (defScope s_Turning_add_row) .none kV_Turning_add_row dc_Turning_add_row pm_Turning_add_row an_Turning_add_row cd_Turning_add_row ct_Turning_add_row, f_Turning_bring_least, PySem.W.fnOf "bring_least" "Turning.bring_least" (defArgs s_Turning_bring_least) (defBody s_Turning_bring_least) (defScope s_Turning_bring_least) .none kV_Turning_bring_least dc_Turning_bring_least pm_Turning_bring_least an_Turning_bring_least cd_Turning_bring_least ct_Turning_bring_least, f_Turning_clear_cross, PySem.W.fnOf "clear_cross" "Turning.clear_cross" (defArgs s_Turning_clear_cross) (defBody s_Turning_clear_cross) (defScope s_Turning_clear_cross) .none kV_Turning_clear_cross dc_Turning_clear_cross pm_Turning_clear_cross an_Turning_clear_cross cd_Turning_clear_cross ct_Turning_clear_cross, f_Turning_mix_in, PySem.W.fnOf "mix_in" "Turning.mix_in" (defArgs s_Turning_mix_in) (defBody s_Turning_mix_in) (defScope s_Turning_mix_in) .none kV_Turning_mix_in dc_Turning_mix_in pm_Turning_mix_in an_Turning_mix_in cd_Turning_mix_in ct_Turning_mix_in, f_Turning_make_positive, PySem.W.fnOf "make_positive" "Turning.make_positive" (defArgs s_Turning_make_positive) (defBody s_Turning_make_positive) (defScope s_Turning_make_positive) .none kV_Turning_make_positive dc_Turning_make_positive pm_Turning_make_positive an_Turning_make_positive cd_Turning_make_positive ct_Turning_make_positive, f_Turning_init, PySem.W.fnOf "__init__" "Turning.__init__" (defArgs s_Turning_init) (defBody s_Turning_init) (defScope s_Turning_init) .none kV_Turning_init dc_Turning_init pm_Turning_init an_Turning_init cd_Turning_init ct_Turning_init, f_Turning_left, PySem.W.fnOf "left" "Turning.left" (defArgs s_Turning_left) (defBody s_Turning_left) (defScope s_Turning_left) .none kV_Turning_left dc_Turning_left pm_Turning_left an_Turning_left cd_Turning_left ct_Turning_left, f_Turning_right, PySem.W.fnOf "right" "Turning.right" (defArgs s_Turning_right) (defBody s_Turning_right) (defScope s_Turning_right) .none kV_Turning_right dc_Turning_right pm_Turning_right an_Turning_right cd_Turning_right ct_Turning_right, f_law_bag, PySem.W.fnOf "_law_bag" "_law_bag" (defArgs s_law_bag) (defBody s_law_bag) (defScope s_law_bag) .none kV_law_bag dc_law_bag pm_law_bag an_law_bag cd_law_bag ct_law_bag, f_law_draw, PySem.W.fnOf "_law_draw" "_law_draw" (defArgs s_law_draw) (defBody s_law_draw) (defScope s_law_draw) .none kV_law_draw dc_law_draw pm_law_draw an_law_draw cd_law_draw ct_law_draw, f_law_any, PySem.W.fnOf "_law_any" "_law_any" (defArgs s_law_any) (defBody s_law_any) (defScope s_law_any) .none kV_law_any dc_law_any pm_law_any an_law_any cd_law_any ct_law_any, f_law_same, PySem.W.fnOf "_law_same" "_law_same" (defArgs s_law_same) (defBody s_law_same) (defScope s_law_same) .none kV_law_same dc_law_same pm_law_same an_law_same cd_law_same ct_law_same, f_law_field, PySem.W.fnOf "_law_field" "_law_field" (defArgs s_law_field) (defBody s_law_field) (defScope s_law_field) .none kV_law_field dc_law_field pm_law_field an_law_field cd_law_field ct_law_field, f_law_got, PySem.W.fnOf "_law_got" "_law_got" (defArgs s_law_got) (defBody s_law_got) (defScope s_law_got) .none kV_law_got dc_law_got pm_law_got an_law_got cd_law_got ct_law_got, f_law_all_got, PySem.W.fnOf "_law_all_got" "_law_all_got" (defArgs s_law_all_got) (defBody s_law_all_got) (defScope s_law_all_got) .none kV_law_all_got dc_law_all_got pm_law_all_got an_law_all_got cd_law_all_got ct_law_all_got, f_law_code, PySem.W.fnOf "_law_code" "_law_code" (defArgs s_law_code) (defBody s_law_code) (defScope s_law_code) .none kV_law_code dc_law_code pm_law_code an_law_code cd_law_code ct_law_code, f_law_rows, PySem.W.fnOf "_law_rows" "_law_rows" (defArgs s_law_rows) (defBody s_law_rows) (defScope s_law_rows) .none kV_law_rows dc_law_rows pm_law_rows an_law_rows cd_law_rows ct_law_rows, fa, PySem.W.fnOf "law" "law" (defArgs s_law) (defBody s_law) (defScope s_law) .none kV_law dc_law pm_law an_law (.ref cL) ct_law, c_Turning, c_DialError, c_InvalidRows, c_Missing, fx_InvalidRows, cc_InvalidRows, kx_InvalidRows, PySem.W.fnX "__init__" "InvalidRows.__init__" (defArgs sx_InvalidRows) (defBody sx_InvalidRows) (defScope sx_InvalidRows) [(("__class__" : Str), cc_InvalidRows)] .none kV_xInvalidRows dc_xInvalidRows pm_xInvalidRows an_xInvalidRows (.ref kx_InvalidRows) ct_xInvalidRows⟩ := ⟨T0, T1, T2⟩
  exact ⟨_, cL, Tb, tb_ts, tb_hd, tb_no, fun s u => .of_eq rfl, fun base _ _ hTB => ok_law T rfl hTB⟩
end K10
open PySem PySem.W PyProof.Rows
set_option maxHeartbeats 0 in
theorem PySem.Challenge.cw_anydial_k10_rows_refused_holds : PySem.Challenge.rw_anydial_k10_rows_refused.Holds := by
  w_on; o_law
  refine Mi.head_p (r := K10.RR) (q := K10.qv) (loose := K10.looseN) (K := K10.KA.heap_1) (as := K10.KA.2.1) (ts := K10.KA.2.2) (ek := K10.run5) (d := HeadRun.topDef K10.RR.prog 26) (kwd := []) 40000 (by kernel_rfl) (fun s => by kernel_rfl) K10.run1 K10.run2 K10.run3 K10.run4 (by kernel_rfl) (by kernel_rfl) (by kernel_rfl) (by rfl) K10.run6 K10.run7 ⟨rfl, rfl, rfl, rfl, rfl, by decide +kernel⟩ ?hw ?hc
  case hw => w_witness2
  k_fill
  refine Mi.walk_GT (l := PySem.Challenge.rw_anydial_k10_rows_refused) (n := 63) (k := 17) (x := "_law_script") (sp := K10.spL) rfl (by decide) rfl ⟨rfl, by decide, by decide⟩ (fun w h Y => ⟨PySem.W.km_in_of Y, PySem.W.km_tabs_of Y⟩) ?F (fun K H a T ns hl hT hS => Mi.sp_tab (wf := K10.m_law) hl hT hS (K10.law_true ns))
  case F =>
    intro w mg fa h KX G hmg
    refine' K10.all_mk KX G hmg ?a_Turning ?a_is_whole ?l_is_whole ?c_is_whole ?k_is_whole ?a_need_rows ?l_need_rows ?c_need_rows ?k_need_rows ?a_unit_rows ?l_unit_rows ?c_unit_rows ?k_unit_rows ?a_less ?l_less ?c_less ?k_less ?a_least_row ?l_least_row ?c_least_row ?k_least_row ?a_parted ?l_parted ?c_parted ?k_parted ?a_hermite ?l_hermite ?c_hermite ?k_hermite ?a_Turning_add_row ?i_Turning_add_row ?l_Turning_add_row ?c_Turning_add_row ?k_Turning_add_row ?a_Turning_bring_least ?i_Turning_bring_least ?l_Turning_bring_least ?c_Turning_bring_least ?k_Turning_bring_least ?a_Turning_clear_cross ?i_Turning_clear_cross ?l_Turning_clear_cross ?c_Turning_clear_cross ?k_Turning_clear_cross ?a_Turning_mix_in ?i_Turning_mix_in ?l_Turning_mix_in ?c_Turning_mix_in ?k_Turning_mix_in ?a_Turning_make_positive ?i_Turning_make_positive ?l_Turning_make_positive ?c_Turning_make_positive ?k_Turning_make_positive ?a_Turning_init ?i_Turning_init ?l_Turning_init ?c_Turning_init ?k_Turning_init ?a_Turning_left ?i_Turning_left ?l_Turning_left ?c_Turning_left ?k_Turning_left ?a_Turning_right ?i_Turning_right ?l_Turning_right ?c_Turning_right ?k_Turning_right ?a_law_bag ?l_law_bag ?c_law_bag ?k_law_bag ?a_law_draw ?l_law_draw ?c_law_draw ?k_law_draw ?a_law_any ?l_law_any ?c_law_any ?k_law_any ?a_law_same ?l_law_same ?c_law_same ?k_law_same ?a_law_field ?l_law_field ?c_law_field ?k_law_field ?a_law_got ?l_law_got ?c_law_got ?k_law_got ?a_law_all_got ?l_law_all_got ?c_law_all_got ?k_law_all_got ?a_law_code ?l_law_code ?c_law_code ?k_law_code ?a_law_rows ?l_law_rows ?c_law_rows ?k_law_rows ?a_law ?l_law ?c_law ?k_law ?a_DialError ?a_InvalidRows ?a_Missing ?xi_InvalidRows ?xl_InvalidRows ?xd_InvalidRows ?xe_InvalidRows ?xg_InvalidRows ?r4x_InvalidRows ?r5x_InvalidRows ?xk_InvalidRows ?xs_InvalidRows ?xb_InvalidRows ?xt_InvalidRows ?xq_InvalidRows ?xf_InvalidRows ?xa_InvalidRows ?xv_InvalidRows ?xm_InvalidRows ?xy_InvalidRows ?xc_InvalidRows ?xn_InvalidRows ?xx_InvalidRows ?opq ?r4x ?tb_cd ?tb_ts ?tb_hd ?tb_no ?z_abs ?z_all ?z_any ?z_bool ?z_enumerate ?z_int ?z_isinstance ?z_len ?z_list ?z_min ?z_range ?z_repr ?z_super ?z_tuple ?z_zip ?g1_Turning ?g2_Turning ?g3_Turning ?g4_Turning ?g5_Turning ?g6_Turning ?na_Turning_own_left ?na_Turning_own_rank ?na_Turning_own_right ?na_Turning_own_rows ?na_Turning_wide ?na_Turning_work
    (case a_Turning => k_is)
    (case a_is_whole => k_is)
    (case l_is_whole => k_is)
    (case c_is_whole => k_is)
    (case k_is_whole => k_is)
    (case a_need_rows => k_is)
    (case l_need_rows => k_is)
    (case c_need_rows => k_is)
    (case k_need_rows => k_is)
    (case a_unit_rows => k_is)
    (case l_unit_rows => k_is)
    (case c_unit_rows => k_is)
    (case k_unit_rows => k_is)
    (case a_less => k_is)
    (case l_less => k_is)
    (case c_less => k_is)
    (case k_less => k_is)
    (case a_least_row => k_is)
    (case l_least_row => k_is)
    (case c_least_row => k_is)
    (case k_least_row => k_is)
    (case a_parted => k_is)
    (case l_parted => k_is)
    (case c_parted => k_is)
    (case k_parted => k_is)
    (case a_hermite => k_is)
    (case l_hermite => k_is)
    (case c_hermite => k_is)
    (case k_hermite => k_is)
    (case a_Turning_add_row => k_is)
    (case i_Turning_add_row => k_is)
    (case l_Turning_add_row => k_is)
    (case c_Turning_add_row => k_is)
    (case k_Turning_add_row => k_is)
    (case a_Turning_bring_least => k_is)
    (case i_Turning_bring_least => k_is)
    (case l_Turning_bring_least => k_is)
    (case c_Turning_bring_least => k_is)
    (case k_Turning_bring_least => k_is)
    (case a_Turning_clear_cross => k_is)
    (case i_Turning_clear_cross => k_is)
    (case l_Turning_clear_cross => k_is)
    (case c_Turning_clear_cross => k_is)
    (case k_Turning_clear_cross => k_is)
    (case a_Turning_mix_in => k_is)
    (case i_Turning_mix_in => k_is)
    (case l_Turning_mix_in => k_is)
    (case c_Turning_mix_in => k_is)
    (case k_Turning_mix_in => k_is)
    (case a_Turning_make_positive => k_is)
    (case i_Turning_make_positive => k_is)
    (case l_Turning_make_positive => k_is)
    (case c_Turning_make_positive => k_is)
    (case k_Turning_make_positive => k_is)
    (case a_Turning_init => k_is)
    (case i_Turning_init => k_is)
    (case l_Turning_init => k_is)
    (case c_Turning_init => k_is)
    (case k_Turning_init => k_is)
    (case a_Turning_left => k_is)
    (case i_Turning_left => k_is)
    (case l_Turning_left => k_is)
    (case c_Turning_left => k_is)
    (case k_Turning_left => k_is)
    (case a_Turning_right => k_is)
    (case i_Turning_right => k_is)
    (case l_Turning_right => k_is)
    (case c_Turning_right => k_is)
    (case k_Turning_right => k_is)
    (case a_law_bag => k_is)
    (case l_law_bag => k_is)
    (case c_law_bag => k_is)
    (case k_law_bag => k_is)
    (case a_law_draw => k_is)
    (case l_law_draw => k_is)
    (case c_law_draw => k_is)
    (case k_law_draw => k_is)
    (case a_law_any => k_is)
    (case l_law_any => k_is)
    (case c_law_any => k_is)
    (case k_law_any => k_is)
    (case a_law_same => k_is)
    (case l_law_same => k_is)
    (case c_law_same => k_is)
    (case k_law_same => k_is)
    (case a_law_field => k_is)
    (case l_law_field => k_is)
    (case c_law_field => k_is)
    (case k_law_field => k_is)
    (case a_law_got => k_is)
    (case l_law_got => k_is)
    (case c_law_got => k_is)
    (case k_law_got => k_is)
    (case a_law_all_got => k_is)
    (case l_law_all_got => k_is)
    (case c_law_all_got => k_is)
    (case k_law_all_got => k_is)
    (case a_law_code => k_is)
    (case l_law_code => k_is)
    (case c_law_code => k_is)
    (case k_law_code => k_is)
    (case a_law_rows => k_is)
    (case l_law_rows => k_is)
    (case c_law_rows => k_is)
    (case k_law_rows => k_is)
    (case a_law => k_is)
    (case l_law => k_is)
    (case c_law => k_is)
    (case k_law => k_is)
    (case a_DialError => k_is)
    (case a_InvalidRows => k_is)
    (case a_Missing => k_is)
    (case xi_InvalidRows => k_is)
    (case xl_InvalidRows => k_is)
    (case xd_InvalidRows => k_is)
    (case xe_InvalidRows => k_is)
    (case xg_InvalidRows => k_is)
    (case r4x_InvalidRows => rfl)
    (case r5x_InvalidRows => decide +kernel)
    (case xk_InvalidRows => exact ⟨_, _, _, _, _, _, _, _, _, _, _, _, _, _, _, by k_is, by decide +kernel⟩)
    (case xs_InvalidRows => k_is)
    (case xb_InvalidRows => k_is)
    (case xt_InvalidRows => k_is)
    (case xq_InvalidRows => k_is)
    (case xf_InvalidRows => kernel_rfl)
    (case xa_InvalidRows => kernel_rfl)
    (case xv_InvalidRows => k_is)
    (case xm_InvalidRows => k_is)
    (case xy_InvalidRows => k_is)
    (case xc_InvalidRows => k_is)
    (case xn_InvalidRows => k_is)
    (case xx_InvalidRows => kernel_rfl)
    (case opq => k_is)
    (case r4x => decide +kernel)
    (case tb_cd => rfl)
    (case tb_ts => exact List.Mem.head _)
    (case tb_hd => kernel_rfl)
    (case tb_no => kernel_rfl)
    (case z_abs => k_is)
    (case z_all => k_is)
    (case z_any => k_is)
    (case z_bool => k_is)
    (case z_enumerate => k_is)
    (case z_int => k_is)
    (case z_isinstance => k_is)
    (case z_len => k_is)
    (case z_list => k_is)
    (case z_min => k_is)
    (case z_range => k_is)
    (case z_repr => k_is)
    (case z_super => k_is)
    (case z_tuple => k_is)
    (case z_zip => k_is)
    (case g1_Turning => k_is)
    (case g2_Turning => k_is)
    (case g3_Turning => k_is)
    (case g4_Turning => k_is)
    (case g5_Turning => k_is)
    (case g6_Turning => k_is)
    (case na_Turning_own_left => k_is)
    (case na_Turning_own_rank => k_is)
    (case na_Turning_own_right => k_is)
    (case na_Turning_own_rows => k_is)
    (case na_Turning_wide => k_is)
    (case na_Turning_work => k_is)
