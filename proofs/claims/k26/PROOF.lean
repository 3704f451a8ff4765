import PyProof.Rows.All
import Wide.All
import OpenK.AllK
import Wide.FinOn
import HandS.ForMost
import HandS.Evl
import HandS.Wide
import HandS.Style
import HandS.Star
import HandS.Property
import HandS.SlotsOwn
import HandS.IsInst
import HandS.FStr
import HandS.Codes
import KE.GoesEnum
import KE.KOpsOwn
import HandS.Text
import PyProof.StrLawsRepr
import HandS.Exc
import HandS.ExcInit
import HandS.Nested
import KE.KExcSuper
import HandS.Lambda
import HandS.ExcValue
import HandS.WordsExc
import KE.KTryMore
import HandS.ExcField
import HandS.HotCalls
import HandS.EndOwn
import HandS.Small
import HandS.Records
import HandS.More
import PyProof.Rows.Range3
import PyProof.InstNe
import PyProof.TwoTypes
import HandS.Dict
import HandS.WordsDict
import HandS.Iter
import HandS.DictComp
import HandS.ClsMeth
import HandS.MakeKw
import PyProof.ExcFactsAll.LookupError
import PyProof.ExcFactsAll.IndexError
import HandS.ExcIs
import KE.KExcIs
import PyProof.ExcClass
import PyProof.Rows.StrMeet
import HandS.MapJoin
import HandS.Gcd
import KE.DataAny
import KE.KCallOwn
import KE.KDictZip
import HandS.OwnEq
import HandS.SortInts
import KE.SortKeyHeap
import KE.SortData
import KE.KSortKey
import HandS.SortKw
import KE.KDictKeyed
import KE.SortCalls
import KE.KSortTup
import HandS.ReCall
import HandS.Zip
import KE.KIndexOf
import HandS.GenOver
import PyProof.GenRules
import PyProof.ForAny
import HandS.GenBody
import PyProof.GenQ
import HandS.GenList
import KE.OsRunLaw
import HandS.Conv
import HandS.ListItems
import HandS.Zip0
import HandS.SetTxt0
import HandS.Strs
import HandS.SetFor
import HandS.TupAny
import PySem.Challenge.RW_anydial_k26_bounds_of_values
set_option Elab.async false
set_option linter.all false
set_option maxRecDepth 100000
set_option maxHeartbeats 4000000
set_option exponentiation.threshold 2000
namespace Mi
open PySem L2 Evl
structure Er where
  cls : String
  vals : List PyData
def W (α : Type) : Type := (α → Prop) → (Er → Prop) → Prop
def ret {α : Type} (x : α) : W α := fun P _ => P x
def bnd {α β : Type} (m : W α) (f : α → W β) : W β := fun P E => m (fun x => f x P E) E
def fail {α : Type} : W α := fun _ _ => False
def thr {α : Type} (e : Er) : W α := fun _ E => E e
/-- go on only if c holds -/
def chk (c : Prop) {α : Type} (w : W α) : W α := fun P E => c ∧ w P E
/-- what is raised is not wanted -/
def noX {α : Type} (m : W α) : W α := fun P _ => m P fun _ => False
@[simp] theorem noX_ret {α : Type} (x : α) : noX (ret x) = ret x := rfl
@[simp] theorem noX_chk {α : Type} (c : Prop) (m : W α) : noX (chk c m) = chk c (noX m) := rfl
@[simp] theorem noX_noX {α : Type} (m : W α) : noX (noX m) = noX m := rfl
@[simp] theorem noX_bnd {α β : Type} (m : W α) (f : α → W β) : noX (bnd m f) = bnd (noX m) fun x => noX (f x) := rfl
@[simp] theorem noX_fail {α : Type} : noX (fail : W α) = fail := rfl
@[simp] theorem bnd_ret {α β : Type} (x : α) (f : α → W β) : bnd (ret x) f = f x := rfl
@[simp] theorem ret_bnd {α : Type} (m : W α) : bnd m ret = m := rfl
@[simp] theorem bnd_bnd {α β γ : Type} (m : W α) (f : α → W β) (g : β → W γ) : bnd (bnd m f) g = bnd m fun x => bnd (f x) g := rfl
@[simp] theorem bnd_fail {α β : Type} (f : α → W β) : bnd (fail : W α) f = fail := rfl
@[simp] theorem bnd_thr {α β : Type} (e : Er) (f : α → W β) : bnd (thr e : W α) f = thr e := rfl
@[simp] theorem chk_bnd {c : Prop} {α β : Type} (w : W α) (f : α → W β) : bnd (chk c w) f = chk c (bnd w f) := rfl
@[simp] theorem ite_bnd {c : Prop} [Decidable c] {α β : Type} (w1 w2 : W α) (f : α → W β) : bnd (if c then w1 else w2) f = if c then bnd w1 f else bnd w2 f := by
  by_cases h : c
  · rw [if_pos h, if_pos h]
  · rw [if_neg h, if_neg h]
def mapW {α β : Type} (f : α → W β) : List α → W (List β)
  | [] => ret []
  | x :: xs => bnd (f x) fun y => bnd (mapW f xs) fun ys => ret (y :: ys)
def filtW {α β : Type} (c : α → W Bool) (f : α → W β) : List α → W (List β)
  | [] => ret []
  | x :: xs => bnd (c x) fun b => if b = true then bnd (f x) fun y => bnd (filtW c f xs) fun ys => ret (y :: ys) else filtW c f xs
/-- a loop that is never left early -/
def forW {α S : Type} (f : S → α → W S) : S → List α → W S
  | s, [] => ret s
  | s, x :: xs => bnd (f s x) fun s' => forW f s' xs
/-- how a block ends -/
inductive Fl (S ρ : Type) where
  | nx (s : S) | rt (x : ρ) | bk (s : S) | ct (s : S)
/-- behind a turn -/
def flGo {S ρ : Type} (k : S → W (Fl S ρ)) : Fl S ρ → W (Fl S ρ)
  | .nx s => k s
  | .ct s => k s
  | .bk s => ret (.nx s)
  | .rt z => ret (.rt z)
/-- a loop that may be left: by return (.rt), by break or at its end (.nx) -/
def forF {α S ρ : Type} (f : S → α → W (Fl S ρ)) : S → List α → W (Fl S ρ)
  | s, [] => ret (.nx s)
  | s, x :: xs => bnd (f s x) (flGo fun s' => forF f s' xs)
structure Rp (α : Type) where
  ok : Hp → V → α → Prop
  mono : ∀ {F F' : Hp} {v : V} {x : α}, Ex F F' → ok F v x → ok F' v x
def rInt : Rp Int := ⟨fun _ v x => v = .int x, fun _ h => h⟩
def rBool : Rp Bool := ⟨fun _ v x => v = .bl x, fun _ h => h⟩
def rStr : Rp Str := ⟨fun _ v x => v = .str x ∧ x.length ≤ sizeLine ∧ PyData.strOk x = true, fun _ h => h⟩
def rNon : Rp Unit := ⟨fun _ v _ => v = .non, fun _ h => h⟩
def rAdr (a : Addr) : Rp Unit := ⟨fun _ v _ => v = .ref a, fun _ h => h⟩
theorem Paired.imp {α β : Type} {R S : α → β → Prop} : ∀ {l : List α} {m : List β}, (∀ a b, R a b → S a b) → Paired R l m → Paired S l m
  | _, _, _, .nil => .nil
  | _, _, f, .cons r t => .cons (f _ _ r) (Paired.imp f t)
def rLst {α : Type} (r : Rp α) : Rp (List α) :=
  ⟨fun F v xs => ∃ a vs, v = .ref a ∧ F a = some (.lst vs) ∧ vs.length ≤ sizeLine ∧ Paired (r.ok F) vs xs, fun e ⟨a, vs, h1, h2, h3, h4⟩ => ⟨a, vs, h1, e _ _ h2, h3, Paired.imp (fun _ _ => r.mono e) h4⟩⟩
/-- a tuple of things of one kind -/
def rTup (K : PySem.W.Frag) {α : Type} (r : Rp α) : Rp (List α) :=
  ⟨fun F v xs => ∃ a vs, v = .ref a ∧ SqT K F a vs ∧ vs.length ≤ sizeLine ∧ Paired (r.ok F) vs xs, fun e ⟨a, vs, h1, h2, h3, h4⟩ => ⟨a, vs, h1, ex_t e h2, h3, Paired.imp (fun _ _ => r.mono e) h4⟩⟩
/-- a pair, a triple as a tuple -/
def rT2 (K : PySem.W.Frag) {α β : Type} (r : Rp α) (s : Rp β) : Rp (α × β) :=
  ⟨fun F v x => ∃ a v1 v2, v = .ref a ∧ SqT K F a [v1, v2] ∧ r.ok F v1 x.1 ∧ s.ok F v2 x.2, fun e ⟨a, v1, v2, h1, h2, h3, h4⟩ => ⟨a, v1, v2, h1, ex_t e h2, r.mono e h3, s.mono e h4⟩⟩
def rT3 (K : PySem.W.Frag) {α β γ : Type} (r : Rp α) (s : Rp β) (t : Rp γ) : Rp (α × β × γ) :=
  ⟨fun F v x => ∃ a v1 v2 v3, v = .ref a ∧ SqT K F a [v1, v2, v3] ∧ r.ok F v1 x.1 ∧ s.ok F v2 x.2.1 ∧ t.ok F v3 x.2.2, fun e ⟨a, v1, v2, v3, h1, h2, h3, h4, h5⟩ => ⟨a, v1, v2, v3, h1, ex_t e h2, r.mono e h3, s.mono e h4, t.mono e h5⟩⟩
def rOpt {α : Type} (r : Rp α) : Rp (Option α) :=
  ⟨fun F v x => match x with | none => v = .non | some y => v ≠ .non ∧ r.ok F v y, fun {F F' v x} e h => by
    cases x with
    | none => exact h
    | some y => exact ⟨h.1, r.mono e h.2⟩⟩
/-- data of any kind -/
def rD (K : PySem.W.Frag) : Rp PyData := ⟨fun F v d => Dp K F v d ∧ d.canLay0 = true ∧ d.depth ≤ 30, fun e ⟨h, hc⟩ => ⟨by
  refine (show ∀ {v d}, Dp K _ v d → Dp K _ v d from ?_) h
  intro v d h
  refine Dp.rec (K := K) (H := _) (motive_1 := fun v d _ => Dp K _ v d) (motive_2 := fun vs ds _ => DpAll K _ vs ds) .non .bl .int .str (fun h1 _ ih => .lst (ex_l e h1) ih) (fun h1 _ ih => .tup (ex_t e h1) ih) .nil (fun _ _ i1 i2 => .cons i1 i2) h, hc⟩⟩
end Mi
namespace Mi
open PySem L2 Evl
structure Slot where
  ok : Hp → Option V → Prop
  mono : ∀ {F F' : Hp} {v : Option V}, Ex F F' → ok F v → ok F' v
def sv {α : Type} (r : Rp α) (x : α) : Slot := ⟨fun F ov => ∃ v, ov = some v ∧ r.ok F v x, fun e ⟨v, h1, h2⟩ => ⟨v, h1, r.mono e h2⟩⟩
/-- anything, or nothing -/
def sa : Slot := ⟨fun _ _ => True, fun _ _ => trivial⟩
structure Own where
  ok : Hp → HO → Prop
  mono : ∀ {F F' : Hp} {o : HO}, Ex F F' → ok F o → ok F' o
def oLst {α : Type} (r : Rp α) (xs : List α) : Own := ⟨fun F o => ∃ vs, o = .lst vs ∧ vs.length ≤ sizeLine ∧ Paired (r.ok F) vs xs, fun e ⟨vs, h1, h2, h3⟩ => ⟨vs, h1, h2, Paired.imp (fun _ _ => r.mono e) h3⟩⟩
/-- the base: the heap at the def's entry (F: what never changes of it), the objects handed in to be changed, what is allowed of errors -/
structure Bs where
  F : Hp
  H : Hp
  M : Hp
  io : List Addr
  E0 : Er → Prop
/-- a mark within a body: what a loop's source leans on -/
abbrev Bs.at (B : Bs) (M : Hp) : Bs := { B with M := M }
structure Fn (B : Bs) (F H : Hp) : Prop where
  fh : Ex F H
  bf : Ex B.F F
  mrk : Ex B.M F
  bb : Ex B.F B.H
  ios : ∀ a ∈ B.io, ∃ o, H a = some o
  keep : ∀ a o, B.F a = none → B.H a = some o → a ∉ B.io → H a = some o ∧ F a = none
abbrev Env := List Slot
abbrev Os := List (Addr × Own)
def EnvOk (F : Hp) (env : Env) (σ : L2.St) : Prop := Paired (fun (s : Slot) (ov : Option V) => s.ok F ov) env σ
structure Sit (B : Bs) (F H : Hp) (σ : L2.St) (env : Env) (os : Os) : Prop where
  fin : Fn B F H
  env : EnvOk F env σ
  ow : ∀ p ∈ os, F p.1 = none ∧ (∃ o, H p.1 = some o ∧ p.2.ok F o) ∧ (B.H p.1 = none ∨ p.1 ∈ B.io)
  nd : (os.map (·.1)).Nodup
theorem EnvOk.mono {F F' : Hp} {env : Env} {σ : L2.St} (e : Ex F F') (h : EnvOk F env σ) : EnvOk F' env σ := Paired.imp (fun s _ => s.mono e) h
theorem EnvOk.get {F : Hp} : ∀ {env : Env} {σ : L2.St} {i : Nat} {s : Slot}, EnvOk F env σ → env[i]? = some s → ∃ ov, σ[i]? = some ov ∧ s.ok F ov
  | _, _, i, s, .nil, h => by simp at h
  | _, _, 0, s, .cons r t, h => by
    simp at h
    subst h
    exact ⟨_, rfl, r⟩
  | _, _, i + 1, s, .cons r t, h => by
    obtain ⟨ov, h1, h2⟩ := EnvOk.get (i := i) t (by simpa using h)
    exact ⟨ov, by simpa using h1, h2⟩
theorem EnvOk.set {F : Hp} {s : Slot} {ov : Option V} (r : s.ok F ov) : ∀ {env : Env} {σ : L2.St} {i : Nat}, EnvOk F env σ → EnvOk F (env.set i s) (σ.set i ov)
  | _, _, _, .nil => .nil
  | _, _, 0, .cons _ t => .cons r t
  | _, _, i + 1, .cons q t => .cons q (EnvOk.set r (i := i) t)
theorem EnvOk.len {F : Hp} {env : Env} {σ : L2.St} (h : EnvOk F env σ) : env.length = σ.length := Paired.length h
structure Grow (F H F' H' : Hp) : Prop where
  f : Ex F F'
  h : Ex H H'
  new : ∀ a, H a = none → F' a = H' a
  old : ∀ a o, H a = some o → F' a = F a
theorem Grow.refl {F H : Hp} (fh : Ex F H) : Grow F H F H := by
  refine ⟨Ex.refl F, Ex.refl H, fun a h => ?_, fun _ _ _ => rfl⟩
  rw [h]
  exact fresh_back fh h
theorem Grow.trans {F H F1 H1 F2 H2 : Hp} (a : Grow F H F1 H1) (b : Grow F1 H1 F2 H2) : Grow F H F2 H2 := by
  refine ⟨a.f.trans b.f, a.h.trans b.h, fun p hp => ?_, fun p o hp => ?_⟩
  · cases e : H1 p with
    | none => exact b.new p e
    | some o =>
      have e2 : F1 p = some o := (a.new p hp).trans e
      rw [b.f p o e2, b.h p o e]
  · rw [b.old p o (a.h p o hp), a.old p o hp]
theorem Grow.fh {F H F' H' : Hp} (g : Grow F H F' H') (fh : Ex F H) : Ex F' H' := fun a o h => by
  cases e : H a with
  | none => exact (g.new a e).symm.trans h
  | some u =>
    have z := (g.old a u e).symm.trans h
    exact g.h a o (fh a o z)
theorem Grow.alloc {F H : Hp} {p : Addr} {o : HO} (fh : Ex F H) (hp : H p = none) : Grow F H (upd F p o) (upd H p o) := by
  have fp : F p = none := fresh_back fh hp
  refine ⟨Ex.new fp, Ex.new hp, fun a ha => ?_, fun a u ha => ?_⟩
  · by_cases e : a = p
    · rw [e, upd_same, upd_same]
    · rw [upd_ne e, upd_ne e, ha]
      exact fresh_back fh ha
  · have e : a ≠ p := ne_of_none ha hp
    rw [upd_ne e]
section
variable {B : Bs} {F H F' H' : Hp} {σ : L2.St} {env : Env} {os : Os}
theorem Fn.grow (s : Fn B F H) (g : Grow F H F' H') : Fn B F' H' :=
  ⟨g.fh s.fh, s.bf.trans g.f, s.mrk.trans g.f, s.bb, fun a ha => let ⟨o, h⟩ := s.ios a ha; ⟨o, g.h a o h⟩, fun a o h1 h2 h3 => by
    obtain ⟨k1, k2⟩ := s.keep a o h1 h2 h3
    exact ⟨g.h a o k1, (g.old a o k1).trans k2⟩⟩
theorem Sit.grow (s : Sit B F H σ env os) (g : Grow F H F' H') : Sit B F' H' σ env os :=
  ⟨s.fin.grow g, s.env.mono g.f, fun p hp => by
    obtain ⟨h1, ⟨o, h2, h3⟩, h4⟩ := s.ow p hp
    exact ⟨(g.old _ o h2).trans h1, ⟨o, g.h _ _ h2, p.2.mono g.f h3⟩, h4⟩, s.nd⟩
theorem Sit.fh (s : Sit B F H σ env os) : Ex F H := s.fin.fh
theorem Sit.store {i : Nat} {sl : Slot} {v : V} (s : Sit B F H σ env os) (r : sl.ok F (some v)) : Sit B F H (σ.set i (some v)) (env.set i sl) os := ⟨s.fin, s.env.set r, s.ow, s.nd⟩
end
def tOf (B : Bs) (env : Env) (os : Os) {α : Type} (r : Rp α) (w : W α) : TE := fun σ H Q => ∃ F P, Sit B F H σ env os ∧ w P B.E0 ∧ ∀ x, P x → ∀ v F' H', Sit B F' H' σ env os → Ex F F' → r.ok F' v x → Q v H'
def EE (X : Cx) (B : Bs) (env : Env) (os : Os) (e : Expr) {α : Type} (r : Rp α) (w : W α) : Prop := PE X e (tOf B env os r w)
theorem PE.imp {X : Cx} {e : Expr} {t t' : TE} (h : PE X e t) (i : ∀ σ H Q, t' σ H Q → t σ H Q) : PE X e t' := ⟨fun pins s σ H Q I q => h.run pins s σ H Q I (i _ _ _ q)⟩
theorem PE.ex {X : Cx} {e : Expr} {ι : Type} {t : ι → TE} (h : ∀ i, PE X e (t i)) : PE X e (fun σ H Q => ∃ i, t i σ H Q) := ⟨fun pins s σ H Q I ⟨i, q⟩ => (h i).run pins s σ H Q I q⟩
section
variable {X : Cx} {B : Bs} {env : Env} {os : Os} {pos : Pos} {α β γ : Type} {r : Rp α} {s : Rp β} {t : Rp γ} {e a b : Expr}
theorem e_conv {w w' : W α} (h : EE X B env os e r w) (q : w' = w) : EE X B env os e r w' := q ▸ h
theorem e_name (i : Nat) {x : Str} {y : α} (he : env[i]? = some (sv r y) := by rfl) (hN : X.N[i]? = some x := by rfl) (hv : Vis X.env.scope x := by first | exact Or.inl rfl | exact Or.inr (Or.inl rfl) | exact Or.inr (Or.inr rfl))
    (hd : (x == ("__debug__" : Str)) = false := by decide) (hcd : (x == ("__classdict__" : Str)) = false := by decide) : EE X B env os (.Name x pos) r (ret y) :=
  PE.imp (pe_var hN hv hd hcd) fun σ H Q ⟨F, P, S, hw, k⟩ => by
    obtain ⟨ov, h1, v, h2, h3⟩ := S.env.get he
    subst h2
    exact ⟨v, h1, k y hw v F H S (Ex.refl F) h3⟩
theorem tc_of {v : V} {y : α} (h : ∀ F, r.ok F v y) {σ : L2.St} {H : Hp} {Q : VK} (q : tOf B env os r (ret y) σ H Q) : tC v σ H Q := by
  obtain ⟨F, P, S, hw, k⟩ := q
  exact k y hw v F H S (Ex.refl F) (h F)
theorem e_int {i : Int} {j} : EE X B env os (.Constant (.int i) j pos) rInt (ret i) := PE.imp pe_int fun _ _ _ q => tc_of (r := rInt) (fun _ => rfl) q
theorem e_bl {b : Bool} {j} : EE X B env os (.Constant (.bool b) j pos) rBool (ret b) := PE.imp pe_bl fun _ _ _ q => tc_of (r := rBool) (fun _ => rfl) q
theorem e_non {j} : EE X B env os (.Constant .none j pos) rNon (ret ()) := PE.imp pe_non fun _ _ _ q => tc_of (r := rNon) (fun _ => rfl) q
theorem e_str {x : Str} {j} (h : x.length ≤ sizeLine := by decide +kernel) (h2 : PyData.strOk x = true := by decide +kernel) : EE X B env os (.Constant (.str x) j pos) rStr (ret x) := PE.imp pe_str fun _ _ _ q => tc_of (r := rStr) (fun _ => ⟨rfl, h, h2⟩) q
/-- a name of the module -/
theorem e_glob {x : Str} {v : V} {u : Value} {y : α} (hg : Gl X x) (hm : X.mg x = some u) (rv : RelV v u) (h : ∀ F, r.ok F v y) (hd : (x == ("__debug__" : Str)) = false := by decide) : EE X B env os (.Name x pos) r (ret y) :=
  PE.imp (pe_glob hg hm rv hd) fun _ _ _ q => tc_of (r := r) h q
/-- what a two-place operation on values is worth -/
def R2T (q : R2) (r : Rp α) (s : Rp β) (t : Rp γ) (f : α → β → W γ) : Prop := ∀ (F H : Hp) (v u : V) (x : α) (y : β) (P : γ → Prop) (E : Er → Prop) (Q : VK), Ex F H → r.ok F v x → s.ok F u y → f x y P E →
  (∀ z, P z → ∀ v' F' H', Grow F H F' H' → t.ok F' v' z → Q v' H') → q v u H Q
theorem two {q : R2} {f : α → β → W γ} {w1 : W α} {w2 : α → W β} (sem : R2T q r s t f) {σ : L2.St} {H : Hp} {Q : VK}
    (h : tOf B env os t (bnd w1 fun x => bnd (w2 x) fun y => f x y) σ H Q) : tOp q (tOf B env os r w1) (fun σ H Q => ∃ x, tOf B env os s (w2 x) σ H Q) σ H Q := by
  obtain ⟨F, P, S, hw, k⟩ := h
  refine ⟨F, _, S, hw, fun x hx v F1 H1 S1 e1 ok1 => ⟨x, F1, _, S1, hx, fun y hy u F2 H2 S2 e2 ok2 => ?_⟩⟩
  exact sem F2 H2 v u x y P B.E0 Q S2.fh (r.mono e2 ok1) ok2 hy fun z hz v' F3 H3 g ok3 => k z hz v' F3 H3 (S2.grow g) ((e1.trans e2).trans g.f) ok3
theorem e_op {op : Operator} {q : R2} {f : α → β → W γ} {w1 : W α} {w2 : α → W β} (ho : OpR X (binaryOp op) q) (sem : R2T q r s t f) (ha : EE X B env os a r w1) (hb : ∀ x, EE X B env os b s (w2 x)) :
    EE X B env os (.BinOp a op b pos) t (bnd w1 fun x => bnd (w2 x) fun y => f x y) := PE.imp (pe_op ho ha (PE.ex hb)) fun _ _ _ h => two sem h
theorem e_cmp {op : CmpOp} {q : R2} {f : α → β → W γ} {w1 : W α} {w2 : α → W β} (ho : OpR X (compareOp op) q) (sem : R2T q r s t f) (hm : behindInMarks op b = false) (ha : EE X B env os a r w1) (hb : ∀ x, EE X B env os b s (w2 x)) :
    EE X B env os (.Compare a [op] [b] pos) t (bnd w1 fun x => bnd (w2 x) fun y => f x y) := PE.imp (pe_cmpR ho ha (PE.ex hb) hm) fun _ _ _ h => two sem h
theorem e_ix {q : R2} {f : α → β → W γ} {w1 : W α} {w2 : α → W β} (hr : IxR X q) (sem : R2T q r s t f) (hs : PlainIx b) (ha : EE X B env os a r w1) (hb : ∀ x, EE X B env os b s (w2 x)) :
    EE X B env os (.Subscript a b pos) t (bnd w1 fun x => bnd (w2 x) fun y => f x y) := PE.imp (pe_ix hr ha (PE.ex hb) hs) fun _ _ _ h => two sem h
def R1T (q : V → Hp → VK → Prop) (r : Rp α) (t : Rp γ) (f : α → W γ) : Prop := ∀ (F H : Hp) (v : V) (x : α) (P : γ → Prop) (E : Er → Prop) (Q : VK), Ex F H → r.ok F v x → f x P E → (∀ z, P z → ∀ v' F' H', Grow F H F' H' → t.ok F' v' z → Q v' H') → q v H Q
theorem e_un {op : UnaryOp} {q : V → Hp → VK → Prop} {f : α → W γ} {w1 : W α} (ho : UnR X (unaryOp op) q) (sem : R1T q r t f) (ha : EE X B env os a r w1) : EE X B env os (.UnaryOp op a pos) t (bnd w1 f) :=
  PE.imp (pe_un ho ha) fun σ H Q ⟨F, P, S, hw, k⟩ => ⟨F, _, S, hw, fun x hx v F1 H1 S1 e1 ok1 => sem F1 H1 v x P B.E0 Q S1.fh ok1 hx fun z hz v' F3 H3 g ok3 => k z hz v' F3 H3 (S1.grow g) (e1.trans g.f) ok3⟩
end
section
variable {X : Cx} {B : Bs} {env : Env} {os : Os} {pos : Pos} {a b : Expr} {w1 : W Int} {w2 : Int → W Int}
theorem r2i {γ : Type} {t : Rp γ} {g : Int → Int → V} {f : Int → Int → γ} (h : ∀ F i j, t.ok F (g i j) (f i j)) : R2T (rI0 g) rInt rInt t fun i j => ret (f i j) := fun F H v u x y P E Q fh e1 e2 hw k =>
  ⟨x, y, e1, e2, k _ hw _ F H (Grow.refl fh) (h F x y)⟩
theorem r2c {γ : Type} {t : Rp γ} {C : Int → Int → Prop} {g : Int → Int → V} {f : Int → Int → γ} (h : ∀ F i j, t.ok F (g i j) (f i j)) : R2T (rI C g) rInt rInt t fun i j => chk (C i j) (ret (f i j)) := fun F H v u x y P E Q fh e1 e2 ⟨hc, hw⟩ k =>
  ⟨x, y, e1, e2, hc, k _ hw _ F H (Grow.refl fh) (h F x y)⟩
theorem e_add (ha : EE X B env os a rInt w1) (hb : ∀ x, EE X B env os b rInt (w2 x)) : EE X B env os (.BinOp a .Add b pos) rInt (bnd w1 fun x => bnd (w2 x) fun y => ret (x + y)) := e_op op_add (r2i fun _ _ _ => rfl) ha hb
/-- of any size, together below a million bits -/
theorem op_mulG : OpR X (binaryOp .Mult) (rI IntMulOk fun i j => .int (i * j)) := opI fun _ _ _ _ _ _ _ hc q => PyProof.Rows.mul_int q hc
def mulI (x y : Int) : W Int := chk (IntMulOk x y) (ret (x * y))
theorem e_mul (ha : EE X B env os a rInt w1) (hb : ∀ x, EE X B env os b rInt (w2 x)) : EE X B env os (.BinOp a .Mult b pos) rInt (bnd w1 fun x => bnd (w2 x) fun y => mulI x y) := e_op op_mulG (r2c fun _ _ _ => rfl) ha hb
def CDivG (_ j : Int) : Prop := j ≠ 0 ∧ j.natAbs.log2 < 9000
theorem op_fdivG : OpR X (binaryOp .FloorDiv) (rI CDivG fun i j => .int (i.fdiv j)) := opI fun i j _ _ _ _ _ hc q => PyProof.Rows.floordiv_int hc.1 q (.inl (PyProof.noPylong_of_log2 hc.2))
def divI (x y : Int) : W Int := chk (CDivG x y) (ret (x.fdiv y))
theorem e_div (ha : EE X B env os a rInt w1) (hb : ∀ x, EE X B env os b rInt (w2 x)) : EE X B env os (.BinOp a .FloorDiv b pos) rInt (bnd w1 fun x => bnd (w2 x) fun y => divI x y) := e_op op_fdivG (r2c fun _ _ _ => rfl) ha hb
def modI (x y : Int) : W Int := chk (y ≠ 0) (ret (x.fmod y))
theorem e_mod (ha : EE X B env os a rInt w1) (hb : ∀ x, EE X B env os b rInt (w2 x)) : EE X B env os (.BinOp a .Mod b pos) rInt (bnd w1 fun x => bnd (w2 x) fun y => modI x y) := e_op op_modN (r2c fun _ _ _ => rfl) ha hb
def powI (x y : Int) : W Int := chk (CPow x y) (ret (x ^ y.toNat))
theorem e_pow (ha : EE X B env os a rInt w1) (hb : ∀ x, EE X B env os b rInt (w2 x)) : EE X B env os (.BinOp a .Pow b pos) rInt (bnd w1 fun x => bnd (w2 x) fun y => powI x y) := e_op op_pow (r2c fun _ _ _ => rfl) ha hb
theorem e_neg (ha : EE X B env os a rInt w1) : EE X B env os (.UnaryOp .USub a pos) rInt (bnd w1 fun x => ret (-x)) := e_un un_neg (fun F H v x P E Q fh e1 hw k => ⟨x, e1, k _ hw _ F H (Grow.refl fh) rfl⟩) ha
theorem e_le (ha : EE X B env os a rInt w1) (hb : ∀ x, EE X B env os b rInt (w2 x)) : EE X B env os (.Compare a [.LtE] [b] pos) rBool (bnd w1 fun x => bnd (w2 x) fun y => ret (decide (x ≤ y))) := e_cmp op_le (r2i fun _ _ _ => rfl) (nomark _) ha hb
end
end Mi
namespace Mi
open PySem L2 Evl
def tOfT (B : Bs) (env : Env) (os : Os) (w : W Bool) : TT := fun σ H Q => ∃ F P, Sit B F H σ env os ∧ w P B.E0 ∧ ∀ b, P b → ∀ F' H', Sit B F' H' σ env os → Ex F F' → Q b H'
def ET (X : Cx) (B : Bs) (env : Env) (os : Os) (e : Expr) (w : W Bool) : Prop := PT X e (tOfT B env os w)
def EW (X : Cx) (B : Bs) (env : Env) (os : Os) (e : Expr) (w : W Bool) : Prop := PW X e (tOfT B env os w)
theorem PT.imp {X : Cx} {e : Expr} {t t' : TT} (h : PT X e t) (i : ∀ σ H Q, t' σ H Q → t σ H Q) : PT X e t' := ⟨fun pins s σ H Q I q => h.run pins s σ H Q I (i _ _ _ q)⟩
theorem PW.imp {X : Cx} {e : Expr} {t t' : TT} (h : PW X e t) (i : ∀ σ H Q, t' σ H Q → t σ H Q) : PW X e t' := ⟨fun wh pins s σ H Q I q => h.run wh pins s σ H Q I (i _ _ _ q)⟩
section
variable {X : Cx} {B : Bs} {env : Env} {os : Os} {pos : Pos} {α β γ : Type} {r : Rp α} {s : Rp β} {t : Rp γ} {e a b c : Expr} {rest : List Expr} {w1 w2 w3 : W Bool}
theorem t_cmp {op : CmpOp} {q : R2} {f : α → β → W Bool} {w1 : W α} {w2 : α → W β} (ho : OpR X (compareOp op) q) (sem : R2T q r s rBool f) (hm : behindInMarks op b = false) (ha : EE X B env os a r w1) (hb : ∀ x, EE X B env os b s (w2 x)) :
    ET X B env os (.Compare a [op] [b] pos) (bnd w1 fun x => bnd (w2 x) fun y => f x y) := PT.imp (pt_cmpR ho ha (PE.ex hb) hm) fun σ H Q ⟨F, P, S, hw, k⟩ =>
  two (t := rBool) sem ⟨F, P, S, hw, fun z hz v F' H' S' e' ok => ⟨z, ok, k z hz F' H' S' e'⟩⟩
/-- the value is True or False -/
theorem t_val {w : W Bool} (h : EE X B env os e rBool w) (he : ∀ whole, isTrue e X.env whole = (do let v ← whole; standAt e.pos; holding [v] (truthy v)) := by intro _; rfl) : ET X B env os e w :=
  PT.imp (pt_val h he) fun σ H Q ⟨F, P, S, hw, k⟩ => ⟨F, P, S, hw, fun z hz v F' H' S' e' ok => ⟨z, ok, k z hz F' H' S' e'⟩⟩
theorem t_not {w : W Bool} (h : ET X B env os e w) : ET X B env os (.UnaryOp .Not e pos) (bnd w fun b => ret (!b)) := PT.imp (pt_not h) fun σ H Q ⟨F, P, S, hw, k⟩ => ⟨F, _, S, hw, fun b hb => k (!b) hb⟩
theorem t_pw {w : W Bool} (h : EW X B env os e w) : ET X B env os e w := PW.pt h
theorem w_and1 {w : W Bool} (h : ET X B env os a w) : EW X B env os (.BoolOp .And [a] pos) w := pw_and1 h
theorem w_or1 {w : W Bool} (h : ET X B env os a w) : EW X B env os (.BoolOp .Or [a] pos) w := pw_or1 h
theorem w_and (ha : ET X B env os a w1) (hb : EW X B env os (.BoolOp .And (b :: rest) pos) w2) : EW X B env os (.BoolOp .And (a :: b :: rest) pos) (bnd w1 fun x => if x = true then w2 else ret false) :=
  PW.imp (pw_and ha hb) fun σ H Q ⟨F, P, S, hw, k⟩ => ⟨F, _, S, hw, fun x hx F' H' S' e' => by
    cases x with
    | true => exact ⟨F', P, S', hx, fun y hy F2 H2 S2 e2 => k y hy F2 H2 S2 (e'.trans e2)⟩
    | false => exact k false hx F' H' S' e'⟩
theorem w_or (ha : ET X B env os a w1) (hb : EW X B env os (.BoolOp .Or (b :: rest) pos) w2) : EW X B env os (.BoolOp .Or (a :: b :: rest) pos) (bnd w1 fun x => if x = true then ret true else w2) :=
  PW.imp (pw_or ha hb) fun σ H Q ⟨F, P, S, hw, k⟩ => ⟨F, _, S, hw, fun x hx F' H' S' e' => by
    cases x with
    | true => exact k true hx F' H' S' e'
    | false => exact ⟨F', P, S', hx, fun y hy F2 H2 S2 e2 => k y hy F2 H2 S2 (e'.trans e2)⟩⟩
theorem e_not {w : W Bool} (h : EE X B env os e rBool w) : EE X B env os (.UnaryOp .Not e pos) rBool (bnd w fun b => ret (!b)) := PE.imp (pe_not h) fun σ H Q ⟨F, P, S, hw, k⟩ => ⟨F, _, S, hw, fun b hb v F' H' S' e' ok => ⟨b, ok, k (!b) hb _ F' H' S' e' rfl⟩⟩
theorem e_one {op : BoolOp} {w : W α} (h : EE X B env os a r w) : EE X B env os (.BoolOp op [a] pos) r w := pe_one h
theorem e_and (ha : EE X B env os a rBool w1) (hb : EE X B env os (.BoolOp .And (b :: rest) pos) rBool w2) : EE X B env os (.BoolOp .And (a :: b :: rest) pos) rBool (bnd w1 fun x => if x = true then w2 else ret false) :=
  PE.imp (pe_and ha hb) fun σ H Q ⟨F, P, S, hw, k⟩ => ⟨F, _, S, hw, fun x hx v F' H' S' e' ok => ⟨x, ok, by
    cases x with
    | true => exact ⟨F', P, S', hx, fun y hy v F2 H2 S2 e2 => k y hy v F2 H2 S2 (e'.trans e2)⟩
    | false => exact k false hx _ F' H' S' e' rfl⟩⟩
theorem e_or (ha : EE X B env os a rBool w1) (hb : EE X B env os (.BoolOp .Or (b :: rest) pos) rBool w2) : EE X B env os (.BoolOp .Or (a :: b :: rest) pos) rBool (bnd w1 fun x => if x = true then ret true else w2) :=
  PE.imp (pe_or ha hb) fun σ H Q ⟨F, P, S, hw, k⟩ => ⟨F, _, S, hw, fun x hx v F' H' S' e' ok => ⟨x, ok, by
    cases x with
    | true => exact k true hx _ F' H' S' e' rfl
    | false => exact ⟨F', P, S', hx, fun y hy v F2 H2 S2 e2 => k y hy v F2 H2 S2 (e'.trans e2)⟩⟩⟩
theorem e_if {wc : W Bool} {wa wb : W α} (hc : ET X B env os c wc) (ha : EE X B env os a r wa) (hb : EE X B env os b r wb) : EE X B env os (.IfExp c a b pos) r (bnd wc fun x => if x = true then wa else wb) :=
  PE.imp (pe_ifExp hc ha hb) fun σ H Q ⟨F, P, S, hw, k⟩ => ⟨F, _, S, hw, fun x hx F' H' S' e' => by
    cases x with
    | true => exact ⟨F', P, S', hx, fun y hy v F2 H2 S2 e2 => k y hy v F2 H2 S2 (e'.trans e2)⟩
    | false => exact ⟨F', P, S', hx, fun y hy v F2 H2 S2 e2 => k y hy v F2 H2 S2 (e'.trans e2)⟩⟩
end
abbrev Post (β : Type) := Ends → β → Prop
def tBG (B : Bs) (env : Env) (os : Os) {β : Type} (post : Post β) (w : W β) : TS := fun D σ H => ∃ F P, Sit B F H σ env os ∧ w P B.E0 ∧ ∀ x, P x → post D x
def BG (X : Cx) (B : Bs) (env : Env) (os : Os) (blk : List Stmt) {β : Type} (post : Post β) (w : W β) : Prop := PSs X blk (tBG B env os post w)
theorem PSs.imp {X : Cx} {b : List Stmt} {t t' : TS} (h : PSs X b t) (i : ∀ D σ H, t' D σ H → t D σ H) : PSs X b t' := ⟨fun pins s σ H D I q => h.run pins s σ H D I (i _ _ _ q)⟩
theorem PSs.ex {X : Cx} {b : List Stmt} {ι : Type} {t : ι → TS} (h : ∀ i, PSs X b (t i)) : PSs X b (fun D σ H => ∃ i, t i D σ H) := ⟨fun pins s σ H D I ⟨i, q⟩ => (h i).run pins s σ H D I q⟩
/-- the objects handed in, behind the body -/
def OsOk (B : Bs) (F H : Hp) (os : Os) : Prop := ∀ p ∈ os, F p.1 = none ∧ (∃ o, H p.1 = some o ∧ p.2.ok F o) ∧ (B.H p.1 = none ∨ p.1 ∈ B.io)
def pRet (B : Bs) (osR : Os) {ρ : Type} (ro : Rp ρ) : Post ρ := fun D x => ∀ v F H, Fn B F H → OsOk B F H osR → ro.ok F v x → D.rt v H
def pNx (B : Bs) {S : Type} (envS : S → Env) (osS : S → Os) : Post S := fun D s => ∀ σ F H, Sit B F H σ (envS s) (osS s) → D.nx σ H
def pFl (B : Bs) (osR : Os) {ρ : Type} (ro : Rp ρ) {S : Type} (envS : S → Env) (osS : S → Os) : Post (Fl S ρ) := fun D r => match r with
  | .nx s => ∀ σ F H, Sit B F H σ (envS s) (osS s) → D.nx σ H
  | .rt x => ∀ v F H, Fn B F H → OsOk B F H osR → ro.ok F v x → D.rt v H
  | .bk s => ∀ σ F H, Sit B F H σ (envS s) (osS s) → D.bk σ H
  | .ct s => ∀ σ F H, Sit B F H σ (envS s) (osS s) → D.ct σ H
/-- a post that says nothing of what comes next -/
def pX {β : Type} (post : Post β) : Post β := fun D x => ∃ nx, post { D with nx := nx } x
structure RtOk (B : Bs) {β ρ : Type} (post : Post β) (osR : Os) (ro : Rp ρ) (inj : ρ → β) : Prop where
  ok : ∀ D x, post D (inj x) → ∀ v F H, Fn B F H → OsOk B F H osR → ro.ok F v x → D.rt v H
structure NxOk (B : Bs) {β : Type} (post : Post β) (env : Env) (os : Os) (x : β) : Prop where
  ok : ∀ D, post D x → ∀ σ F H, Sit B F H σ env os → D.nx σ H
section
variable {B : Bs} {osR : Os} {ρ S β : Type} {ro : Rp ρ} {envS : S → Env} {osS : S → Os} {post : Post β} {inj : ρ → β}
theorem RtOk.ret : RtOk B (pRet B osR ro) osR ro (fun x => x) := ⟨fun _ _ h => h⟩
theorem RtOk.fl : RtOk B (pFl B osR ro envS osS) osR ro .rt := ⟨fun _ _ h => h⟩
theorem RtOk.x (h : RtOk B post osR ro inj) : RtOk B (pX post) osR ro inj := ⟨fun D x ⟨nx, q⟩ => h.ok { D with nx := nx } x q⟩
/-- slots may be forgotten -/
def EnvLe : Env → Env → Prop
  | [], [] => True
  | a :: as, b :: bs => (b = a ∨ b = sa) ∧ EnvLe as bs
  | _, _ => False
theorem EnvLe.of {F : Hp} : ∀ {e e' : Env} {σ : L2.St}, EnvLe e e' → EnvOk F e σ → EnvOk F e' σ
  | [], [], _, _, h => h
  | _ :: _, _ :: _, _, ⟨h1, h2⟩, .cons r t => .cons (h1.elim (fun z => z ▸ r) fun z => z ▸ trivial) (EnvLe.of h2 t)
  | [], _ :: _, _, h, _ => h.elim
  | _ :: _, [], _, h, _ => h.elim
theorem EnvLe.refl : ∀ e : Env, EnvLe e e
  | [] => trivial
  | _ :: as => ⟨.inl rfl, EnvLe.refl as⟩
def OsLe (os os' : Os) : Prop := ∀ p ∈ os', p ∈ os
theorem OsLe.refl (os : Os) : OsLe os os := fun _ h => h
/-- what is handed back may say less -/
def OsW (os os' : Os) : Prop := ∀ p ∈ os', ∃ q ∈ os, q.1 = p.1 ∧ ∀ F o, q.2.ok F o → p.2.ok F o
theorem OsW.of {os os' : Os} (h : OsLe os os') : OsW os os' := fun p hp => ⟨p, h p hp, rfl, fun _ _ q => q⟩
theorem OsW.nil {os : Os} : OsW os [] := fun p hp => by cases hp
theorem OsW.refl {os : Os} : OsW os os := OsW.of (OsLe.refl os)
theorem OsW.one {a : Addr} {q p : Own} {os : Os} (h : ∀ F o, q.ok F o → p.ok F o) : OsW ((a, q) :: os) [(a, p)] := fun z hz => by
  rcases List.mem_cons.mp hz with e | e
  · subst e
    exact ⟨(a, q), List.mem_cons_self .., rfl, h⟩
  · cases e
theorem OsW.ok {F H : Hp} {σ : L2.St} {env : Env} {os os' : Os} (h : OsW os os') (s : Sit B F H σ env os) : OsOk B F H os' := fun p hp => by
  obtain ⟨q, hq, e, k⟩ := h p hp
  obtain ⟨h1, ⟨o, h2, h3⟩, h4⟩ := s.ow q hq
  rw [e] at h1 h2 h4
  exact ⟨h1, ⟨o, h2, k F o h3⟩, h4⟩
theorem Sit.le {F H : Hp} {σ : L2.St} {env env' : Env} {os : Os} (s : Sit B F H σ env os) (h : EnvLe env env') : Sit B F H σ env' os := ⟨s.fin, h.of s.env, s.ow, s.nd⟩
theorem Sit.one {F H : Hp} {σ : L2.St} {env : Env} {os : Os} {a : Addr} {q p : Own} (s : Sit B F H σ env ((a, q) :: os)) (h : ∀ F o, q.ok F o → p.ok F o) : Sit B F H σ env ((a, p) :: os) := ⟨s.fin, s.env, fun z hz => by
  rcases List.mem_cons.mp hz with e | e
  · subst e
    obtain ⟨h1, ⟨o, h2, h3⟩, h4⟩ := s.ow (a, q) (List.mem_cons_self ..)
    exact ⟨h1, ⟨o, h2, h F o h3⟩, h4⟩
  · exact s.ow z (List.mem_cons_of_mem _ e), s.nd⟩
theorem NxOk.one {env : Env} {s : S} {a : Addr} {q p : Own} {os : Os} (ho : osS s = (a, p) :: os) (h : EnvLe env (envS s)) (hq : ∀ F o, q.ok F o → p.ok F o) : NxOk B (pNx B envS osS) env ((a, q) :: os) s := ⟨fun D k σ F H z => k σ F H (by
  rw [ho]
  exact (z.le h).one hq)⟩
theorem NxOk.nx {env : Env} {s : S} (h : EnvLe env (envS s)) : NxOk B (pNx B envS osS) env (osS s) s := ⟨fun D q σ F H z => q σ F H (z.le h)⟩
theorem NxOk.fl {env : Env} {s : S} (h : EnvLe env (envS s)) : NxOk B (pFl B osR ro envS osS) env (osS s) (.nx s) := ⟨fun D q σ F H z => q σ F H (z.le h)⟩
end
section
variable {X : Cx} {B : Bs} {env : Env} {os : Os} {pos pos' : Pos} {α β ρ S : Type} {r : Rp α} {e c : Expr} {rest blkA blkB : List Stmt} {post : Post β}
theorem b_conv {blk : List Stmt} {w w' : W β} (h : BG X B env os blk post w) (q : w' = w) : BG X B env os blk post w' := q ▸ h
theorem b_ret {osR : Os} {ro : Rp ρ} {inj : ρ → β} {w : W ρ} (hp : RtOk B post osR ro inj) (ho : OsW os osR) (h : EE X B env os e ro w) : BG X B env os [.Return (some e) pos] post (bnd w fun x => ret (inj x)) :=
  PSs.imp (pss_one (ps_ret h)) fun D σ H ⟨F, P, Si, hw, k⟩ => ⟨F, _, Si, hw, fun x hx v F' H' S' _ ok => hp.ok D x (k _ hx) v F' H' S'.fin (ho.ok S') ok⟩
theorem b_end {x : β} (hp : NxOk B post env os x) : BG X B env os [] post (ret x) := PSs.imp pss_nil fun D σ H ⟨F, P, S, hw, k⟩ => hp.ok D (k x hw) σ F H S
/-- a code that is never reached -/
theorem b_never {blk : List Stmt} : BG X B env os blk post fail := PSs.imp pss_never fun _ _ _ ⟨_, _, _, hw, _⟩ => hw
/-- name = e -/
theorem b_set (i : Nat) {x : Str} {w1 : W α} {w2 : α → W β} (he : EE X B env os e r w1) (hr : ∀ y, BG X B (env.set i (sv r y)) os rest post (w2 y)) (hN : X.N.Nodup) (hi : X.N[i]? = some x := by rfl)
    (hx : Loc X.env.scope x := by first | exact Or.inl rfl | exact Or.inr rfl) (hs : swapsWith e (some (.Name x pos')) pos.line X.env = pure false := by rfl) (hf : X.fn x = true ∨ X.env.scope.names.lookup x = some .local := by first | exact .inl rfl | exact .inr rfl | assumption) :
    BG X B env os (.Assign [.Name x pos'] e pos :: rest) post (bnd w1 w2) :=
  PSs.imp (pss_cons (ps_set hN hi hx he hs hf) (PSs.ex hr)) fun D σ H ⟨F, P, S, hw, k⟩ => ⟨F, _, S, hw, fun y hy v F' H' S' _ ok => ⟨y, F', P, S'.store ⟨v, rfl, ok⟩, hy, k⟩⟩
/-- an expression alone -/
theorem b_expr {w1 : W α} {w2 : W β} (he : EE X B env os e r w1) (hr : BG X B env os rest post w2) (hs : swapsWith e none pos.line X.env = pure false := by rfl) : BG X B env os (.Expr e pos :: rest) post (bnd w1 fun _ => w2) :=
  PSs.imp (pss_cons (ps_expr he hs) hr) fun D σ H ⟨F, P, S, hw, k⟩ => ⟨F, _, S, hw, fun y hy v F' H' S' _ ok => ⟨F', P, S', hy, k⟩⟩
/-- if, one branch of which never comes to the rest -/
theorem b_ifA {wc : W Bool} {w1 w2 : W β} (hc : ET X B env os c wc) (hA : BG X B env os blkA (pX post) w1) (hr : BG X B env os rest post w2) : BG X B env os (.If c blkA [] pos :: rest) post (bnd wc fun b => if b = true then w1 else w2) :=
  PSs.imp (pss_cons (ps_if hc hA pss_nil) hr) fun D σ H ⟨F, P, S, hw, k⟩ => ⟨F, _, S, hw, fun b hb F' H' S' _ => by
    cases b with
    | true => exact ⟨F', P, S', hb, fun x hx => ⟨D.nx, k x hx⟩⟩
    | false => exact ⟨F', P, S', hb, k⟩⟩
/-- both branches go on -/
theorem b_ifJ {wc : W Bool} {w1 w2 : W S} {w3 : S → W β} (envS : S → Env) (osS : S → Os) (hc : ET X B env os c wc) (hA : BG X B env os blkA (pNx B envS osS) w1) (hB : BG X B env os blkB (pNx B envS osS) w2)
    (hr : ∀ s, BG X B (envS s) (osS s) rest post (w3 s)) : BG X B env os (.If c blkA blkB pos :: rest) post (bnd wc fun b => bnd (if b = true then w1 else w2) w3) :=
  PSs.imp (pss_cons (ps_if hc hA hB) (PSs.ex hr)) fun D σ H ⟨F, P, S, hw, k⟩ => ⟨F, _, S, hw, fun b hb F' H' S' _ => by
    cases b with
    | true => exact ⟨F', _, S', hb, fun s hs σ2 F2 H2 S2 => ⟨s, F2, P, S2, hs, k⟩⟩
    | false => exact ⟨F', _, S', hb, fun s hs σ2 F2 H2 S2 => ⟨s, F2, P, S2, hs, k⟩⟩⟩
end
end Mi
namespace Mi
open PySem L2 Evl
theorem Paired.get {α β : Type} {R : α → β → Prop} : ∀ {l : List α} {m : List β} {i : Nat} {y : β}, Paired R l m → m[i]? = some y → ∃ x, l[i]? = some x ∧ R x y
  | _, _, i, y, .nil, h => by simp at h
  | _, _, 0, y, .cons r t, h => by
    simp at h
    subst h
    exact ⟨_, rfl, r⟩
  | _, _, i + 1, y, .cons r t, h => by
    obtain ⟨x, h1, h2⟩ := Paired.get (i := i) t (by simpa using h)
    exact ⟨x, by simpa using h1, h2⟩
theorem Paired.get' {α β : Type} {R : α → β → Prop} : ∀ {l : List α} {m : List β} {i : Nat} {x : α}, Paired R l m → l[i]? = some x → ∃ y, m[i]? = some y ∧ R x y
  | _, _, i, y, .nil, h => by simp at h
  | _, _, 0, y, .cons r t, h => by
    simp at h
    subst h
    exact ⟨_, rfl, r⟩
  | _, _, i + 1, y, .cons r t, h => by
    obtain ⟨x, h1, h2⟩ := Paired.get' (i := i) t (by simpa using h)
    exact ⟨x, by simpa using h1, h2⟩
theorem Paired.app {α β : Type} {R : α → β → Prop} : ∀ {l l' : List α} {m m' : List β}, Paired R l m → Paired R l' m' → Paired R (l ++ l') (m ++ m')
  | _, _, _, _, .nil, h => h
  | _, _, _, _, .cons r t, h => .cons r (Paired.app t h)
theorem Paired.setR {α β : Type} {R : α → β → Prop} {x : α} {y : β} (r : R x y) : ∀ {l : List α} {m : List β} {i : Nat}, Paired R l m → Paired R (l.set i x) (m.set i y)
  | _, _, _, .nil => .nil
  | _, _, 0, .cons _ t => .cons r t
  | _, _, i + 1, .cons q t => .cons q (Paired.setR r (i := i) t)
theorem Paired.takeR {α β : Type} {R : α → β → Prop} : ∀ {l : List α} {m : List β} (n : Nat), Paired R l m → Paired R (l.take n) (m.take n)
  | _, _, 0, _ => .nil
  | _, _, _ + 1, .nil => .nil
  | _, _, n + 1, .cons r t => .cons r (Paired.takeR n t)
theorem Paired.dropR {α β : Type} {R : α → β → Prop} : ∀ {l : List α} {m : List β} (n : Nat), Paired R l m → Paired R (l.drop n) (m.drop n)
  | _, _, 0, r => r
  | _, _, _ + 1, .nil => .nil
  | _, _, n + 1, .cons _ t => Paired.dropR n t
/-- a list of values that stand for x's by a function -/
theorem Paired.eqMap {α : Type} {f : α → V} : ∀ {l : List V} {m : List α}, Paired (fun v x => v = f x) l m → l = m.map f
  | _, _, .nil => rfl
  | _, _, .cons r t => by
    subst r
    rw [List.map_cons, ← Paired.eqMap t]
theorem ints_map {F : Hp} {vs : List V} {xs : List Int} (h : Paired (rInt.ok F) vs xs) : vs = xs.map V.int := Paired.eqMap h
theorem bools_map {F : Hp} {vs : List V} {xs : List Bool} (h : Paired (rBool.ok F) vs xs) : vs = xs.map V.bl := Paired.eqMap h
/-- what the heap does not know the base does not know either -/
theorem Fn.fresh {B : Bs} {F H : Hp} {p : Addr} (s : Fn B F H) (hp : H p = none) : B.H p = none := by
  cases e : B.H p with
  | none => rfl
  | some o =>
    cases ef : B.F p with
    | none =>
      by_cases hio : p ∈ B.io
      · obtain ⟨u, hu⟩ := s.ios p hio
        rw [hp] at hu
        cases hu
      · have := (s.keep p o ef e hio).1
        rw [hp] at this
        cases this
    | some u =>
      have := s.fh p u (s.bf p u ef)
      rw [hp] at this
      cases this
theorem Sit.newOwn {B : Bs} {F H : Hp} {σ : L2.St} {env : Env} {os : Os} {p : Addr} {o : HO} {ow : Own} (s : Sit B F H σ env os) (hp : H p = none) (hb : ow.ok F o) : Sit B F (upd H p o) σ env ((p, ow) :: os) := by
  have fp : F p = none := fresh_back s.fh hp
  refine ⟨⟨s.fh.trans (Ex.new hp), s.fin.bf, s.fin.mrk, s.fin.bb, fun a ha => let ⟨o, h⟩ := s.fin.ios a ha; ⟨o, Ex.new hp a o h⟩, fun a u h1 h2 h3 => ?_⟩, s.env, fun q hq => ?_, ?_⟩
  · obtain ⟨k1, k2⟩ := s.fin.keep a u h1 h2 h3
    exact ⟨Ex.new hp a u k1, k2⟩
  · rcases List.mem_cons.mp hq with e | hq
    · subst e
      exact ⟨fp, ⟨o, upd_same, hb⟩, .inl (s.fin.fresh hp)⟩
    · obtain ⟨h1, ⟨u, h2, h3⟩, h4⟩ := s.ow q hq
      exact ⟨h1, ⟨u, Ex.new hp _ _ h2, h3⟩, h4⟩
  · rw [List.map_cons]
    refine List.nodup_cons.mpr ⟨fun hm => ?_, s.nd⟩
    obtain ⟨q, hq, e⟩ := List.mem_map.mp hm
    obtain ⟨_, ⟨u, h2, _⟩, _⟩ := s.ow q hq
    have e' : q.1 = p := e
    rw [e', hp] at h2
    cases h2
/-- the first own object will never change again -/
theorem Sit.freeze {B : Bs} {F H : Hp} {σ : L2.St} {env : Env} {os : Os} {p : Addr} {ow : Own} (s : Sit B F H σ env ((p, ow) :: os)) :
    ∃ F' o, Ex F F' ∧ F' p = some o ∧ ow.ok F' o ∧ Sit B F' H σ env os := by
  obtain ⟨h1, ⟨o, h2, h3⟩, h4⟩ := s.ow (p, ow) (List.mem_cons_self ..)
  have h1 : F p = none := h1
  have h2 : H p = some o := h2
  have e : Ex F (upd F p o) := Ex.new h1
  have nd := s.nd
  rw [List.map_cons] at nd
  obtain ⟨nd1, nd2⟩ := List.nodup_cons.mp nd
  refine ⟨upd F p o, o, e, upd_same, ow.mono e h3, ⟨fun a u ha => ?_, s.fin.bf.trans e, s.fin.mrk.trans e, s.fin.bb, s.fin.ios, fun a u k1 k2 k3 => ?_⟩, s.env.mono e, fun q hq => ?_, nd2⟩
  · by_cases hap : a = p
    · rw [hap, upd_same] at ha
      rw [hap, h2]
      exact ha
    · rw [upd_ne hap] at ha
      exact s.fh a u ha
  · obtain ⟨z1, z2⟩ := s.fin.keep a u k1 k2 k3
    refine ⟨z1, ?_⟩
    have hap : a ≠ p := by
      rintro rfl
      rcases h4 with q | q
      · have q' : B.H a = none := q
        rw [k2] at q'
        cases q'
      · exact k3 q
    rw [upd_ne hap]
    exact z2
  · obtain ⟨z1, ⟨u, z2, z3⟩, z4⟩ := s.ow q (List.mem_cons_of_mem _ hq)
    have hap : q.1 ≠ p := fun z => by
      have hm := List.mem_map_of_mem (f := Prod.fst) hq
      rw [z] at hm
      exact nd1 hm
    exact ⟨by rw [upd_ne hap]; exact z1, ⟨u, z2, q.2.mono e z3⟩, z4⟩
theorem set_same {α : Type} : ∀ {l : List α} {j : Nat} {x : α}, l[j]? = some x → l.set j x = l
  | [], _, _, _ => rfl
  | a :: l, 0, x, h => by
    simp at h
    subst h
    rfl
  | a :: l, j + 1, x, h => by
    show a :: l.set j x = a :: l
    rw [set_same (by simpa using h)]
/-- an own object is changed -/
theorem Sit.change {B : Bs} {F H : Hp} {σ : L2.St} {env : Env} {os : Os} {j : Nat} {p : Addr} {ow ow' : Own} {o' : HO} (s : Sit B F H σ env os) (hj : os[j]? = some (p, ow)) (hb : ow'.ok F o') : Sit B F (upd H p o') σ env (os.set j (p, ow')) := by
  have hm : (p, ow) ∈ os := List.mem_of_getElem? hj
  obtain ⟨h1, ⟨o, h2, h3⟩, h4⟩ := s.ow _ hm
  have h1 : F p = none := h1
  have h2 : H p = some o := h2
  have hjl : j < os.length := (List.getElem?_eq_some_iff.mp hj).1
  have hmap : (os.set j (p, ow')).map (·.1) = os.map (·.1) := by
    rw [List.map_set]
    exact set_same (by rw [List.getElem?_map, hj]; rfl)
  refine ⟨⟨fun a u ha => ?_, s.fin.bf, s.fin.mrk, s.fin.bb, fun a ha => ?_, fun a u k1 k2 k3 => ?_⟩, s.env, fun q hq => ?_, by rw [hmap]; exact s.nd⟩
  · have hap : a ≠ p := fun z => by rw [z, h1] at ha; cases ha
    rw [upd_ne hap]
    exact s.fh a u ha
  · by_cases hap : a = p
    · exact ⟨o', by rw [hap, upd_same]⟩
    · obtain ⟨u, hu⟩ := s.fin.ios a ha
      exact ⟨u, by rw [upd_ne hap]; exact hu⟩
  · obtain ⟨z1, z2⟩ := s.fin.keep a u k1 k2 k3
    have hap : a ≠ p := by
      rintro rfl
      rcases h4 with q | q
      · have q' : B.H a = none := q
        rw [k2] at q'
        cases q'
      · exact k3 q
    rw [upd_ne hap]
    exact ⟨z1, z2⟩
  · obtain ⟨i, hi⟩ := List.mem_iff_getElem?.mp hq
    by_cases hij : j = i
    · subst hij
      rw [List.getElem?_set_self hjl] at hi
      cases hi
      exact ⟨h1, ⟨o', upd_same, hb⟩, h4⟩
    · rw [List.getElem?_set_ne hij] at hi
      obtain ⟨z1, ⟨u, z2, z3⟩, z4⟩ := s.ow q (List.mem_of_getElem? hi)
      have hap : q.1 ≠ p := fun z => by
        have nd := s.nd
        have a1 : (os.map (·.1))[i]? = some p := by rw [List.getElem?_map, hi, ← z]; rfl
        have a2 : (os.map (·.1))[j]? = some p := by rw [List.getElem?_map, hj]; rfl
        exact hij (nd_ix nd a2 a1)
      exact ⟨z1, ⟨u, by rw [upd_ne hap]; exact z2, z3⟩, z4⟩
end Mi
namespace Mi
open PySem L2 Evl
def tNew (B : Bs) (env : Env) (os : Os) {α : Type} (r : Rp α) (w : W (List α)) : TE := fun σ H Q => ∃ F P, Sit B F H σ env os ∧ w P B.E0 ∧ ∀ xs, P xs → ∀ a F' H', Sit B F' H' σ env ((a, oLst r xs) :: os) → Ex F F' → Q (.ref a) H'
def EN (X : Cx) (B : Bs) (env : Env) (os : Os) (e : Expr) {α : Type} (r : Rp α) (w : W (List α)) : Prop := PE X e (tNew B env os r w)
section
variable {X : Cx} {B : Bs} {env : Env} {os : Os} {pos : Pos} {α β γ : Type} {r : Rp α} {s : Rp β} {t : Rp γ} {e a b c : Expr} {es : List Expr}
/-- it is let go: it will not change again -/
theorem e_new {w : W (List α)} (h : EN X B env os e r w) : EE X B env os e (rLst r) w := PE.imp h fun σ H Q ⟨F, P, S, hw, k⟩ => ⟨F, P, S, hw, fun xs hx a F' H' S' e' => by
  obtain ⟨F2, o, e2, h1, ⟨vs, h2, h3, h4⟩, S2⟩ := S'.freeze
  subst h2
  exact k xs hx (.ref a) F2 H' S2 (e'.trans e2) ⟨a, vs, rfl, h1, h3, h4⟩⟩
def tAL (B : Bs) (env : Env) (os : Os) (n : Nat) {α : Type} (r : Rp α) (w : W (List α)) : TA := fun σ H Q => ∃ F P, Sit B F H σ env os ∧ w P B.E0 ∧ ∀ xs, P xs → ∀ vs F' H', Sit B F' H' σ env os → Ex F F' → Paired (r.ok F') vs xs → vs.length = n → Q vs H'
def AL (X : Cx) (B : Bs) (env : Env) (os : Os) (es : List Expr) {α : Type} (r : Rp α) (w : W (List α)) : Prop := PA X es (tAL B env os es.length r w)
theorem PA.imp {t t' : TA} (h : PA X es t) (i : ∀ σ H Q, t' σ H Q → t σ H Q) : PA X es t' := ⟨fun pos pins s σ H Q I q => h.run pos pins s σ H Q I (i _ _ _ q)⟩
theorem PA.ex {ι : Type} {t : ι → TA} (h : ∀ i, PA X es (t i)) : PA X es (fun σ H Q => ∃ i, t i σ H Q) := ⟨fun pos pins s σ H Q I ⟨i, q⟩ => (h i).run pos pins s σ H Q I q⟩
theorem al_nil : AL X B env os [] r (ret []) := PA.imp pa_nil fun σ H Q ⟨F, P, S, hw, k⟩ => k [] hw [] F H S (Ex.refl F) .nil rfl
theorem al_cons {w1 : W α} {w2 : W (List α)} (h : EE X B env os e r w1) (ht : AL X B env os es r w2) (hs : starEach (e :: es) X.env = (false, eval e X.env) :: starEach es X.env := by rfl) : AL X B env os (e :: es) r (bnd w1 fun x => bnd w2 fun xs => ret (x :: xs)) :=
  PA.imp (pa_cons h ht hs) fun σ H Q ⟨F, P, S, hw, k⟩ => ⟨F, _, S, hw, fun x hx v F1 H1 S1 e1 ok1 => ⟨F1, _, S1, hx, fun xs hxs vs F2 H2 S2 e2 ok2 hl => k _ hxs (v :: vs) F2 H2 S2 (e1.trans e2) (.cons (r.mono e2 ok1) ok2) (by rw [List.length_cons, hl, List.length_cons])⟩⟩
theorem n_list {w : W (List α)} (h : AL X B env os es r w) (hz : es.length ≤ sizeLine := by decide) : EN X B env os (.List es pos) r w := PE.imp (pe_lst h) fun σ H Q ⟨F, P, S, hw, k⟩ => ⟨F, P, S, hw, fun xs hx vs F' H' S' e' ok hl =>
  ⟨by rw [hl]; exact hz, fun p hp => k xs hx p F' _ (S'.newOwn hp ⟨vs, rfl, by rw [hl]; exact hz, ok⟩) e'⟩⟩
theorem e_tup2 {w1 : W α} {w2 : α → W β} {x1} (ha : EE X B env os a r w1) (hb : ∀ x, EE X B env os b s (w2 x)) (hs : starEach [a, b] X.env = (false, eval a X.env) :: starEach [b] X.env := by rfl) (hs2 : starEach [b] X.env = (false, eval b X.env) :: starEach [] X.env := by rfl) :
    EE X B env os (.Tuple [a, b] x1 pos) (rT2 X.K r s) (bnd w1 fun x => bnd (w2 x) fun y => ret (x, y)) :=
  PE.imp (pe_tup (pa_cons ha (pa_cons (PE.ex hb) pa_nil hs2) hs)) fun σ H Q ⟨F, P, S, hw, k⟩ => ⟨F, _, S, hw, fun x hx v F1 H1 S1 e1 ok1 => ⟨x, F1, _, S1, hx, fun y hy u F2 H2 S2 e2 ok2 =>
    ⟨(by show 2 ≤ sizeLine; decide), fun p hp => by
      have g : Grow F2 H2 (upd F2 p (.tup [v, u])) (upd H2 p (.tup [v, u])) := Grow.alloc S2.fh hp
      exact k _ hy (.ref p) _ _ (S2.grow g) ((e1.trans e2).trans g.f) ⟨p, v, u, rfl, SqT.of upd_same, r.mono (e2.trans g.f) ok1, s.mono g.f ok2⟩⟩⟩⟩
theorem ixN_map {n m : Nat} (h : n = m) (i : Int) : ixN n i = ixN m i := by rw [h]
theorem atI_paired {R : V → α → Prop} {vs : List V} {xs : List α} {i : Int} {x : α} (h : Paired R vs xs) (hx : atI xs i = some x) : ∃ v, atI vs i = some v ∧ R v x := by
  unfold atI at hx ⊢
  rw [ixN_map h.length i]
  cases e : ixN xs.length i with
  | none => rw [e] at hx; cases hx
  | some j =>
    rw [e] at hx
    exact Paired.get h hx
def idx (xs : List α) (i : Int) : W α := match atI xs i with
  | some x => ret x
  | none => fail
theorem idx_of {xs : List α} {i : Int} {P : α → Prop} {E : Er → Prop} (h : idx xs i P E) : ∃ x, atI xs i = some x ∧ P x := by
  unfold idx at h
  cases e : atI xs i with
  | none => rw [e] at h; exact False.elim h
  | some x => rw [e] at h; exact ⟨x, rfl, h⟩
theorem sem_idx {K : PySem.W.Frag} : R2T (rIxL K) (rLst r) rInt r (fun x i => idx x i) := fun F H v u x y P E Q fh ⟨p, vs, e1, h1, h2, h3⟩ e2 hw k => by
  obtain ⟨z, hz, pz⟩ := idx_of hw
  obtain ⟨v', hv', rz⟩ := atI_paired h3 hz
  exact ⟨p, vs, y, v', e1, e2, SqL.of (fh _ _ h1), hv', k z pz v' F H (Grow.refl fh) rz⟩
theorem e_idx {w1 : W (List α)} {w2 : List α → W Int} (ha : EE X B env os a (rLst r) w1) (hb : ∀ x, EE X B env os b rInt (w2 x)) (hs : PlainIx b := by exact fun _ _ => rfl) : EE X B env os (.Subscript a b pos) r (bnd w1 fun x => bnd (w2 x) fun i => idx x i) :=
  e_ix ix_list sem_idx hs ha hb
def C1T (q : List V → Hp → VK → Prop) (r : Rp α) (t : Rp γ) (f : α → W γ) : Prop := ∀ (F H : Hp) (v : V) (x : α) (P : γ → Prop) (E : Er → Prop) (Q : VK), Ex F H → r.ok F v x → f x P E → (∀ z, P z → ∀ v' F' H', Grow F H F' H' → t.ok F' v' z → Q v' H') → q [v] H Q
theorem one_call {q : List V → Hp → VK → Prop} {f : α → W γ} {w1 : W α} (sem : C1T q r t f) {σ : L2.St} {H : Hp} {Q : VK} (h : tOf B env os t (bnd w1 f) σ H Q) : tCB q (tCons (tOf B env os r w1) tNil) σ H Q := by
  obtain ⟨F, P, S, hw, k⟩ := h
  exact ⟨F, _, S, hw, fun x hx v F1 H1 S1 e1 ok1 => sem F1 H1 v x P B.E0 Q S1.fh ok1 hx fun z hz v' F3 H3 g ok3 => k z hz v' F3 H3 (S1.grow g) (e1.trans g.f) ok3⟩
theorem e_callB {id : String} {x : Str} {p : Pos} {q : List V → Hp → VK → Prop} {f : α → W γ} {w1 : W α} (hc : CallR X (.builtin id) q) (sem : C1T q r t f) (ha : EE X B env os a r w1) (hm : X.mg x = none) (hg : Gl X x := by rfl) (hv : bootBuiltins x = some (.builtin id) := by decide +kernel)
    (hn : x ≠ "__name__" := by decide) (hdb : (x == ("__debug__" : Str)) = false := by decide) (he : starEach [a] X.env = (false, eval a X.env) :: starEach [] X.env := by rfl) (hpl : (backTo pos (starEach [] X.env)).any (·.1) = false := by rfl) :
    EE X B env os (.Call (.Name x p) [a] [] pos) t (bnd w1 f) := PE.imp (pe_callB hc hg hm hv (pa_cons ha pa_nil he) hn hdb he hpl) fun _ _ _ h => one_call sem h
theorem e_callTy {id : String} {x : Str} {p : Pos} {q : List V → Hp → VK → Prop} {f : α → W γ} {w1 : W α} (hc : CallR X (.type id) q) (sem : C1T q r t f) (ha : EE X B env os a r w1) (hm : X.mg x = none) (hg : Gl X x := by rfl) (hv : bootBuiltins x = some (.type id) := by decide +kernel)
    (hn : x ≠ "__name__" := by decide) (hdb : (x == ("__debug__" : Str)) = false := by decide) (he : starEach [a] X.env = (false, eval a X.env) :: starEach [] X.env := by rfl) (hpl : (backTo pos (starEach [] X.env)).any (·.1) = false := by rfl) :
    EE X B env os (.Call (.Name x p) [a] [] pos) t (bnd w1 f) := PE.imp (pe_callTy hc hg hm hv (pa_cons ha pa_nil he) hn hdb he hpl) fun _ _ _ h => one_call sem h
theorem sem_len {K : PySem.W.Frag} : C1T (fun xs H Q => ∃ p ys, xs = [.ref p] ∧ (SqL K H p ys ∨ SqT K H p ys) ∧ Q (.int ys.length) H) (rLst r) rInt (fun x => ret (x.length : Int)) := fun F H v x P E Q fh ⟨p, vs, e1, h1, h2, h3⟩ hw k =>
  ⟨p, vs, by rw [e1], .inl (SqL.of (fh _ _ h1)), k _ hw _ F H (Grow.refl fh) (by rw [h3.length]; rfl)⟩
theorem sem_sum {K : PySem.W.Frag} : C1T (rSum K) (rLst rInt) rInt (fun x => ret x.sum) := fun F H v x P E Q fh ⟨p, vs, e1, h1, h2, h3⟩ hw k =>
  ⟨p, x, by rw [e1], SqL.of (by rw [← ints_map h3]; exact fh _ _ h1), k _ hw _ F H (Grow.refl fh) rfl⟩
theorem sem_all {K : PySem.W.Frag} : C1T (rAll K) (rLst rBool) rBool (fun x => ret (x.all id)) := fun F H v x P E Q fh ⟨p, vs, e1, h1, h2, h3⟩ hw k =>
  ⟨p, x, by rw [e1], SqL.of (by rw [← bools_map h3]; exact fh _ _ h1), k _ hw _ F H (Grow.refl fh) rfl⟩
def maxL : List Int → Int
  | [] => 0
  | [x] => x
  | x :: y :: r => max x (maxL (y :: r))
theorem maxL_is : ∀ {xs : List Int} {m : Int}, m ∈ xs → (∀ y, y ∈ xs → y ≤ m) → maxL xs = m
  | [], m, h, _ => by simp at h
  | [x], m, h, _ => by simp at h; exact h.symm
  | x :: y :: r, m, h, k => by
    show max x (maxL (y :: r)) = m
    have hx : x ≤ m := k x (List.mem_cons_self ..)
    have ub : ∀ (l : List Int), (∀ z, z ∈ l → z ≤ m) → l ≠ [] → maxL l ≤ m := by
      intro l
      induction l with
      | nil => intro _ q; exact absurd rfl q
      | cons a l ih =>
        intro q _
        cases l with
        | nil => exact q a (List.mem_cons_self ..)
        | cons b l =>
          have h1 := ih (fun z hz => q z (List.mem_cons_of_mem _ hz)) (by simp)
          have h2 := q a (List.mem_cons_self ..)
          show max a (maxL (b :: l)) ≤ m
          omega
    have h1 := ub (y :: r) (fun z hz => k z (List.mem_cons_of_mem _ hz)) (by simp)
    rcases List.mem_cons.mp h with e | e
    · omega
    · rw [maxL_is e fun z hz => k z (List.mem_cons_of_mem _ hz)]
      omega
theorem sem_max {K : PySem.W.Frag} : C1T (rMax K) (rLst rInt) rInt (fun x => chk (x ≠ []) (ret (maxL x))) := fun F H v x P E Q fh ⟨p, vs, e1, h1, h2, h3⟩ ⟨c, hw⟩ k =>
  ⟨p, x, by rw [e1], SqL.of (by rw [← ints_map h3]; exact fh _ _ h1), List.length_pos_iff.mpr c, fun m hm hk => by
    have q := maxL_is hm hk
    rw [← q]
    exact k _ hw _ F H (Grow.refl fh) rfl⟩
theorem sem_abs : C1T (fun xs H Q => ∃ i, xs = [.int i] ∧ Q (.int (if i < 0 then -i else i)) H) rInt rInt (fun x => ret (x.natAbs : Int)) := fun F H v x P E Q fh e1 hw k =>
  ⟨x, by rw [e1], by
    have e : (if x < 0 then -x else x) = (x.natAbs : Int) := by split <;> omega
    rw [e]
    exact k _ hw _ F H (Grow.refl fh) rfl⟩
theorem sem_intI : C1T (fun xs H Q => (∃ i, xs = [.int i] ∧ Q (.int i) H) ∨ ∃ k, xs = [.bl k] ∧ Q (.int (if k then 1 else 0)) H) rInt rInt (fun x => ret x) := fun F H v x P E Q fh e1 hw k =>
  .inl ⟨x, by rw [e1], k _ hw _ F H (Grow.refl fh) rfl⟩
variable {w : W (List α)} {x : Str} {p : Pos}
theorem e_len (ha : EE X B env os a (rLst r) w) (hm : X.mg "len" = none) (hg : Gl X "len" := by rfl) (he : starEach [a] X.env = (false, eval a X.env) :: starEach [] X.env := by rfl) (hpl : (backTo pos (starEach [] X.env)).any (·.1) = false := by rfl) :
    EE X B env os (.Call (.Name "len" p) [a] [] pos) rInt (bnd w fun x => ret (x.length : Int)) := e_callB call_len_seq sem_len ha hm hg PySem.boot_len (by decide) (by decide) he hpl
theorem e_intI {w : W Int} (ha : EE X B env os a rInt w) (hm : X.mg "int" = none) (hg : Gl X "int" := by rfl) (he : starEach [a] X.env = (false, eval a X.env) :: starEach [] X.env := by rfl) (hpl : (backTo pos (starEach [] X.env)).any (·.1) = false := by rfl) :
    EE X B env os (.Call (.Name "int" p) [a] [] pos) rInt w := e_conv (e_callTy call_int1 sem_intI ha hm hg (by decide +kernel) (by decide) (by decide) he hpl) rfl
theorem e_abs {w : W Int} (ha : EE X B env os a rInt w) (hm : X.mg "abs" = none) (hg : Gl X "abs" := by rfl) (he : starEach [a] X.env = (false, eval a X.env) :: starEach [] X.env := by rfl) (hpl : (backTo pos (starEach [] X.env)).any (·.1) = false := by rfl) :
    EE X B env os (.Call (.Name "abs" p) [a] [] pos) rInt (bnd w fun x => ret (x.natAbs : Int)) := e_callB call_abs sem_abs ha hm hg (by decide +kernel) (by decide) (by decide) he hpl
theorem e_sum {w : W (List Int)} (hc : X.calm = true) (ha : EE X B env os a (rLst rInt) w) (hm : X.mg "sum" = none) (hg : Gl X "sum" := by rfl) (he : starEach [a] X.env = (false, eval a X.env) :: starEach [] X.env := by rfl) (hpl : (backTo pos (starEach [] X.env)).any (·.1) = false := by rfl) :
    EE X B env os (.Call (.Name "sum" p) [a] [] pos) rInt (bnd w fun x => ret x.sum) := e_callB (cr_sum hc) sem_sum ha hm hg (by decide +kernel) (by decide) (by decide) he hpl
theorem e_max {w : W (List Int)} (hc : X.calm = true) (ha : EE X B env os a (rLst rInt) w) (hm : X.mg "max" = none) (hg : Gl X "max" := by rfl) (he : starEach [a] X.env = (false, eval a X.env) :: starEach [] X.env := by rfl) (hpl : (backTo pos (starEach [] X.env)).any (·.1) = false := by rfl) :
    EE X B env os (.Call (.Name "max" p) [a] [] pos) rInt (bnd w fun x => chk (x ≠ []) (ret (maxL x))) := e_callB (cr_max hc) sem_max ha hm hg (by decide +kernel) (by decide) (by decide) he hpl
theorem e_all {w : W (List Bool)} (hc : X.calm = true) (ha : EE X B env os a (rLst rBool) w) (hm : X.mg "all" = none) (hg : Gl X "all" := by rfl) (he : starEach [a] X.env = (false, eval a X.env) :: starEach [] X.env := by rfl) (hpl : (backTo pos (starEach [] X.env)).any (·.1) = false := by rfl) :
    EE X B env os (.Call (.Name "all" p) [a] [] pos) rBool (bnd w fun x => ret (x.all id)) := e_callB (cr_all hc) sem_all ha hm hg (by decide +kernel) (by decide) (by decide) he hpl
end
end Mi
namespace Mi
open PySem L2 Evl
structure Walks {α : Type} (J : It) (F : Hp) (r : Rp α) (xs : List α) : Prop where
  go : ∀ i F1 H1, Ex F F1 → Ex F1 H1 → i < xs.length → J.go i H1
  yld : ∀ i F1 H1 v H2 x, Ex F F1 → Ex F1 H1 → J.yld i H1 v H2 → xs[i]? = some x → ∃ F2, Grow F1 H1 F2 H2 ∧ r.ok F2 v x
  stop : ∀ i F1 H1, Ex F F1 → Ex F1 H1 → xs.length ≤ i → J.stop i H1
def tSrc (B : Bs) (env : Env) (os : Os) {α : Type} (r : Rp α) (w : W (List α)) : TI := fun σ H R => ∃ F P, Sit B F H σ env os ∧ w P B.E0 ∧ ∀ xs, P xs → ∀ J F' H', Sit B F' H' σ env os → Ex F F' → Walks J F' r xs → xs.length ≤ sizeLine → R J H'
def ES (X : Cx) (B : Bs) (env : Env) (os : Os) (tg e : Expr) {α : Type} (r : Rp α) (w : W (List α)) : Prop := PI X tg e (tSrc B env os r w)
theorem PI.imp {X : Cx} {tg e : Expr} {t t' : TI} (h : PI X tg e t) (i : ∀ σ H R, t' σ H R → t σ H R) : PI X tg e t' := ⟨fun pins s σ H R I q => h.run pins s σ H R I (i _ _ _ q)⟩
def rangeI (lo hi : Int) : List Int := (List.range (hi - lo).toNat).map fun (k : Nat) => lo + (k : Int)
def RgOk (lo hi : Int) : Prop := -(2 ^ 62) ≤ lo ∧ lo < 2 ^ 62 ∧ -(2 ^ 62) ≤ hi ∧ hi < 2 ^ 62 ∧ hi - lo ≤ 16777216
theorem rangeI_len (lo hi : Int) : (rangeI lo hi).length = (hi - lo).toNat := by
  unfold rangeI
  rw [List.length_map, List.length_range]
theorem walks_rng {lo hi : Int} {F : Hp} : Walks (Itr lo (hi - lo).toNat) F rInt (rangeI lo hi) := by
  refine ⟨fun i F1 H1 _ _ h => ?_, fun i F1 H1 v H2 x _ fh y hx => ?_, fun i F1 H1 _ _ h => ?_⟩
  · rw [rangeI_len] at h
    exact h
  · obtain ⟨e1, e2⟩ := y
    subst e1
    refine ⟨F1, Grow.refl fh, ?_⟩
    unfold rangeI at hx
    rw [List.getElem?_map] at hx
    obtain ⟨k, hk, ek⟩ := Option.map_eq_some_iff.mp hx
    have : k = i := by
      rw [List.getElem?_range (by
        have := (List.getElem?_eq_some_iff.mp hk).1
        simpa using this)] at hk
      exact (Option.some.inj hk).symm
    subst this
    show v = .int x
    rw [e2, ← ek]
  · rw [rangeI_len] at h
    exact h
section
variable {X : Cx} {B : Bs} {env : Env} {os : Os} {pos : Pos} {α β γ : Type} {r : Rp α} {s : Rp β} {t : Rp γ} {e a b c tg : Expr}
theorem s_list {w : W (List α)} (h : EE X B env os e (rLst r) w) : ES X B env os tg e r w := PI.imp (pi_list h) fun σ H R ⟨F, P, S, hw, k⟩ => ⟨F, P, S, hw, fun xs hx v F' H' S' e' ⟨p, vs, e1, h1, h2, h3⟩ =>
  ⟨p, e1, ⟨vs, SqL.of (S'.fh _ _ h1)⟩, k xs hx _ F' H' S' e' ⟨fun i F1 H1 x1 x2 hi => by
    obtain ⟨v, hv⟩ : ∃ v, vs[i]? = some v := ⟨_, List.getElem?_eq_getElem (by rw [h3.length]; exact hi)⟩
    exact ⟨vs, v, SqL.of (x2 _ _ (x1 _ _ h1)), hv⟩, fun i F1 H1 u H2 x x1 x2 y hx => by
    obtain ⟨e2, y⟩ := y
    subst e2
    obtain ⟨v, hv, rv⟩ := Paired.get h3 hx
    have e3 : vs[i]? = some u := y vs (SqL.of (x2 _ _ (x1 _ _ h1)))
    rw [e3] at hv
    cases hv
    exact ⟨F1, Grow.refl x2, r.mono x1 rv⟩, fun i F1 H1 x1 x2 hi => ⟨vs, SqL.of (x2 _ _ (x1 _ _ h1)), by rw [h3.length]; exact hi⟩⟩ (by rw [← h3.length]; exact h2)⟩⟩
theorem s_tup {w : W (List α)} (h : EE X B env os e (rTup X.K r) w) : ES X B env os tg e r w := PI.imp (pi_tup h) fun σ H R ⟨F, P, S, hw, k⟩ => ⟨F, P, S, hw, fun xs hx v F' H' S' e' ⟨p, vs, e1, h1, h2, h3⟩ =>
  ⟨p, e1, ⟨vs, ex_t S'.fh h1⟩, k xs hx _ F' H' S' e' ⟨fun i F1 H1 x1 x2 hi => by
    obtain ⟨v, hv⟩ : ∃ v, vs[i]? = some v := ⟨_, List.getElem?_eq_getElem (by rw [h3.length]; exact hi)⟩
    exact ⟨vs, v, ex_t (x1.trans x2) h1, hv⟩, fun i F1 H1 u H2 x x1 x2 y hx => by
    obtain ⟨e2, y⟩ := y
    subst e2
    obtain ⟨v, hv, rv⟩ := Paired.get h3 hx
    have e3 : vs[i]? = some u := y vs (ex_t (x1.trans x2) h1)
    rw [e3] at hv
    cases hv
    exact ⟨F1, Grow.refl x2, r.mono x1 rv⟩, fun i F1 H1 x1 x2 hi => ⟨vs, ex_t (x1.trans x2) h1, by rw [h3.length]; exact hi⟩⟩ (by rw [← h3.length]; exact h2)⟩⟩
theorem len_rng {lo hi : Int} (h : RgOk lo hi) : (rangeI lo hi).length ≤ sizeLine := by
  rw [rangeI_len, sizeLine_eq]
  obtain ⟨_, _, _, _, h⟩ := h
  omega
def rng1 (n : Int) : W (List Int) := chk (RgOk 0 n) (ret (rangeI 0 n))
def rng2 (lo hi : Int) : W (List Int) := chk (RgOk lo hi) (ret (rangeI lo hi))
theorem s_rng1 {p : Pos} {w : W Int} (ha : EE X B env os a rInt w) (hm : X.mg "range" = none) (hg : Gl X "range" := by rfl) (hs : starEach [a] X.env = [(false, eval a X.env)] := by rfl) (he : starEach [a] X.env = (false, eval a X.env) :: starEach [] X.env := by rfl) :
    ES X B env os tg (.Call (.Name "range" p) [a] [] pos) rInt (bnd w rng1) := PI.imp (pi_range1 hg hm (pa_cons ha pa_nil he) hs) fun σ H R ⟨F, P, S, hw, k⟩ => ⟨F, _, S, hw, fun x ⟨c, hx⟩ v F' H' S' e' ok => by
  obtain ⟨_, _, c1, c2, _⟩ := id c
  refine ⟨x, by rw [ok], c1, c2, ?_⟩
  have q := k _ hx (Itr 0 (x - 0).toNat) F' H' S' e' walks_rng (len_rng c)
  rw [Int.sub_zero] at q
  exact q⟩
theorem s_rng2 {p : Pos} {w : W Int} {w2 : Int → W Int} (ha : EE X B env os a rInt w) (hb : ∀ x, EE X B env os b rInt (w2 x)) (hm : X.mg "range" = none) (hg : Gl X "range" := by rfl) (hs : starEach [a, b] X.env = [(false, eval a X.env), (false, eval b X.env)] := by rfl) (hs2 : starEach [b] X.env = [(false, eval b X.env)] := by rfl)
    (he : starEach [a, b] X.env = (false, eval a X.env) :: starEach [b] X.env := by rfl) (he2 : starEach [b] X.env = (false, eval b X.env) :: starEach [] X.env := by rfl) :
    ES X B env os tg (.Call (.Name "range" p) [a, b] [] pos) rInt (bnd w fun x => bnd (w2 x) fun y => rng2 x y) := PI.imp (pi_range2 hg hm (pa_cons ha (pa_cons (PE.ex hb) pa_nil he2) he) hs hs2) fun σ H R ⟨F, P, S, hw, k⟩ => ⟨F, _, S, hw, fun x hx v F1 H1 S1 e1 ok1 => ⟨x, F1, _, S1, hx, fun y ⟨c, hy⟩ u F2 H2 S2 e2 ok2 => by
  obtain ⟨c1, c2, c3, c4, _⟩ := id c
  exact ⟨x, y, by rw [ok1, ok2], ⟨c1, c2, c3, c4⟩, k _ hy _ F2 H2 S2 (e1.trans e2) walks_rng (len_rng c)⟩⟩⟩
end
end Mi
namespace Mi
open PySem L2 Evl
/-- the target takes x: the slots is are written -/
def TgT (g : TG) {α : Type} (r : Rp α) (is : List Nat) (envT : Env → α → Env) : Prop := ∀ (F H : Hp) (v : V) (x : α) (σ : L2.St) (env : Env) (Q : L2.St → Hp → Prop), r.ok F v x → Ex F H → EnvOk F env σ →
  (∀ σ', EnvOk F (envT env x) σ' → (∀ vs : List Nat, (∀ i ∈ is, i ∈ vs) → wipe σ' vs = wipe σ vs) → Q σ' H) → g v σ H Q
theorem wipe_set {σ : L2.St} {i : Nat} {o : Option V} : ∀ {vs : List Nat}, i ∈ vs → wipe (σ.set i o) vs = wipe σ vs
  | [], h => by simp at h
  | v :: vs, h => by
    show (wipe (σ.set i o) vs).set v none = (wipe σ vs).set v none
    by_cases hm : i ∈ vs
    · rw [wipe_set hm]
    · have e : i = v := by
        rcases List.mem_cons.mp h with e | e
        · exact e
        · exact absurd e hm
      subst e
      have key : ∀ (us : List Nat), i ∉ us → wipe (σ.set i o) us = (wipe σ us).set i o := by
        intro us
        induction us with
        | nil => intro _; rfl
        | cons u us ih =>
          intro hn
          have h1 : i ≠ u := fun z => hn (z ▸ List.mem_cons_self ..)
          have h2 : i ∉ us := fun z => hn (List.mem_cons_of_mem _ z)
          show (wipe (σ.set i o) us).set u none = ((wipe σ us).set u none).set i o
          rw [ih h2, List.set_comm _ _ h1]
      rw [key vs hm, List.set_set]
section
variable {α β γ : Type} {r : Rp α} {s : Rp β} {t : Rp γ} {K : PySem.W.Frag}
theorem tg_name {i : Nat} : TgT (gName i) r [i] (fun env x => env.set i (sv r x)) := fun F H v x σ env Q ok fh he k =>
  k _ (EnvOk.set (s := sv r x) ⟨v, rfl, ok⟩ he) fun vs h => wipe_set (h i (List.mem_cons_self ..))
theorem tg_pair {i j : Nat} : TgT (gTup K 2 (gCons (gName i) (gCons (gName j) gNil))) (rT2 K r s) [i, j] (fun env x => (env.set i (sv r x.1)).set j (sv s x.2)) := fun F H v x σ env Q ⟨a, v1, v2, e1, h1, ok1, ok2⟩ fh he k =>
  ⟨a, [v1, v2], e1, ex_t fh h1, rfl, v1, [v2], rfl, v2, [], rfl, rfl, k _ (EnvOk.set (s := sv s x.2) ⟨v2, rfl, ok2⟩ (EnvOk.set (s := sv r x.1) ⟨v1, rfl, ok1⟩ he)) fun vs h => by
    rw [wipe_set (h j (by simp)), wipe_set (h i (by simp))]⟩
end
def wipeE (env : Env) : List Nat → Env
  | [] => env
  | v :: vs => (wipeE env vs).set v sa
theorem EnvOk.wipe {F : Hp} {env : Env} {σ : L2.St} (h : EnvOk F env σ) : ∀ vs : List Nat, EnvOk F (wipeE env vs) (L2.wipe σ vs)
  | [] => h
  | v :: vs => (EnvOk.wipe h vs).set trivial
theorem drop_cons {α : Type} {xs : List α} {i : Nat} {x : α} (h : xs[i]? = some x) : xs.drop i = x :: xs.drop (i + 1) := by
  obtain ⟨hl, e⟩ := List.getElem?_eq_some_iff.mp h
  rw [List.drop_eq_getElem_cons hl, e]
section
variable {X : Cx} {B : Bs} {env : Env} {os : Os} {α β : Type} {r : Rp α} {s : Rp β} {elt tg iter : Expr} {ifs : List Expr} {scope : Scope} {pos : Pos}
/-- the reading of a comprehension, by the mirror: M a mark, D the list so far ys, x the item -/
theorem lc_read {w : W (List α)} {c : α → W Bool} {f : α → W β} {own : List (Str × Nat)} {g : TG} {tt : TT} {te : TE} {is : List Nat} {envT : Env → α → Env}
    (st : ∀ M D ys x σ H Q, tOfT (B.at M) (envT (wipeE env (own.map (fun p : Str × Nat => p.2))) x) ((D, oLst s ys) :: os) (c x) σ H Q → tt σ H Q)
    (se : ∀ M D ys x σ H Q, tOf (B.at M) (envT (wipeE env (own.map (fun p : Str × Nat => p.2))) x) ((D, oLst s ys) :: os) s (f x) σ H Q → te σ H Q)
    (tgt : TgT g r is envT) (his : ∀ i ∈ is, i ∈ own.map (fun p : Str × Nat => p.2)) {σ : L2.St} {H : Hp} {Q : VK} (h : tNew B env os s (bnd w fun xs => filtW c f xs) σ H Q) :
    tLc (tSrc B env os r w) g tt te (own.map (fun p : Str × Nat => p.2)) σ H Q := by
  obtain ⟨F, P, S, hw, k⟩ := h
  refine ⟨F, _, S, hw, fun xs hxs J F1 H1 S1 e1 wk hz D hD => ?_⟩
  refine ⟨(fun i m H => m = xs.length - i ∧ i ≤ xs.length ∧ ∃ F' ys, ys.length ≤ i ∧ Sit (B.at F1) F' H σ env ((D, oLst s ys) :: os) ∧ filtW c f (xs.drop i) (fun zs => P (ys ++ zs)) B.E0 : Nat → Nat → Hp → Prop), ?_, ?_⟩
  · refine ⟨xs.length, by simp, Nat.zero_le _, F1, [], Nat.zero_le _, ?_, ?_⟩
    · have S1' : Sit (B.at F1) F1 H1 σ env os := ⟨⟨S1.fin.fh, S1.fin.bf, Ex.refl F1, S1.fin.bb, S1.fin.ios, S1.fin.keep⟩, S1.env, S1.ow, S1.nd⟩
      exact S1'.newOwn hD ⟨[], rfl, Nat.zero_le _, .nil⟩
    · rw [List.drop_zero]
      exact hxs
  rintro i m H2 ⟨rfl, hi, F2, ys, hyl, S2, hw2⟩
  have e12 : Ex F1 F2 := S2.fin.mrk
  by_cases hlt : i < xs.length
  · obtain ⟨x, hx⟩ : ∃ x, xs[i]? = some x := ⟨_, List.getElem?_eq_getElem hlt⟩
    refine .inr ⟨wk.go i F2 H2 e12 S2.fh hlt, (fun H' => ∃ F' ys, ys.length ≤ i + 1 ∧ Sit (B.at F1) F' H' σ env ((D, oLst s ys) :: os) ∧ filtW c f (xs.drop (i + 1)) (fun zs => P (ys ++ zs)) B.E0 : Hp → Prop), ?_, fun v H3 y => ?_⟩
    · intro H' h
      exact ⟨xs.length - (i + 1), by omega, rfl, hlt, h⟩
    obtain ⟨F3, gr, rv⟩ := wk.yld i F2 H2 v H3 x e12 S2.fh y hx
    have S3 : Sit (B.at F1) F3 H3 σ env ((D, oLst s ys) :: os) := S2.grow gr
    refine tgt F3 H3 v x (wipe σ (own.map (fun p : Str × Nat => p.2))) (wipeE env (own.map (fun p : Str × Nat => p.2))) _ rv S3.fh (S3.env.wipe _) fun σ' hσ hwipe => ⟨?_, ?_⟩
    · rw [hwipe _ his]
      have ww : ∀ (τ : L2.St) (vs : List Nat), wipe (wipe τ vs) vs = wipe τ vs := by
        intro τ vs
        have key : ∀ (us vs : List Nat), (∀ u ∈ us, u ∈ vs) → wipe (wipe τ us) vs = wipe τ vs := by
          intro us
          induction us with
          | nil => intro vs _; rfl
          | cons u us ih =>
            intro vs h
            show wipe ((wipe τ us).set u none) vs = wipe τ vs
            rw [wipe_set (h u (List.mem_cons_self ..)), ih vs fun z hz => h z (List.mem_cons_of_mem _ hz)]
        exact key vs vs fun _ h => h
      exact ww σ _
    · rw [drop_cons hx] at hw2
      have hw3 : c x (fun b => (if b = true then bnd (f x) fun y => bnd (filtW c f (xs.drop (i + 1))) fun ys => ret (y :: ys) else filtW c f (xs.drop (i + 1))) (fun zs => P (ys ++ zs)) B.E0) B.E0 := hw2
      have St : Sit (B.at F1) F3 H3 σ' (envT (wipeE env (own.map (fun p : Str × Nat => p.2))) x) ((D, oLst s ys) :: os) := ⟨S3.fin, hσ, S3.ow, S3.nd⟩
      refine st F1 D ys x σ' H3 _ ⟨F3, _, St, hw3, fun b hb F4 H4 S4 e34 => ?_⟩
      cases b with
      | false => exact ⟨F4, ys, by omega, ⟨S4.fin, S3.env.mono e34, S4.ow, S4.nd⟩, hb⟩
      | true =>
        have hb' : f x (fun y => filtW c f (xs.drop (i + 1)) (fun zs => P (ys ++ (y :: zs))) B.E0) B.E0 := hb
        refine se F1 D ys x σ' H4 _ ⟨F4, _, S4, hb', fun z hz v' F5 H5 S5 e45 okz => ?_⟩
        obtain ⟨hF5, ⟨o, ho, vs, eo, hl, pr⟩, hB5⟩ := S5.ow (D, oLst s ys) (List.mem_cons_self ..)
        subst eo
        have hlen : vs.length < sizeLine := by
          have := pr.length
          omega
        refine ⟨vs, ho, hlen, F5, ys ++ [z], by rw [List.length_append, List.length_singleton]; omega, ?_, ?_⟩
        · have S6 := S5.change (j := 0) (ow' := oLst s (ys ++ [z])) (o' := .lst (vs ++ [v'])) rfl ⟨vs ++ [v'], rfl, by rw [List.length_append, List.length_singleton]; omega, Paired.app pr (.cons okz .nil)⟩
          exact ⟨S6.fin, (S3.env.mono e34).mono e45, S6.ow, S6.nd⟩
        · have q : (fun zs => P (ys ++ [z] ++ zs)) = fun zs => P (ys ++ (z :: zs)) := by
            funext zs
            rw [List.append_assoc]
            rfl
          show filtW c f (xs.drop (i + 1)) (fun zs => P (ys ++ [z] ++ zs)) B.E0
          rw [q]
          exact hz
  · have e : i = xs.length := by omega
    subst e
    refine .inl ⟨wk.stop _ F2 H2 e12 S2.fh (Nat.le_refl _), ?_⟩
    rw [List.drop_length] at hw2
    have hp : P (ys ++ []) := hw2
    rw [List.append_nil] at hp
    exact k ys hp D F2 H2 ⟨⟨S2.fin.fh, S2.fin.bf, S1.fin.mrk.trans e12, S2.fin.bb, S2.fin.ios, S2.fin.keep⟩, S2.env, S2.ow, S2.nd⟩ (e1.trans e12)
theorem filtW_true {α β : Type} {f : α → W β} : ∀ xs : List α, filtW (fun _ => ret true) f xs = mapW f xs
  | [] => rfl
  | x :: xs => by
    show bnd (f x) _ = bnd (f x) _
    congr 1
    funext y
    rw [filtW_true xs]
/-- an item's place in a block -/
abbrev envI (env : Env) (own : List (Str × Nat)) {α : Type} (envT : Env → α → Env) (x : α) : Env := envT (wipeE env (own.map (fun p : Str × Nat => p.2))) x
abbrev teC (B : Bs) (env : Env) (os : Os) (own : List (Str × Nat)) {α β : Type} (envT : Env → α → Env) (s : Rp β) (f : α → W β) : TE := fun σ H Q => ∃ p : Hp × Addr × List β × α, tOf (B.at p.1) (envI env own envT p.2.2.2) ((p.2.1, oLst s p.2.2.1) :: os) s (f p.2.2.2) σ H Q
section
variable {w : W (List α)} {c : α → W Bool} {f : α → W β} {own : List (Str × Nat)} {g : TG} {is : List Nat} {envT : Env → α → Env} {test : Expr}
theorem lc_readM (tgt : TgT g r is envT) (his : ∀ i ∈ is, i ∈ own.map (fun p : Str × Nat => p.2)) {σ : L2.St} {H : Hp} {Q : VK} (h : tNew B env os s (bnd w fun xs => mapW f xs) σ H Q) :
    tLc (tSrc B env os r w) g tYes (teC B env os own envT s f) (own.map (fun p : Str × Nat => p.2)) σ H Q := by
  have e : (fun xs => mapW f xs) = fun xs => filtW (fun _ => ret true) f xs := by
    funext xs
    exact (filtW_true xs).symm
  rw [e] at h
  exact lc_read (own := own) (fun M D ys x σ H Q ⟨F, P, S, hw, k⟩ => k true hw F H S (Ex.refl F)) (fun M D ys x σ H Q h => ⟨(M, D, ys, x), h⟩) tgt his h
theorem ex_teC {Y : Cx} (h : ∀ (M : Hp) (D : Addr) (ys : List β) (x : α), EE Y (B.at M) (envI env own envT x) ((D, oLst s ys) :: os) elt s (f x)) : PE Y elt (teC B env os own envT s f) :=
  ⟨fun pins s σ H Q I ⟨p, q⟩ => (h p.1 p.2.1 p.2.2.1 p.2.2.2).run pins s σ H Q I q⟩
variable (hc : X.calm = true) (hN : X.N.Nodup) (src : ES X B env os tg iter r w) (ok : BlkOk X.N X.env.scope scope own) (tgt : TgT g r is envT)
  (hg : ∀ (s : Shared) (H : Hp) (C : Addr) (cl : List (Str × Addr)) (fp : List Addr), PG (X.blk s H scope (compEnvC scope cl C X.env) fp) tg g) (his : ∀ i ∈ is, i ∈ own.map (fun p : Str × Nat => p.2))
  (ht : ∀ (s' : Shared) (H : Hp) (C : Addr) (cl : List (Str × Addr)) (fp : List Addr) (M : Hp) (D : Addr) (ys : List β) (x : α), ET (X.blk s' H scope (compEnvC scope cl C X.env) fp) (B.at M) (envI env own envT x) ((D, oLst s ys) :: os) test (c x))
  (he : ∀ (s' : Shared) (H : Hp) (C : Addr) (cl : List (Str × Addr)) (fp : List Addr) (M : Hp) (D : Addr) (ys : List β) (x : α), EE (X.blk s' H scope (compEnvC scope cl C X.env) fp) (B.at M) (envI env own envT x) ((D, oLst s ys) :: os) elt s (f x))
include hc hN src ok tgt hg his he
theorem n_comp (hs : ∀ x, foldedSetIterable iter X.env x = pure x := by intro _; rfl) : EN X B env os (.ListComp elt [⟨tg, iter, [], 0⟩] scope pos) s (bnd w fun xs => mapW f xs) :=
  PE.imp (pe_lc hc hN src ok hg (fun _ _ _ _ _ => pts_nil) (fun s' H C cl fp => ex_teC (he s' H C cl fp)) hs) fun σ H Q h => lc_readM tgt his h
/-- name = [..] where the name is a plain local of the same line -/
theorem c_comp {i : Nat} {y : Str} {py spos : Pos} (hy : X.N[i]? = some y) (hyl : X.env.scope.names.lookup y = some .local) (hsw : swapsWith (.ListComp elt [⟨tg, iter, [], 0⟩] scope pos) (some (.Name y py)) spos.line X.env = pure true)
    (hs : ∀ x, foldedSetIterable iter X.env x = pure x := by intro _; rfl) : PS X (.Assign [.Name y py] (.ListComp elt [⟨tg, iter, [], 0⟩] scope pos) spos) (tAsg (tNew B env os s (bnd w fun xs => mapW f xs)) (gName i)) := by
  have h := ps_setLc (pos := pos) (spos := spos) (py := py) hc hN hy hyl hsw src ok hg (fun _ _ _ _ _ => pts_nil) (fun s' H C cl fp => ex_teC (he s' H C cl fp)) hs
  exact ⟨fun pins s σ H D I q => h.run pins s σ H D I (lc_readM tgt his q)⟩
include ht
end
end
end Mi
namespace Mi
open PySem L2 Evl
section
variable {X : Cx} {B : Bs} {env : Env} {os : Os} {α β ρ S : Type} {r : Rp α} {tg iter : Expr} {body rest : List Stmt} {pos : Pos} {post : Post β}
theorem Sit.at {F H : Hp} {σ : L2.St} (s : Sit B F H σ env os) (M : Hp) (h : Ex M F) : Sit (B.at M) F H σ env os := ⟨⟨s.fin.fh, s.fin.bf, h, s.fin.bb, s.fin.ios, s.fin.keep⟩, s.env, s.ow, s.nd⟩
theorem Sit.un {F H M : Hp} {σ : L2.St} (s : Sit (B.at M) F H σ env os) (h : Ex B.M M) : Sit B F H σ env os := ⟨⟨s.fin.fh, s.fin.bf, h.trans s.fin.mrk, s.fin.bb, s.fin.ios, s.fin.keep⟩, s.env, s.ow, s.nd⟩
theorem Fn.un {F H M : Hp} (s : Fn (B.at M) F H) (h : Ex B.M M) : Fn B F H := ⟨s.fh, s.bf, h.trans s.mrk, s.bb, s.ios, s.keep⟩
/-- what comes behind a loop -/
theorem b_forG {w : W (List α)} {f : S → α → W (Fl S ρ)} {w3 : Fl S ρ → W β} {g : TG} {is : List Nat} {envT : Env → α → Env} {osR : Os} {ro : Rp ρ} (inj : ρ → β) (envS : S → Env) (osS : S → Os) (s0 : S) (hc : X.calm = true) (hp : PassesOwn (model X.prog X.w) X.A X.env X.xe)
    (src : ES X B env os tg iter r w) (tgt : TgT g r is envT) (hg : PG X tg g)
    (hb : ∀ M s x, BG X (B.at M) (envT (envS s) x) (osS s) body (pFl (B.at M) osR ro envS osS) (f s x))
    (hr : ∀ s, BG X B (envS s) (osS s) rest post (w3 (.nx s))) (hrt : ∀ x, w3 (.rt x) = ret (inj x)) (hpo : RtOk B post osR ro inj)
    (le0 : EnvLe env (envS s0)) (os0 : os = osS s0) (hs : ∀ x, foldedSetIterable iter X.env x = pure x := by intro _; rfl) :
    BG X B env os (.For tg iter body [] pos :: rest) post (bnd w fun xs => bnd (forF f s0 xs) w3) := by
  have hb' : PSs X body (fun D σ H => ∃ p : Hp × S × α, tBG (B.at p.1) (envT (envS p.2.1) p.2.2) (osS p.2.1) (pFl (B.at p.1) osR ro envS osS) (f p.2.1 p.2.2) D σ H) := PSs.ex fun p => hb p.1 p.2.1 p.2.2
  have hr' : PSs X rest (fun D σ H => ∃ s, tBG B (envS s) (osS s) post (w3 (.nx s)) D σ H) := PSs.ex hr
  refine PSs.imp (pss_cons (ps_for hp hc src hg hb' hs) hr') fun D σ H ⟨F, P, S0, hw, k⟩ => ⟨F, _, S0, hw, fun xs hxs J F1 H1 S1 e1 wk hz => ?_⟩
  refine ⟨(fun i m σ H => m = xs.length - i ∧ i ≤ xs.length ∧ ∃ F' s, Sit (B.at F1) F' H σ (envS s) (osS s) ∧ forF f s (xs.drop i) (fun q => w3 q P B.E0) B.E0 : Nat → Nat → L2.St → Hp → Prop), ?_, ?_⟩
  · refine ⟨xs.length, by simp, Nat.zero_le _, F1, s0, ?_, ?_⟩
    · subst os0
      exact (S1.at F1 (Ex.refl F1)).le le0
    · rw [List.drop_zero]
      exact hxs
  rintro i m σ2 H2 ⟨rfl, hi, F2, s, S2, hw2⟩
  have e12 : Ex F1 F2 := S2.fin.mrk
  by_cases hlt : i < xs.length
  · obtain ⟨x, hx⟩ : ∃ x, xs[i]? = some x := ⟨_, List.getElem?_eq_getElem hlt⟩
    refine .inr ⟨wk.go i F2 H2 e12 S2.fh hlt, (fun σ' H' => ∃ F' s, Sit (B.at F1) F' H' σ' (envS s) (osS s) ∧ forF f s (xs.drop (i + 1)) (fun q => w3 q P B.E0) B.E0 : L2.St → Hp → Prop), ?_, fun v H3 y => ?_⟩
    · intro σ' H' h
      exact ⟨xs.length - (i + 1), by omega, rfl, hlt, h⟩
    obtain ⟨F3, gr, rv⟩ := wk.yld i F2 H2 v H3 x e12 S2.fh y hx
    have S3 := S2.grow gr
    refine tgt F3 H3 v x σ2 (envS s) _ rv S3.fh S3.env fun σ' hσ _ => ?_
    rw [drop_cons hx] at hw2
    have hw3 : f s x (fun q => flGo (fun s' => forF f s' (xs.drop (i + 1))) q (fun q => w3 q P B.E0) B.E0) B.E0 := hw2
    refine ⟨(F1, s, x), F3, _, ⟨S3.fin, hσ, S3.ow, S3.nd⟩, hw3, fun q hq => ?_⟩
    cases q with
    | nx s' => exact fun σ4 F4 H4 S4 => ⟨F4, s', S4, hq⟩
    | ct s' => exact fun σ4 F4 H4 S4 => ⟨F4, s', S4, hq⟩
    | bk s' => exact fun σ4 F4 H4 S4 => ⟨s', F4, P, S4.un S1.fin.mrk, hq, k⟩
    | rt z =>
      have hq' : w3 (.rt z) P B.E0 := hq
      rw [hrt z] at hq'
      exact fun v5 F5 H5 fn ow okv => hpo.ok D z (k _ hq') v5 F5 H5 (fn.un S1.fin.mrk) ow okv
  · have e : i = xs.length := by omega
    subst e
    rw [List.drop_length] at hw2
    have hq : w3 (.nx s) P B.E0 := hw2
    exact .inl ⟨wk.stop _ F2 H2 e12 S2.fh (Nat.le_refl _), s, F2, P, S2.un S1.fin.mrk, hq, k⟩
/-- a loop that is never left early -/
theorem b_for {w : W (List α)} {f : S → α → W S} {w3 : S → W β} {g : TG} {is : List Nat} {envT : Env → α → Env} (envS : S → Env) (osS : S → Os) (s0 : S) (hc : X.calm = true) (hp : PassesOwn (model X.prog X.w) X.A X.env X.xe)
    (src : ES X B env os tg iter r w) (tgt : TgT g r is envT) (hg : PG X tg g)
    (hb : ∀ M s x, BG X (B.at M) (envT (envS s) x) (osS s) body (pNx (B.at M) envS osS) (f s x))
    (hr : ∀ s, BG X B (envS s) (osS s) rest post (w3 s))
    (le0 : EnvLe env (envS s0)) (os0 : os = osS s0) (hs : ∀ x, foldedSetIterable iter X.env x = pure x := by intro _; rfl) :
    BG X B env os (.For tg iter body [] pos :: rest) post (bnd w fun xs => bnd (forW f s0 xs) w3) := by
  have hb' : PSs X body (fun D σ H => ∃ p : Hp × S × α, tBG (B.at p.1) (envT (envS p.2.1) p.2.2) (osS p.2.1) (pNx (B.at p.1) envS osS) (f p.2.1 p.2.2) D σ H) := PSs.ex fun p => hb p.1 p.2.1 p.2.2
  have hr' : PSs X rest (fun D σ H => ∃ s, tBG B (envS s) (osS s) post (w3 s) D σ H) := PSs.ex hr
  refine PSs.imp (pss_cons (ps_for hp hc src hg hb' hs) hr') fun D σ H ⟨F, P, S0, hw, k⟩ => ⟨F, _, S0, hw, fun xs hxs J F1 H1 S1 e1 wk hz => ?_⟩
  refine ⟨(fun i m σ H => m = xs.length - i ∧ i ≤ xs.length ∧ ∃ F' s, Sit (B.at F1) F' H σ (envS s) (osS s) ∧ forW f s (xs.drop i) (fun q => w3 q P B.E0) B.E0 : Nat → Nat → L2.St → Hp → Prop), ?_, ?_⟩
  · refine ⟨xs.length, by simp, Nat.zero_le _, F1, s0, ?_, ?_⟩
    · subst os0
      exact (S1.at F1 (Ex.refl F1)).le le0
    · rw [List.drop_zero]
      exact hxs
  rintro i m σ2 H2 ⟨rfl, hi, F2, s, S2, hw2⟩
  have e12 : Ex F1 F2 := S2.fin.mrk
  by_cases hlt : i < xs.length
  · obtain ⟨x, hx⟩ : ∃ x, xs[i]? = some x := ⟨_, List.getElem?_eq_getElem hlt⟩
    refine .inr ⟨wk.go i F2 H2 e12 S2.fh hlt, (fun σ' H' => ∃ F' s, Sit (B.at F1) F' H' σ' (envS s) (osS s) ∧ forW f s (xs.drop (i + 1)) (fun q => w3 q P B.E0) B.E0 : L2.St → Hp → Prop), ?_, fun v H3 y => ?_⟩
    · intro σ' H' h
      exact ⟨xs.length - (i + 1), by omega, rfl, hlt, h⟩
    obtain ⟨F3, gr, rv⟩ := wk.yld i F2 H2 v H3 x e12 S2.fh y hx
    have S3 := S2.grow gr
    refine tgt F3 H3 v x σ2 (envS s) _ rv S3.fh S3.env fun σ' hσ _ => ?_
    rw [drop_cons hx] at hw2
    exact ⟨(F1, s, x), F3, _, ⟨S3.fin, hσ, S3.ow, S3.nd⟩, hw2, fun s' hq σ4 F4 H4 S4 => ⟨F4, s', S4, hq⟩⟩
  · have e : i = xs.length := by omega
    subst e
    rw [List.drop_length] at hw2
    exact .inl ⟨wk.stop _ F2 H2 e12 S2.fh (Nat.le_refl _), s, F2, P, S2.un S1.fin.mrk, hw2, k⟩
end
end Mi
namespace Mi
open PySem L2 Evl
section
variable {X : Cx} {B : Bs} {env : Env} {os : Os} {pos : Pos} {α β γ : Type} {r : Rp α} {s : Rp β} {t : Rp γ} {e a b c : Expr}
def catL (xs ys : List α) : W (List α) := chk (xs.length + ys.length ≤ sizeLine) (ret (xs ++ ys))
theorem n_cat {w1 : W (List α)} {w2 : List α → W (List α)} (ha : EE X B env os a (rLst r) w1) (hb : ∀ x, EE X B env os b (rLst r) (w2 x)) : EN X B env os (.BinOp a .Add b pos) r (bnd w1 fun x => bnd (w2 x) fun y => catL x y) :=
  PE.imp (pe_op op_cat ha (PE.ex hb)) fun σ H Q ⟨F, P, S, hw, k⟩ => ⟨F, _, S, hw, fun x hx v F1 H1 S1 e1 ⟨p1, vs, q1, h1, z1, ok1⟩ => ⟨x, F1, _, S1, hx, fun y ⟨c, hy⟩ u F2 H2 S2 e2 ⟨p2, us, q2, h2, z2, ok2⟩ => by
  have hl : vs.length + us.length ≤ sizeLine := by rw [ok1.length, ok2.length]; exact c
  exact ⟨p1, p2, vs, us, q1, q2, S2.fh _ _ (e2 _ _ h1), S2.fh _ _ h2, hl, fun p hp => k _ hy p F2 _ (S2.newOwn hp ⟨_, rfl, by rw [List.length_append]; exact hl, Paired.app (Paired.imp (fun _ _ => r.mono e2) ok1) ok2⟩) (e1.trans e2)⟩⟩⟩
def repL (xs : List α) (k : Int) : W (List α) := chk (-(2 ^ 63) ≤ k ∧ k < 2 ^ 63 ∧ xs.length * k.toNat ≤ sizeLine) (ret (List.replicate k.toNat xs).flatten)
theorem flat_paired {R : V → α → Prop} {vs : List V} {xs : List α} (h : Paired R vs xs) : ∀ n : Nat, Paired R (List.replicate n vs).flatten (List.replicate n xs).flatten
  | 0 => .nil
  | n + 1 => by
    rw [List.replicate_succ, List.replicate_succ, List.flatten_cons, List.flatten_cons]
    exact Paired.app h (flat_paired h n)
theorem n_rep {w1 : W (List α)} {w2 : List α → W Int} (ha : EE X B env os a (rLst r) w1) (hb : ∀ x, EE X B env os b rInt (w2 x)) : EN X B env os (.BinOp a .Mult b pos) r (bnd w1 fun x => bnd (w2 x) fun k => repL x k) :=
  PE.imp (pe_op op_rep ha (PE.ex hb)) fun σ H Q ⟨F, P, S, hw, k⟩ => ⟨F, _, S, hw, fun x hx v F1 H1 S1 e1 ⟨p1, vs, q1, h1, z1, ok1⟩ => ⟨x, F1, _, S1, hx, fun y ⟨⟨c1, c2, c3⟩, hy⟩ u F2 H2 S2 e2 ok2 => by
  have hl : vs.length * y.toNat ≤ sizeLine := by rw [ok1.length]; exact c3
  exact ⟨p1, y, vs, q1, ok2, S2.fh _ _ (e2 _ _ h1), c1, c2, hl, fun p hp => k _ hy p F2 _ (S2.newOwn hp ⟨_, rfl, by
    rw [List.length_flatten, List.map_replicate, List.sum_replicate_nat, Nat.mul_comm]; exact hl, flat_paired (Paired.imp (fun _ _ => r.mono e2) ok1) y.toNat⟩) (e1.trans e2)⟩⟩⟩
def cutL (xs : List α) (lo hi : Option Int) : List α := (xs.drop (HT.sIx xs.length 0 lo)).take (HT.sIx xs.length xs.length hi - HT.sIx xs.length 0 lo)
theorem cut_paired {R : V → α → Prop} {vs : List V} {xs : List α} (h : Paired R vs xs) (lo hi : Option Int) : Paired R (cutV vs lo hi) (cutL xs lo hi) := by
  unfold cutV cutL
  rw [h.length]
  exact Paired.takeR _ (Paired.dropR _ h)
/-- a part of a slice -/
def tOpt (B : Bs) (env : Env) (os : Os) (w : W (Option Int)) : TO := fun σ H Q => ∃ F P, Sit B F H σ env os ∧ w P B.E0 ∧ ∀ x, P x → ∀ F' H', Sit B F' H' σ env os → Ex F F' → Q x H'
def EO (X : Cx) (B : Bs) (env : Env) (os : Os) (e : Option Expr) (w : W (Option Int)) : Prop := PO X e (tOpt B env os w)
theorem PO.imp {e : Option Expr} {t t' : TO} (h : PO X e t) (i : ∀ σ H Q, t' σ H Q → t σ H Q) : PO X e t' := ⟨fun pins s σ H Q I q => h.run pins s σ H Q I (i _ _ _ q)⟩
theorem PO.ex {e : Option Expr} {ι : Type} {t : ι → TO} (h : ∀ i, PO X e (t i)) : PO X e (fun σ H Q => ∃ i, t i σ H Q) := ⟨fun pins s σ H Q I ⟨i, q⟩ => (h i).run pins s σ H Q I q⟩
theorem o_none : EO X B env os none (ret none) := PO.imp po_none fun σ H Q ⟨F, P, S, hw, k⟩ => k none hw F H S (Ex.refl F)
theorem o_some {w : W Int} (h : EE X B env os e rInt w) : EO X B env os (some e) (bnd w fun i => ret (some i)) := PO.imp (po_some h) fun σ H Q ⟨F, P, S, hw, k⟩ => ⟨F, _, S, hw, fun x hx v F1 H1 S1 e1 ok => ⟨x, ok, k _ hx F1 H1 S1 e1⟩⟩
/-- list(xs), of a list or a tuple -/
theorem n_listL {w : W (List α)} {p : Pos} (ha : EE X B env os a (rLst r) w) (hm : X.mg "list" = none) (hg : Gl X "list" := by rfl) (he : starEach [a] X.env = (false, eval a X.env) :: starEach [] X.env := by rfl) (hpl : (backTo pos (starEach [] X.env)).any (·.1) = false := by rfl) :
    EN X B env os (.Call (.Name "list" p) [a] [] pos) r w := PE.imp (pe_callTy call_list_of hg hm (by decide +kernel) (pa_cons ha pa_nil he) (by decide) (by decide) he hpl) fun σ H Q ⟨F, P, S, hw, k⟩ => ⟨F, _, S, hw, fun x hx v F1 H1 S1 e1 ⟨p1, vs, q1, h1, z1, ok1⟩ =>
  ⟨p1, vs, by rw [q1], .inl (SqL.of (S1.fh _ _ h1)), fun l hl => k x hx l F1 _ (S1.newOwn hl ⟨vs, rfl, z1, ok1⟩) e1⟩⟩
theorem n_listT {w : W (List α)} {p : Pos} (ha : EE X B env os a (rTup X.K r) w) (hm : X.mg "list" = none) (hg : Gl X "list" := by rfl) (he : starEach [a] X.env = (false, eval a X.env) :: starEach [] X.env := by rfl) (hpl : (backTo pos (starEach [] X.env)).any (·.1) = false := by rfl) :
    EN X B env os (.Call (.Name "list" p) [a] [] pos) r w := PE.imp (pe_callTy call_list_of hg hm (by decide +kernel) (pa_cons ha pa_nil he) (by decide) (by decide) he hpl) fun σ H Q ⟨F, P, S, hw, k⟩ => ⟨F, _, S, hw, fun x hx v F1 H1 S1 e1 ⟨p1, vs, q1, h1, z1, ok1⟩ =>
  ⟨p1, vs, by rw [q1], .inr (ex_t S1.fh h1), fun l hl => k x hx l F1 _ (S1.newOwn hl ⟨vs, rfl, z1, ok1⟩) e1⟩⟩
end
theorem erase_perm {α : Type} : ∀ {l : List α} {j : Nat} {x : α}, l[j]? = some x → (x :: l.eraseIdx j).Perm l
  | [], _, _, h => by simp at h
  | a :: l, 0, x, h => by
    simp at h
    subst h
    exact List.Perm.refl _
  | a :: l, j + 1, x, h => by
    show (x :: a :: l.eraseIdx j).Perm (a :: l)
    exact (List.Perm.swap a x _).trans ((erase_perm (by simpa using h)).cons a)
theorem Sit.pick {B : Bs} {F H : Hp} {σ : L2.St} {env : Env} {os : Os} {j : Nat} {p : Addr × Own} (s : Sit B F H σ env os) (hj : os[j]? = some p) : Sit B F H σ env (p :: os.eraseIdx j) := by
  have hm : p ∈ os := List.mem_of_getElem? hj
  have hjl : j < os.length := (List.getElem?_eq_some_iff.mp hj).1
  have he : os[j] = p := (List.getElem?_eq_some_iff.mp hj).2
  have hp : (p :: os.eraseIdx j).Perm os := erase_perm hj
  refine ⟨s.fin, s.env, fun q hq => s.ow q ((hp.mem_iff).mp hq), ?_⟩
  exact (hp.map _).nodup_iff.mpr s.nd
section
variable {X : Cx} {B : Bs} {env : Env} {os : Os} {pos pos' : Pos} {α β γ : Type} {r : Rp α} {s : Rp β} {t : Rp γ} {e a b c : Expr} {rest : List Stmt} {post : Post β}
/-- name = a new list that the def will change -/
theorem b_own (i : Nat) {x : Str} {w1 : W (List α)} {w2 : List α → W β} (he : EN X B env os e r w1) (hr : ∀ a xs, BG X B (env.set i (sv (rAdr a) ())) ((a, oLst r xs) :: os) rest post (w2 xs)) (hN : X.N.Nodup) (hi : X.N[i]? = some x := by rfl)
    (hx : Loc X.env.scope x := by first | exact Or.inl rfl | exact Or.inr rfl) (hs : swapsWith e (some (.Name x pos')) pos.line X.env = pure false := by rfl) (hf : X.fn x = true ∨ X.env.scope.names.lookup x = some .local := by first | exact .inl rfl | exact .inr rfl | assumption) :
    BG X B env os (.Assign [.Name x pos'] e pos :: rest) post (bnd w1 w2) :=
  PSs.imp (pss_cons (ps_set hN hi hx he hs hf) (PSs.ex fun p : Addr × List α => hr p.1 p.2)) fun D σ H ⟨F, P, S, hw, k⟩ => ⟨F, _, S, hw, fun xs hx a F' H' S' _ => ⟨(a, xs), F', P, S'.store ⟨_, rfl, rfl⟩, hx, k⟩⟩
/-- the same where the comprehension itself stores the name (c: the statement's rule) -/
theorem b_ownC (i : Nat) {x : Str} {w1 : W (List α)} {w2 : List α → W β} (c : PS X (.Assign [.Name x pos'] e pos) (tAsg (tNew B env os r w1) (gName i))) (hr : ∀ a xs, BG X B (env.set i (sv (rAdr a) ())) ((a, oLst r xs) :: os) rest post (w2 xs)) :
    BG X B env os (.Assign [.Name x pos'] e pos :: rest) post (bnd w1 w2) :=
  PSs.imp (pss_cons c (PSs.ex fun p : Addr × List α => hr p.1 p.2)) fun D σ H ⟨F, P, S, hw, k⟩ => ⟨F, _, S, hw, fun xs hx a F' H' S' _ => ⟨(a, xs), F', P, S'.store ⟨_, rfl, rfl⟩, hx, k⟩⟩
theorem Sit.own {F H : Hp} {σ : L2.St} {i j : Nat} {a : Addr} {xs : List α} (S : Sit B F H σ env os) (hi : env[i]? = some (sv (rAdr a) ())) (hj : os[j]? = some (a, oLst r xs)) : σ[i]? = some (some (.ref a)) ∧ F a = none ∧ ∃ vs, H a = some (.lst vs) ∧ vs.length ≤ sizeLine ∧ Paired (r.ok F) vs xs := by
  obtain ⟨ov, g1, v, g2, g3⟩ := S.env.get hi
  have g3' : v = .ref a := g3
  subst g2 g3'
  obtain ⟨z1, ⟨o, z2, vs, z3, z4, z5⟩, _⟩ := S.ow _ (List.mem_of_getElem? hj)
  subst z3
  exact ⟨g1, z1, vs, z2, z4, z5⟩
theorem e_lenO (i j : Nat) {x : Str} {p p2 : Pos} {a : Addr} {xs : List α} (hi : env[i]? = some (sv (rAdr a) ())) (hj : os[j]? = some (a, oLst r xs)) (hm : X.mg "len" = none) (hN : X.N[i]? = some x := by rfl) (hv : Vis X.env.scope x := by first | exact Or.inl rfl | exact Or.inr (Or.inl rfl) | exact Or.inr (Or.inr rfl))
    (hg : Gl X "len" := by rfl) (hd : (x == ("__debug__" : Str)) = false := by decide) (hcd : (x == ("__classdict__" : Str)) = false := by decide) (he : starEach [.Name x p2] X.env = (false, eval (.Name x p2) X.env) :: starEach [] X.env := by rfl) (hpl : (backTo pos (starEach [] X.env)).any (·.1) = false := by rfl) :
    EE X B env os (.Call (.Name "len" p) [.Name x p2] [] pos) rInt (ret (xs.length : Int)) :=
  PE.imp (pe_callB call_len_seq hg hm PySem.boot_len (pa_cons (pe_var hN hv hd hcd) pa_nil he) (by decide) (by decide) he hpl) fun σ H Q ⟨F, P, S, hw, k⟩ => by
  obtain ⟨g1, g2, vs, g3, g4, g5⟩ := S.own hi hj
  exact ⟨.ref a, g1, a, vs, rfl, .inl (SqL.of g3), k _ hw _ F H S (Ex.refl F) (by rw [g5.length]; rfl)⟩
theorem e_idxO (i j : Nat) {x : Str} {p2 : Pos} {a : Addr} {xs : List α} {w : W Int} (hi : env[i]? = some (sv (rAdr a) ())) (hj : os[j]? = some (a, oLst r xs)) (hb : EE X B env os b rInt w) (hN : X.N[i]? = some x := by rfl)
    (hv : Vis X.env.scope x := by first | exact Or.inl rfl | exact Or.inr (Or.inl rfl) | exact Or.inr (Or.inr rfl)) (hd : (x == ("__debug__" : Str)) = false := by decide) (hcd : (x == ("__classdict__" : Str)) = false := by decide) (hs : PlainIx b := by exact fun _ _ => rfl) :
    EE X B env os (.Subscript (.Name x p2) b pos) r (bnd w fun k => idx xs k) :=
  PE.imp (pe_ix ix_list (pe_var hN hv hd hcd) hb hs) fun σ H Q ⟨F, P, S, hw, k⟩ => by
  obtain ⟨g1, _, _, _, _, _⟩ := S.own hi hj
  refine ⟨.ref a, g1, F, _, S, hw, fun z hz v F1 H1 S1 e1 ok => ?_⟩
  obtain ⟨_, g2, vs, g3, g4, g5⟩ := S1.own hi hj
  obtain ⟨y, hy, py⟩ := idx_of hz
  obtain ⟨u, hu, ru⟩ := atI_paired g5 hy
  exact ⟨a, vs, z, u, rfl, ok, SqL.of g3, hu, k y py u F1 H1 S1 e1 ru⟩
/-- found.append(e) -/
theorem b_append (i j : Nat) {x : Str} {p1 p2 p3 : Pos} {a : Addr} {xs : List α} {w : W α} {w2 : α → W β} (hi : env[i]? = some (sv (rAdr a) ())) (hj : os[j]? = some (a, oLst r xs)) (he : EE X B env os e r w)
    (hr : ∀ y, BG X B env (os.set j (a, oLst r (xs ++ [y]))) rest post (w2 y)) (hN : X.N[i]? = some x := by rfl)
    (hv : Vis X.env.scope x := by first | exact Or.inl rfl | exact Or.inr (Or.inl rfl) | exact Or.inr (Or.inr rfl)) (hd : (x == ("__debug__" : Str)) = false := by decide) (hcd : (x == ("__classdict__" : Str)) = false := by decide)
    (hbase : attributeBase (.Name x p1) "append" X.env (eval (.Name x p1) X.env) = eval (.Name x p1) X.env := by rfl)
    (hfew : ((backTo p3 (starEach [e] X.env)).all (fun x => !x.1) && (backToKw p3 (keywordEach [] X.env)).all (fun x => x.1.isSome) && decide (([e] : List Expr).length + ([] : List Keyword).length + (if ([] : List Keyword).isEmpty then 0 else 1) < 30)) = true := by rfl)
    (hline : (p2.endLine == p3.line) = true := by rfl) (hs : starEach [e] X.env = (false, eval e X.env) :: starEach [] X.env := by rfl) (hplain : (backTo p3 (starEach [] X.env)).any (·.1) = false := by rfl)
    (hsw : swapsWith (.Call (.Attribute (.Name x p1) "append" p2) [e] [] p3) none pos.line X.env = pure false := by rfl) :
    BG X B env os (.Expr (.Call (.Attribute (.Name x p1) "append" p2) [e] [] p3) pos :: rest) post (bnd w fun y => chk (xs.length < sizeLine) (w2 y)) :=
  PSs.imp (pss_cons (ps_expr (pe_bm PySem.F.plainAttrs_list PySem.F.slot_list_append PySem.F.type_list_append mt_append (pe_var hN hv hd hcd) (pa_cons he pa_nil hs) hbase hfew hline hs hplain) hsw) (PSs.ex hr)) fun D σ H ⟨F, P, S, hw, k⟩ => by
  obtain ⟨g1, g2, vs, g3, g4, g5⟩ := S.own hi hj
  refine ⟨.ref a, g1, .inl ⟨rfl, vs, SqL.of g3⟩, F, _, S, hw, fun y ⟨hc, hy⟩ v F1 H1 S1 e1 ok => ?_⟩
  obtain ⟨_, g2, vs', g3', g4', g5'⟩ := S1.own hi hj
  have hl : vs'.length < sizeLine := by rw [g5'.length]; exact hc
  exact ⟨a, vs', v, rfl, rfl, g3', hl, y, F1, P, S1.change hj ⟨_, rfl, by rw [List.length_append, List.length_singleton]; omega, Paired.app g5' (.cons ok .nil)⟩, hy, k⟩
end
end Mi
namespace Mi
open PySem L2 Evl
theorem Dp.up {K : PySem.W.Frag} {F H : Hp} {v : V} {d : PyData} (e : Ex F H) (h : Dp K F v d) : Dp K H v d := by
  refine (show ∀ {v d}, Dp K F v d → Dp K H v d from ?_) h
  intro v d h
  exact Dp.rec (K := K) (H := F) (motive_1 := fun v d _ => Dp K H v d) (motive_2 := fun vs ds _ => DpAll K H vs ds) .non .bl .int .str (fun h1 _ ih => .lst (ex_l e h1) ih) (fun h1 _ ih => .tup (ex_t e h1) ih) .nil (fun _ _ i1 i2 => .cons i1 i2) h
/-- what stands for x is the datum f x, at most n deep -/
structure DD (K : PySem.W.Frag) {α : Type} (r : Rp α) (f : α → PyData) (n : Nat) : Prop where
  ok : ∀ {F v x}, r.ok F v x → Dp K F v (f x) ∧ (f x).canLay0 = true ∧ (f x).depth ≤ n
section
variable {K : PySem.W.Frag} {α β γ : Type} {r : Rp α} {s : Rp β} {t : Rp γ} {f : α → PyData} {g : β → PyData} {h : γ → PyData} {n m k : Nat}
theorem dd_int : DD K rInt .int 0 := ⟨fun {F v x} e => by
  have e : v = .int x := e
  subst e
  exact ⟨.int x, by simp [PyData.canLay0], by simp [PyData.depth]⟩⟩
theorem dd_str : DD K rStr .str 0 := ⟨fun {F v x} ⟨e, _, h⟩ => by
  subst e
  exact ⟨.str x, by simpa [PyData.canLay0] using h, by simp [PyData.depth]⟩⟩
theorem dd_non : DD K rNon (fun _ => .none) 0 := ⟨fun {F v x} e => by
  have e : v = .non := e
  subst e
  exact ⟨.non, by simp [PyData.canLay0], by simp [PyData.depth]⟩⟩
theorem dd_D : DD K (rD K) id 30 := ⟨fun h => h⟩
theorem dd_all (d : DD K r f n) {F : Hp} : ∀ {vs : List V} {xs : List α}, Paired (r.ok F) vs xs → DpAll K F vs (xs.map f) ∧ PyData.canLayAll0 (xs.map f) = true ∧ PyData.depthAll (xs.map f) ≤ n
  | _, _, .nil => ⟨.nil, by simp [PyData.canLayAll0], by simp [PyData.depthAll]⟩
  | _, _, .cons r t => by
    obtain ⟨h1, h2, h3⟩ := d.ok r
    obtain ⟨k1, k2, k3⟩ := dd_all d t
    refine ⟨.cons h1 k1, ?_, ?_⟩
    · rw [List.map_cons, PyData.canLayAll0, h2, k2]
      rfl
    · rw [List.map_cons, PyData.depthAll]
      omega
theorem dd_lst (d : DD K r f n) : DD K (rLst r) (fun xs => .list (xs.map f)) (n + 1) := ⟨fun {F v x} ⟨a, vs, e, h1, h2, h3⟩ => by
  subst e
  obtain ⟨k1, k2, k3⟩ := dd_all d h3
  exact ⟨.lst (SqL.of h1) k1, by rw [PyData.canLay0]; exact k2, by rw [PyData.depth]; omega⟩⟩
theorem dd_t2 (d : DD K r f n) (e : DD K s g m) : DD K (rT2 K r s) (fun x => .tuple [f x.1, g x.2]) (max n m + 1) := ⟨fun {F v x} ⟨a, v1, v2, e0, h1, h2, h3⟩ => by
  subst e0
  obtain ⟨k1, k2, k3⟩ := d.ok h2
  obtain ⟨l1, l2, l3⟩ := e.ok h3
  refine ⟨.tup h1 (.cons k1 (.cons l1 .nil)), ?_, ?_⟩
  · simp [PyData.canLay0, PyData.canLayAll0, k2, l2]
  · simp only [PyData.depth, PyData.depthAll]
    omega⟩
end
section
variable {X : Cx} {B : Bs} {env : Env} {os : Os} {pos : Pos} {α β γ : Type} {r : Rp α} {s : Rp β} {f : α → PyData} {g : β → PyData} {n m : Nat} {a b : Expr} {w1 : W α} {w2 : α → W β}
theorem sem_eqI : R2T rEq rInt rInt rBool (fun x y => ret (decide (x = y))) := fun F H v u x y P E Q fh o1 o2 hw k => by
  have o1 : v = .int x := o1
  have o2 : u = .int y := o2
  subst o1 o2
  have e : decide (V.int x = V.int y) = decide (x = y) := by
    rw [Bool.eq_iff_iff]
    simp
  exact ⟨rfl, by rw [e]; exact k _ hw _ F H (Grow.refl fh) rfl⟩
theorem sem_neI : R2T rNe rInt rInt rBool (fun x y => ret (!decide (x = y))) := fun F H v u x y P E Q fh o1 o2 hw k => by
  have o1 : v = .int x := o1
  have o2 : u = .int y := o2
  subst o1 o2
  have e : decide (V.int x = V.int y) = decide (x = y) := by
    rw [Bool.eq_iff_iff]
    simp
  exact ⟨rfl, by rw [e]; exact k _ hw _ F H (Grow.refl fh) rfl⟩
theorem sem_eqS : R2T rEq rStr rStr rBool (fun x y => ret (decide (x = y))) := fun F H v u x y P E Q fh ⟨o1, _⟩ ⟨o2, _⟩ hw k => by
  subst o1 o2
  have e : decide (V.str x = V.str y) = decide (x = y) := by
    rw [Bool.eq_iff_iff]
    simp
  exact ⟨rfl, by rw [e]; exact k _ hw _ F H (Grow.refl fh) rfl⟩
theorem e_eqI {w1 : W Int} {w2 : Int → W Int} (ha : EE X B env os a rInt w1) (hb : ∀ x, EE X B env os b rInt (w2 x)) : EE X B env os (.Compare a [.Eq] [b] pos) rBool (bnd w1 fun x => bnd (w2 x) fun y => ret (decide (x = y))) := e_cmp op_eq sem_eqI (nomark _) ha hb
theorem e_eqS {w1 : W Str} {w2 : Str → W Str} (ha : EE X B env os a rStr w1) (hb : ∀ x, EE X B env os b rStr (w2 x)) : EE X B env os (.Compare a [.Eq] [b] pos) rBool (bnd w1 fun x => bnd (w2 x) fun y => ret (decide (x = y))) := e_cmp op_eq sem_eqS (nomark _) ha hb
def rRepr (K : PySem.W.Frag) : List V → Hp → VK → Prop := fun xs H Q => ∃ x d, xs = [x] ∧ Dp K H x d ∧ d.canLay0 = true ∧ d.depth ≤ 64 ∧ d.showable = true ∧ d.shown.length ≤ sizeLine ∧ Q (.str d.shown) H
theorem call_reprD (hu : X.A.units + 100 < cLine) (hg : X.A.guards = some []) : CallR X (.builtin "repr") (rRepr X.K) := by
  intro pins s σ H xs us Q I r h
  obtain ⟨x, d, rfl, hd, hc, hdp, hs, hz, q⟩ := h
  cases r with
  | cons rx rn =>
    cases rn
    rename_i u
    obtain ⟨as, rd⟩ := Dp.reads I d x u hd rx
    have fin : ∀ (h' : Heap) (t tk : Nat), (∀ b o, s.heap.get? b = some o → h'.get? b = some o) → EP X pins σ Q (.str d.shown t) { s with heap := h', toks := tk } := fun h' t tk k => ⟨.str d.shown, H, I.kept k, ⟨t, rfl⟩, q⟩
    cases u with
    | ref a =>
      exact repr_of_reads' rd hs (PyData.noDict_hsm (PyData.hasDict_of_canLay d hc)) hg (by omega) (fun _ _ e => e) (fun h' t tk k => fin h' t tk k) hz
    | int i t =>
      cases rd
      have hs' : i.natAbs.log2 < 1920 := by simpa [PyData.showable] using hs
      exact PySem.P.repr_of_int hs' (fin s.heap _ _ fun _ _ e => e)
    | str y t =>
      cases rd
      exact PySem.P.repr_of_str (fin s.heap _ _ fun _ _ e => e) hz
    | bool b =>
      cases rd
      exact PySem.P.repr_of_bool (fin s.heap _ _ fun _ _ e => e)
    | none =>
      cases rd
      exact PySem.P.repr_of_none (fin s.heap _ _ fun _ _ e => e)
    | _ => cases rd
def reprW (d : PyData) : W Str := chk (d.showable = true ∧ d.shown.length ≤ sizeLine ∧ PyData.strOk d.shown = true) (ret d.shown)
theorem sem_repr {K : PySem.W.Frag} (d : DD K r f n) (hn : n ≤ 64) : C1T (rRepr K) r rStr (fun x => reprW (f x)) := fun F H v x P E Q fh ok ⟨⟨c1, c2, c3⟩, hw⟩ k => by
  obtain ⟨k1, k2, k3⟩ := d.ok ok
  exact ⟨v, f x, rfl, Dp.up fh k1, k2, by omega, c1, c2, k _ hw _ F H (Grow.refl fh) ⟨rfl, c2, c3⟩⟩
theorem e_repr {p : Pos} (hu : X.A.units + 100 < cLine) (hgu : X.A.guards = some []) (d : DD X.K r f n) (ha : EE X B env os a r w1) (hm : X.mg "repr" = none) (hn : n ≤ 64 := by decide) (hg : Gl X "repr" := by rfl) (he : starEach [a] X.env = (false, eval a X.env) :: starEach [] X.env := by rfl) (hpl : (backTo pos (starEach [] X.env)).any (·.1) = false := by rfl) :
    EE X B env os (.Call (.Name "repr" p) [a] [] pos) rStr (bnd w1 fun x => reprW (f x)) := e_callB (call_reprD hu hgu) (sem_repr d hn) ha hm hg (by decide +kernel) (by decide) (by decide) he hpl
end
end Mi
namespace Mi
open PySem L2 Evl
open PyProof.Rows (envOfC)
/-- a def's promise where no repr runs around it -/
structure FnG (P : Program) (w : World) (K : PySem.W.Frag) (mg : Str → Option Value) (base : Heap) (CX : CXT) (k : Nat) (f : Addr) (fd : FuncData) (ps : List Str) (sp : Sp) : Prop where
  lens : ∀ vs H Q E, sp vs H Q E → vs.length = ps.length
  go : ∀ (A : Around) (outer : List PySem.Env) (s : Shared) (H : Hp) (args : Args) (us : List Value) (vs : List V) (Q : VK) (E : XK), A.guards = some [] → Room k A → Env0 P w K mg base A outer s H →
    BindsTo s fd args (ps.zip us) → Vals vs us → sp vs H Q E → codeAny (model P w) A (.call (.ref f) args) (CR CX outer P w H s Q E) s
section
variable {P : Program} {w : World} {K : PySem.W.Frag} {mg : Str → Option Value} {base : Heap} {CX : CXT} {k j : Nat} {f : Addr} {fd : FuncData} {ps N : List Str} {sp sp' : Sp}
theorem FnG.of (F : FnOk P w K mg base CX k f fd ps sp) : FnG P w K mg base CX k f fd ps sp := ⟨F.len, fun A o s H a us vs Q E _ h1 h2 h3 h4 h5 => F.run A o s H a us vs Q E h1 h2 h3 h4 h5⟩
theorem FnG.mono (F : FnG P w K mg base CX j f fd ps sp) (h : j ≤ k) : FnG P w K mg base CX k f fd ps sp := ⟨F.lens, fun A o s H a us vs Q E hg hr => F.go A o s H a us vs Q E hg (hr.mono h)⟩
/-- a def's body keeps the promise; what is raised does not leave it -/
theorem fnG_of {x qual : Str} {st : Stmt} (F : Fun K x qual st f fd) (S : FnScope N ps (defScope st)) (ln : ∀ vs H Q E, sp vs H Q E → vs.length = ps.length)
    (hbody : ∀ (cdv : Value) (A : Around) (outer : List PySem.Env) (s : Shared) (H : Hp) (vs : List V) (Q : VK) (E : XK), Room k (A.deeper (envOfC qual (defScope st) s.heap.objs.size f cdv)) → A.guards = some [] → sp vs H Q E →
      ∃ t, PSs (cxOf CX P w K mg base N qual (defScope st) f cdv A outer s H E).nox (defBody st) t ∧ t { nx := fun _ H' => Q .non H', rt := Q } (L2.start N vs) H) : FnG P w K mg base CX (k + 1) f fd ps sp := by
  obtain ⟨oc, od, kV, doc, pm, an, cdv, ct, osl, rfl, lk, hcd⟩ := F.ex
  refine ⟨ln, fun A outer s H args us vs Q E hgu hr e0 hb r hsp => ?_⟩
  have hl := ln _ _ _ _ hsp
  have hk0 : ∀ b o, base.get? b = some o → s.heap.get? b = some o := fun b o e => (e0.bs b o e).1
  have KX := e0.mod.kin.keeps hk0
  refine codeAny_call_function hr.depth (KX _ _ lk) rfl S.co S.gen rfl (PySem.W.codeRec_of KX hcd) (hb _ _ _ _ ?_)
  refine wpAny_newFunctionEnv_cells S.kind (fun ⟨n, v⟩ hy => ?_) fun env he s1 x => ?_
  · rcases S.par n (List.of_mem_zip hy).1 with q | q
    · exact .inl q
    · exact .inr ⟨q, PySem.W.cellsFrom_some _ _ _ (.inl q)⟩
  subst he
  refine ⟨(e0.mod.nolimit.keeps hk0).keeps x.toInCall.keep, codeAny_func ?_⟩
  obtain ⟨t, ht, hq⟩ := hbody cdv A outer s H vs Q E (hr.deeper _) hgu hsp
  have I := inv_start (CX := CX) (E := E) S hr.hd e0 hl r x
  refine wpAny_mono (ht.nox.run [] s1 (L2.start N vs) H _ I hq) (fun fl s' hs => ?_) fun e s' hs => hs
  cases fl with
  | ret u =>
    obtain ⟨v, σ', H', J, rv, q⟩ := hs
    exact ⟨v, H', J.os, J.bare, J.base, J.hok, rv, q⟩
  | next =>
    obtain ⟨σ', H', J, q⟩ := hs
    exact ⟨.non, H', J.os, J.bare, J.base, J.hok, rfl, q⟩
  | brk =>
    obtain ⟨_, _, _, q⟩ := hs
    exact False.elim q
  | cont =>
    obtain ⟨_, _, _, q⟩ := hs
    exact False.elim q
end
/-- the base at a def's entry -/
abbrev bs0 (F H : Hp) (os : Os) : Bs := { F := F, H := H, M := F, io := os.map (·.1), E0 := fun _ => False }
/-- by the mirror w: the arguments by slots, the objects handed in to be changed -/
def spW {ι ρ : Type} (args : ι → Env) (os : ι → Os) (w : ι → W ρ) (ro : Rp ρ) : Sp := fun vs H Q _ => ∃ (i : ι) (F : Hp) (P : ρ → Prop), Ex F H ∧ EnvOk F (args i) (vs.map some) ∧ (∀ p ∈ os i, F p.1 = none ∧ ∃ o, H p.1 = some o ∧ p.2.ok F o) ∧ ((os i).map (·.1)).Nodup ∧
  w i P (fun _ => False) ∧ ∀ x, P x → ∀ v F' H', Fn (bs0 F H (os i)) F' H' → OsOk (bs0 F H (os i)) F' H' (os i) → ro.ok F' v x → Q v H'
/-- a body's end -/
def pFn (B : Bs) (osR : Os) {ρ : Type} (ro : Rp ρ) : Post ρ := fun D x => (∀ v F H, Fn B F H → OsOk B F H osR → ro.ok F v x → D.rt v H) ∧ ∀ σ F H, Fn B F H → OsOk B F H osR → ro.ok F .non x → D.nx σ H
theorem RtOk.fn {B : Bs} {osR : Os} {ρ : Type} {ro : Rp ρ} : RtOk B (pFn B osR ro) osR ro (fun x => x) := ⟨fun _ _ h => h.1⟩
theorem NxOk.fn {B : Bs} {osR : Os} {env : Env} {os : Os} (ho : OsW os osR) : NxOk B (pFn B osR rNon) env os () := ⟨fun D q σ F H z => q.2 σ F H z.fin (ho.ok z) rfl⟩
theorem bs0_start {F H : Hp} {os : Os} (fh : Ex F H) (h : ∀ p ∈ os, F p.1 = none ∧ ∃ o, H p.1 = some o ∧ p.2.ok F o) : Fn (bs0 F H os) F H :=
  ⟨fh, Ex.refl F, Ex.refl F, fh, fun a ha => by
    obtain ⟨p, hp, e⟩ := List.mem_map.mp ha
    obtain ⟨_, o, ho, _⟩ := h p hp
    exact ⟨o, by rw [← e]; exact ho⟩, fun a o h1 h2 _ => ⟨h2, h1⟩⟩
/-- the slots at the entry -/
def entry (a : Env) (n : Nat) : Env := a ++ List.replicate n sa
theorem entry_ok {F : Hp} {a : Env} {vs : List V} {N : List Str} (h : EnvOk F a (vs.map some)) : EnvOk F (entry a (N.length - vs.length)) (L2.start N vs) := by
  unfold entry L2.start
  refine Paired.app h ?_
  induction N.length - vs.length with
  | zero => exact .nil
  | succ n ih =>
    rw [List.replicate_succ, List.replicate_succ]
    exact .cons trivial ih
section
variable {P : Program} {w : World} {K : PySem.W.Frag} {mg : Str → Option Value} {base : Heap} {k : Nat} {f : Addr} {fd : FuncData} {ps N : List Str} {ι ρ : Type} {args : ι → Env} {os : ι → Os} {wf : ι → W ρ} {ro : Rp ρ}
theorem spW_len (hl : ∀ i, (args i).length = ps.length) : ∀ vs H Q E, spW args os wf ro vs H Q E → vs.length = ps.length := fun vs H Q E ⟨i, F, P, _, he, _⟩ => by
  have := he.len
  rw [List.length_map, hl i] at this
  exact this.symm
theorem fnW {x qual : Str} {st : Stmt} (F : Fun K x qual st f fd) (S : FnScope N ps (defScope st)) (hl : ∀ i, (args i).length = ps.length)
    (body : ∀ (cdv : Value) (A : Around) (outer : List PySem.Env) (s : Shared) (H : Hp) (E : XK) (B : Bs) (i : ι), Room k (A.deeper (envOfC qual (defScope st) s.heap.objs.size f cdv)) → A.guards = some [] →
      BG (cxOf CX0 P w K mg base N qual (defScope st) f cdv A outer s H E).nox B (entry (args i) (N.length - ps.length)) (os i) (defBody st) (pFn B (os i) ro) (wf i)) : FnG P w K mg base CX0 (k + 1) f fd ps (spW args os wf ro) := by
  refine fnG_of F S (spW_len hl) fun cdv A outer s H vs Q E hr hgu hsp => ?_
  have hvl := spW_len hl vs H Q E hsp
  obtain ⟨i, F0, P0, fh, he, ho, nd, hw, hk⟩ := hsp
  refine ⟨_, body cdv A outer s H E (bs0 F0 H (os i)) i hr hgu, F0, P0, ⟨bs0_start fh ho, ?_, fun p hp => ?_, nd⟩, hw, fun y hy => ⟨fun v F' H' fn ow ok => hk y hy v F' H' fn ow ok, fun σ F' H' fn ow ok => hk y hy .non F' H' fn ow ok⟩⟩
  · rw [← hvl]
    exact entry_ok he
  · obtain ⟨h1, o, h2, h3⟩ := ho p hp
    exact ⟨h1, ⟨o, h2, h3⟩, .inr (List.mem_map_of_mem hp)⟩
/-- where the def needs no «no repr around»: the library's own promise -/
theorem okW {x qual : Str} {st : Stmt} (F : Fun K x qual st f fd) (S : FnScope N ps (defScope st)) (hl : ∀ i, (args i).length = ps.length)
    (body : ∀ (cdv : Value) (A : Around) (outer : List PySem.Env) (s : Shared) (H : Hp) (E : XK) (B : Bs) (i : ι), Room k (A.deeper (envOfC qual (defScope st) s.heap.objs.size f cdv)) →
      BG (cxOf CX0 P w K mg base N qual (defScope st) f cdv A outer s H E).nox B (entry (args i) (N.length - ps.length)) (os i) (defBody st) (pFn B (os i) ro) (wf i)) : FnOk P w K mg base CX0 (k + 1) f fd ps (spW args os wf ro) := by
  refine F.ok S (spW_len hl) fun cdv A outer s H vs Q E hr hsp => ?_
  have hvl := spW_len hl vs H Q E hsp
  obtain ⟨i, F0, P0, fh, he, ho, nd, hw, hk⟩ := hsp
  refine ⟨_, body cdv A outer s H E (bs0 F0 H (os i)) i hr, F0, P0, ⟨bs0_start fh ho, ?_, fun p hp => ?_, nd⟩, hw, fun y hy => ⟨fun v F' H' fn ow ok => hk y hy v F' H' fn ow ok, fun σ F' H' fn ow ok => hk y hy .non F' H' fn ow ok⟩⟩
  · rw [← hvl]
    exact entry_ok he
  · obtain ⟨h1, o, h2, h3⟩ := ho p hp
    exact ⟨h1, ⟨o, h2, h3⟩, .inr (List.mem_map_of_mem hp)⟩
end
def tAA (B : Bs) (env : Env) (os : Os) {ι : Type} (sl : ι → Env) (w : W ι) : TA := fun σ H Q => ∃ F P, Sit B F H σ env os ∧ w P B.E0 ∧ ∀ i, P i → ∀ vs F' H', Sit B F' H' σ env os → Ex F F' → EnvOk F' (sl i) (vs.map some) → Q vs H'
def AA (X : Cx) (B : Bs) (env : Env) (os : Os) (es : List Expr) {ι : Type} (sl : ι → Env) (w : W ι) : Prop := PA X es (tAA B env os sl w)
section
variable {X : Cx} {B : Bs} {env : Env} {os : Os} {pos p : Pos} {α β ι κ ρ : Type} {r : Rp α} {sl : ι → Env} {args : ι → Env} {osf : ι → Os} {wf : ι → W ρ} {ro : Rp ρ} {e : Expr} {es : List Expr} {x : Str} {k : Nat} {f : Addr} {fd : FuncData} {ps : List Str}
theorem aa_nil : AA X B env os [] (fun _ : Unit => []) (ret ()) := PA.imp pa_nil fun σ H Q ⟨F, P, S, hw, k⟩ => k () hw [] F H S (Ex.refl F) .nil
theorem aa_cons {w1 : W α} {w2 : α → W ι} (h : EE X B env os e r w1) (ht : ∀ y, AA X B env os es sl (w2 y)) (hs : starEach (e :: es) X.env = (false, eval e X.env) :: starEach es X.env := by rfl) :
    AA X B env os (e :: es) (fun q : α × ι => sv r q.1 :: sl q.2) (bnd w1 fun y => bnd (w2 y) fun i => ret (y, i)) :=
  PA.imp (pa_cons h (PA.ex ht) hs) fun σ H Q ⟨F, P, S, hw, k⟩ => ⟨F, _, S, hw, fun y hy v F1 H1 S1 e1 ok1 => ⟨y, F1, _, S1, hy, fun i hi vs F2 H2 S2 e2 ok2 => k _ hi (v :: vs) F2 H2 S2 (e1.trans e2) (.cons ⟨v, rfl, r.mono e2 ok1⟩ ok2)⟩⟩
/-- behind a call: the state of the caller -/
theorem Sit.back {F F' H H' : Hp} {σ : L2.St} {osf : Os} (S : Sit B F H σ env os) (ho : OsLe os osf) (fn : Fn (bs0 F H osf) F' H') (ow : OsOk (bs0 F H osf) F' H' osf) : Sit B F' H' σ env os := by
  have e : Ex F F' := fn.bf
  have apart : ∀ a, (∀ p ∈ osf, p.1 ≠ a) → a ∉ osf.map (·.1) := fun a h hm => by
    obtain ⟨p, hp, ep⟩ := List.mem_map.mp hm
    exact h p hp ep
  refine ⟨⟨fn.fh, S.fin.bf.trans e, S.fin.mrk.trans e, S.fin.bb, fun a ha => ?_, fun a o h1 h2 h3 => ?_⟩, S.env.mono e, fun p hp => ?_, S.nd⟩
  · obtain ⟨o, hoa⟩ := S.fin.ios a ha
    by_cases hm : a ∈ osf.map (·.1)
    · exact fn.ios a hm
    · cases ef : F a with
      | none => exact ⟨o, (fn.keep a o ef hoa hm).1⟩
      | some u => exact ⟨u, fn.fh a u (e a u ef)⟩
  · obtain ⟨k1, k2⟩ := S.fin.keep a o h1 h2 h3
    refine fn.keep a o k2 k1 (apart a fun p hp ep => ?_)
    rcases (S.ow p (ho p hp)).2.2 with q | q
    · rw [ep, h2] at q
      cases q
    · exact h3 (ep ▸ q)
  · obtain ⟨h1, ⟨o, h2, h3⟩, h4⟩ := S.ow p hp
    by_cases hm : p.1 ∈ osf.map (·.1)
    · obtain ⟨q, hq, eq⟩ := List.mem_map.mp hm
      have same : q = p := by
        obtain ⟨i, hi⟩ := List.mem_iff_getElem?.mp (ho q hq)
        obtain ⟨j, hj⟩ := List.mem_iff_getElem?.mp hp
        have a1 : (os.map (·.1))[i]? = some p.1 := by rw [List.getElem?_map, hi, ← eq]; rfl
        have a2 : (os.map (·.1))[j]? = some p.1 := by rw [List.getElem?_map, hj]; rfl
        have ij := nd_ix S.nd a1 a2
        subst ij
        rw [hi] at hj
        exact Option.some.inj hj
      subst same
      obtain ⟨z1, z2, _⟩ := ow q hq
      exact ⟨z1, z2, h4⟩
    · obtain ⟨z1, z2⟩ := fn.keep p.1 o h1 h2 hm
      exact ⟨z2, ⟨o, z1, p.2.mono e h3⟩, h4⟩
theorem call_back {w : W ι} {σ : L2.St} {H : Hp} {Q : VK} (ho : ∀ i, OsLe os (osf i)) (hnd : ∀ i, ((osf i).map (·.1)).Nodup) (h : tOf B env os ro (bnd w fun i => noX (wf i)) σ H Q) : tAA B env os args w σ H fun vs H1 => spW args osf wf ro vs H1 Q E0 := by
  obtain ⟨F, P, S, hw, k⟩ := h
  refine ⟨F, _, S, hw, fun i hi vs F1 H1 S1 e1 ok => ⟨i, F1, P, S1.fh, ok, fun p hp => ?_, hnd i, hi, fun y hy v F2 H2 fn ow okv => ?_⟩⟩
  · obtain ⟨h1, h2, _⟩ := S1.ow p (ho i p hp)
    exact ⟨h1, h2⟩
  · exact k y hy v F2 H2 (S1.back (ho i) fn ow) (e1.trans fn.bf) okv
theorem run_fnG {pins : List (Addr × Obj)} {σ : St} {H : Hp} {s : Shared} {Q : VK} {us : List Value} {vs : List V} {sp : Sp} (F : FnG X.prog X.w X.K X.mg X.base CX0 k f fd ps sp) (hgu : X.A.guards = some []) (hr : Room k X.A) (hb : Binds X.K fd ps [])
    (I : Inv X pins σ H s) (r : Vals vs us) (h : sp vs H Q E0) : wpAny (model X.prog X.w) X.A (call (.ref f) us) (EP X pins σ Q) X.xe s := by
  have hl : us.length = ps.length := by rw [← r.length]; exact F.lens _ _ _ _ h
  have b := hb s us I.kIn (by rw [List.append_nil]; exact hl)
  rw [List.append_nil] at b
  refine wpAny_call (codeAny_mono (F.go X.A X.stack s H ⟨us, []⟩ us vs Q E0 hgu hr I.env0 b r h) fun res s' hq => ?_)
  cases res with
  | error e => exact False.elim hq
  | ok fl =>
    cases fl with
    | ret u => exact I.after hq
    | next => exact False.elim hq
    | brk => exact False.elim hq
    | cont => exact False.elim hq
/-- f(e, ..), f a def by its mirror -/
theorem e_callG {w : W ι} (G : FnG X.prog X.w X.K X.mg X.base CX0 k f fd ps (spW args osf wf ro)) (hgu : X.A.guards = some []) (hr : Room k X.A) (hm : X.mg x = some (.ref f)) (hk : PySem.W.keepIn X.K (.ref f) = true) (hb : Binds X.K fd ps [])
    (ha : AA X B env os (e :: es) args w) (ho : ∀ i, OsLe os (osf i)) (hnd : ∀ i, ((osf i).map (·.1)).Nodup) (hg : Gl X x := by rfl) (hdb : (x == ("__debug__" : Str)) = false := by decide)
    (he : starEach (e :: es) X.env = (false, eval e X.env) :: starEach es X.env := by rfl) (hpl : (backTo pos (starEach es X.env)).any (·.1) = false := by rfl) :
    EE X B env os (.Call (.Name x p) (e :: es) [] pos) ro (bnd w fun i => noX (wf i)) := by
  refine ⟨fun pins s σ H Q I h => ?_⟩
  refine wpAny_Call_Name_kw (ld_glob I hg hm ?_ hdb)
  refine PySem.W.callWith_K (h₀ := X.base) I.ok.mod.kin hk (thn (ha.run pos pins s σ H _ I (call_back ho hnd h)) fun us s1 ⟨vs, H1, I1, r, q⟩ => ⟨I1.kIn, ?_⟩) he hpl
  exact run_fnG G hgu hr hb I1 r q
theorem e_call {w : W ι} (G : FnOk X.prog X.w X.K X.mg X.base CX0 k f fd ps (spW args osf wf ro)) (hr : Room k X.A) (hm : X.mg x = some (.ref f)) (hk : PySem.W.keepIn X.K (.ref f) = true) (hb : Binds X.K fd ps [])
    (ha : AA X B env os (e :: es) args w) (ho : ∀ i, OsLe os (osf i)) (hnd : ∀ i, ((osf i).map (·.1)).Nodup) (hg : Gl X x := by rfl) (hdb : (x == ("__debug__" : Str)) = false := by decide)
    (he : starEach (e :: es) X.env = (false, eval e X.env) :: starEach es X.env := by rfl) (hpl : (backTo pos (starEach es X.env)).any (·.1) = false := by rfl) :
    EE X B env os (.Call (.Name x p) (e :: es) [] pos) ro (bnd w fun i => noX (wf i)) :=
  PE.imp (pe_call G hr hg hm hk hb .nil pass0 ha hdb he hpl) fun σ H Q h => by
    have q := call_back (args := args) ho hnd h
    obtain ⟨F, P, S, hw, k⟩ := q
    refine ⟨F, P, S, hw, fun i hi vs F' H' S' e' ok => ?_⟩
    show spW args osf wf ro (vs ++ []) H' Q E0
    rw [List.append_nil]
    exact k i hi vs F' H' S' e' ok
end
end Mi
namespace Mi
open PySem L2 Evl
open PyProof.Rows (envOfC IntsAre AllBare)
end Mi
namespace Mi
open PySem L2 Evl
def oHet (ss : List Slot) : Own := ⟨fun F o => ∃ vs : List V, o = .lst vs ∧ Paired (fun (s : Slot) (v : V) => s.ok F (some v)) ss vs, fun e ⟨vs, h1, h2⟩ => ⟨vs, h1, Paired.imp (fun s _ => s.mono e) h2⟩⟩
section
variable {X : Cx} {B : Bs} {env : Env} {os : Os} {pos : Pos} {α β : Type} {r : Rp α} {e : Expr} {rest : List Stmt} {post : Post β}
theorem Sit.het {F H : Hp} {σ : L2.St} {i j : Nat} {a : Addr} {ss : List Slot} (S : Sit B F H σ env os) (hi : env[i]? = some (sv (rAdr a) ())) (hj : os[j]? = some (a, oHet ss)) : σ[i]? = some (some (.ref a)) ∧ F a = none ∧ ∃ vs, H a = some (.lst vs) ∧ Paired (fun (s : Slot) (v : V) => s.ok F (some v)) ss vs := by
  obtain ⟨ov, g1, v, g2, g3⟩ := S.env.get hi
  have g3' : v = .ref a := g3
  subst g2 g3'
  obtain ⟨z1, ⟨o, z2, vs, z3, z5⟩, _⟩ := S.ow _ (List.mem_of_getElem? hj)
  subst z3
  exact ⟨g1, z1, vs, z2, z5⟩
theorem atI_nat' {α : Type} {xs : List α} {n : Nat} {x : α} {c : Int} (hc : c = (n : Int)) (h : xs[n]? = some x) : atI xs c = some x := by
  rw [hc]
  exact atI_nat h
theorem e_hidx (i j n : Nat) {x : Str} {p2 p3 : Pos} {c : Int} {q} {a : Addr} {ss : List Slot} {y : α} (hi : env[i]? = some (sv (rAdr a) ())) (hj : os[j]? = some (a, oHet ss)) (hn : ss[n]? = some (sv r y)) (hc : c = (n : Int) := by rfl) (hN : X.N[i]? = some x := by rfl)
    (hv : Vis X.env.scope x := by first | exact Or.inl rfl | exact Or.inr (Or.inl rfl) | exact Or.inr (Or.inr rfl)) (hd : (x == ("__debug__" : Str)) = false := by decide) (hcd : (x == ("__classdict__" : Str)) = false := by decide) (hs : PlainIx (.Constant (.int c) q p3) := by exact fun _ _ => rfl) :
    EE X B env os (.Subscript (.Name x p2) (.Constant (.int c) q p3) pos) r (ret y) :=
  PE.imp (pe_ix ix_list (pe_var hN hv hd hcd) pe_int hs) fun σ H Q ⟨F, P, S, hw, k⟩ => by
  obtain ⟨g1, g2, vs, g3, g5⟩ := S.het hi hj
  obtain ⟨v, hv, w, ew, okw⟩ := Paired.get' g5 hn
  cases ew
  exact ⟨.ref a, g1, a, vs, c, v, rfl, rfl, SqL.of g3, atI_nat' hc hv, k y hw v F H S (Ex.refl F) okw⟩
theorem b_hput (i j n : Nat) {x : Str} {p1 p2 p3 : Pos} {c : Int} {q} {a : Addr} {ss : List Slot} {w : W α} {w2 : α → W β} (hi : env[i]? = some (sv (rAdr a) ())) (hj : os[j]? = some (a, oHet ss)) (hn : n < ss.length) (he : EE X B env os e r w)
    (hr : ∀ y, BG X B env (os.set j (a, oHet (ss.set n (sv r y)))) rest post (w2 y)) (hc : c = (n : Int) := by rfl) (hN : X.N[i]? = some x := by rfl)
    (hv : Vis X.env.scope x := by first | exact Or.inl rfl | exact Or.inr (Or.inl rfl) | exact Or.inr (Or.inr rfl)) (hd : (x == ("__debug__" : Str)) = false := by decide) (hcd : (x == ("__classdict__" : Str)) = false := by decide)
    (ha : ∀ v, assign (.Subscript (.Name x p1) (.Constant (.int c) q p3) p2) X.env v = (do
      let ov ← holding [v] (eval (.Name x p1) X.env)
      let iv ← holding [v, ov] (eval (.Constant (.int c) q p3) X.env)
      standAt p2
      holding [v, ov, iv] (setItem ov iv v)
      release [v, ov, iv] []) := by intro _; rfl)
    (hs : swapsWithSole [.Subscript (.Name x p1) (.Constant (.int c) q p3) p2] e pos.line X.env = pure false := by rfl) (hw : swappedStores [.Subscript (.Name x p1) (.Constant (.int c) q p3) p2] e X.env = pure none := by rfl)
    (h1 : (assignEach [.Subscript (.Name x p1) (.Constant (.int c) q p3) p2] X.env).map (·.2) = [assign (.Subscript (.Name x p1) (.Constant (.int c) q p3) p2) X.env] := by rfl) :
    BG X B env os (.Assign [.Subscript (.Name x p1) (.Constant (.int c) q p3) p2] e pos :: rest) post (bnd w w2) :=
  PSs.imp (pss_cons (ps_asg he (pg_sub (pe_var hN hv hd hcd) pe_int set_list ha) hs hw h1) (PSs.ex hr)) fun D σ H ⟨F, P, S, hw, k⟩ => ⟨F, _, S, hw, fun y hy v F1 H1 S1 e1 ok => by
  obtain ⟨g1, g2, vs, g3, g5⟩ := S1.het hi hj
  have hlt : n < vs.length := by rw [← Paired.length g5]; exact hn
  have hix : ixN vs.length c = some n := by
    unfold ixN
    rw [hc, if_pos (by omega), if_pos (by omega)]
    simp
  exact ⟨.ref a, g1, a, vs, c, n, rfl, rfl, g3, hix, y, F1, P, S1.change hj ⟨_, rfl, Paired.setR (R := fun (s : Slot) (v : V) => s.ok F1 (some v)) (x := sv r y) (y := v) ⟨v, rfl, ok⟩ g5⟩, hy, k⟩⟩
/-- an own object is seen in more detail -/
theorem b_open {ι : Type} (j : Nat) {a : Addr} {o : Own} {oi : ι → Own} {w : W β} (hj : os[j]? = some (a, o)) (hop : ∀ F h, o.ok F h → ∃ i, (oi i).ok F h) (hr : ∀ i, BG X B env (os.set j (a, oi i)) rest post w) : BG X B env os rest post w :=
  PSs.imp (PSs.ex hr) fun D σ H ⟨F, P, S, hw, k⟩ => by
  obtain ⟨z1, ⟨h, z2, z3⟩, z4⟩ := S.ow _ (List.mem_of_getElem? hj)
  obtain ⟨i, hi⟩ := hop F h z3
  have S2 := S.change (ow' := oi i) (o' := h) hj hi
  have e : upd H a h = H := by
    funext b
    by_cases hb : b = a
    · subst hb
      rw [upd_same]
      exact z2.symm
    · rw [upd_ne hb]
  rw [e] at S2
  exact ⟨i, F, P, S2, hw, k⟩
end
abbrev bagS (cells : List Int) (n : Nat) (d m k : Int) : List Slot := [sv (rLst rInt) cells, sv rInt (n : Int), sv rInt d, sv rInt m, sv rInt k]
def oBag (cells : List Int) : Own := ⟨fun F o => ∃ p : Nat × Int × Int × Int, (oHet (bagS cells p.1 p.2.1 p.2.2.1 p.2.2.2)).ok F o, fun e ⟨p, h⟩ => ⟨p, (oHet _).mono e h⟩⟩
/-- any number below most -/
def drawW (most : Int) : W Int := fun P _ => 0 < most ∧ most.natAbs.log2 < 9000 ∧ ∀ r, 0 ≤ r → r < most → P r
def anyW {α : Type} (xs : List α) : W α := bnd (noX (drawW (xs.length : Int))) fun i => idx xs i
/-- the script, as it was handed in -/
def rScr (K : PySem.W.Frag) : Rp (List Int) := ⟨fun F v xs => ∃ a, v = .ref a ∧ SqL K F a (xs.map V.int) ∧ xs.length ≤ sizeLine, fun e ⟨a, h1, h2, h3⟩ => ⟨a, h1, ex_l e h2, h3⟩⟩
end Mi
namespace Mi
open PySem L2 Evl
section
variable {X : Cx} {B : Bs} {env : Env} {os : Os} {pos : Pos} {α β γ δ : Type} {r : Rp α} {s : Rp γ} {t : Rp δ} {e a b c : Expr} {rest : List Stmt} {post : Post β} {i j l : Nat} {x y z : Str} {px py pz pt pt2 : Pos} {kt k2 : Nat}
variable {w1 : W α} {w2 : α → W γ} {w3 : α → γ → W δ} {w4 : α → γ → W β} {w5 : α → γ → δ → W β}
abbrev tA2 (B : Bs) (env : Env) (os : Os) (r : Rp α) (s : Rp γ) (w1 : W α) (w2 : α → W γ) : TA := tCons (tOf B env os r w1) (tCons (fun σ H Q => ∃ x, tOf B env os s (w2 x) σ H Q) tNil)
theorem pa2 (ha : EE X B env os a r w1) (hb : ∀ x, EE X B env os b s (w2 x)) (hs : starEach [a, b] X.env = (false, eval a X.env) :: starEach [b] X.env := by rfl) (hs2 : starEach [b] X.env = (false, eval b X.env) :: starEach [] X.env := by rfl) : PA X [a, b] (tA2 B env os r s w1 w2) :=
  pa_cons ha (pa_cons (PE.ex hb) pa_nil hs2) hs
/-- a, b = e1, e2, by the statement's rule -/
theorem b_par2 (cc : PS X (.Assign [.Tuple [.Name x px, .Name y py] kt pt] (.Tuple [a, b] k2 pt2) pos) (tPar i j (tA2 B env os r s w1 w2))) (hr : ∀ u v, BG X B ((env.set i (sv r u)).set j (sv s v)) os rest post (w4 u v)) :
    BG X B env os (.Assign [.Tuple [.Name x px, .Name y py] kt pt] (.Tuple [a, b] k2 pt2) pos :: rest) post (bnd w1 fun u => bnd (w2 u) fun v => w4 u v) :=
  PSs.imp (pss_cons cc (PSs.ex fun p : α × γ => hr p.1 p.2)) fun D σ H ⟨F, P, S, hw, k⟩ => ⟨F, _, S, hw, fun u hu v1 F1 H1 S1 e1 ok1 => ⟨u, F1, _, S1, hu, fun v hv v2 F2 H2 S2 e2 ok2 =>
    ⟨v1, v2, rfl, (u, v), F2, P, (S2.store (sl := sv r u) ⟨v1, rfl, r.mono e2 ok1⟩).store (sl := sv s v) ⟨v2, rfl, ok2⟩, hv, k⟩⟩⟩
theorem b_par2T (cc : PS X (.Assign [.Tuple [.Name x px, .Name y py] kt pt] (.Tuple [a, b] k2 pt2) pos) (tAsg (tTup (tA2 B env os r s w1 w2)) (gTup X.K 2 (gCons (gName i) (gCons (gName j) gNil))))) (hr : ∀ u v, BG X B ((env.set i (sv r u)).set j (sv s v)) os rest post (w4 u v)) :
    BG X B env os (.Assign [.Tuple [.Name x px, .Name y py] kt pt] (.Tuple [a, b] k2 pt2) pos :: rest) post (bnd w1 fun u => bnd (w2 u) fun v => w4 u v) :=
  PSs.imp (pss_cons cc (PSs.ex fun p : α × γ => hr p.1 p.2)) fun D σ H ⟨F, P, S, hw, k⟩ => ⟨F, _, S, hw, fun u hu v1 F1 H1 S1 e1 ok1 => ⟨u, F1, _, S1, hu, fun v hv v2 F2 H2 S2 e2 ok2 =>
    ⟨(by show 2 ≤ sizeLine; decide), fun p hp => by
      have g : Grow F2 H2 (upd F2 p (.tup [v1, v2])) (upd H2 p (.tup [v1, v2])) := Grow.alloc S2.fh hp
      have S3 := S2.grow g
      exact ⟨p, [v1, v2], rfl, SqT.of upd_same, rfl, v1, [v2], rfl, v2, [], rfl, rfl, (u, v), _, P, (S3.store (sl := sv r u) ⟨v1, rfl, r.mono (e2.trans g.f) ok1⟩).store (sl := sv s v) ⟨v2, rfl, s.mono g.f ok2⟩, hv, k⟩⟩⟩⟩
end
end Mi
namespace Mi
open PySem L2 Evl
section
variable {X : Cx} {B : Bs} {env : Env} {os : Os} {pos p : Pos} {α β ι κ ρ : Type} {r : Rp α} {sl : κ → Env} {args : ι → Env} {osf : ι → Os} {wf : ι → W ρ} {ro : Rp ρ} {e : Expr} {kws : List Keyword} {x : Str} {k : Nat} {f : Addr} {fd : FuncData} {ps ks : List Str} {g : {α : Type} → List α → List α}
theorem PK.imp {t t' : TA} (h : PK X kws t) (i : ∀ σ H Q, t' σ H Q → t σ H Q) : PK X kws t' := ⟨fun pos pins s σ H Q I q => h.run pos pins s σ H Q I (i _ _ _ q)⟩
theorem PK.ex {ι : Type} {t : ι → TA} (h : ∀ i, PK X kws (t i)) : PK X kws (fun σ H Q => ∃ i, t i σ H Q) := ⟨fun pos pins s σ H Q I ⟨i, q⟩ => (h i).run pos pins s σ H Q I q⟩
end
theorem OsLe.mem {os : Os} {p : Addr × Own} (h : p ∈ os) : OsLe os [p] := fun q hq => by
  rcases List.mem_cons.mp hq with e | e
  · exact e ▸ h
  · cases e
theorem OsLe.none {os : Os} : OsLe os [] := fun q hq => by cases hq
/-- behind a loop that may be left by return -/
def flEnd {S ρ β : Type} (inj : ρ → β) (k : S → W β) : Fl S ρ → W β
  | .rt x => ret (inj x)
  | .nx s => k s
  | .bk _ => fail
  | .ct _ => fail
@[simp] theorem flEnd_rt {S ρ β : Type} (inj : ρ → β) (k : S → W β) (x : ρ) : flEnd inj k (.rt x) = ret (inj x) := rfl
@[simp] theorem flEnd_nx {S ρ β : Type} (inj : ρ → β) (k : S → W β) (s : S) : flEnd inj k (.nx s) = k s := rfl
end Mi
namespace Mi
open PySem L2 Evl
section
variable {X : Cx} {B : Bs} {env : Env} {os : Os} {pos : Pos} {α β γ ρ S : Type} {r : Rp α} {s : Rp β} {f : α → PyData} {g : β → PyData} {n m : Nat} {e a b tg : Expr}
theorem t_conv {w w' : W Bool} (h : ET X B env os e w) (q : w' = w) : ET X B env os e w' := q ▸ h
theorem n_conv {w w' : W (List α)} (h : EN X B env os e r w) (q : w' = w) : EN X B env os e r w' := q ▸ h
theorem s_conv {w w' : W (List α)} (h : ES X B env os tg e r w) (q : w' = w) : ES X B env os tg e r w' := q ▸ h
theorem wn_br {α β : Type} (x : α) (f : α → W β) : bnd (ret x) f = f x := funext fun _ => rfl
theorem wn_rb {α : Type} (m : W α) : bnd m ret = m := funext fun _ => rfl
theorem wn_bb {α β γ : Type} (m : W α) (f : α → W β) (g : β → W γ) : bnd (bnd m f) g = bnd m fun x => bnd (f x) g := funext fun _ => rfl
section
variable {w1 : W Int} {w2 : Int → W Int}
theorem t_lt (ha : EE X B env os a rInt w1) (hb : ∀ x, EE X B env os b rInt (w2 x)) : ET X B env os (.Compare a [.Lt] [b] pos) (bnd w1 fun x => bnd (w2 x) fun y => ret (decide (x < y))) := t_cmp op_lt (r2i fun _ _ _ => rfl) (nomark _) ha hb
theorem t_gt (ha : EE X B env os a rInt w1) (hb : ∀ x, EE X B env os b rInt (w2 x)) : ET X B env os (.Compare a [.Gt] [b] pos) (bnd w1 fun x => bnd (w2 x) fun y => ret (decide (y < x))) := t_cmp op_gt (r2i fun _ _ _ => rfl) (nomark _) ha hb
theorem t_ge (ha : EE X B env os a rInt w1) (hb : ∀ x, EE X B env os b rInt (w2 x)) : ET X B env os (.Compare a [.GtE] [b] pos) (bnd w1 fun x => bnd (w2 x) fun y => ret (decide (y ≤ x))) := t_cmp op_ge (r2i fun _ _ _ => rfl) (nomark _) ha hb
theorem t_eqI (ha : EE X B env os a rInt w1) (hb : ∀ x, EE X B env os b rInt (w2 x)) : ET X B env os (.Compare a [.Eq] [b] pos) (bnd w1 fun x => bnd (w2 x) fun y => ret (decide (x = y))) := t_cmp op_eq sem_eqI (nomark _) ha hb
theorem t_neI (ha : EE X B env os a rInt w1) (hb : ∀ x, EE X B env os b rInt (w2 x)) : ET X B env os (.Compare a [.NotEq] [b] pos) (bnd w1 fun x => bnd (w2 x) fun y => ret (!decide (x = y))) := t_cmp op_ne sem_neI (nomark _) ha hb
end
theorem t_eqS {w1 : W Str} {w2 : Str → W Str} (ha : EE X B env os a rStr w1) (hb : ∀ x, EE X B env os b rStr (w2 x)) : ET X B env os (.Compare a [.Eq] [b] pos) (bnd w1 fun x => bnd (w2 x) fun y => ret (decide (x = y))) := t_cmp op_eq sem_eqS (nomark _) ha hb
theorem strOk_app {x y : Str} (h1 : PyData.strOk x = true) (h2 : PyData.strOk y = true) : PyData.strOk (x ++ y) = true := by
  unfold PyData.strOk at *
  show (x.cps ++ y.cps).all _ = true
  rw [Array.all_append, h1, h2]
  rfl
theorem Sit.sub {F H : Hp} {σ : L2.St} {os' : Os} (s : Sit B F H σ env os) (h : os'.Sublist os) : Sit B F H σ env os' := ⟨s.fin, s.env, fun p hp => s.ow p (h.subset hp), s.nd.sublist (h.map _)⟩
theorem NxOk.nxS {envS : S → Env} {osS : S → Os} {s : S} (h : EnvLe env (envS s)) (ho : (osS s).Sublist os) : NxOk B (pNx B envS osS) env os s := ⟨fun D q σ F H z => q σ F H ((z.le h).sub ho)⟩
theorem NxOk.flS {osR : Os} {ro : Rp ρ} {envS : S → Env} {osS : S → Os} {s : S} (h : EnvLe env (envS s)) (ho : (osS s).Sublist os) : NxOk B (pFl B osR ro envS osS) env os (.nx s) := ⟨fun D q σ F H z => q σ F H ((z.le h).sub ho)⟩
end
/-- bag(script): a new list of the script's first cells and four ints -/
def spBag (K : PySem.W.Frag) : Sp := fun vs H Q _ => ∃ (a : Addr) (ns : List Int), vs = [.ref a] ∧ SqL K H a (ns.map V.int) ∧ ns.length ≤ sizeLine ∧ ∀ (b c : Addr) (cells : List Int) (m : Int) (H' : Hp), Ex H H' → H b = none → H c = none → b ≠ c → cells.length ≤ sizeLine →
  H' c = some (.lst (cells.map V.int)) → H' b = some (.lst [.ref c, .int 0, .int 0, .int m, .int 0]) → Q (.ref b) H'
section
variable {X : Cx} {B : Bs} {env : Env} {os : Os} {pos pos' p : Pos} {β : Type} {e : Expr} {rest : List Stmt} {post : Post β}
theorem ints_paired {F : Hp} : ∀ xs : List Int, Paired (rInt.ok F) (xs.map V.int) xs
  | [] => .nil
  | _ :: xs => .cons rfl (ints_paired xs)
theorem b_bag (i : Nat) {x bagf : Str} {k : Nat} {f : Addr} {fd : FuncData} {ps : List Str} {xs : List Int} {w : W β} (G : FnOk X.prog X.w X.K X.mg X.base CX0 k f fd ps (spBag X.K)) (hr : Room k X.A) (hm : X.mg bagf = some (.ref f)) (hk : PySem.W.keepIn X.K (.ref f) = true) (hb : Binds X.K fd ps [])
    (he : EE X B env os e (rScr X.K) (ret xs)) (hrest : ∀ b cells, BG X B (env.set i (sv (rAdr b) ())) ((b, oBag cells) :: os) rest post w) (hN : X.N.Nodup) (hi : X.N[i]? = some x := by rfl)
    (hx : Loc X.env.scope x := by first | exact Or.inl rfl | exact Or.inr rfl) (hg : Gl X bagf := by rfl) (hdb : (bagf == ("__debug__" : Str)) = false := by decide)
    (hst : starEach [e] X.env = (false, eval e X.env) :: starEach [] X.env := by rfl) (hpl : (backTo p (starEach [] X.env)).any (·.1) = false := by rfl)
    {p0 : Pos} (hs : swapsWith (.Call (.Name bagf p0) [e] [] p) (some (.Name x pos')) pos.line X.env = pure false := by rfl) (hf : X.fn x = true ∨ X.env.scope.names.lookup x = some .local := by first | exact .inl rfl | exact .inr rfl | assumption) :
    BG X B env os (.Assign [.Name x pos'] (.Call (.Name bagf p0) [e] [] p) pos :: rest) post w :=
  PSs.imp (pss_cons (ps_set hN hi hx (pe_call G hr hg hm hk hb .nil pass0 (pa_cons he pa_nil hst) hdb hst hpl) hs hf) (PSs.ex fun q : Addr × List Int => hrest q.1 q.2)) fun D σ H ⟨F, P, S, hw, k⟩ => ⟨F, fun z => z = xs, S, rfl, fun z hz v F1 H1 S1 e1 ⟨a, ev, hsq, hl⟩ => by
  subst hz ev
  refine ⟨a, z, rfl, ex_l S1.fh hsq, hl, fun b c cells m H' hex hb0 hc0 hbc hcl hc' hb' => ?_⟩
  have fc : F1 c = none := fresh_back S1.fh hc0
  have fb : F1 b = none := fresh_back S1.fh hb0
  have eF : Ex F1 (upd F1 c (.lst (cells.map V.int))) := Ex.new fc
  have S2 : Sit B (upd F1 c (.lst (cells.map V.int))) H' σ env ((b, oBag cells) :: os) := by
    refine ⟨⟨fun q u hq => ?_, S1.fin.bf.trans eF, S1.fin.mrk.trans eF, S1.fin.bb, fun q hq => ?_, fun q u k1 k2 k3 => ?_⟩, S1.env.mono eF, fun q hq => ?_, ?_⟩
    · by_cases hqc : q = c
      · rw [hqc, upd_same] at hq
        rw [hqc, hc']
        exact hq
      · rw [upd_ne hqc] at hq
        exact hex q u (S1.fh q u hq)
    · obtain ⟨u, hu⟩ := S1.fin.ios q hq
      exact ⟨u, hex q u hu⟩
    · obtain ⟨z1, z2⟩ := S1.fin.keep q u k1 k2 k3
      have hqc : q ≠ c := ne_of_none z1 hc0
      exact ⟨hex q u z1, by rw [upd_ne hqc]; exact z2⟩
    · rcases List.mem_cons.mp hq with e | hq
      · subst e
        refine ⟨by rw [upd_ne hbc]; exact fb, ⟨_, hb', (0, 0, m, 0), _, rfl, .cons ⟨.ref c, rfl, c, _, rfl, upd_same, by rw [List.length_map]; exact hcl, ints_paired cells⟩ (.cons ⟨_, rfl, rfl⟩ (.cons ⟨_, rfl, rfl⟩ (.cons ⟨_, rfl, rfl⟩ (.cons ⟨_, rfl, rfl⟩ .nil))))⟩, .inl (S1.fin.fresh hb0)⟩
      · obtain ⟨z1, ⟨u, z2, z3⟩, z4⟩ := S1.ow q hq
        have hqc : q.1 ≠ c := ne_of_none z2 hc0
        exact ⟨by rw [upd_ne hqc]; exact z1, ⟨u, hex _ _ z2, q.2.mono eF z3⟩, z4⟩
    · rw [List.map_cons]
      refine List.nodup_cons.mpr ⟨fun hm => ?_, S1.nd⟩
      obtain ⟨q, hq, e⟩ := List.mem_map.mp hm
      obtain ⟨_, ⟨u, h2, _⟩, _⟩ := S1.ow q hq
      have e' : q.1 = b := e
      rw [e', hb0] at h2
      cases h2
  exact ⟨(b, cells), _, P, S2.store ⟨_, rfl, rfl⟩, hw, k⟩⟩
end
theorem bag_in {cells : List Int} : ∀ F h, (oBag cells).ok F h → ∃ p : Nat × Int × Int × Int, (oHet (bagS cells p.1 p.2.1 p.2.2.1 p.2.2.2)).ok F h := fun _ _ h => h
theorem bag_out {cells : List Int} {i : Int} {n : Nat} {d m k : Int} (e : i = (n : Int)) : ∀ F h, (oHet [sv (rLst rInt) cells, sv rInt i, sv rInt d, sv rInt m, sv rInt k]).ok F h → (oBag cells).ok F h := fun _ _ h => ⟨(n, d, m, k), by rw [e] at h; exact h⟩
/-- what a turn of the bag's mixing makes; each draw lies below most -/
theorem BG.imp {X : Cx} {B : Bs} {env : Env} {os : Os} {blk : List Stmt} {β : Type} {post : Post β} {w w' : W β} (h : BG X B env os blk post w) (i : ∀ P E, w' P E → w P E) : BG X B env os blk post w' :=
  PSs.imp h fun D σ H ⟨F, P, S, hw, k⟩ => ⟨F, P, S, i _ _ hw, k⟩
theorem mul_small {a b : Int} (h : b.natAbs < 2 ^ 64) : IntMulOk a b := IntMulOk.of_right (intBits_le_64 (by omega) (by omega))
theorem mul_smallL {a b : Int} (h : a.natAbs < 2 ^ 64) : IntMulOk a b := IntMulOk.of_left (intBits_le_64 (by omega) (by omega))
end Mi
namespace Mi
open PySem L2 Evl
def drC (cells : List Int) (n : Nat) (d most : Int) : W Bool := bnd (ret (decide (d < most))) fun x => if x = true then bnd (ret (decide ((n : Int) < (cells.length : Int)))) fun z => ret z else ret false
def drA (cells : List Int) (n : Nat) (m : Int) : W Unit :=
  bnd (bnd (idx cells (n : Int)) fun t => ret t) fun cell => bnd (ret ((n : Int) + 1)) fun i1 => chk (i1 = (n : Int) + 1) <|
  bnd (bnd (mulI m 40639) fun t1 => bnd (modI cell 2147483549) fun t2 => bnd (modI (t1 + t2 + 41) 2147483579) fun t3 => ret t3) fun _ =>
  bnd (bnd (powI 10 18) fun t => bnd (if decide (t ≤ cell) = true then ret cell else ret 0) fun z => ret z) fun _ => ret ()
def drB (d most : Int) : W Int := bnd (bnd (modI d most) fun t => ret t) fun digit => bnd (bnd (divI d most) fun t => ret t) fun _ => bnd (ret digit) fun z => ret z
def drR (m k most : Int) : W Int :=
  bnd (ret (k + 1)) fun k1 => bnd (bnd (mulI k1 8353) fun t => bnd (modI (m + t) 2147483543) fun t => ret t) fun base =>
  bnd (bnd (mulI base base) fun t1 => bnd (modI t1 2147483563) fun t2 => bnd (modI base 41039) fun t3 => bnd (mulI t2 (t3 + 13)) fun t4 => ret t4) fun late =>
  bnd (bnd (mulI 30011 base) fun t1 => bnd (modI (late + t1 + 709) 2147483579) fun t2 => ret t2) fun m1 =>
  bnd (bnd (divI m1 79) fun t1 => bnd (modI m1 9011) fun t2 => bnd (mulI t2 59) fun t3 => bnd (modI (t1 + t3) most) fun t4 => ret t4) fun z => ret z
/-- what the mirror checks may be used -/
theorem b_chk {X : Cx} {B : Bs} {env : Env} {os : Os} {blk : List Stmt} {β : Type} {post : Post β} {w : W β} {c : Prop} (h : c → BG X B env os blk post w) : BG X B env os blk post (chk c w) :=
  ⟨fun pins s σ H D I ⟨F, P, S, ⟨hc, hw⟩, k⟩ => (h hc).run pins s σ H D I ⟨F, P, S, hw, k⟩⟩
theorem modI_of {x y : Int} {P : Int → Prop} {E : Er → Prop} (h : 0 < y) (k : ∀ r, 0 ≤ r → r < y → P r) : modI x y P E := ⟨by omega, k _ (Int.fmod_nonneg_of_pos x h) (Int.fmod_lt_of_pos x h)⟩
theorem divI_of {x y : Int} {P : Int → Prop} {E : Er → Prop} (h : y ≠ 0) (h2 : y.natAbs.log2 < 9000) (k : ∀ r, P r) : divI x y P E := ⟨⟨h, h2⟩, k _⟩
theorem mulI_of {x y : Int} {P : Int → Prop} {E : Er → Prop} (h : IntMulOk x y) (k : P (x * y)) : mulI x y P E := ⟨h, k⟩
theorem drC_of {cells : List Int} {n : Nat} {d most : Int} {P : Bool → Prop} {E : Er → Prop} (h1 : n < cells.length → P true) (h2 : P false) : drC cells n d most P E := by
  unfold drC
  show (if decide (d < most) = true then bnd (ret (decide ((n : Int) < (cells.length : Int)))) fun z => ret z else ret false) P E
  by_cases a : d < most
  · rw [if_pos (decide_eq_true a)]
    show P (decide ((n : Int) < (cells.length : Int)))
    by_cases b : n < cells.length
    · rw [decide_eq_true (show (n : Int) < (cells.length : Int) by omega)]
      exact h1 b
    · rw [decide_eq_false (show ¬ (n : Int) < (cells.length : Int) by omega)]
      exact h2
  · rw [if_neg (by simpa using a)]
    exact h2
theorem idx_nat {α : Type} {xs : List α} {n : Nat} {x : α} (h : xs[n]? = some x) : idx xs (n : Int) = ret x := by
  unfold idx
  rw [atI_nat h]
theorem drA_of {cells : List Int} {n : Nat} {m : Int} {P : Unit → Prop} {E : Er → Prop} (h : n < cells.length) (k : P ()) : drA cells n m P E := by
  unfold drA
  rw [idx_nat (List.getElem?_eq_getElem h)]
  refine ⟨rfl, ?_⟩
  refine mulI_of (mul_small (by decide)) ?_
  refine modI_of (by decide) fun r _ _ => ?_
  refine modI_of (by decide) fun r2 _ _ => ?_
  refine ⟨⟨by decide, by decide, by decide⟩, ?_⟩
  show (if _ then ret _ else ret _ : W Int) (fun _ => P ()) E
  split <;> exact k
theorem drB_of {d most : Int} {P : Int → Prop} {E : Er → Prop} (h : 0 < most) (h2 : most.natAbs.log2 < 9000) (k : ∀ r, 0 ≤ r → r < most → P r) : drB d most P E := by
  unfold drB
  refine modI_of h fun r h1 h3 => ?_
  exact divI_of (by omega) h2 fun _ => k r h1 h3
theorem drR_of {m k most : Int} {P : Int → Prop} {E : Er → Prop} (h : 0 < most) (h2 : most.natAbs.log2 < 9000) (kk : ∀ r, 0 ≤ r → r < most → P r) : drR m k most P E := by
  unfold drR
  refine mulI_of (mul_small (by decide)) ?_
  refine modI_of (by decide) fun base b1 b2 => ?_
  refine mulI_of (mul_small (by omega)) ?_
  refine modI_of (by decide) fun t2 c1 c2 => ?_
  refine modI_of (by decide) fun t3 d1 d2 => ?_
  refine mulI_of (mul_small (by omega)) ?_
  refine mulI_of (mul_smallL (by decide)) ?_
  refine modI_of (by decide) fun m1 e1 e2 => ?_
  refine divI_of (by decide) (by decide) fun q => ?_
  refine modI_of (by decide) fun t5 f1 f2 => ?_
  refine mulI_of (mul_small (by decide)) ?_
  exact modI_of h fun r g1 g2 => kk r g1 g2
end Mi
namespace Mi
open PySem L2 Evl
theorem room100 {k : Nat} {A : Around} (hr : Room k A) : A.units + 100 < cLine := by
  have := hr.un
  omega
theorem guards_deeper {A : Around} {q : Str} {sc : Scope} {n : Nat} {f : Addr} {c : Value} (h : A.guards = some []) : (A.deeper (PyProof.Rows.envOfC q sc n f c)).guards = some [] := h
/-- whether two things show themselves alike -/
def sameW {α β : Type} (f : α → PyData) (g : β → PyData) (x : α) (y : β) : W Bool := bnd (reprW (f x)) fun a => bnd (reprW (g y)) fun b => ret (decide (a = b))
end Mi
namespace Mi
open PySem L2 Evl
section
variable {X : Cx} {B : Bs} {env : Env} {os : Os} {pos : Pos} {α β : Type} {r : Rp α} {s : Rp β} {f : α → PyData} {n : Nat} {e a : Expr} {rest : List Stmt} {post : Post β}
theorem bg_nx {S ρ : Type} {env : Env} {blk : List Stmt} {rt : ρ → β} {w : S → W β} {s : S} (h : BG X B env os blk post (w s)) : BG X B env os blk post (flEnd rt w (.nx s)) := h
/-- seen by another reading -/
theorem e_map {w : W α} {g : α → β} (hg : ∀ {F v x}, r.ok F v x → s.ok F v (g x)) (h : EE X B env os e r w) : EE X B env os e s (bnd w fun x => ret (g x)) :=
  PE.imp h fun σ H Q ⟨F, P, S, hw, k⟩ => ⟨F, _, S, hw, fun x hx v F1 H1 S1 e1 ok => k _ hx v F1 H1 S1 e1 (hg ok)⟩
theorem e_toD {w : W α} (d : DD X.K r f n) (h : EE X B env os e r w) (hn : n ≤ 30 := by decide) : EE X B env os e (rD X.K) (bnd w fun x => ret (f x)) :=
  e_map (s := rD X.K) (fun {F v x} ok => ⟨(d.ok ok).1, (d.ok ok).2.1, Nat.le_trans (d.ok ok).2.2 hn⟩) h
/-- a part of the script -/
theorem n_sliceScr {w1 : W (List Int)} {w2 w3 : W (Option Int)} {lo hi : Option Expr} {p2 : Pos} (ha : EE X B env os a (rScr X.K) w1) (hl : EO X B env os lo w2) (hh : EO X B env os hi w3) :
    EN X B env os (.Subscript a (.Slice lo hi none p2) pos) rInt (bnd w1 fun x => bnd w2 fun l => bnd w3 fun h => ret (cutL x l h)) :=
  PE.imp (pe_slice sl_list ha hl hh) fun σ H Q ⟨F, P, S, hw, k⟩ => ⟨F, _, S, hw, fun x hx v F1 H1 S1 e1 ⟨p1, q1, h1, z1⟩ => ⟨F1, _, S1, hx, fun l hl' F2 H2 S2 e2 => ⟨F2, _, S2, hl', fun h hh' F3 H3 S3 e3 => by
  exact ⟨p1, x.map V.int, q1, ex_l S3.fh (ex_l e3 (ex_l e2 h1)), fun p hp => k _ hh' p F3 _ (S3.newOwn hp ⟨_, rfl, Nat.le_trans (cutV_length _ l h) (by rw [List.length_map]; exact z1), cut_paired (ints_paired x) l h⟩) ((e1.trans e2).trans e3)⟩⟩⟩⟩
theorem ints_of {F : Hp} : ∀ {vs : List V} {xs : List Int}, Paired (rInt.ok F) vs xs → vs = xs.map V.int
  | _, _, .nil => rfl
  | _, _, .cons h t => by
    rw [List.map_cons, ← ints_of t]
    have h' : _ = V.int _ := h
    rw [h']
/-- what the bag's maker gives back -/
def pBag (B : Bs) : Post (List Int × Int) := fun D x => ∀ (b c : Addr) (H : Hp), Ex B.F H → B.H b = none → B.H c = none → b ≠ c → x.1.length ≤ sizeLine → H c = some (.lst (x.1.map V.int)) → H b = some (.lst [.ref c, .int 0, .int 0, .int x.2, .int 0]) → D.rt (.ref b) H
theorem b_bagR {w1 : W (List Int)} {w2 : List Int → W Int} {m : Expr} {q1 q2 q4 : Nat} {p1 p2 p4 p5 : Pos} (hio : ∀ a, a ∉ B.io) (ha : EN X B env [] a rInt w1) (hm : ∀ x c, EE X B env [(c, oLst rInt x)] m rInt (w2 x))
    (h1 : starEach [a, .Constant (.int 0) q1 p1, .Constant (.int 0) q2 p2, m, .Constant (.int 0) q4 p4] X.env = (false, eval a X.env) :: starEach [.Constant (.int 0) q1 p1, .Constant (.int 0) q2 p2, m, .Constant (.int 0) q4 p4] X.env := by rfl)
    (h2 : starEach [.Constant (.int 0) q1 p1, .Constant (.int 0) q2 p2, m, .Constant (.int 0) q4 p4] X.env = (false, eval (.Constant (.int 0) q1 p1) X.env) :: starEach [.Constant (.int 0) q2 p2, m, .Constant (.int 0) q4 p4] X.env := by rfl)
    (h3 : starEach [.Constant (.int 0) q2 p2, m, .Constant (.int 0) q4 p4] X.env = (false, eval (.Constant (.int 0) q2 p2) X.env) :: starEach [m, .Constant (.int 0) q4 p4] X.env := by rfl)
    (h4 : starEach [m, .Constant (.int 0) q4 p4] X.env = (false, eval m X.env) :: starEach [.Constant (.int 0) q4 p4] X.env := by rfl)
    (h5 : starEach [.Constant (.int 0) q4 p4] X.env = (false, eval (.Constant (.int 0) q4 p4) X.env) :: starEach [] X.env := by rfl) :
    BG X B env [] [.Return (some (.List [a, .Constant (.int 0) q1 p1, .Constant (.int 0) q2 p2, m, .Constant (.int 0) q4 p4] p5)) pos] (pBag B) (bnd w1 fun x => bnd (w2 x) fun y => ret (x, y)) :=
  PSs.imp (pss_one (ps_ret (pe_lst (pa_cons ha (pa_cons pe_int (pa_cons pe_int (pa_cons (PE.ex (ι := List Int × Addr) fun q => hm q.1 q.2) (pa_cons pe_int pa_nil h5) h4) h3) h2) h1)))) fun D σ H ⟨F, P, S, hw, k⟩ =>
  ⟨F, _, S, hw, fun x hx c F1 H1 S1 e1 => ⟨(x, c), F1, _, S1, hx, fun y hy v F2 H2 S2 e2 hv => ⟨by show 5 ≤ sizeLine; decide, fun b hb => by
    have hv' : v = V.int y := hv
    subst hv'
    obtain ⟨z1, ⟨o, z2, vs, z3, z4, z5⟩, z6⟩ := S2.ow (c, oLst rInt x) (List.mem_cons_self)
    subst z3
    have evs := ints_of z5
    subst evs
    have hbc : b ≠ c := fun e => by
      rw [e] at hb
      rw [hb] at z2
      cases z2
    have eb : Ex B.F H2 := S2.fin.bf.trans S2.fh
    refine k (x, y) hy b c _ (eb.trans (Ex.new hb)) (S2.fin.fresh hb) ?_ hbc (by rw [List.length_map] at z4; exact z4) ?_ upd_same
    · rcases z6 with z | z
      · exact z
      · exact absurd z (hio _)
    · rw [upd_ne (Ne.symm hbc)]
      exact z2⟩⟩⟩
theorem forW_of {α S : Type} {f : S → α → W S} {E : Er → Prop} {I : S → Prop} : ∀ {xs : List α} {s : S} {P : S → Prop}, (∀ s x Q, I s → (∀ s', I s' → Q s') → f s x Q E) → I s → (∀ s, I s → P s) → forW f s xs P E
  | [], s, P, hf, hs, hp => hp s hs
  | x :: xs, s, P, hf, hs, hp => hf s x _ hs fun s' h' => forW_of hf h' hp
end
end Mi
namespace Mi
open PySem L2 Evl
/-- every answer of w is one that I allows, and w gives one -/
def Ok {α : Type} (w : W α) (I : α → Prop) : Prop := ∀ (P : α → Prop) (E : Er → Prop), (∀ x, I x → P x) → w P E
section
variable {α β γ S ρ : Type} {I J : α → Prop} {w m : W α}
theorem Ok.ret {x : α} (h : I x) : Ok (ret x) I := fun P E hp => hp x h
theorem Ok.eq {x : α} : Ok (Mi.ret x) (· = x) := fun P E hp => hp x rfl
theorem Ok.bnd {f : α → W β} {I : β → Prop} (h : Ok m J) (k : ∀ x, J x → Ok (f x) I) : Ok (bnd m f) I := fun P E hp => h _ E fun x hx => k x hx P E hp
theorem Ok.chk {c : Prop} (hc : c) (h : Ok w I) : Ok (chk c w) I := fun P E hp => ⟨hc, h P E hp⟩
theorem Ok.noX (h : Ok w I) : Ok (noX w) I := fun P E hp => h P _ hp
theorem Ok.mono (h : Ok w J) (i : ∀ x, J x → I x) : Ok w I := fun P E hp => h P E fun x hx => hp x (i x hx)
theorem Ok.run {P : α → Prop} {E : Er → Prop} (h : Ok w P) : w P E := h P E fun _ hx => hx
theorem Ok.bndE {f : α → W β} {I : β → Prop} {x : α} (h : Ok m (· = x)) (k : Ok (f x) I) : Ok (Mi.bnd m f) I := Ok.bnd h fun y hy => by
  subst hy
  exact k
theorem Ok.draw {k : Int} (h0 : 0 < k) (h : k.natAbs.log2 < 9000) : Ok (drawW k) fun r => 0 ≤ r ∧ r < k := fun P E hp => ⟨h0, h, fun r h1 h2 => hp r ⟨h1, h2⟩⟩
theorem Ok.idxN {xs : List α} {n : Nat} {x : α} (h : xs[n]? = some x) : Ok (idx xs (n : Int)) (· = x) := by
  rw [idx_nat h]
  exact Ok.eq
theorem Ok.any {xs : List α} (h0 : 0 < xs.length) (h1 : xs.length < 2 ^ 64) (h : ∀ x ∈ xs, I x) : Ok (anyW xs) I := by
  refine Ok.bnd (Ok.noX (Ok.draw (by omega) ?_)) fun r ⟨r0, r1⟩ => ?_
  · refine Nat.lt_of_lt_of_le (Nat.log2_lt (by omega) |>.mpr (show _ < 2 ^ 64 from ?_)) (by decide)
    omega
  · obtain ⟨n, rfl⟩ := Int.eq_ofNat_of_zero_le r0
    have hn : n < xs.length := by omega
    exact (Ok.idxN (List.getElem?_eq_getElem hn)).mono fun x e => e ▸ h _ (List.getElem_mem hn)
theorem Ok.map {f : α → W β} {g : α → β} : ∀ {xs : List α}, (∀ x ∈ xs, Ok (f x) (· = g x)) → Ok (mapW f xs) (· = xs.map g)
  | [], _ => Ok.eq
  | x :: xs, h => Ok.bndE (h x List.mem_cons_self) (Ok.bndE (Ok.map fun y hy => h y (List.mem_cons_of_mem _ hy)) Ok.eq)
theorem Ok.forW {f : S → α → W S} {J : S → Prop} : ∀ {xs : List α} {s0 : S} (inv : Nat → S → Prop), inv 0 s0 → (∀ k (hk : k < xs.length) s, inv k s → Ok (f s xs[k]) (inv (k + 1))) → (∀ s, inv xs.length s → J s) → Ok (forW f s0 xs) J
  | [], s0, inv, h0, _, h2 => Ok.ret (h2 _ h0)
  | x :: xs, s0, inv, h0, h1, h2 => Ok.bnd (h1 0 (by simp) s0 h0) fun s hs => Ok.forW (fun k => inv (k + 1)) hs (fun k hk s hs => h1 (k + 1) (by simpa using hk) s hs) fun s hs => h2 s hs
theorem Ok.forF {f : S → α → W (Fl S ρ)} {J : Fl S ρ → Prop} : ∀ {xs : List α} {s0 : S} (inv : Nat → S → Prop) (R : ρ → Prop), inv 0 s0 → (∀ k (hk : k < xs.length) s, inv k s → Ok (f s xs[k]) fun r => match r with | .nx s => inv (k + 1) s | .rt z => R z | _ => False) →
    (∀ s, inv xs.length s → J (.nx s)) → (∀ z, R z → J (.rt z)) → Ok (forF f s0 xs) J
  | [], s0, inv, R, h0, _, h2, _ => Ok.ret (h2 _ h0)
  | x :: xs, s0, inv, R, h0, h1, h2, h3 => Ok.bnd (h1 0 (by simp) s0 h0) fun r hr => by
    cases r with
    | nx s => exact Ok.forF (fun k => inv (k + 1)) R hr (fun k hk s hs => h1 (k + 1) (by simpa using hk) s hs) (fun s hs => h2 s hs) h3
    | rt z => exact Ok.ret (h3 z hr)
    | bk s => exact False.elim hr
    | ct s => exact False.elim hr
theorem log2_lt {n m : Nat} (h : n < 2 ^ m) (hm : 0 < m) : n.log2 < m := by
  by_cases e : n = 0
  · subst e
    exact hm
  · exact (Nat.log2_lt e).mpr h
theorem Ok.mod {x y : Int} (h : y ≠ 0) : Ok (modI x y) (· = x.fmod y) := Ok.chk h Ok.eq
theorem Ok.rng1 {n : Nat} (h : n ≤ 16777216) : Ok (rng1 (n : Int)) (· = (List.range n).map fun k : Nat => (k : Int)) := by
  refine Ok.chk ⟨by omega, by omega, by omega, by omega, by omega⟩ (Ok.ret ?_)
  unfold rangeI
  rw [show ((n : Int) - 0).toNat = n by omega]
  exact List.map_congr_left fun k _ => by omega
theorem Ok.rng2 {a n : Nat} (h : a ≤ n) (h2 : n ≤ 16777216) : Ok (rng2 (a : Int) (n : Int)) (· = (List.range (n - a)).map fun k : Nat => ((a + k : Nat) : Int)) := by
  refine Ok.chk ⟨by omega, by omega, by omega, by omega, by omega⟩ (Ok.ret ?_)
  unfold rangeI
  rw [show ((n : Int) - (a : Int)).toNat = n - a by omega]
  exact List.map_congr_left fun k _ => by omega
/-- a map over a range -/
theorem Ok.mapR {f : Int → W β} {g : Nat → β} {n a : Nat} (h : ∀ k, k < n → Ok (f ((a + k : Nat) : Int)) (· = g (a + k))) : Ok (mapW f ((List.range n).map fun k : Nat => ((a + k : Nat) : Int))) (· = (List.range n).map fun k => g (a + k)) := by
  refine (Ok.map (g := fun i : Int => g i.toNat) fun x hx => ?_).mono fun ys e => ?_
  · obtain ⟨k, hk, rfl⟩ := List.mem_map.mp hx
    exact h k (List.mem_range.mp hk)
  · rw [e, List.map_map]
    exact List.map_congr_left fun k _ => rfl
theorem Ok.mapR0 {f : Int → W β} {g : Nat → β} {n : Nat} (h : ∀ k, k < n → Ok (f (k : Int)) (· = g k)) : Ok (mapW f ((List.range n).map fun k : Nat => (k : Int))) (· = (List.range n).map g) := by
  refine (Ok.map (g := fun i : Int => g i.toNat) fun x hx => ?_).mono fun ys e => ?_
  · obtain ⟨k, hk, rfl⟩ := List.mem_map.mp hx
    exact h k (List.mem_range.mp hk)
  · rw [e, List.map_map]
    exact List.map_congr_left fun k _ => rfl
end
theorem piled_le {ts : List Str} {m : Nat} (h : ∀ t ∈ ts, t.length ≤ m) : piled ts ≤ ts.length * (m + 2) := by
  induction ts with
  | nil => simp [piled]
  | cons t ts ih =>
    have := ih fun u hu => h u (List.mem_cons_of_mem _ hu)
    have := h t List.mem_cons_self
    rw [piled_cons, List.length_cons, Nat.add_mul]
    omega
theorem textFrom_len_le : ∀ (ts : List Str) (k : Nat) (acc : Str), (textFrom k acc ts).length ≤ acc.length + piled ts
  | [], k, acc => by
    show acc.length ≤ _
    omega
  | t :: r, k, acc => by
    have h := textFrom_len_le r (k + 1) (acc ++ (if k > 0 then ", " else "" : String) ++ t)
    have e : (acc ++ (if k > 0 then ", " else "" : String) ++ t).length = acc.length + (if k > 0 then 2 else 0) + t.length := by
      rw [strLen_append, strLen_append]
      split <;> rfl
    rw [e] at h
    rw [piled_cons]
    show (textFrom (k + 1) _ r).length ≤ _
    have : (if k > 0 then 2 else 0 : Nat) ≤ 2 := by split <;> decide
    omega
theorem listText_len_le (ts : List Str) : (listText ts).length ≤ 2 + piled ts := by
  unfold listText
  rw [strLen_append]
  have := textFrom_len_le ts 0 "["
  have e : ((("[" : String) : Str)).length = 1 := rfl
  have e2 : ((("]" : String) : Str)).length = 1 := rfl
  omega
theorem strOk_str (s : String) : PyData.strOk (Str.ofString s) = true := by
  unfold PyData.strOk
  rw [Str.ofString_eq_toList, ← Array.all_toList, List.all_eq_true]
  intro y hy
  obtain ⟨c, _, rfl⟩ := List.mem_map.mp (by simpa using hy)
  have := c.valid
  simp only [decide_eq_true_eq]
  unfold Char.toNat
  rcases this with h | ⟨_, h⟩
  · exact Nat.lt_trans h (by decide)
  · exact h
theorem textFrom_ok : ∀ (ts : List Str) (k : Nat) (acc : Str), PyData.strOk acc = true → (∀ t ∈ ts, PyData.strOk t = true) → PyData.strOk (textFrom k acc ts) = true
  | [], k, acc, h, _ => h
  | t :: r, k, acc, h, h2 => by
    show PyData.strOk (textFrom (k + 1) _ r) = true
    exact textFrom_ok r (k + 1) _ (strOk_app (strOk_app h (strOk_str _)) (h2 t List.mem_cons_self)) fun u hu => h2 u (List.mem_cons_of_mem _ hu)
theorem listText_ok {ts : List Str} (h : ∀ t ∈ ts, PyData.strOk t = true) : PyData.strOk (listText ts) = true := strOk_app (textFrom_ok ts 0 _ (strOk_str _) h) (strOk_str _)
/-- it can be shown, in at most m signs -/
structure Shw (d : PyData) (m : Nat) : Prop where
  s : d.showable = true
  l : d.shown.length ≤ m
  o : PyData.strOk d.shown = true
theorem Shw.mono {d : PyData} {m n : Nat} (h : Shw d m) (hm : m ≤ n) : Shw d n := ⟨h.s, Nat.le_trans h.l hm, h.o⟩
theorem Shw.int {i : Int} (h : i.natAbs < 2 ^ 1920) : Shw (.int i) 1921 := by
  have q : i.natAbs.log2 < 1920 := log2_lt h (by decide)
  refine ⟨by simp [PyData.showable, q], ?_, ?_⟩
  · rw [PyData.shown]
    exact PyProof.Rows.int_text_len_1921 q
  · rw [PyData.shown]
    exact strOk_str _
theorem Shw.list {ds : List PyData} {m n : Nat} (h : ∀ d ∈ ds, Shw d m) (hn : ds.length ≤ n) : Shw (.list ds) (n * (m + 2) + 2) := by
  have e : ∀ ds : List PyData, PyData.shownAll ds = ds.map PyData.shown := fun ds => by
    induction ds with
    | nil => rfl
    | cons d ds ih => rw [PyData.shownAll, ih, List.map_cons]
  have e2 : ∀ ds : List PyData, (∀ d ∈ ds, d.showable = true) → PyData.showableAll ds = true := fun ds => by
    induction ds with
    | nil => exact fun _ => rfl
    | cons d ds ih => exact fun h => by rw [PyData.showableAll, h d List.mem_cons_self, ih fun u hu => h u (List.mem_cons_of_mem _ hu)]; rfl
  refine ⟨by rw [PyData.showable]; exact e2 ds fun d hd => (h d hd).s, ?_, ?_⟩
  · rw [PyData.shown, e]
    refine Nat.le_trans (listText_len_le _) ?_
    have := piled_le (ts := ds.map PyData.shown) (m := m) fun t ht => by
      obtain ⟨d, hd, rfl⟩ := List.mem_map.mp ht
      exact (h d hd).l
    rw [List.length_map] at this
    have := Nat.mul_le_mul_right (m + 2) hn
    omega
  · rw [PyData.shown, e]
    refine listText_ok fun t ht => ?_
    obtain ⟨d, hd, rfl⟩ := List.mem_map.mp ht
    exact (h d hd).o
theorem Ok.repr {d : PyData} {m : Nat} (h : Shw d m) (hm : m ≤ sizeLine) : Ok (reprW d) (· = d.shown) := Ok.chk ⟨h.s, Nat.le_trans h.l hm, h.o⟩ Ok.eq
theorem Ok.same {α β : Type} {f : α → PyData} {g : β → PyData} {x : α} {y : β} {m : Nat} (h : Shw (f x) m) (hm : m ≤ sizeLine) (e : f x = g y) : Ok (sameW f g x y) (· = true) := by
  unfold sameW
  refine Ok.bndE (Ok.repr h hm) (Ok.bndE (Ok.repr (e ▸ h) hm) (Ok.ret ?_))
  rw [e]
  simp
end Mi
namespace Mi
open PySem L2 Evl
open PyProof.Rows (envOfC)
theorem c_conv {X : Cx} {B : Bs} {env : Env} {os : Os} {α : Type} {r : Rp α} {st : Stmt} {g : TG} {w w' : W (List α)} (h : PS X st (tAsg (tNew B env os r w) g)) (q : w = w') : PS X st (tAsg (tNew B env os r w') g) := q ▸ h
def Flds (F : Hp) (fs : List (Str × Slot)) (vs : List (Str × V)) : Prop := Paired (fun (p : Str × Slot) (q : Str × V) => p.1 = q.1 ∧ p.2.ok F (some q.2)) fs vs
theorem Flds.mono {F F' : Hp} {fs : List (Str × Slot)} {vs : List (Str × V)} (e : Ex F F') (h : Flds F fs vs) : Flds F' fs vs := Paired.imp (fun p _ ⟨h1, h2⟩ => ⟨h1, p.2.mono e h2⟩) h
theorem Flds.get {F : Hp} {f : Str} {s : Slot} : ∀ {fs : List (Str × Slot)} {vs : List (Str × V)}, Flds F fs vs → fs.lookup f = some s → ∃ v, vs.lookup f = some v ∧ s.ok F (some v)
  | _, _, .nil, h => by cases h
  | (g, s') :: fs, (g', v) :: vs, .cons ⟨e, h1⟩ t, h => by
    have e : g = g' := e
    subst e
    rw [List.lookup_cons] at h ⊢
    cases q : (f == g) with
    | true =>
      rw [q] at h
      cases h
      exact ⟨v, rfl, h1⟩
    | false =>
      rw [q] at h
      exact Flds.get t h
theorem Flds.none {F : Hp} {f : Str} : ∀ {fs : List (Str × Slot)} {vs : List (Str × V)}, Flds F fs vs → fs.lookup f = none → vs.lookup f = none
  | _, _, .nil, h => rfl
  | (g, s') :: fs, (g', v) :: vs, .cons ⟨e, h1⟩ t, h => by
    have e : g = g' := e
    subst e
    rw [List.lookup_cons] at h ⊢
    cases q : (f == g) with
    | true =>
      rw [q] at h
      cases h
    | false =>
      rw [q] at h
      exact Flds.none t h
theorem Flds.len {F : Hp} {fs : List (Str × Slot)} {vs : List (Str × V)} (h : Flds F fs vs) : fs.length = vs.length := Paired.length h
def putS (f : Str) (s : Slot) : List (Str × Slot) → List (Str × Slot)
  | [] => [(f, s)]
  | (g, x) :: r => if g = f then (g, s) :: r else (g, x) :: putS f s r
theorem Flds.put {F : Hp} {f : Str} {s : Slot} {v : V} (hs : s.ok F (some v)) : ∀ {fs : List (Str × Slot)} {vs : List (Str × V)}, Flds F fs vs → Flds F (putS f s fs) (putF f v vs)
  | _, _, .nil => .cons ⟨rfl, hs⟩ .nil
  | (g, x) :: fs, (g', y) :: vs, .cons ⟨e, h1⟩ t => by
    have e : g = g' := e
    subst e
    unfold putS putF
    by_cases q : g = f
    · rw [if_pos q, if_pos q]
      exact .cons ⟨rfl, hs⟩ t
    · rw [if_neg q, if_neg q]
      exact .cons ⟨rfl, h1⟩ (Flds.put hs t)
/-- an object that will not change: its class, its fields by name -/
def rObj {α : Type} (C : Addr) (fl : α → List (Str × Slot)) : Rp α := ⟨fun F v x => ∃ a dx vs, v = .ref a ∧ F a = some (.ins C dx vs) ∧ Flds F (fl x) vs, fun e ⟨a, dx, vs, h1, h2, h3⟩ => ⟨a, dx, vs, h1, e _ _ h2, h3.mono e⟩⟩
/-- one that is being made -/
def oObj (C : Addr) (fs : List (Str × Slot)) : Own := ⟨fun F o => ∃ dx vs, o = .ins C dx vs ∧ Flds F fs vs, fun e ⟨dx, vs, h1, h2⟩ => ⟨dx, vs, h1, h2.mono e⟩⟩
section
variable {X : Cx} {B : Bs} {env : Env} {os : Os} {pos : Pos} {α β γ : Type} {r : Rp α} {s : Rp β} {C : Addr} {fl : α → List (Str × Slot)} {f : Str} {e : Expr} {rest : List Stmt} {post : Post β}
/-- e.f -/
theorem e_fld {w : W α} {g : α → β} (c : Cls X.K C) (n : NoAttr X.K C f) (he : EE X B env os e (rObj C fl) w) (hg : ∀ x, (fl x).lookup f = some (sv s (g x)) := by exact fun _ => rfl) (hb : attributeBase e f X.env (eval e X.env) = eval e X.env := by rfl) :
    EE X B env os (.Attribute e f pos) s (bnd w fun x => ret (g x)) :=
  PE.imp (pe_fld he hb) fun σ H Q ⟨F, P, S, hw, k⟩ => ⟨F, _, S, hw, fun x hx v F1 H1 S1 e1 ⟨a, dx, vs, ev, ha, hf⟩ => by
    obtain ⟨u, h1, u', h2, h3⟩ := hf.get (hg x)
    cases h2
    exact ⟨a, C, dx, vs, _, ev, S1.fh _ _ ha, c, n, h1, k _ hx _ F1 H1 S1 e1 h3⟩⟩
theorem Sit.obj {F H : Hp} {σ : L2.St} {i j : Nat} {a : Addr} {fs : List (Str × Slot)} (S : Sit B F H σ env os) (hi : env[i]? = some (sv (rAdr a) ())) (hj : os[j]? = some (a, oObj C fs)) : σ[i]? = some (some (.ref a)) ∧ F a = none ∧ ∃ dx vs, H a = some (.ins C dx vs) ∧ Flds F fs vs := by
  obtain ⟨ov, g1, v, g2, g3⟩ := S.env.get hi
  have g3' : v = .ref a := g3
  subst g2 g3'
  obtain ⟨z1, ⟨o, z2, dx, vs, z3, z5⟩, _⟩ := S.ow _ (List.mem_of_getElem? hj)
  subst z3
  exact ⟨g1, z1, dx, vs, z2, z5⟩
/-- self.f, self being made -/
theorem e_fldO (i j : Nat) {x : Str} {p2 : Pos} {a : Addr} {fs : List (Str × Slot)} {y : β} (c : Cls X.K C) (n : NoAttr X.K C f) (hi : env[i]? = some (sv (rAdr a) ())) (hj : os[j]? = some (a, oObj C fs)) (hl : fs.lookup f = some (sv s y)) (hN : X.N[i]? = some x := by rfl)
    (hv : Vis X.env.scope x := by first | exact Or.inl rfl | exact Or.inr (Or.inl rfl) | exact Or.inr (Or.inr rfl)) (hd : (x == ("__debug__" : Str)) = false := by decide) (hcd : (x == ("__classdict__" : Str)) = false := by decide)
    (hb : attributeBase (.Name x p2) f X.env (eval (.Name x p2) X.env) = eval (.Name x p2) X.env := by rfl) :
    EE X B env os (.Attribute (.Name x p2) f pos) s (ret y) :=
  PE.imp (pe_fld (pe_var hN hv hd hcd) hb) fun σ H Q ⟨F, P, S, hw, k⟩ => by
  obtain ⟨g1, g2, dx, vs, g3, g5⟩ := S.obj hi hj
  obtain ⟨u, h1, u', h2, h3⟩ := g5.get hl
  cases h2
  exact ⟨.ref a, g1, a, C, dx, vs, u, rfl, g3, c, n, h1, k _ hw _ F H S (Ex.refl F) h3⟩
/-- self.f = e, self being made -/
theorem b_fldO (i j : Nat) {x : Str} {p1 p2 : Pos} {a : Addr} {fs : List (Str × Slot)} {w : W α} {w2 : α → W β} (c : Cls X.K C) (n : NoAttr X.K C f) (hi : env[i]? = some (sv (rAdr a) ())) (hj : os[j]? = some (a, oObj C fs)) (he : EE X B env os e r w)
    (hr : ∀ y, BG X B env (os.set j (a, oObj C (putS f (sv r y) fs))) rest post (w2 y)) (hz : decide (fs.length < 1000) = true := by rfl) (hN : X.N[i]? = some x := by rfl)
    (hv : Vis X.env.scope x := by first | exact Or.inl rfl | exact Or.inr (Or.inl rfl) | exact Or.inr (Or.inr rfl)) (hd : (x == ("__debug__" : Str)) = false := by decide) (hcd : (x == ("__classdict__" : Str)) = false := by decide)
    (hs : swapsWith e (some (.Attribute (.Name x p1) f p2)) pos.line X.env = pure false := by rfl) :
    BG X B env os (.Assign [.Attribute (.Name x p1) f p2] e pos :: rest) post (bnd w w2) :=
  PSs.imp (pss_cons (ps_fld (pe_var hN hv hd hcd) he hs) (PSs.ex hr)) fun D σ H ⟨F, P, S, hw, k⟩ => ⟨F, _, S, hw, fun y hy v F1 H1 S1 e1 ok => by
  obtain ⟨g1, g2, dx, vs, g3, g5⟩ := S1.obj hi hj
  refine ⟨.ref a, g1, a, C, dx, vs, rfl, g3, c, n, ?_, y, F1, P, S1.change hj ⟨dx, _, rfl, Flds.put (s := sv r y) ⟨v, rfl, ok⟩ g5⟩, hy, k⟩
  rw [← g5.len]
  exact of_decide_eq_true hz⟩
end
def pIn {ρ : Type} (B : Bs) (C x : Addr) (fl : ρ → List (Str × Slot)) : Post ρ := fun D r => (∀ F H, Fn B F H → OsOk B F H [(x, oObj C (fl r))] → D.rt .non H) ∧ ∀ σ F H, Fn B F H → OsOk B F H [(x, oObj C (fl r))] → D.nx σ H
theorem NxOk.init {B : Bs} {C x : Addr} {ρ : Type} {fl : ρ → List (Str × Slot)} {r : ρ} {env : Env} {os : Os} (ho : OsW os [(x, oObj C (fl r))]) : NxOk B (pIn B C x fl) env os r := ⟨fun D q σ F H z => q.2 σ F H z.fin (ho.ok z)⟩
theorem Sit.backI {B : Bs} {F F' H H' : Hp} {σ : L2.St} {env : Env} {os : Os} {x : Addr} {o o2 : Own} (S : Sit B F H σ env ((x, o) :: os)) (fn : Fn (bs0 F H [(x, o)]) F' H') (ow : OsOk (bs0 F H [(x, o)]) F' H' [(x, o2)]) : Sit B F' H' σ env ((x, o2) :: os) := by
  have e : Ex F F' := fn.bf
  obtain ⟨z1, ⟨ob, z2, z3⟩, z4⟩ := S.ow (x, o) (List.mem_cons_self)
  have z1 : F x = none := z1
  obtain ⟨y1, ⟨ob2, y2, y3⟩, _⟩ := ow (x, o2) (List.mem_cons_self)
  have nd := S.nd
  rw [List.map_cons] at nd
  obtain ⟨nd1, nd2⟩ := List.nodup_cons.mp nd
  have nin : ∀ a, a ≠ x → a ∉ ([(x, o)] : Os).map (·.1) := fun a h hm => h (by simpa using hm)
  refine ⟨⟨fn.fh, S.fin.bf.trans e, S.fin.mrk.trans e, S.fin.bb, fun a ha => ?_, fun a u h1 h2 h3 => ?_⟩, S.env.mono e, fun p hp => ?_, ?_⟩
  · by_cases hx : a = x
    · subst hx
      exact ⟨ob2, y2⟩
    · obtain ⟨u, hu⟩ := S.fin.ios a ha
      cases ef : F a with
      | none => exact ⟨u, (fn.keep a u ef hu (nin a hx)).1⟩
      | some q => exact ⟨q, fn.fh a q (e a q ef)⟩
  · obtain ⟨k1, k2⟩ := S.fin.keep a u h1 h2 h3
    refine fn.keep a u k2 k1 (nin a ?_)
    rintro rfl
    rcases z4 with q | q
    · have q' : B.H a = none := q
      rw [h2] at q'
      cases q'
    · exact h3 q
  · rcases List.mem_cons.mp hp with ep | hp
    · subst ep
      exact ⟨y1, ⟨ob2, y2, y3⟩, z4⟩
    · obtain ⟨h1, ⟨u, h2, h3⟩, h4⟩ := S.ow p (List.mem_cons_of_mem _ hp)
      have hx : p.1 ≠ x := fun z => by
        have hm := List.mem_map_of_mem (f := Prod.fst) hp
        rw [z] at hm
        exact nd1 hm
      obtain ⟨k1, k2⟩ := fn.keep p.1 u h1 h2 (nin _ hx)
      exact ⟨k2, ⟨u, k1, p.2.mono e h3⟩, h4⟩
  · rw [List.map_cons]
    exact nd
section
variable {P : Program} {w : World} {K : PySem.W.Frag} {mg : Str → Option Value} {base : Heap} {k : Nat} {f C : Addr} {fd : FuncData} {ps N : List Str} {α ρ : Type} {r : Rp α} {wf : List α → W ρ} {fl : ρ → List (Str × Slot)}
/-- how a def binds self and a star parameter -/
def BindStar (K : PySem.W.Frag) (fd : FuncData) (self pv : Str) : Prop := ∀ us rest : List Value, us.length = [self].length → bindArgs fd ⟨us ++ rest, []⟩ = (newTuple rest >>= fun t => pure ([self].zip us ++ [(pv, t)]))
theorem bindStar_of {K : PySem.W.Frag} {fd : FuncData} {self pv : Str} (h0 : ∀ a, bindArgs fd ⟨[a], []⟩ = (newTuple [] >>= fun t => pure [(self, a), (pv, t)])) (h1 : ∀ a r rs, bindArgs fd ⟨a :: r :: rs, []⟩ = (newTuple (r :: rs) >>= fun t => pure [(self, a), (pv, t)])) : BindStar K fd self pv :=
  StX.bind_star1 (B := fun us => bindArgs fd ⟨us, []⟩) h0 h1
end
end Mi
namespace Mi
open PySem L2 Evl
open PyProof.Rows (Call_ boot_enumerate)
def IteT (K : PySem.W.Frag) (a : Addr) : It :=
  ⟨fun i H => ∃ (vs : List V) (v : V), SqT K H a vs ∧ vs[i]? = some v,
   fun i H u H' => ∃ T v, u = .ref T ∧ H T = none ∧ H' = upd H T (.tup [.int (i : Nat), v]) ∧ ∀ vs, SqT K H a vs → vs[i]? = some v,
   fun i H => ∃ vs : List V, SqT K H a vs ∧ vs.length ≤ i⟩
def EnT (a e it : Addr) (i : Nat) (h : Heap) : Prop := (∃ old, IsEnum h e it ((i : Nat) : Int) old) ∧ h.IsTupleIter it a i ∧ e ≠ it
theorem turn_enumT {P : Program} {w : World} {K : PySem.W.Frag} {elts : List Expr} {kk : Nat} {tpos : Pos} (a e it : Addr) : Turn P w K (.Tuple elts kk tpos) (IteT K a) [e, it] e (EnT a e it) where
  mem := List.mem_cons_self
  obj := by
    rintro i h ⟨⟨old, h1⟩, ⟨o, h2, h3, h4⟩, _⟩ b hb
    rcases List.mem_cons.mp hb with q | q
    · exact ⟨_, q ▸ h1, fun v z => by cases z⟩
    · exact ⟨o, (List.mem_singleton.mp q) ▸ h2, fun v z => by rw [h4] at z; cases z⟩
  keep := by
    rintro i h h' ⟨⟨old, h1⟩, ⟨o, h2, h3, h4⟩, hne⟩ k
    exact ⟨⟨old, k e List.mem_cons_self _ h1⟩, ⟨o, k it (by simp) _ h2, h3, h4⟩, hne⟩
  item := by
    intro X hP hw hK hc i pins s σ H E I hf st ⟨vs, v, hq, hv⟩
    subst hP hw hK
    obtain ⟨⟨old, h1⟩, h2, hne⟩ := st
    obtain ⟨its, rv, p, hz⟩ := I.tuple hq
    obtain ⟨u, hu, ru⟩ := rv.get hv
    have hit : a ≠ it := fun z => by
      obtain ⟨o1, q1, q2, _⟩ := h2
      obtain ⟨o2, q3, q4, _⟩ := p
      rw [z, q1] at q3
      cases q3
      rw [q2] at q4
      exact absurd q4 (by decide)
    have hE : e ≠ a := fun z => by
      obtain ⟨o2, q3, q4, _⟩ := p
      have q1 := h1
      rw [z] at q1
      have q5 := Option.some.inj (q1.symm.trans q3)
      rw [← q5] at q4
      have q4 : Value.type "enumerate" = Value.type "tuple" := q4
      exact absurd q4 (by decide)
    have D := Draws.tuple (prog := X.prog) (w := X.w) (A := X.A.in1) (I.ok.hd hc) it a hit its.toArray
    have lt1 : e < s.heap.objs.size := Heap.lt_size h1
    have lt2 : it < s.heap.objs.size := let ⟨_, q, _⟩ := h2; Heap.lt_size q
    have hi : i < its.toArray.size := by
      rw [List.size_toArray]
      exact (List.getElem?_eq_some_iff.mp hu).1
    refine wpAny_pyNext_enum_itemC D h1 ⟨h2, p⟩ hi hne (by simp [hne, hE]) fun x h' tk hP ho hs hT hsz hk => ?_
    have ex : x = u := by
      have q : its[i]? = some x := by simpa using hP
      rw [q] at hu
      exact Option.some.inj hu
    subst ex
    refine ⟨_, rfl, wpAny_letOwnedTupleGo_enum (s := { s with heap := h', toks := tk + 1 }) ho fun h2' he' sb => ?_⟩
    have hT2 : h2'.get? s.heap.objs.size = some { cls := .type "tuple", data := .seq #[.int i tk, x] } := (sb.2 _ (Nat.ne_of_gt lt1)).trans hT
    have new : ObjOk X.prog X.w (upd H s.heap.objs.size (.tup [.int (i : Nat), v])) h2' s.heap.objs.size (.tup [.int (i : Nat), v]) := ⟨Nat.le_of_lt (by show 2 < sizeLine; decide), [.int i tk, x], .cons ⟨_, rfl⟩ (.cons ru .nil), _, hT2, rfl, _, rfl⟩
    have kept : ∀ b ob, b ∉ [e, it] → s.heap.get? b = some ob → h2'.get? b = some ob := fun b ob hb q => by
      have b1 : b ≠ e := fun z => hb (by simp [z])
      have b2 : b ≠ it := fun z => hb (by simp [z])
      exact (sb.2 b b1).trans (hk b ob b1 b2 q)
    have I1 : Inv X pins σ (upd H s.heap.objs.size (.tup [.int (i : Nat), v])) { s with heap := h2', toks := tk + 1 } := I.turnedNew (ch := [e, it]) kept hf (Nat.le_refl _) new
    refine ⟨.ref s.heap.objs.size, _, I1, rfl, ⟨_, v, rfl, I.hok.fresh (Nat.le_refl _), rfl, fun ys hy => by rw [I.tuple_inj hy hq]; exact hv⟩, ⟨⟨x, ?_⟩, ?_, hne⟩, fun b hb => ?_⟩
    · rw [show ((i + 1 : Nat) : Int) = (i : Int) + 1 from by omega]
      exact he'
    · obtain ⟨o, q1, q2⟩ := hs.1
      exact ⟨o, (sb.2 it (Ne.symm hne)).trans q1, q2⟩
    · have hb' : b < s.heap.objs.size := by
        rcases List.mem_cons.mp hb with z | z
        · exact z ▸ lt1
        · exact (List.mem_singleton.mp z) ▸ lt2
      rw [upd_ne (Nat.ne_of_lt hb')]
      exact (hf b hb).1
  done := by
    intro X hP hw hK hc i pins s σ H E I hf st ⟨vs, hq, hv⟩
    subst hP hw hK
    obtain ⟨⟨old, h1⟩, h2, hne⟩ := st
    obtain ⟨its, rv, p, hz⟩ := I.tuple hq
    obtain ⟨f0, f1, f2, f3, f4, f5⟩ := hf it (by simp)
    have hl := rv.length
    have ty : s.TypeIs (.ref e) "enumerate" := ⟨_, h1, rfl⟩
    unfold pyNext
    refine wpAny_bind (wpAny_attempt ?_)
    refine wpAny_callSpecial?_slot (name := Str.ofString "__next__") ty F.slot_enumerate_next ?_
    refine wpAny_call_entry F.slot_enumerate_next ty F.entry_enumerate_next ?_ (F.args_enumerate_next_1 _)
    show wpAny _ _ (field (.ref e) 2 >>= fun x => _) _ _ s
    refine wpAny_bind (wpAny_field (x := .ref it) h1 rfl rfl ?_)
    refine wpAny_bind (wpAny_nextOf_tuple_end (I.ok.hd hc) h2 p (by simp; omega) fun h' x eb ⟨o, ho, hcls⟩ => ?_)
    refine wpAny_bind (wpAny_isInstance (T := "StopIteration") (b := true) ⟨o, ho, hcls⟩ isSubtype_stop (wpAny_pure ⟨rfl, ?_⟩))
    exact I.turned (t' := s.toks) (fun b o hb q => eb b o hb q) f0 f1 f3 f4 f5
  self := fun A i s Q E st h => by
    obtain ⟨⟨old, h1⟩, _⟩ := st
    exact wpAny_pyIter_enum h1 h
/-- enumerate(v) begins: the iterator of v, the enumerate object -/
abbrev enumObj (it : Addr) : Obj := { cls := .type "enumerate", data := .fields #[.none, .bool false, .ref it, rawInt 0, .none, .none] }
theorem meets_enum1 {v : Value} {o : Obj} {G : Heap → Prop} (B : Begins v o G) :
    Meets (Builtin.«enumerate.__new__» ⟨[.type "enumerate", v], []⟩) (fun _ R s => G s.heap ∧ R (.ok (.ret (.ref (s.heap.push o).objs.size))) { s with heap := (s.heap.push o).push (enumObj s.heap.objs.size) }) :=
  .of_wp fun prog w A R s ⟨g0, k0⟩ => by
    obtain ⟨h0, g0', d0, t0, o0⟩ := s
    have sub0 := sub_enumerate
    have it0 : ∀ {A' : Around} {E : Value → Shared → Prop} {Q : Value → Shared → Prop}, Q (.ref h0.objs.size) ⟨h0.push o, g0', d0, t0, o0⟩ → wpAny (model prog w) A' (pyIter v) Q E ⟨h0, g0', d0, t0, o0⟩ := fun q => B.iter prog w _ _ ⟨h0, g0', d0, t0, o0⟩ _ g0 q
    wp_walk using it0
    refine wpAny_stack_any fun st => wpAny_pure ?_
    split
    · rename_i c _ _ _ _ _
      by_cases hc : (c == Value.type "enumerate") = true
      · wp_walk using it0
        exact ⟨_, rfl, k0⟩
      · wp_walk using it0
        exact ⟨_, rfl, k0⟩
    · wp_walk using it0
      exact ⟨_, rfl, k0⟩
theorem call_enum1 {prog : Program} {w : World} {A : Around} {E : Value → Shared → Prop} {s : Shared} {v : Value} {o : Obj} {G : Heap → Prop} {Q : Value → Shared → Prop} (B : Begins v o G) (hG : G s.heap)
    (k : ∀ h', IsEnum h' (s.heap.objs.size + 1) s.heap.objs.size 0 .none → h'.get? s.heap.objs.size = some o → (∀ b ob, s.heap.get? b = some ob → h'.get? b = some ob) → Q (.ref (s.heap.objs.size + 1)) { s with heap := h' }) :
    wpAny (model prog w) A (call (.type "enumerate") [v]) Q E s := by
  refine callType_new F.called_enumerate (by decide) (F.typeCall_enumerate_1 _) (F.newCall_enumerate_1 _) (fun obj => F.args_object_init_2 obj _) F.entry_enumerate_new (meets_enum1 B) ⟨hG, ?_⟩
  have sz : (s.heap.push o).objs.size = s.heap.objs.size + 1 := Heap.size_push _ _
  have isE : IsEnum ((s.heap.push o).push (enumObj s.heap.objs.size)) (s.heap.objs.size + 1) s.heap.objs.size 0 .none := by
    have z := Heap.get?_push_size (s.heap.push o) (o := enumObj s.heap.objs.size) rfl
    rwa [sz] at z
  show _ ∧ _
  rw [sz]
  exact ⟨⟨_, isE, rfl⟩, k _ isE (Heap.get?_push_of_some _ (Heap.get?_push_size _ B.free)) fun b ob x => Heap.get?_push_of_some _ (Heap.get?_push_of_some _ x)⟩
end Mi
namespace Mi
open PySem L2 Evl
section
variable {X : Cx} {B : Bs} {env : Env} {os : Os} {pos p : Pos} {α β γ ι ρ : Type} {r : Rp α} {s : Rp β} {t : Rp γ} {e a b c o : Expr} {es : List Expr} {rest : List Stmt} {post : Post β}
section
variable {args : α × ι → Env} {wf : α × ι → W ρ} {ro : Rp ρ} {sl : ι → Env} {k : Nat} {f C g : Addr} {fd : FuncData} {ps : List Str} {m : Str} {fl : α → List (Str × Slot)} {apos : Pos}
theorem e_prop {wf : α × Unit → W ρ} {w1 : W α} {pr : Addr} (G : FnOk X.prog X.w X.K X.mg X.base CX0 k g fd ps (spW (fun q : α × Unit => [sv (rObj C fl) q.1]) (fun _ => []) wf ro)) (hr : Room (k + 1) X.A) (cl : Cls X.K C) (hp : PropOf X.K C m pr g) (hb : Binds X.K fd ps [])
    (ho : EE X B env os o (rObj C fl) w1) (hab : attributeBase o m X.env (eval o X.env) = eval o X.env := by rfl) : EE X B env os (.Attribute o m pos) ro (bnd w1 fun x => noX (wf (x, ()))) :=
  PE.imp (pe_prop ho cl hp G hr hb .nil pass0 hab) fun σ H Q ⟨F, P, S, hw, kk⟩ => ⟨F, _, S, hw, fun x hx v F1 H1 S1 e1 ⟨y, dx, vs, ev, hy, hf⟩ => by
    subst ev
    refine ⟨y, dx, vs, rfl, S1.fh _ _ hy, (x, ()), F1, P, S1.fh, .cons ⟨_, rfl, y, dx, vs, rfl, hy, hf⟩ .nil, fun z hz => (by cases hz), List.nodup_nil, hx, fun z hz v F' H' fn ow okz => ?_⟩
    exact kk z hz v F' H' (S1.back OsLe.none fn ow) (e1.trans fn.bf) okz⟩
end
/-- what type all of a kind have -/
def TyR (K : PySem.W.Frag) {α : Type} (r : Rp α) (t : Value) : Prop := ∀ (F H : Hp) (v : V) (x : α), r.ok F v x → Ex F H → TyX K H v t
theorem ty_int {K : PySem.W.Frag} : TyR K rInt (.type "int") := fun F H v x e _ => by
  have e : v = .int x := e
  rw [e]
  exact .base (.int x)
theorem ty_obj {K : PySem.W.Frag} {C : Addr} {fl : α → List (Str × Slot)} (c : C8.InsC K C) : TyR K (rObj C fl) (.ref C) := fun F H v x ⟨a, dx, vs, e, h, _⟩ q => by
  rw [e]
  exact .base (.ins (q _ _ h) c.cl c.ha c.hn c.htk c.hm)
theorem kit_refl {K : PySem.W.Frag} {C : Addr} : PySem.W.kitOne K (.ref C) (.ref C) = some true := by
  unfold PySem.W.kitOne
  rw [if_pos (by simp)]
theorem kit_down {K : PySem.W.Frag} {C : Addr} {t : Value} {k : Bool} (ht : PySem.W.typeIn K (.ref C) = some (.type "type")) (hc : PySem.W.isClsIn K C = true) (hs : PySem.W.subIn K t (.ref C) = some k) (hne : (t == Value.ref C) = false) : PySem.W.kitOne K t (.ref C) = some k := by
  unfold PySem.W.kitOne
  rw [if_neg (by rw [hne]; decide)]
  unfold PySem.W.kitCls
  dsimp only
  rw [if_pos (by rw [ht, show (PySem.W.clsIn K C).isSome = true from hc]; rfl)]
  exact hs
/-- isinstance(e, T), T a built-in type -/
theorem e_isB {w : W α} {t : Value} {x : Str} {T : String} {k : Bool} {p1 p2 : Pos} (ty : TyR X.K r t) (hk : PySem.W.kitOne X.K t (.type T) = some k) (ha : EE X B env os a r w) (hm : X.mg "isinstance" = none) (hx : X.mg x = none)
    (hv : bootBuiltins x = some (.type T) := by decide +kernel) (hn : x ≠ "__name__" := by decide) (hd : (x == ("__debug__" : Str)) = false := by decide)
    (hg : Gl X "isinstance" := by rfl) (hgx : Gl X x := by rfl) (hs : starEach [a, .Name x p2] X.env = (false, eval a X.env) :: starEach [.Name x p2] X.env := by rfl) (hs2 : starEach [.Name x p2] X.env = (false, eval (.Name x p2) X.env) :: starEach [] X.env := by rfl) (hpl : (backTo pos (starEach [.Name x p2] X.env)).any (·.1) = false := by rfl) :
    EE X B env os (.Call (.Name "isinstance" p1) [a, .Name x p2] [] pos) rBool (bnd w fun _ => ret k) :=
  PE.imp (pe_callB call_isi hg hm (by decide +kernel) (pa_cons ha (pa_cons (pe_bltn (v := .ty T) hgx hx hv rfl hn hd) pa_nil hs2) hs) (by decide) (by decide) hs hpl) fun σ H Q ⟨F, P, S, hw, kk⟩ => ⟨F, _, S, hw, fun x hx v F1 H1 S1 e1 ok =>
    ⟨v, .ty T, t, .type T, k, rfl, .ty T, ty F1 H1 v x ok S1.fh, hk, kk k hx (.bl k) F1 H1 S1 e1 rfl⟩⟩
/-- isinstance(e, C), C an own class -/
theorem e_isC {w : W α} {t : Value} {x : Str} {C : Addr} {k : Bool} {p1 p2 : Pos} (ty : TyR X.K r t) (hk : PySem.W.kitOne X.K t (.ref C) = some k) (ha : EE X B env os a r w) (hm : X.mg "isinstance" = none) (hx : X.mg x = some (.ref C)) (hd : (x == ("__debug__" : Str)) = false := by decide)
    (hg : Gl X "isinstance" := by rfl) (hgx : Gl X x := by rfl) (hs : starEach [a, .Name x p2] X.env = (false, eval a X.env) :: starEach [.Name x p2] X.env := by rfl) (hs2 : starEach [.Name x p2] X.env = (false, eval (.Name x p2) X.env) :: starEach [] X.env := by rfl) (hpl : (backTo pos (starEach [.Name x p2] X.env)).any (·.1) = false := by rfl) :
    EE X B env os (.Call (.Name "isinstance" p1) [a, .Name x p2] [] pos) rBool (bnd w fun _ => ret k) :=
  PE.imp (pe_callB call_isi hg hm (by decide +kernel) (pa_cons ha (pa_cons (pe_glob (v := .ref C) hgx hx rfl hd) pa_nil hs2) hs) (by decide) (by decide) hs hpl) fun σ H Q ⟨F, P, S, hw, kk⟩ => ⟨F, _, S, hw, fun x hx v F1 H1 S1 e1 ok =>
    ⟨v, .ref C, t, .ref C, k, rfl, .own C, ty F1 H1 v x ok S1.fh, hk, kk k hx (.bl k) F1 H1 S1 e1 rfl⟩⟩
end
end Mi
namespace Mi
open PySem L2 Evl
section
variable {X : Cx} {B : Bs} {env : Env} {os : Os} {pos p : Pos} {α β γ : Type} {r : Rp α} {s : Rp β} {e a b c tg : Expr} {es : List Expr} {rest : List Stmt} {post : Post β}
theorem t_chain {op op' : CmpOp} {q q' : R2} {f g : Int → Int → Bool} {w1 : W Int} {w2 w3 : Int → W Int} (ho : OpR X (compareOp op) q) (ho' : OpR X (compareOp op') q') (sf : R2T q rInt rInt rBool fun x y => ret (f x y)) (sg : R2T q' rInt rInt rBool fun x y => ret (g x y))
    (ha : EE X B env os a rInt w1) (hb : ∀ x, EE X B env os b rInt (w2 x)) (hc : ∀ y, EE X B env os c rInt (w3 y)) (hm : lastMarks [op, op'] [b, c] = false := by with_unfolding_all rfl) :
    ET X B env os (.Compare a [op, op'] [b, c] pos) (bnd w1 fun x => bnd (w2 x) fun y => if f x y = true then bnd (w3 y) fun z => ret (g y z) else ret false) :=
  PT.imp (pt_chain ho ho' ha (PE.ex hb) (PE.ex hc) hm) fun σ H Q ⟨F, P, S, hw, k⟩ => ⟨F, _, S, hw, fun x hx v F1 H1 S1 e1 ok1 => ⟨x, F1, _, S1, hx, fun y hy u F2 H2 S2 e2 ok2 => by
  refine sf F2 H2 v u x y (fun b => b = f x y) B.E0 _ S2.fh ok1 ok2 rfl fun d hd v' F' H' gr okd => ?_
  subst hd
  refine ⟨f x y, okd, ?_⟩
  have hy : (if f x y = true then bnd (w3 y) fun z => ret (g y z) else ret false : W Bool) P B.E0 := hy
  by_cases h : f x y = true
  · rw [if_pos h] at hy
    rw [if_pos h]
    refine ⟨y, F', _, S2.grow gr, hy, fun z hz u3 F3 H3 S3 e3 ok3 => ?_⟩
    refine sg F3 H3 u u3 y z (fun b => P b) B.E0 _ S3.fh (by have e : u = .int y := ok2; exact e) ok3 hz fun d hd v4 F4 H4 gr4 ok4 => ?_
    exact ⟨d, ok4, k d hd F4 H4 (S3.grow gr4) ((((e1.trans e2).trans gr.f).trans e3).trans gr4.f)⟩
  · rw [if_neg h] at hy
    rw [if_neg h]
    exact ⟨false, rfl, k false hy F' H' (S2.grow gr) ((e1.trans e2).trans gr.f)⟩⟩⟩
end
end Mi
namespace Mi
open PySem L2 Evl
section
variable {α β γ S : Type}
/-- what a text shows -/
theorem hex_ok (c : Nat) : ∀ d ∈ (Nat.toDigits 16 c).map Char.toNat, d < 0x110000 := fun d hd => by
  obtain ⟨ch, _, rfl⟩ := List.mem_map.mp hd
  have := ch.valid
  unfold Char.toNat
  rcases this with h | ⟨_, h⟩
  · exact Nat.lt_trans h (by decide)
  · exact h
theorem reprChar_ok {q c : Nat} (hc : c < 0x110000) : ∀ d ∈ Builtin.Str.reprChar q c, d < 0x110000 := by
  intro d hd
  have small : ∀ {l : List Nat}, (∀ x ∈ l, x < 0x110000) → d ∈ l → d < 0x110000 := fun h m => h d m
  unfold Builtin.Str.reprChar at hd
  have hexs : ∀ (n : Nat), d ∈ List.replicate n 48 ++ (Nat.toDigits 16 c).map Char.toNat → d < 0x110000 := fun n m => by
    rcases List.mem_append.mp m with m | m
    · rw [(List.mem_replicate.mp m).2]
      decide
    · exact hex_ok c d m
  dsimp only at hd
  split at hd
  · exact small (fun x hx => by simp at hx; rcases hx with rfl | rfl <;> omega) hd
  · split at hd
    · exact small (fun x hx => by simp at hx; rcases hx with rfl | rfl <;> decide) hd
    · split at hd
      · exact small (fun x hx => by simp at hx; rcases hx with rfl | rfl <;> decide) hd
      · split at hd
        · exact small (fun x hx => by simp at hx; rcases hx with rfl | rfl <;> decide) hd
        · split at hd
          · rw [List.mem_singleton.mp hd]
            exact hc
          · split at hd
            · rcases List.mem_append.mp hd with m | m
              · exact small (fun x hx => by simp at hx; rcases hx with rfl | rfl <;> decide) m
              · exact hexs _ m
            · split at hd
              · rcases List.mem_append.mp hd with m | m
                · exact small (fun x hx => by simp at hx; rcases hx with rfl | rfl <;> decide) m
                · exact hexs _ m
              · rcases List.mem_append.mp hd with m | m
                · exact small (fun x hx => by simp at hx; rcases hx with rfl | rfl <;> decide) m
                · exact hexs _ m
theorem reprText_okS {x : Str} (h : PyData.strOk x = true) : PyData.strOk (reprText x) = true := by
  have hx : ∀ c ∈ x.cps.toList, c < 0x110000 := fun c hc => by
    unfold PyData.strOk at h
    rw [← Array.all_toList, List.all_eq_true] at h
    exact of_decide_eq_true (h c hc)
  have hq : reprQuote x < 0x110000 := by
    unfold reprQuote
    split <;> decide
  have acc : ∀ (l : List Nat) (a : Array Nat), (∀ c ∈ l, c < 0x110000) → (∀ c ∈ a.toList, c < 0x110000) → ∀ c ∈ (l.foldl (fun out c => out ++ (Builtin.Str.reprChar (reprQuote x) c).toArray) a).toList, c < 0x110000 := by
    intro l
    induction l with
    | nil => exact fun a _ h2 => h2
    | cons c l ih =>
      intro a h1 h2
      refine ih _ (fun d hd => h1 d (List.mem_cons_of_mem _ hd)) fun d hd => ?_
      simp only [Array.toList_append] at hd
      rcases List.mem_append.mp hd with m | m
      · exact h2 d m
      · exact reprChar_ok (h1 c List.mem_cons_self) d m
  unfold PyData.strOk
  rw [← Array.all_toList, List.all_eq_true]
  intro d hd
  refine decide_eq_true ?_
  unfold reprText at hd
  rw [Array.toList_push, ← Array.foldl_toList] at hd
  rcases List.mem_append.mp hd with m | m
  · exact acc _ _ hx (fun c hc => by simp at hc; rw [hc]; exact hq) d m
  · rw [List.mem_singleton.mp m]
    exact hq
theorem Shw.str {x : Str} {n : Nat} (h : PyData.strOk x = true) (hn : x.length ≤ n) : Shw (.str x) (10 * n + 2) := by
  refine ⟨by simp [PyData.showable], ?_, ?_⟩
  · rw [PyData.shown]
    have hx : ∀ c ∈ x.cps.toList, c < 16 ^ 8 := fun c hc => by
      unfold PyData.strOk at h
      rw [← Array.all_toList, List.all_eq_true] at h
      have := of_decide_eq_true (h c hc)
      omega
    have := StrLaws.reprText_len x hx
    omega
  · rw [PyData.shown]
    exact reprText_okS h
end
end Mi
namespace Mi
open PySem L2 Evl NdefX
open PyProof.Rows (envOfC)
section
variable {P : Program} {w : World} {K : PySem.W.Frag} {mg : Str → Option Value} {base : Heap} {C f cc : Addr} {F : NF} {fd : FuncData} {N ps : List Str}
theorem loadName_blt {X : Cx} {E : Value → Shared → Prop} {pins : List (Addr × Obj)} {s : Shared} {σ : L2.St} {H : Hp} {x : Str} {u : Value} {Q : Value → Shared → Prop} (I : Inv X pins σ H s) (hg : X.env.kindOf x = some .globalImplicit) (hm : X.mg x = none) (hv : bootBuiltins x = some u) (h : Q u s)
    (hn : x ≠ "__name__" := by decide) : wpAny (model X.prog X.w) X.A (loadName X.env x) Q E s := by
  obtain ⟨mb, h1, h2⟩ := I.mod.blt
  exact PySem.W.ks_loadName_global I.ok.kind hg (Calls.loadGlobal_builtin (by rw [I.ok.glob]; exact I.mod.glob.keeps I.bk) hm (by rw [I.ok.blt]; exact h1.keeps I.bk) ((h2 x hn).trans hv) h)
/-- what an own exception's __init__ with one field leaves -/
def spE1 (C : Addr) (f1 code : Str) : Sp := fun vs H Q _ => ∃ (a : Addr) (x : V), vs = [.ref a, x] ∧ H a = some (exo a C none) ∧ ∀ dx, H dx = none → dx ≠ a → Q .non (upd (upd (upd H dx (exd dx [(f1, x)])) a (exo a C (some dx))) dx (exd dx [("code", .str code), (f1, x)]))
/-- the first statement's form -/
structure SupOk (F : NF) (f : Addr) (e : Expr) (t : Str) (pos : Pos) : Prop where
  ok : ∃ (j : Nat) (p0 p1 p2 p3 p4 : Pos), e = .Call (.Attribute (.Call (.Name "super" p0) [] [] p1) "__init__" p2) [.Constant (.str t) j p3] [] p4 ∧ ∀ L : Addr,
    (∃ pl : Sem Bool, eval (.Call (.Attribute (.Call (.Name "super" p0) [] [] p1) "__init__" p2) [.Constant (.str t) j p3] [] p4) (envF F f L) = (do
      let ov ← attributeBase (.Call (.Name "super" p0) [] [] p1) "__init__" (envF F f L) (eval (.Call (.Name "super" p0) [] [] p1) (envF F f L))
      standAt p2.atName
      let (f', first) ← holding [ov] (getMethod ov "__init__" pl)
      callWith p4 f' first (backTo p4 (starEach [.Constant (.str t) j p3] (envF F f L))) [])) ∧ interactive (envF F f L) = false ∧ swapsWith e none pos.line (envF F f L) = pure false
end
end Mi
namespace Mi
open PySem L2 Evl NdefX
open PyProof.Rows (envOfC)
end Mi
namespace PySem.W
open PySem PySem.Spec PySem.Calls PyProof.Rows
/-- a lambda's words, its defaults at dV -/
abbrev lmFn (q : Str) (params : Arguments) (body : Expr) (scope : Scope) (cl : List (Str × Addr)) (dV pm cdv ct : Value) : FuncData :=
  { name := "<lambda>", qualname := q, params, body := .expr body, scope, globals := mainGlobals, closure := cl, defaults := dV, kwdefaults := .none, doc := .none, pyModule := pm, annotations := none, code := cdv, closureTuple := ct, builtins := builtinsNs }
section
variable {M : Model} {A : Around} {E : Value → Shared → Prop} {s : Shared} {name qual : Str} {params : Arguments} {body : Expr} {scope : Scope} {env : Env} {c P : Addr} {ps : Array Value} {pos : Pos} {firstLine : Nat} {mg : Str → Option Value}
  {clos : List (Str × Addr)} {Q : Value → Shared → Prop} {dV : Value}
theorem lm_makeTail (hcl : closureFor scope env = pure clos) (hge0 : env.globals = mainGlobals) (hg : s.heap.Ns mainGlobals mg) (hcode : env.code = .ref c) (C : CodeHd s.heap c P) (hP : s.heap.get? P = some (tabObj ps)) (ht : TriplesOk ps.toList)
    (hnf : codeAmong pos ps.toList = none) (hgP : mainGlobals ≠ P) (hb : s.heap.BuiltinsAt mg P)
    (h : ∀ c' ctv h' tk, Heap.ExtBut P s.heap h' → s.heap.objs.size ≤ c' → c' < h'.objs.size → h'.CodeRec (.ref c') qual → h'.get? P = some (tabObj (ps ++ #[rawInt pos.line, rawInt pos.col, .ref c'])) →
      Q (.ref h'.objs.size) { s with heap := h'.push { cls := .type "function", data := .func (lmFn qual params body scope clos dV ((mg "__name__").getD .none) (.ref c') ctv) }, toks := tk }) :
    wpAny M A (makeTail "<lambda>" qual params (.expr body) scope env dV .none none pos firstLine) Q E s := by
  obtain ⟨bm, ob, hbm, hne0, _, hneP, hbo, hcls, hdict, hdata⟩ := hb
  unfold makeTail
  rw [hcl, hge0]
  refine wpAny_bind (wpAny_pure ?_)
  cases clos with
  | nil =>
    simp only [List.isEmpty_nil, if_true]
    refine wpAny_bind (wpAny_pure ?_)
    refine wpAny_bind (wpAny_functionCodeX hcode (C.code hP ht) (C.tab hP) hnf fun c' h' tk hx hge hlt _ hrec htb _ => ?_)
    have hg' := hg.extBut hx hgP
    refine wpAny_bind (wpAny_builtinsFor hg' hbm hne0 (hx _ _ hneP hbo) hcls hdict hdata ?_)
    refine wpAny_bind (wpAny_nsGet hg' ?_)
    exact wpAny_bind (wpAny_pure (wpAny_newObj_type (h c' .none h' tk hx hge hlt hrec htb.2) (by size_fits)))
  | cons q r =>
    simp only [List.isEmpty_cons, Bool.false_eq_true, if_false]
    refine wpAny_bind (wpAny_newTextTuple ?_)
    refine wpAny_bind (wpAny_functionCodeX hcode ((C.keeps fun b o e => Heap.get?_push_of_some _ e).code (Heap.get?_push_of_some _ hP) ht) ((C.keeps fun b o e => Heap.get?_push_of_some _ e).tab (Heap.get?_push_of_some _ hP)) hnf fun c' h' tk hx hge hlt _ hrec htb _ => ?_)
    have hg' := (hg.push _).extBut hx hgP
    have hx' : Heap.ExtBut P s.heap h' := fun b o hb' e => hx b o hb' (Heap.get?_push_of_some _ e)
    have hge' : s.heap.objs.size ≤ c' := Nat.le_trans (by rw [Heap.size_push]; omega) hge
    refine wpAny_bind (wpAny_builtinsFor hg' hbm hne0 (hx' _ _ hneP hbo) hcls hdict hdata ?_)
    refine wpAny_bind (wpAny_nsGet hg' ?_)
    exact wpAny_bind (wpAny_pure (wpAny_newObj_type (h c' _ h' tk hx' hge' hlt hrec htb.2) (by size_fits)))
theorem lm_makeTailHit {cv : Value} (hcl : closureFor scope env = pure clos) (hge0 : env.globals = mainGlobals) (hg : s.heap.Ns mainGlobals mg) (hcode : env.code = .ref c) (C : CodeHd s.heap c P) (hP : s.heap.get? P = some (tabObj ps)) (ht : TriplesOk ps.toList)
    (hf : codeAmong pos ps.toList = some cv) (hb : s.heap.BuiltinsAt mg P)
    (h : ∀ (ctv : Value) (h' : Heap) (tk : Tok), (∀ b o, s.heap.get? b = some o → h'.get? b = some o) → s.heap.objs.size ≤ h'.objs.size →
      Q (.ref h'.objs.size) { s with heap := h'.push { cls := .type "function", data := .func (lmFn qual params body scope clos dV ((mg "__name__").getD .none) cv ctv) }, toks := tk }) :
    wpAny M A (makeTail "<lambda>" qual params (.expr body) scope env dV .none none pos firstLine) Q E s := by
  obtain ⟨bm, ob, hbm, hne0, _, hneP, hbo, hcls, hdict, hdata⟩ := hb
  unfold makeTail
  rw [hcl, hge0]
  refine wpAny_bind (wpAny_pure ?_)
  cases clos with
  | nil =>
    simp only [List.isEmpty_nil, if_true]
    refine wpAny_bind (wpAny_pure ?_)
    refine wpAny_bind (wpAny_functionCode_hit hcode (C.code hP ht) hf ?_)
    refine wpAny_bind (wpAny_builtinsFor hg hbm hne0 hbo hcls hdict hdata ?_)
    refine wpAny_bind (wpAny_nsGet hg ?_)
    exact wpAny_bind (wpAny_pure (wpAny_newObj_type (h .none s.heap s.toks (fun _ _ e => e) (Nat.le_refl _)) (by size_fits)))
  | cons q r =>
    simp only [List.isEmpty_cons, Bool.false_eq_true, if_false]
    refine wpAny_bind (wpAny_newTextTuple ?_)
    refine wpAny_bind (wpAny_functionCode_hit hcode ((C.keeps fun b o e => Heap.get?_push_of_some _ e).code (Heap.get?_push_of_some _ hP) ht) hf ?_)
    refine wpAny_bind (wpAny_builtinsFor (hg.push _) hbm hne0 (Heap.get?_push_of_some _ hbo) hcls hdict hdata ?_)
    refine wpAny_bind (wpAny_nsGet (hg.push _) ?_)
    have hsz : ∀ oT : Obj, s.heap.objs.size ≤ (s.heap.push oT).objs.size := fun oT => by rw [Heap.size_push]; omega
    exact wpAny_bind (wpAny_pure (wpAny_newObj_type (h _ _ s.toks (fun b o e => Heap.get?_push_of_some _ e) (hsz _)) (by size_fits)))
end
end PySem.W
namespace Mi
open PySem L2 Evl LamX
open PyProof.Rows (envOfC)
/-- a lambda's object at g -/
structure LamD where
  q : Str
  params : Arguments
  body : Expr
  scope : Scope
  cl : List (Str × Addr)
def LamO (g c' : Addr) (D : LamD) (dV : Value) : HO := .ext fun h => ∃ (pm ctv : Value), h.get? g = some ({ cls := .type "function", data := .func (PySem.W.lmFn D.q D.params D.body D.scope D.cl dV pm (.ref c') ctv) } : Obj)
/-- the table of the running def's lambdas -/
def oTab (q : Str) : Own := ⟨fun F o => ∃ ps : Array Value, o = .tbl ps ∧ TriplesOk ps.toList ∧ ∀ (pos : Pos) (cv : Value), codeAmong pos ps.toList = some cv → ∃ c, cv = .ref c ∧ F c = some (CodeO c q), fun e ⟨ps, h1, h2, h3⟩ => ⟨ps, h1, h2, fun pos cv h => let ⟨c, a, b⟩ := h3 pos cv h; ⟨c, a, e _ _ b⟩⟩⟩
/-- what the defaults are: none, or one that is 0 -/
def DfOk (F : Hp) (df : Bool) (dV : Value) : Prop := if df then ∃ td, dV = .ref td ∧ F td = some (.tup [.int 0]) else dV = .none
/-- a lambda just made, seen from the def that made it -/
def rLam (D : LamD) (df : Bool) : Rp Unit := ⟨fun F v _ => ∃ g c' dV, v = .ref g ∧ F g = some (LamO g c' D dV) ∧ F c' = some (CodeO c' D.q) ∧ DfOk F df dV, fun {F F' v x} e ⟨g, c', dV, h1, h2, h3, h4⟩ => ⟨g, c', dV, h1, e _ _ h2, e _ _ h3, by
  unfold DfOk at h4 ⊢
  cases df with
  | true =>
    obtain ⟨td, a, b⟩ := h4
    exact ⟨td, a, e _ _ b⟩
  | false => exact h4⟩⟩
theorem upd_comm {H : Hp} {a b : Addr} {o u : HO} (h : a ≠ b) : upd (upd H a o) b u = upd (upd H b u) a o := by
  funext x
  by_cases h1 : x = a
  · subst h1
    rw [upd_ne h, upd_same, upd_same]
  · rw [upd_ne h1]
    by_cases h2 : x = b
    · subst h2
      rw [upd_same, upd_same]
    · rw [upd_ne h2, upd_ne h2, upd_ne h1]
theorem lamO_ok {P : Program} {w : World} {H : Hp} {h : Heap} {g c' : Addr} {D : LamD} {dV pm ctv : Value} (e : h.get? g = some ({ cls := .type "function", data := .func (PySem.W.lmFn D.q D.params D.body D.scope D.cl dV pm (.ref c') ctv) } : Obj)) : ObjOk P w H h g (LamO g c' D dV) :=
  ⟨⟨pm, ctv, e⟩, ⟨_, e⟩, fun h1 h2 ⟨pm, ctv, z⟩ st => ⟨pm, ctv, st _ z⟩⟩
section
variable {X : Cx} {B : Bs} {env : Env} {os : Os}
/-- the making, the defaults being at hand -/
theorem lam_core {pins : List (Addr × Obj)} {s : Shared} {σ : L2.St} {F H : Hp} {Q : Value → Shared → Prop} {c P : Addr} {params : Arguments} {body : Expr} {scope : Scope} {pos : Pos} {dV : Value} {df : Bool} {j : Nat}
    (TB : TabB X.base X.mg c P) (hcode : X.env.code = .ref c) (hj : os[j]? = some (P, oTab (X.env.qual ++ "<lambda>"))) (hfree : ∀ y ∈ scope.names, y.2 = .free → ∃ c, X.env.cells.lookup y.1 = some c)
    (I : Inv X pins σ H s) (S : Sit B F H σ env os) (hd : DfOk F df dV)
    (k : ∀ g F' H' s', Inv X pins σ H' s' → Sit B F' H' σ env os → Ex F F' → (rLam ⟨X.env.qual ++ "<lambda>", params, body, scope, cloFrom X.env.cells scope.names []⟩ df).ok F' (.ref g) () → Q (.ref g) s') :
    wpAny (model X.prog X.w) X.A (makeTail "<lambda>" (X.env.qual ++ "<lambda>") params (.expr body) scope X.env dV .none none pos pos.line) Q X.xe s := by
  obtain ⟨z1, ⟨o, z2, ps, z3, ht, ha⟩, z4⟩ := S.ow _ (List.mem_of_getElem? hj)
  subst z3
  have hP : H P = some (.tbl ps) := z2
  have hP' : s.heap.get? P = some { cls := .none, data := .fields ps } := I.hok P _ hP
  have bP : s.heap.BuiltinsAt X.mg P := TB.bm.keeps I.bk
  cases hc : codeAmong pos ps.toList with
  | none =>
    refine PySem.W.lm_makeTail (mg := X.mg) (c := c) (P := P) (ps := ps) (closure_ok hfree) I.ok.glob (I.mod.glob.keeps I.bk) hcode (TB.code.keeps I.bk) hP' ht hc TB.gP bP fun c' ctv h' tk hx hge hlt hrec htb => ?_
    obtain ⟨c2, oc, vs, t, e2, hoc, hdd, hv⟩ := hrec
    cases e2
    have nC : H c' = none := I.hok.fresh hge
    have nPc : P ≠ c' := ne_of_none hP nC
    have I1 := inv_table (t' := tk) (more := #[rawInt pos.line, rawInt pos.col, .ref c']) (h' := h') I hP (fun b o hb e => hx b o hb e) htb hge ⟨oc, vs, t, hoc, hdd, hv⟩
    have g : Grow F H (upd F c' (CodeO c' (X.env.qual ++ "<lambda>"))) (upd H c' (CodeO c' (X.env.qual ++ "<lambda>"))) := Grow.alloc S.fh nC
    have S1 := S.grow g
    have eL : (ps ++ #[rawInt pos.line, rawInt pos.col, .ref c']).toList = ps.toList ++ [rawInt pos.line, rawInt pos.col, .ref c'] := by simp
    have S2 := S1.change (ow' := oTab (X.env.qual ++ "<lambda>")) (o' := .tbl (ps ++ #[rawInt pos.line, rawInt pos.col, .ref c'])) hj ⟨_, rfl, by rw [eL]; exact PySem.TriplesOk_snoc _ _ _ _ ht, fun p' cv hcv => by
      rw [eL] at hcv
      rcases among_app _ ht hcv with z | z
      · obtain ⟨c0, e1, e2⟩ := ha p' cv z
        exact ⟨c0, e1, g.f _ _ e2⟩
      · exact ⟨c', z, upd_same⟩⟩
    rw [set_same hj] at S2
    rw [upd_comm nPc] at I1
    have nF := I1.hok.fresh (Nat.le_refl _)
    have I2 := I1.laid (t' := tk) (a := h'.objs.size) (o := LamO h'.objs.size c' ⟨X.env.qual ++ "<lambda>", params, body, scope, cloFrom X.env.cells scope.names []⟩ dV) (h' := h'.push { cls := .type "function", data := .func (PySem.W.lmFn (X.env.qual ++ "<lambda>") params body scope (cloFrom X.env.cells scope.names []) dV ((X.mg "__name__").getD .none) (.ref c') ctv) })
      (fun b o e => Heap.get?_push_of_some _ e) (Nat.le_refl _) (lamO_ok (D := ⟨X.env.qual ++ "<lambda>", params, body, scope, cloFrom X.env.cells scope.names []⟩) (Heap.get?_push_size _ rfl))
    have g2 := Grow.alloc (o := LamO h'.objs.size c' ⟨X.env.qual ++ "<lambda>", params, body, scope, cloFrom X.env.cells scope.names []⟩ dV) S2.fh nF
    have S3 := S2.grow g2
    refine k _ _ _ _ I2 S3 (g.f.trans g2.f) ⟨_, c', dV, rfl, upd_same, ?_, ?_⟩
    · exact g2.f _ _ upd_same
    · unfold DfOk at hd ⊢
      cases df with
      | true =>
        obtain ⟨td, a, b⟩ := hd
        exact ⟨td, a, g2.f _ _ (g.f _ _ b)⟩
      | false => exact hd
  | some cv =>
    obtain ⟨c', e, hco⟩ := ha pos cv hc
    subst e
    refine PySem.W.lm_makeTailHit (mg := X.mg) (c := c) (P := P) (ps := ps) (closure_ok hfree) I.ok.glob (I.mod.glob.keeps I.bk) hcode (TB.code.keeps I.bk) hP' ht hc bP fun ctv h' tk hx hsz => ?_
    have I1 : Inv X pins σ H { s with heap := h', toks := tk } := I.kept hx
    have nF : H h'.objs.size = none := I1.hok.fresh (Nat.le_refl _)
    have I2 := I1.laid (t' := tk) (a := h'.objs.size) (o := LamO h'.objs.size c' ⟨X.env.qual ++ "<lambda>", params, body, scope, cloFrom X.env.cells scope.names []⟩ dV) (h' := h'.push { cls := .type "function", data := .func (PySem.W.lmFn (X.env.qual ++ "<lambda>") params body scope (cloFrom X.env.cells scope.names []) dV ((X.mg "__name__").getD .none) (.ref c') ctv) })
      (fun b o e => Heap.get?_push_of_some _ e) (Nat.le_refl _) (lamO_ok (D := ⟨X.env.qual ++ "<lambda>", params, body, scope, cloFrom X.env.cells scope.names []⟩) (Heap.get?_push_size _ rfl))
    have g2 := Grow.alloc (o := LamO h'.objs.size c' ⟨X.env.qual ++ "<lambda>", params, body, scope, cloFrom X.env.cells scope.names []⟩ dV) S.fh nF
    have S3 := S.grow g2
    refine k _ _ _ _ I2 S3 g2.f ⟨_, c', dV, rfl, upd_same, g2.f _ _ hco, ?_⟩
    unfold DfOk at hd ⊢
    cases df with
    | true =>
      obtain ⟨td, a, b⟩ := hd
      exact ⟨td, a, g2.f _ _ b⟩
    | false => exact hd
theorem e_lam0 {c P : Addr} {params : Arguments} {body : Expr} {scope : Scope} {pos : Pos} (j : Nat) (TB : TabB X.base X.mg c P) (hcode : X.env.code = .ref c) (hj : os[j]? = some (P, oTab (X.env.qual ++ "<lambda>"))) (L : ∀ y ∈ scope.names, y.2 = .free → X.env.scope.names.lookup y.1 = some .cell ∨ X.env.scope.names.lookup y.1 = some .free) (hdef : defaultsOf params X.env = ([], []) := by rfl) :
    EE X B env os (.Lambda params body scope pos) (rLam ⟨X.env.qual ++ "<lambda>", params, body, scope, cloFrom X.env.cells scope.names []⟩ false) (ret ()) :=
  ⟨fun pins s σ H Q I ⟨F, P, S, hw, k⟩ => by
    refine PySem.W.kla_eval hdef ?_
    rw [makeFunction_eq]
    simp only [List.zip_nil_right, List.filterMap_nil, List.isEmpty_nil, if_true, pure_bind]
    exact lam_core (df := false) TB hcode hj (fun y hy e => (L y hy e).elim (fun z => I.ok.has _ (.inl z)) fun z => I.ok.has _ (.inr z)) I S rfl fun g F' H' s' I' S' e ok => ⟨.ref g, H', I', rfl, k () hw _ F' H' S' e ok⟩⟩
theorem e_lam1 {c P : Addr} {params : Arguments} {body : Expr} {scope : Scope} {pos dp : Pos} {di : Nat} (j : Nat) (TB : TabB X.base X.mg c P) (hcode : X.env.code = .ref c) (hj : os[j]? = some (P, oTab (X.env.qual ++ "<lambda>"))) (L : ∀ y ∈ scope.names, y.2 = .free → X.env.scope.names.lookup y.1 = some .cell ∨ X.env.scope.names.lookup y.1 = some .free)
    (hdef : defaultsOf params X.env = ([eval (.Constant (.int 0) di dp) X.env], []) := by rfl) :
    EE X B env os (.Lambda params body scope pos) (rLam ⟨X.env.qual ++ "<lambda>", params, body, scope, cloFrom X.env.cells scope.names []⟩ true) (ret ()) :=
  ⟨fun pins s σ H Q I ⟨F, P, S, hw, k⟩ => by
    rw [arm_eval_Lambda, hdef]
    show wpAny _ _ (do let dv ← evalAll [eval (.Constant (.int 0) di dp) X.env]; let kdv ← holding dv (evalAllOpt []); makeFunction "<lambda>" (X.env.qual ++ "<lambda>") params (.expr body) scope X.env dv kdv [] pos pos.line) _ _ _
    refine wpAny_bind ?_
    unfold evalAll
    refine wpAny_bind (thn (pe_int.run pins s σ H (fun v H1 => v = .int 0 ∧ H1 = H) I ⟨rfl, rfl⟩) fun u s1 ⟨v, H1, I1, r1, e1, e2⟩ => ?_)
    subst e1 e2
    unfold evalAll
    refine wpAny_bind (wpAny_holding (wpAny_pure (wpAny_pure ?_)))
    refine wpAny_bind (wpAny_holding (wpAny_pure ?_))
    rw [makeFunction_eq]
    simp only [List.zip_nil_right, List.filterMap_nil, List.isEmpty_nil, List.isEmpty_cons, if_true, pure_bind]
    refine wpAny_bind ?_
    refine wpAny_newTextTuple ?_
    have nT : H1 s1.heap.objs.size = none := I1.hok.fresh (Nat.le_refl _)
    have I2 := I1.laid (t' := s1.toks) (a := s1.heap.objs.size) (o := .tup [.int 0]) (h' := s1.heap.push { cls := .type "tuple", data := .seq [u].toArray }) (fun b o e => Heap.get?_push_of_some _ e) (Nat.le_refl _)
      ⟨by show 1 ≤ sizeLine; rw [sizeLine_eq]; omega, [u], .cons r1 .nil, by
        exact ⟨_, Heap.get?_push_size _ rfl, rfl, _, rfl⟩⟩
    have g := Grow.alloc (o := .tup [.int 0]) S.fh nT
    have S2 := S.grow g
    refine lam_core (df := true) TB hcode hj (fun y hy e => (L y hy e).elim (fun z => I.ok.has _ (.inl z)) fun z => I.ok.has _ (.inr z)) I2 S2 ⟨_, rfl, upd_same⟩ fun gg F' H' s' I' S' e ok => ⟨.ref gg, H', I', rfl, k () hw _ F' H' S' (g.f.trans e) ok⟩⟩
end
end Mi
namespace Mi
open PySem L2 Evl
open PyProof.Rows (envOfC)
/-- own exceptions: the code, the class, the name of the field beside the code -/
abbrev ETab := List (String × Addr × Option Str)
def ErAt (K : PySem.W.Frag) (tb : ETab) (F : Hp) (e : Er) (cls : Value) (d : Option Addr) : Prop :=
  ∃ (C : Addr) (fo : Option Str) (dd : Addr) (fs : List (Str × V)), (e.cls, C, fo) ∈ tb ∧ cls = .ref C ∧ d = some dd ∧ F dd = some (.xd fs) ∧ fs.lookup ("code" : Str) = some (V.str (Str.ofString e.cls)) ∧
    (match fo with | none => e.vals = [] | some f => ∃ (v : V) (x : PyData), e.vals = [x] ∧ fs.lookup f = some v ∧ (rD K).ok F v x)
theorem ErAt.mono {K : PySem.W.Frag} {tb : ETab} {F F' : Hp} {e : Er} {cls : Value} {d : Option Addr} (x : Ex F F') (h : ErAt K tb F e cls d) : ErAt K tb F' e cls d := by
  obtain ⟨C, fo, dd, fs, h1, h2, h3, h4, h5, h6⟩ := h
  refine ⟨C, fo, dd, fs, h1, h2, h3, x _ _ h4, h5, ?_⟩
  cases fo with
  | none => exact h6
  | some f =>
    obtain ⟨v, y, a, b, c⟩ := h6
    exact ⟨v, y, a, b, (rD K).mono x c⟩
/-- the wish of what is raised -/
def eB (K : PySem.W.Frag) (tb : ETab) (B : Bs) : XK := fun cls d H => ∃ e F, B.E0 e ∧ Fn (B.at B.F) F H ∧ ErAt K tb F e cls d
abbrev wB (K : PySem.W.Frag) (tb : ETab) (B : Bs) : WX := fun cls d _ H => eB K tb B cls d H
theorem Fn.low {B : Bs} {F H : Hp} (s : Fn B F H) : Fn (B.at B.F) F H := ⟨s.fh, s.bf, s.bf, s.bb, s.ios, s.keep⟩
/-- behind a call that raised: the caller's base -/
theorem Sit.backE {B : Bs} {F F' H H' : Hp} {σ : L2.St} {env : Env} {os osf : Os} (S : Sit B F H σ env os) (ho : OsLe os osf) (fn : Fn (bs0 F H osf) F' H') : Fn (B.at B.F) F' H' := by
  have e : Ex F F' := fn.bf
  have apart : ∀ a, (∀ p ∈ osf, p.1 ≠ a) → a ∉ osf.map (·.1) := fun a h hm => by
    obtain ⟨p, hp, ep⟩ := List.mem_map.mp hm
    exact h p hp ep
  refine ⟨fn.fh, S.fin.bf.trans e, S.fin.bf.trans e, S.fin.bb, fun a ha => ?_, fun a o h1 h2 h3 => ?_⟩
  · obtain ⟨o, hoa⟩ := S.fin.ios a ha
    by_cases hm : a ∈ osf.map (·.1)
    · exact fn.ios a hm
    · cases ef : F a with
      | none => exact ⟨o, (fn.keep a o ef hoa hm).1⟩
      | some u => exact ⟨u, fn.fh a u (e a u ef)⟩
  · obtain ⟨k1, k2⟩ := S.fin.keep a o h1 h2 h3
    refine fn.keep a o k2 k1 (apart a fun p hp ep => ?_)
    rcases (S.ow p (ho p hp)).2.2 with q | q
    · rw [ep, h2] at q
      cases q
    · exact h3 (ep ▸ q)
/-- a def's promise that may raise -/
def spX (K : PySem.W.Frag) (tb : ETab) {ι ρ : Type} (args : ι → Env) (os : ι → Os) (w : ι → W ρ) (ro : Rp ρ) : Sp := fun vs H Q E => ∃ (i : ι) (F : Hp) (P : ρ → Prop) (PE : Er → Prop), Ex F H ∧ EnvOk F (args i) (vs.map some) ∧ (∀ p ∈ os i, F p.1 = none ∧ ∃ o, H p.1 = some o ∧ p.2.ok F o) ∧ ((os i).map (·.1)).Nodup ∧
  w i P PE ∧ (∀ x, P x → ∀ v F' H', Fn (bs0 F H (os i)) F' H' → OsOk (bs0 F H (os i)) F' H' (os i) → ro.ok F' v x → Q v H') ∧ ∀ e, PE e → ∀ cls d F' H', Fn (bs0 F H (os i)) F' H' → ErAt K tb F' e cls d → E cls d H'
section
variable {P : Program} {w : World} {K : PySem.W.Frag} {tb : ETab} {mg : Str → Option Value} {base : Heap} {k : Nat} {f : Addr} {fd : FuncData} {ps N : List Str} {ι ρ : Type} {args : ι → Env} {os : ι → Os} {wf : ι → W ρ} {ro : Rp ρ}
theorem spX_len (hl : ∀ i, (args i).length = ps.length) : ∀ vs H Q E, spX K tb args os wf ro vs H Q E → vs.length = ps.length := fun vs H Q E ⟨i, F, P, PE, _, he, _⟩ => by
  have := he.len
  rw [List.length_map, hl i] at this
  exact this.symm
theorem okX {x qual : Str} {st : Stmt} (F : Fun K x qual st f fd) (S : FnScope N ps (defScope st)) (hl : ∀ i, (args i).length = ps.length)
    (body : ∀ (cdv : Value) (A : Around) (outer : List PySem.Env) (s : Shared) (H : Hp) (E : XK) (B : Bs) (i : ι), Room k (A.deeper (envOfC qual (defScope st) s.heap.objs.size f cdv)) →
      Takes (cxOf (L2.CX P w) P w K mg base N qual (defScope st) f cdv A outer s H E) (wB K tb B) → PassesOwn (model P w) (A.deeper (envOfC qual (defScope st) s.heap.objs.size f cdv)) (envOfC qual (defScope st) s.heap.objs.size f cdv) (cxOf (L2.CX P w) P w K mg base N qual (defScope st) f cdv A outer s H E).xe →
      BG (cxOf (L2.CX P w) P w K mg base N qual (defScope st) f cdv A outer s H E) B (entry (args i) (N.length - ps.length)) (os i) (defBody st) (pFn B (os i) ro) (wf i)) : FnOk P w K mg base (L2.CX P w) (k + 1) f fd ps (spX K tb args os wf ro) := by
  refine F.okX S (spX_len hl) fun cdv A outer s H vs Q E hr hsp => ?_
  have hvl := spX_len hl vs H Q E hsp
  obtain ⟨i, F0, P0, PE, fh, he, ho, nd, hw, hk, hx⟩ := hsp
  refine ⟨_, body cdv A outer s H E { bs0 F0 H (os i) with E0 := PE } i hr ((takes_of rfl rfl rfl rfl).imp fun cls d σ H' ⟨e, F', h1, h2, h3⟩ => hx e h1 cls d F' H' ⟨h2.fh, h2.bf, h2.mrk, h2.bb, h2.ios, h2.keep⟩ h3) (passes_of rfl),
    F0, P0, ⟨?_, ?_, fun p hp => ?_, nd⟩, hw, fun y hy => ⟨fun v F' H' fn ow ok => hk y hy v F' H' ⟨fn.fh, fn.bf, fn.mrk, fn.bb, fn.ios, fn.keep⟩ ow ok, fun σ F' H' fn ow ok => hk y hy .non F' H' ⟨fn.fh, fn.bf, fn.mrk, fn.bb, fn.ios, fn.keep⟩ ow ok⟩⟩
  · have z := bs0_start fh ho
    exact ⟨z.fh, z.bf, z.mrk, z.bb, z.ios, z.keep⟩
  · rw [← hvl]
    exact entry_ok he
  · obtain ⟨h1, o, h2, h3⟩ := ho p hp
    exact ⟨h1, ⟨o, h2, h3⟩, .inr (List.mem_map_of_mem hp)⟩
end
section
variable {X : Cx} {B : Bs} {env : Env} {os : Os} {tb : ETab} {pos p pos2 : Pos} {α β ι ρ : Type} {r : Rp α} {args : ι → Env} {osf : ι → Os} {wf : ι → W ρ} {ro : Rp ρ} {e : Expr} {es : List Expr} {rest : List Stmt} {post : Post β} {x : Str} {k : Nat} {f C : Addr} {fd : FuncData} {ps : List Str}
/-- f(e, ..), f a def that may raise -/
theorem passB (tk : Takes X (wB X.K tb B)) : Passes (L2.CX X.prog X.w) X (eB X.K tb B) := passes_call tk fun _ _ _ _ h => h
end
def spIX (K : PySem.W.Frag) (tb : ETab) {ι ρ : Type} (C : Addr) (args : ι → Env) (w : ι → W ρ) (fl : ρ → List (Str × Slot)) : Sp := fun vs H Q E => ∃ (i : ι) (F : Hp) (P : ρ → Prop) (PE : Er → Prop) (x dx : Addr) (us : List V), vs = .ref x :: us ∧ Ex F H ∧ F x = none ∧ H x = some (.ins C dx []) ∧ EnvOk F (args i) (us.map some) ∧
  w i P PE ∧ (∀ r, P r → ∀ F' H', Fn (bs0 F H [(x, oObj C [])]) F' H' → OsOk (bs0 F H [(x, oObj C [])]) F' H' [(x, oObj C (fl r))] → Q .non H') ∧ ∀ e, PE e → ∀ cls d F' H', Fn (bs0 F H [(x, oObj C [])]) F' H' → ErAt K tb F' e cls d → E cls d H'
def spISX (K : PySem.W.Frag) (tb : ETab) {α ρ : Type} (C : Addr) (r : Rp α) (wf : List α → W ρ) (fl : ρ → List (Str × Slot)) : Sp := fun vs H Q E => ∃ (xs : List α) (F : Hp) (P : ρ → Prop) (PE : Er → Prop) (x dx : Addr) (us : List V), vs = .ref x :: us ∧ Ex F H ∧ F x = none ∧ H x = some (.ins C dx []) ∧ Paired (r.ok F) us xs ∧ xs.length ≤ sizeLine ∧
  wf xs P PE ∧ (∀ r, P r → ∀ F' H', Fn (bs0 F H [(x, oObj C [])]) F' H' → OsOk (bs0 F H [(x, oObj C [])]) F' H' [(x, oObj C (fl r))] → Q .non H') ∧ ∀ e, PE e → ∀ cls d F' H', Fn (bs0 F H [(x, oObj C [])]) F' H' → ErAt K tb F' e cls d → E cls d H'
section
variable {P : Program} {w : World} {K : PySem.W.Frag} {tb : ETab} {mg : Str → Option Value} {base : Heap} {k : Nat} {f C : Addr} {fd : FuncData} {ps N : List Str} {ι ρ α : Type} {r : Rp α} {args : ι → Env} {wf : ι → W ρ} {wl : List α → W ρ} {fl : ρ → List (Str × Slot)}
/-- the body of such a def -/
theorem bodyIX {A : Around} {outer : List PySem.Env} {s : Shared} {H : Hp} {E : XK} {Q : VK} {vs : List V} {qual : Str} {sc : Scope} {cdv : Value} {blk : List Stmt} (hl : ∀ i, (args i).length + 1 = ps.length) (hsp : spIX K tb C args wf fl vs H Q E)
    (body : ∀ (B : Bs) (a : Addr) (i : ι), Takes (cxOf (L2.CX P w) P w K mg base N qual sc f cdv A outer s H E) (wB K tb B) →
      BG (cxOf (L2.CX P w) P w K mg base N qual sc f cdv A outer s H E) B (entry (sv (rAdr a) () :: args i) (N.length - ps.length)) [(a, oObj C [])] blk (pIn B C a fl) (wf i)) :
    ∃ t, PSs (cxOf (L2.CX P w) P w K mg base N qual sc f cdv A outer s H E) blk t ∧ t { nx := fun _ H' => Q .non H', rt := Q } (L2.start N vs) H := by
  obtain ⟨i, F0, P0, PE, a, dx, us, ev, fh, fa, ha, he, hw, hk, hx⟩ := hsp
  subst ev
  have ow : ∀ p ∈ ([(a, oObj C [])] : Os), F0 p.1 = none ∧ ∃ o, H p.1 = some o ∧ p.2.ok F0 o := fun p hp => by
    rw [List.mem_singleton.mp hp]
    exact ⟨fa, _, ha, dx, [], rfl, .nil⟩
  have hvl : (V.ref a :: us).length = ps.length := by
    have := he.len
    rw [List.length_map] at this
    rw [List.length_cons, ← this, hl i]
  refine ⟨_, body { bs0 F0 H [(a, oObj C [])] with E0 := PE } a i ((takes_of rfl rfl rfl rfl).imp fun cls d σ H' ⟨e, F', h1, h2, h3⟩ => hx e h1 cls d F' H' ⟨h2.fh, h2.bf, h2.mrk, h2.bb, h2.ios, h2.keep⟩ h3),
    F0, P0, ⟨?_, ?_, fun p hp => ?_, by simp⟩, hw, fun y hy => ⟨fun F' H' fn ow => hk y hy F' H' ⟨fn.fh, fn.bf, fn.mrk, fn.bb, fn.ios, fn.keep⟩ ow, fun σ F' H' fn ow => hk y hy F' H' ⟨fn.fh, fn.bf, fn.mrk, fn.bb, fn.ios, fn.keep⟩ ow⟩⟩
  · have z := bs0_start fh ow
    exact ⟨z.fh, z.bf, z.mrk, z.bb, z.ios, z.keep⟩
  · rw [← hvl]
    exact entry_ok (.cons ⟨_, rfl, rfl⟩ he)
  · obtain ⟨h1, o, h2, h3⟩ := ow p hp
    exact ⟨h1, ⟨o, h2, h3⟩, .inr (List.mem_map_of_mem hp)⟩
theorem initX {x qual : Str} {st : Stmt} (F : Fun K x qual st f fd) (S : FnScope N ps (defScope st)) (hl : ∀ i, (args i).length + 1 = ps.length)
    (body : ∀ (cdv : Value) (A : Around) (outer : List PySem.Env) (s : Shared) (H : Hp) (E : XK) (B : Bs) (a : Addr) (i : ι), Room k (A.deeper (envOfC qual (defScope st) s.heap.objs.size f cdv)) → Takes (cxOf (L2.CX P w) P w K mg base N qual (defScope st) f cdv A outer s H E) (wB K tb B) →
      BG (cxOf (L2.CX P w) P w K mg base N qual (defScope st) f cdv A outer s H E) B (entry (sv (rAdr a) () :: args i) (N.length - ps.length)) [(a, oObj C [])] (defBody st) (pIn B C a fl) (wf i)) : FnOk P w K mg base (L2.CX P w) (k + 1) f fd ps (spIX K tb C args wf fl) :=
  F.okX S (fun vs H Q E ⟨i, F, P, PE, x, dx, us, ev, _, _, _, he, _⟩ => by
    have := he.len
    rw [List.length_map] at this
    rw [ev, List.length_cons, ← this, hl i]) fun cdv A outer s H vs Q E hr hsp => bodyIX hl hsp fun B a i tk => body cdv A outer s H E B a i hr tk
theorem initSX {x qual self pv : Str} {st : Stmt} (F : Fun K x qual st f fd) (S : FnScope N [self, pv] (defScope st)) (hb : BindStar K fd self pv)
    (body : ∀ (cdv : Value) (A : Around) (outer : List PySem.Env) (s : Shared) (H : Hp) (E : XK) (B : Bs) (a : Addr) (xs : List α), Room k (A.deeper (envOfC qual (defScope st) s.heap.objs.size f cdv)) → Takes (cxOf (L2.CX P w) P w K mg base N qual (defScope st) f cdv A outer s H E) (wB K tb B) →
      BG (cxOf (L2.CX P w) P w K mg base N qual (defScope st) f cdv A outer s H E) B (entry [sv (rAdr a) (), sv (rTup K r) xs] (N.length - 2)) [(a, oObj C [])] (defBody st) (pIn B C a fl) (wl xs)) : FnR P w K mg base (L2.CX P w) (k + 1) f (spISX K tb C r wl fl) := by
  obtain ⟨oc, od, kV, doc, pm, an, cdv, ct, osl, rfl, lk, hcd⟩ := F.ex
  have z := StX.fn_star (P := P) (w := w) (mg := mg) (base := base) (ps := [self]) (pv := pv) (sp := spIX K tb C (fun xs : List α => [sv (rTup K r) xs]) wl fl) (k := k) lk hcd S StX.cxUp hb fun A outer s H vs Q E hr hsp => bodyIX (ps := [self, pv]) (fun _ => rfl) hsp fun B a i tk => body cdv A outer s H E B a i hr tk
  intro A outer s H us vs Q E hr e0 rv hsp
  obtain ⟨xs, F0, P0, PE, a, dx, vs', ev, fh, fa, ha, he, hz, hw, hk, hx⟩ := hsp
  refine z A outer s H us vs Q E hr e0 rv ⟨[.ref a], vs', ev, rfl, by rw [he.length]; exact hz, fun p hp => ?_⟩
  have g : Grow F0 H (upd F0 p (.tup vs')) (upd H p (.tup vs')) := Grow.alloc fh hp
  have fh' := g.fh fh
  have hap : a ≠ p := ne_of_none ha hp
  have fa' : upd F0 p (.tup vs') a = none := by rw [upd_ne hap]; exact fa
  have ha' : upd H p (.tup vs') a = some (.ins C dx []) := by rw [upd_ne hap]; exact ha
  have fnb : ∀ F' H', Fn (bs0 (upd F0 p (.tup vs')) (upd H p (.tup vs')) [(a, oObj C [])]) F' H' → Fn (bs0 F0 H [(a, oObj C [])]) F' H' := fun F' H' fn => ⟨fn.fh, g.f.trans fn.bf, g.f.trans fn.mrk, fh, fn.ios, fun b o h1 h2 h3 => by
    have hbp : b ≠ p := ne_of_none h2 hp
    refine fn.keep b o ?_ ?_ h3
    · show upd F0 p (.tup vs') b = none
      rw [upd_ne hbp]
      exact h1
    · show upd H p (.tup vs') b = some o
      rw [upd_ne hbp]
      exact h2⟩
  refine ⟨xs, upd F0 p (.tup vs'), P0, PE, a, dx, [.ref p], rfl, fh', fa', ha', .cons ⟨_, rfl, p, vs', rfl, SqT.of upd_same, by rw [he.length]; exact hz, Paired.imp (fun _ _ => r.mono g.f) he⟩ .nil, hw, fun q hq F' H' fn ow => ?_, fun e he cls d F' H' fn er => hx e he cls d F' H' (fnb _ _ fn) er⟩
  refine hk q hq F' H' (fnb _ _ fn) fun y hy => ?_
  obtain ⟨h1, h2, h3⟩ := ow y hy
  refine ⟨h1, h2, .inr ?_⟩
  rw [List.mem_singleton.mp hy]
  simp
end
section
variable {X : Cx} {B : Bs} {env : Env} {os : Os} {tb : ETab} {pos p : Pos} {ρ α : Type} {r : Rp α} {wf : List α → W ρ} {fl : ρ → List (Str × Slot)} {e : Expr} {es : List Expr} {x : Str} {k : Nat} {f C : Addr}
theorem Sit.backEI {F F' H H' : Hp} {σ : L2.St} {x : Addr} {o : Own} (S : Sit B F H σ env ((x, o) :: os)) (hx : B.H x = none) (fn : Fn (bs0 F H [(x, o)]) F' H') : Fn (B.at B.F) F' H' := by
  have e : Ex F F' := fn.bf
  have nin : ∀ a, a ≠ x → a ∉ ([(x, o)] : Os).map (·.1) := fun a h hm => h (by simpa using hm)
  refine ⟨fn.fh, S.fin.bf.trans e, S.fin.bf.trans e, S.fin.bb, fun a ha => ?_, fun a u h1 h2 h3 => ?_⟩
  · obtain ⟨u, hu⟩ := S.fin.ios a ha
    by_cases hax : a = x
    · subst hax
      obtain ⟨q, hq⟩ := fn.ios a (by simp)
      exact ⟨q, hq⟩
    · cases ef : F a with
      | none => exact ⟨u, (fn.keep a u ef hu (nin a hax)).1⟩
      | some q => exact ⟨q, fn.fh a q (e a q ef)⟩
  · obtain ⟨k1, k2⟩ := S.fin.keep a u h1 h2 h3
    refine fn.keep a u k2 k1 (nin a ?_)
    rintro rfl
    rw [hx] at h2
    cases h2
theorem madeSX {F H : Hp} {σ : L2.St} {vs : List V} {xs : List α} {P : ρ → Prop} {Q : VK} (S : Sit B F H σ env os) (ok : Paired (r.ok F) vs xs) (hz : xs.length ≤ sizeLine) (hw : wf xs P B.E0)
    (k : ∀ z, P z → ∀ v F' H', Sit B F' H' σ env os → Ex F F' → (rObj C fl).ok F' v z → Q v H') (x dx : Addr) (hx : H x = none) (hdx : H dx = none) (hne : dx ≠ x) :
    spISX X.K tb C r wf fl (.ref x :: vs) (upd (upd H dx (.own x)) x (.ins C dx [])) (fun v H2 => v = .non ∧ Q (.ref x) H2) (eB X.K tb B) := by
  have g : Grow F H (upd F dx (.own x)) (upd H dx (.own x)) := Grow.alloc S.fh hdx
  have S1 := S.grow g
  have hx1 : upd H dx (.own x) x = none := by rw [upd_ne (Ne.symm hne)]; exact hx
  have S2 := S1.newOwn (o := .ins C dx []) (ow := oObj C []) hx1 ⟨dx, [], rfl, .nil⟩
  refine ⟨xs, upd F dx (.own x), P, B.E0, x, dx, vs, rfl, S2.fh, ?_, upd_same, Paired.imp (fun _ _ => r.mono g.f) ok, hz, hw, fun r hr F' H' fn ow => ⟨rfl, ?_⟩, fun e he cls d F' H' fn er => ⟨e, F', he, S2.backEI (S1.fin.fresh hx1) fn, er⟩⟩
  · exact (S2.ow (x, oObj C []) List.mem_cons_self).1
  · obtain ⟨F2, o, e2, h1, ⟨dx', vs', h2, h3⟩, S4⟩ := (S2.backI fn ow).freeze
    subst h2
    exact k r hr (.ref x) F2 H' S4 ((g.f.trans fn.bf).trans e2) ⟨x, dx', vs', rfl, h1, h3⟩
end
end Mi
namespace Mi
open PySem L2 Evl LamX
open PyProof.Rows (envOfC)
def cellHO (c : Addr) (o : Obj) : HO := .ext fun h => h.get? c = some o
def addC (Z : Addr → Option Obj) (H : Hp) : Hp := fun b => match Z b with | some o => some (cellHO b o) | none => H b
def remC (Z : Addr → Option Obj) (H : Hp) : Hp := fun b => match Z b with | some _ => none | none => H b
section
variable {Z : Addr → Option Obj} {F H F' H' : Hp} {P : Program} {w : World} {h h' : Heap} {b : Addr} {o : Obj}
theorem addC_some (e : Z b = some o) : addC Z H b = some (cellHO b o) := by
  unfold addC
  rw [e]
theorem addC_none (e : Z b = none) : addC Z H b = H b := by
  unfold addC
  rw [e]
theorem remC_some (e : Z b = some o) : remC Z H b = none := by
  unfold remC
  rw [e]
theorem remC_none (e : Z b = none) : remC Z H b = H b := by
  unfold remC
  rw [e]
theorem remC_of {u : HO} (e : remC Z H b = some u) : Z b = none ∧ H b = some u := by
  unfold remC at e
  cases q : Z b with
  | none =>
    rw [q] at e
    exact ⟨rfl, e⟩
  | some o =>
    rw [q] at e
    cases e
theorem addC_of {u : HO} (e : addC Z H b = some u) : (Z b = none ∧ H b = some u) ∨ ∃ o, Z b = some o ∧ u = cellHO b o := by
  unfold addC at e
  cases q : Z b with
  | none =>
    rw [q] at e
    exact .inl ⟨rfl, e⟩
  | some o =>
    rw [q] at e
    cases e
    exact .inr ⟨o, rfl, rfl⟩
theorem ex_add (hz : ∀ b o, Z b = some o → F b = none) : Ex F (addC Z F) := fun b u e => by
  cases q : Z b with
  | none => rw [addC_none q]; exact e
  | some o => rw [hz b o q] at e; cases e
theorem ex_addC (e : Ex F F') : Ex (addC Z F) (addC Z F') := fun b u h => by
  rcases addC_of h with ⟨q, z⟩ | ⟨o, q, z⟩
  · rw [addC_none q]; exact e _ _ z
  · rw [addC_some q, z]
theorem ex_remC (e : Ex F F') : Ex (remC Z F) (remC Z F') := fun b u h => by
  obtain ⟨q, z⟩ := remC_of h
  rw [remC_none q]
  exact e _ _ z
theorem hok_add (k : HOk P w H h) (hz : ∀ b o, Z b = some o → h.get? b = some o ∧ H b = none) : HOk P w (addC Z H) h := fun b u e => by
  rcases addC_of e with ⟨q, z⟩ | ⟨o, q, z⟩
  · exact (k b u z).stay (fun _ _ _ y => y) (fun c y => by
      cases qc : Z c with
      | none => rw [addC_none qc]; exact y
      | some o => rw [(hz c o qc).2] at y; cases y) fun c xs y => by
      cases qc : Z c with
      | none => rw [addC_none qc]; exact y
      | some o => rw [(hz c o qc).2] at y; cases y
  · subst z
    exact ⟨(hz b o q).1, ⟨o, (hz b o q).1⟩, fun h1 h2 y st => st _ y⟩
theorem hok_rem (k : HOk P w H h) (hz : ∀ b o, Z b = some o → H b = some (cellHO b o)) : HOk P w (remC Z H) h := fun b u e => by
  obtain ⟨q, z⟩ := remC_of e
  exact (k b u z).stay (fun _ _ _ y => y) (fun c y => by
      cases qc : Z c with
      | none => rw [remC_none qc]; exact y
      | some o => rw [hz c o qc] at y; cases y) fun c xs y => by
      cases qc : Z c with
      | none => rw [remC_none qc]; exact y
      | some o => rw [hz c o qc] at y; cases y
theorem cell_at (k : HOk P w H h) (e : H b = some (cellHO b o)) : h.get? b = some o := by
  have x : ObjOk P w H h b (.ext fun h => h.get? b = some o) := k b _ e
  exact x.1
/-- into the closure's own frame -/
theorem env0_rem {K : PySem.W.Frag} {mg : Str → Option Value} {base : Heap} {A : Around} {outer : List PySem.Env} {s : Shared} (e0 : Env0 P w K mg base A outer s H) (hz : ∀ b o, Z b = some o → H b = some (cellHO b o)) : Env0 P w K mg base A outer s (remC Z H) :=
  ⟨e0.frames, e0.mod, fun b o e => ⟨(e0.bs b o e).1, by
    cases q : Z b with
    | none => rw [remC_none q]; exact (e0.bs b o e).2
    | some o => exact remC_some q⟩, e0.bsz, e0.funs, fun b hb => by
    cases q : Z b with
    | none => rw [remC_none q]; exact e0.frf b hb
    | some o => exact remC_some q, hok_rem e0.hok hz, e0.bare⟩
theorem env0_add {K : PySem.W.Frag} {mg : Str → Option Value} {base : Heap} {A : Around} {outer : List PySem.Env} {s : Shared} (e0 : Env0 P w K mg base A outer s H) (hz : ∀ b o, Z b = some o → s.heap.get? b = some o ∧ H b = none ∧ b ∉ frs outer ∧ base.get? b = none) : Env0 P w K mg base A outer s (addC Z H) :=
  ⟨e0.frames, e0.mod, fun b o e => ⟨(e0.bs b o e).1, by
    cases q : Z b with
    | none => rw [addC_none q]; exact (e0.bs b o e).2
    | some o => rw [(hz b o q).2.2.2] at e; cases e⟩, e0.bsz, e0.funs, fun b hb => by
    cases q : Z b with
    | none => rw [addC_none q]; exact e0.frf b hb
    | some o => exact absurd hb (hz b o q).2.2.1, hok_add e0.hok fun b o q => ⟨(hz b o q).1, (hz b o q).2.1⟩, e0.bare⟩
/-- behind the closure's run: the cells tracked again -/
theorem un_add {fs : List Addr} (un : Un fs [] (remC Z H) H' h h') (hz : ∀ b o, Z b = some o → H b = some (cellHO b o)) : Un fs [] H (addC Z H') h h' := by
  have nZ : ∀ b u, H b = some u → (∀ φ, u ≠ .ext φ) → Z b = none := fun b u e n => by
    cases q : Z b with
    | none => rfl
    | some o =>
      rw [hz b o q] at e
      cases e
      exact absurd rfl (n _)
  have nN : ∀ b, H b = none → Z b = none := fun b e => by
    cases q : Z b with
    | none => rfl
    | some o => rw [hz b o q] at e; cases e
  refine ⟨fun b o q n => un.keep b o q (by rw [remC_none (nN b n)]; exact n), fun b o q n => un.slot b o q (by rw [remC_none (nN b n)]; exact n), fun b o q n hx => ?_, un.there, fun b xs q => ?_, fun b o u q => ?_, fun b ps q => ?_⟩
  · rw [addC_none (nN b n)]
    exact un.free b o q (by rw [remC_none (nN b n)]; exact n) hx
  · have z := nZ b _ q (fun φ z => by cases z)
    rw [addC_none z]
    exact un.tups b xs (by rw [remC_none z]; exact q)
  · have z := nZ b _ q (fun φ z => by cases z)
    rw [addC_none z]
    exact un.frzs b o u (by rw [remC_none z]; exact q)
  · have z := nZ b _ q (fun φ z => by cases z)
    rw [addC_none z]
    exact un.tbls b ps (by rw [remC_none z]; exact q)
/-- behind a call with the cells tracked: they are let go -/
theorem un_rem {fs : List Addr} (un : Un fs [] (addC Z H) H' h h') (hok : HOk P w H' h') (hz : ∀ b o, Z b = some o → h.get? b = some o ∧ H b = none ∧ b ∉ fs) (hk : ∀ b o, Z b = some o → H' b = some (cellHO b o)) : Un fs [] H (remC Z H') h h' := by
  have at_ : ∀ b u, H b = some u → addC Z H b = some u := fun b u e => by
    cases q : Z b with
    | none => rw [addC_none q]; exact e
    | some o => rw [(hz b o q).2.1] at e; cases e
  have out : ∀ b u, H' b = some u → (∀ φ, u ≠ .ext φ) → remC Z H' b = some u := fun b u e n => by
    cases q : Z b with
    | none => rw [remC_none q]; exact e
    | some o =>
      rw [hk b o q] at e
      cases e
      exact absurd rfl (n _)
  refine ⟨fun b o q n hf hx => ?_, fun b o q n hf hx => ?_, fun b o q n hx => ?_, un.there, fun b xs q => out b _ (un.tups b xs (at_ _ _ q)) (fun φ z => by cases z), fun b o u q => out b _ (un.frzs b o u (at_ _ _ q)) (fun φ z => by cases z), fun b ps q => ?_⟩
  · cases z : Z b with
    | none => exact un.keep b o q (by rw [addC_none z]; exact n) hf hx
    | some o' =>
      have e1 := (hz b o' z).1
      rw [q] at e1
      cases e1
      exact cell_at hok (hk b o z)
  · cases z : Z b with
    | none => exact un.slot b o q (by rw [addC_none z]; exact n) hf hx
    | some o' => exact absurd hf (hz b o' z).2.2
  · cases z : Z b with
    | none => rw [remC_none z]; exact un.free b o q (by rw [addC_none z]; exact n) hx
    | some o' => exact remC_some z
  · obtain ⟨m, e⟩ := un.tbls b ps (at_ _ _ q)
    exact ⟨m, out b _ e (fun φ z => by cases z)⟩
theorem fn_rem (fn : Fn (bs0 (addC Z F) (addC Z H) []) F' H') (fh : Ex F H) (hz : ∀ b o, Z b = some o → H b = none) : Fn (bs0 F H []) (remC Z F') (remC Z H') := by
  have zF : ∀ b u, F b = some u → Z b = none := fun b u e => by
    cases q : Z b with
    | none => rfl
    | some o => rw [fresh_back fh (hz b o q)] at e; cases e
  have bf : Ex F (remC Z F') := fun b u e => by
    rw [remC_none (zF b u e)]
    exact fn.bf b u (by show addC Z F b = _; rw [addC_none (zF b u e)]; exact e)
  refine ⟨ex_remC fn.fh, bf, bf, fh, fun a ha => (by cases ha), fun a o h1 h2 h3 => ?_⟩
  have q : Z a = none := by
    cases q : Z a with
    | none => rfl
    | some u => rw [show (bs0 F H []).H a = H a from rfl, hz a u q] at h2; cases h2
  rw [remC_none q, remC_none q]
  exact fn.keep a o (by show addC Z F a = none; rw [addC_none q]; exact h1) (by show addC Z H a = _; rw [addC_none q]; exact h2) (by simp)
theorem fn_add (fn : Fn (bs0 (remC Z F) (remC Z H) []) F' H') (fh : Ex F H) (hz : ∀ b o, Z b = some o → F b = some (cellHO b o)) (hf : ∀ b o, Z b = some o → H' b = none) : Fn (bs0 F H []) (addC Z F') (addC Z H') := by
  have bf : Ex F (addC Z F') := fun b u e => by
    cases q : Z b with
    | none => rw [addC_none q]; exact fn.bf b u (by show remC Z F b = _; rw [remC_none q]; exact e)
    | some o =>
      rw [hz b o q] at e
      rw [addC_some q, e]
  refine ⟨ex_addC fn.fh, bf, bf, fh, fun a ha => (by cases ha), fun a o h1 h2 h3 => ?_⟩
  have q : Z a = none := by
    cases q : Z a with
    | none => rfl
    | some u => rw [show (bs0 F H []).F a = F a from rfl, hz a u q] at h1; cases h1
  rw [addC_none q, addC_none q]
  exact fn.keep a o (by show remC Z F a = none; rw [remC_none q]; exact h1) (by show remC Z H a = _; rw [remC_none q]; exact h2) (by simp)
theorem cx_add {outer : List PySem.Env} {s s' : Shared} {E E' : XK} {u : Value} (c : L2.CX P w outer (remC Z H) s E u s') (hz : ∀ b o, Z b = some o → H b = some (cellHO b o)) (hok : HOk P w H s.heap) (hfr : ∀ b o, Z b = some o → b ∉ frs outer) (hE : ∀ cls d H', (∀ b o, Z b = some o → H' b = none) → E cls d H' → E' cls d (addC Z H')) : L2.CX P w outer H s E' u s' := by
  obtain ⟨a, B, H', cls, d, rfl, fl, hokB, ub, na, os, ag, hE0⟩ := c
  have nN : ∀ b, H b = none → Z b = none := fun b e => by
    cases q : Z b with
    | none => rfl
    | some o => rw [hz b o q] at e; cases e
  have nZ : ∀ b u, H b = some u → (∀ φ, u ≠ .ext φ) → Z b = none := fun b u e n => by
    cases q : Z b with
    | none => rfl
    | some o =>
      rw [hz b o q] at e
      cases e
      exact absurd rfl (n _)
  have hB : ∀ b o, Z b = some o → B.get? b = some o ∧ H' b = none := fun b o q => by
    have e1 := cell_at hok (hz b o q)
    exact ⟨ub.keep b o e1 (remC_some q) (hfr b o q), ub.free b o e1 (remC_some q)⟩
  refine ⟨a, B, addC Z H', cls, d, rfl, fl, hok_add hokB hB, ⟨fun b o q n hf => ub.keep b o q (by rw [remC_none (nN b n)]; exact n) hf, ub.slot, fun b o q n => by rw [addC_none (nN b n)]; exact ub.free b o q (by rw [remC_none (nN b n)]; exact n), ub.there, fun b xs q => ?_, fun b o u q => ?_, fun b ps q => ?_⟩, ?_, os, ag, hE _ _ _ (fun b o q => (hB b o q).2) hE0⟩
  · have z := nZ b _ q (fun φ z => by cases z)
    rw [addC_none z]
    exact ub.tups b xs (by rw [remC_none z]; exact q)
  · have z := nZ b _ q (fun φ z => by cases z)
    rw [addC_none z]
    exact ub.frzs b o u (by rw [remC_none z]; exact q)
  · have z := nZ b _ q (fun φ z => by cases z)
    rw [addC_none z]
    exact ub.tbls b ps (by rw [remC_none z]; exact q)
  · have hza : Z a = none := by
      cases q : Z a with
      | none => rfl
      | some o =>
        have e1 := (hB a o q).1
        rw [fl.2.1] at e1
        cases e1
    rw [addC_none hza]
    exact na
end
end Mi
namespace Mi
open PySem L2 Evl LamX
open PyProof.Rows (envOfC)
/-- a lambda's names: ps its parameters; else captured ones and globals -/
structure LamS2 (sc scope : Scope) (ps : List Str) : Prop where
  kind : scope.kind = .function
  co : scope.isCoroutine = false
  gen : scope.isGenerator = false
  nocell : ∀ y ∈ scope.names, y.2 ≠ .cell
  loc : ∀ y ∈ scope.names, y.2 = .local → y.1 ∈ ps
  par : ∀ y ∈ ps, scope.names.lookup y = some .local
  free : ∀ y ∈ scope.names, y.2 = .free → sc.names.lookup y.1 = some .cell ∨ sc.names.lookup y.1 = some .free
def lamS2B (sc scope : Scope) (ps : List Str) : Bool :=
  decide (scope.kind = .function) && !scope.isCoroutine && !scope.isGenerator && scope.names.all (fun y => !decide (y.2 = .cell)) && scope.names.all (fun y => !decide (y.2 = .local) || decide (y.1 ∈ ps)) && ps.all (fun y => decide (scope.names.lookup y = some .local)) &&
    scope.names.all (fun y => !decide (y.2 = .free) || decide (sc.names.lookup y.1 = some .cell) || decide (sc.names.lookup y.1 = some .free))
theorem lamS2_by {sc scope : Scope} {ps : List Str} (h : lamS2B sc scope ps = true) : LamS2 sc scope ps := by
  unfold lamS2B at h
  simp only [Bool.and_eq_true, Bool.or_eq_true, Bool.not_eq_true', decide_eq_true_eq, decide_eq_false_iff_not, List.all_eq_true] at h
  obtain ⟨⟨⟨⟨⟨⟨h1, h2⟩, h3⟩, h4⟩, h5⟩, h6⟩, h7⟩ := h
  refine ⟨h1, h2, h3, h4, fun y hy e => (h5 y hy).elim (fun z => absurd e z) id, h6, fun y hy e => ?_⟩
  rcases h7 y hy with (z | z) | z
  · exact absurd e z
  · exact .inl z
  · exact .inr z
theorem LamS2.has {X : Cx} {scope : Scope} {ps : List Str} (L : LamS2 X.env.scope scope ps) (ok : X.Ok) : ∀ y ∈ scope.names, y.2 = .free → ∃ c, X.env.cells.lookup y.1 = some c := fun y hy e => by
  rcases L.free y hy e with k | k
  · exact ok.has _ (.inl k)
  · exact ok.has _ (.inr k)
section
variable {X : Cx} {pins : List (Addr × Obj)} {σ : L2.St} {H HZ : Hp} {s s1 : Shared}
/-- the state at the entry of a lambda's frame -/
theorem lam_inv {A : Around} {outer : List PySem.Env} {E : XK} {scope : Scope} {f c' : Addr} {h₁ : Heap} {tk : Nat} {ps : List Str} {us : List Value} (ok : X.Ok) (L : LamS2 X.env.scope scope ps) (e0 : Env0 X.prog X.w X.K X.mg X.base A outer s1 HZ) (hd : A.handled = none)
    (hns : h₁.Ns s1.heap.objs.size fun y => (ps.zip us).reverse.lookup y) (kp : ∀ b o, s1.heap.get? b = some o → h₁.get? b = some o)
    (hc : ∀ y c, X.env.cells.lookup y = some c → HZ c = none ∧ ∃ v, s1.heap.IsCell c v)
    (hl : ∀ (i : Nat) (y : Str) (v : V), X.N[i]? = some y → σ[i]? = some (some v) → Vis scope y → scope.names.lookup y = some .free ∧ ∃ c u, X.env.cells.lookup y = some c ∧ RelV v u ∧ s1.heap.IsCell c (some u)) (hlen : σ.length = X.N.length) :
    Inv (lamCx X A outer s1 HZ E scope f c') [] σ HZ { s1 with heap := h₁, toks := tk } := by
  have hfree := L.has ok
  have cm : ∀ {y c}, (cloFrom X.env.cells scope.names []).lookup y = some c → X.env.cells.lookup y = some c := fun {y c} e => by
    rcases cloFrom_mem (PySem.mem_of_lookup e) with hm | ⟨h1, h2⟩
    · cases hm
    · obtain ⟨c1, hc⟩ := hfree _ h1 rfl
      have hc : X.env.cells.lookup y = some c1 := hc
      have e2 : c = c1 := by
        rw [h2, hc] <;> rfl
      rw [e2]
      exact hc
  have look : ∀ {y}, scope.names.lookup y = some .free → ∃ c, (cloFrom X.env.cells scope.names []).lookup y = some c := fun {y} hl => by
    have hy : (y, NameKind.free) ∈ scope.names := PySem.mem_of_lookup hl
    exact mem_lookup (cloFrom_has (cells := X.env.cells) (acc := []) hy)
  have cellK : ∀ {c : Addr} {v : Option Value}, s1.heap.IsCell c v → h₁.IsCell c v := fun {c v} ⟨o, ho, hd⟩ => ⟨_, kp _ _ ho, hd⟩
  have noA : ∀ b : Addr, b ∉ (lamCx X A outer s1 HZ E scope f c').ex := fun b z => absurd (show b ∈ ([] : List Addr) from z) (by simp)
  refine ⟨⟨e0.mod, L.kind, rfl, rfl, Nat.le_refl _, fun y z c e1 e2 => ok.inj y z c (cm e1) (cm e2), fun y hy => ?_, fun y c z _ => ?_, fun _ => hd, Around.frames_deeper e0.frames, .inr ⟨rfl, rfl⟩, fun b z => absurd z (noA b), e0.bs, e0.bsz, fun b _ _ => noA b,
      fun b z => absurd z (noA b), e0.funs, e0.frf⟩,
    rfl, e0.bare, Un.kept kp, ⟨_, hns, fun i y v e1 e2 e3 => ?_⟩, fun y c e => ?_, e0.hok.fresh (Nat.le_refl _), fun y c e => (hc y c (cm e)).1, fun q hq => absurd (show q ∈ ([] : List (Addr × Obj)) ++ [] from hq) (by simp), e0.hok.kept kp, hlen⟩
  · have hy : scope.names.lookup y = some .cell ∨ scope.names.lookup y = some .free := hy
    rcases hy with hy | hy
    · exact absurd rfl (L.nocell _ (PySem.mem_of_lookup hy))
    · exact look hy
  · have z : false = true := z
    cases z
  · obtain ⟨k, c, u, h1, h2, h3⟩ := hl i y v e1 e2 e3
    obtain ⟨c2, hc2⟩ := look k
    have := cm hc2
    rw [h1] at this
    cases this
    exact ⟨u, h2, .inr ⟨.inr k, c, hc2, cellK h3⟩⟩
  · obtain ⟨v, z⟩ := (hc y c (cm e)).2
    exact ⟨v, cellK z⟩
end
/-- the promise of a call without arguments -/
def spC (K : PySem.W.Frag) (tb : ETab) {ρ : Type} (w : W ρ) (r : Rp ρ) (F H : Hp) (Q : VK) (E : XK) : Prop := ∃ (P : ρ → Prop) (PE : Er → Prop), w P PE ∧ (∀ x, P x → ∀ v F' H', Fn (bs0 F H []) F' H' → r.ok F' v x → Q v H') ∧ ∀ e, PE e → ∀ cls d F' H', Fn (bs0 F H []) F' H' → ErAt K tb F' e cls d → E cls d H'
/-- a function to be called without arguments, by its mirror -/
def rClo (P : Program) (w : World) (K : PySem.W.Frag) (mg : Str → Option Value) (base : Heap) (tb : ETab) (k : Nat) {ρ : Type} (r : Rp ρ) : Rp (W ρ) :=
  ⟨fun F v wf => ∃ (g : Addr) (φ : Heap → Prop), v = .ref g ∧ F g = some (.ext φ) ∧ (∀ h, φ h → PySem.W.FnAt g h) ∧ ∀ (A : Around) (outer : List PySem.Env) (s : Shared) (F' H : Hp) (Q : VK) (E : XK), Ex F F' → Ex F' H → Room k A → Env0 P w K mg base A outer s H → spC K tb wf r F' H Q E →
    codeAny (model P w) A (.call (.ref g) ⟨[], []⟩) (CR (L2.CX P w) outer P w H s Q E) s, fun e ⟨g, φ, h1, h2, h3, h4⟩ => ⟨g, φ, h1, e _ _ h2, h3, fun A o s F' H Q E e1 => h4 A o s F' H Q E (e.trans e1)⟩⟩
section
variable {X : Cx} {B : Bs} {env : Env} {os : Os} {tb : ETab} {ρ : Type} {r : Rp ρ}
/-- x(), x a name that holds one -/
theorem e_callClo (i : Nat) {k : Nat} {x : Str} {p pos : Pos} {wf : W ρ} (tk : Takes X (wB X.K tb B)) (hr : Room k X.A) (he : env[i]? = some (sv (rClo X.prog X.w X.K X.mg X.base tb k r) wf) := by rfl) (hN : X.N[i]? = some x := by rfl) (hv : Vis X.env.scope x := by first | exact Or.inl rfl | exact Or.inr (Or.inl rfl) | exact Or.inr (Or.inr rfl))
    (hd : (x == ("__debug__" : Str)) = false := by decide) (hcd : (x == ("__classdict__" : Str)) = false := by decide) : EE X B env os (.Call (.Name x p) [] [] pos) r wf := by
  refine ⟨fun pins s σ H Q I ⟨F, P, S, hw, k⟩ => ?_⟩
  obtain ⟨ov, h1, v, h2, g, φ, ev, hg, hφ, run⟩ := S.env.get he
  subst h2 ev
  refine wpAny_Call_Name_kw (thn ((pe_var (pos := p) hN hv hd hcd).run pins s σ H (fun v H1 => v = .ref g ∧ H1 = H) I ⟨.ref g, h1, rfl, rfl⟩) fun u s1 ⟨v, H1, I1, r1, e1, e2⟩ => ?_)
  subst e1 e2
  obtain rfl : u = Value.ref g := r1
  have hx : ObjOk X.prog X.w H1 s1.heap g (.ext φ) := I1.hok g _ (S.fh _ _ hg)
  refine PySem.W.callWith_F0 (hφ _ hx.1) ?_
  refine wpAny_call (codeAny_mono (run X.A X.stack s1 F H1 Q (eB X.K tb B) (Ex.refl F) S.fh hr I1.env0 ⟨P, B.E0, hw, fun y hy v F' H' fn ok => ?_, fun e he cls d F' H' fn er => ⟨e, F', he, S.backE OsLe.none fn, er⟩⟩) fun res s' hq => ?_)
  · exact k y hy v F' H' (S.back OsLe.none fn (fun p hp => by cases hp)) fn.bf ok
  · cases res with
    | error e => exact passB tk pins σ H1 s1 e s' I1 hq
    | ok fl =>
      cases fl with
      | ret u => exact I1.after hq
      | next => exact False.elim hq
      | brk => exact False.elim hq
      | cont => exact False.elim hq
end
open Classical in
noncomputable def cellZ (X : Cx) (h : Heap) : Addr → Option Obj := fun b => if ∃ y, X.env.cells.lookup y = some b then h.get? b else none
theorem cellZ_of {X : Cx} {h : Heap} {b : Addr} {o : Obj} (e : cellZ X h b = some o) : (∃ y, X.env.cells.lookup y = some b) ∧ h.get? b = some o := by
  unfold cellZ at e
  split at e
  · rename_i q
    exact ⟨q, e⟩
  · cases e
theorem cellZ_at {X : Cx} {h : Heap} {y : Str} {c : Addr} (e : X.env.cells.lookup y = some c) : cellZ X h c = h.get? c := by
  unfold cellZ
  rw [if_pos ⟨y, e⟩]
/-- how its parameters are bound: none, or one by its default -/
def LamBind (D : LamD) (df : Bool) (ps : List Str) : Prop :=
  if df then ps.length = 1 ∧ ∀ (td : Addr) (pm cv ct : Value), ∃ k, bindArgs (PySem.W.lmFn D.q D.params D.body D.scope D.cl (.ref td) pm cv ct) ⟨[], []⟩ = seqItems? (.ref td) >>= k ∧ ∀ u, k (some #[u]) = pure (ps.zip [u])
  else ps = [] ∧ ∀ (pm cv ct : Value), bindArgs (PySem.W.lmFn D.q D.params D.body D.scope D.cl .none pm cv ct) ⟨[], []⟩ = pure []
theorem wipe_none {σ : L2.St} {vs : List Nat} {i : Nat} {v : V} (h : (wipe σ vs)[i]? = some (some v)) : i ∉ vs ∧ σ[i]? = some (some v) := by
  induction vs with
  | nil => exact ⟨by simp, h⟩
  | cons a vs ih =>
    have h' : ((wipe σ vs).set a none)[i]? = some (some v) := h
    rw [List.getElem?_set] at h'
    split at h'
    · split at h' <;> cases h'
    · rename_i hne
      obtain ⟨h1, h2⟩ := ih h'
      exact ⟨fun z => by
        rcases List.mem_cons.mp z with e | e
        · exact hne e.symm
        · exact h1 e, h2⟩
theorem wipe_len {σ : L2.St} : ∀ vs : List Nat, (wipe σ vs).length = σ.length
  | [] => rfl
  | a :: vs => by
    show ((wipe σ vs).set a none).length = _
    rw [List.length_set, wipe_len vs]
section
variable {X : Cx} {B : Bs} {env : Env} {os : Os} {tb : ETab} {ρ : Type} {r : Rp ρ}
theorem clo_of {pins : List (Addr × Obj)} {σ : L2.St} {F H : Hp} {s : Shared} {v : V} {params : Arguments} {body : Expr} {scope : Scope} {df : Bool} {ps : List Str} {vs : List Nat} {k : Nat} {wf : W ρ} (I : Inv X pins σ H s) (S : Sit B F H σ env os)
    (hv : (rLam ⟨X.env.qual ++ "<lambda>", params, body, scope, cloFrom X.env.cells scope.names []⟩ df).ok F v ())
    (L : LamS2 X.env.scope scope ps) (hb : LamBind ⟨X.env.qual ++ "<lambda>", params, body, scope, cloFrom X.env.cells scope.names []⟩ df ps) (hvs : ∀ p ∈ ps, ∀ i, X.N[i]? = some p → i ∈ vs)
    (hbody : ∀ (A : Around) (outer : List PySem.Env) (s1 : Shared) (H1 : Hp) (E : XK) (f c' : Addr) (B' : Bs), Room k (A.deeper (lamEnv X scope s1.heap.objs.size f c')) → Takes (lamCx X A outer s1 H1 E scope f c') (wB X.K tb B') → EE (lamCx X A outer s1 H1 E scope f c') B' (wipeE env vs) [] body r wf) :
    (rClo X.prog X.w X.K X.mg X.base tb (k + 1) r).ok (addC (cellZ X s.heap) F) v wf := by
  obtain ⟨g, c', dV, ev, hg, hco, hd⟩ := hv
  have zH : ∀ b o, cellZ X s.heap b = some o → H b = none := fun b o e => let ⟨⟨y, h1⟩, _⟩ := cellZ_of e; I.freeC y b h1
  have zF : ∀ b u, F b = some u → cellZ X s.heap b = none := fun b u e => by
    cases z : cellZ X s.heap b with
    | none => rfl
    | some o => rw [fresh_back S.fh (zH b o z)] at e; cases e
  refine ⟨g, _, ev, (addC_none (zF _ _ hg)).trans hg, fun h ⟨pm, ctv, e⟩ => ⟨_, _, _, _, e⟩, fun A outer s1 F' H1 Q E e1 fh1 hr e0 ⟨P', PE, hw, hk, hx⟩ => ?_⟩
  have zF1 : ∀ b o, cellZ X s.heap b = some o → F' b = some (cellHO b o) := fun b o e => e1 _ _ (addC_some e)
  have zH1 : ∀ b o, cellZ X s.heap b = some o → H1 b = some (cellHO b o) := fun b o e => fh1 _ _ (zF1 b o e)
  have up : ∀ b u, F b = some u → F' b = some u := fun b u e => e1 _ _ ((addC_none (zF b u e)).trans e)
  have exm : Ex F (remC (cellZ X s.heap) F') := fun b u e => by rw [remC_none (zF b u e)]; exact up b u e
  have e0m := env0_rem e0 zH1
  have nfr : ∀ b o, cellZ X s.heap b = some o → b ∉ frs outer := fun b o e hb => by
    have := e0.frf b hb
    rw [zH1 b o e] at this
    cases this
  have atc : ∀ y c, X.env.cells.lookup y = some c → ∃ o, cellZ X s.heap c = some o ∧ s.heap.get? c = some o ∧ s1.heap.get? c = some o := fun y c e => by
    obtain ⟨v, o, ho, _⟩ := I.cell y c e
    have z : cellZ X s.heap c = some o := (cellZ_at e).trans ho
    exact ⟨o, z, ho, cell_at e0.hok (zH1 c o z)⟩
  obtain ⟨pm, ctv, ho⟩ : ∃ (pm ctv : Value), s1.heap.get? g = some ({ cls := .type "function", data := .func (PySem.W.lmFn (X.env.qual ++ "<lambda>") params body scope (cloFrom X.env.cells scope.names []) dV pm (.ref c') ctv) } : Obj) := by
    have x := e0.hok g _ (fh1 _ _ (up _ _ hg))
    exact x.1
  have hcode : s1.heap.CodeRec (.ref c') (X.env.qual ++ "<lambda>") := NdefX.codeO_at e0.hok (fh1 _ _ (up _ _ hco))
  obtain ⟨us, vs', rv, hul, hbind⟩ : ∃ (us : List Value) (vs' : List V), Vals vs' us ∧ us.length = ps.length ∧ ∀ (M : Model) (A : Around) (Q : List (Str × Value) → Shared → Prop) (E : Value → Shared → Prop), Q (ps.zip us) s1 → wpAny M A (bindArgs (PySem.W.lmFn (X.env.qual ++ "<lambda>") params body scope (cloFrom X.env.cells scope.names []) dV pm (.ref c') ctv) ⟨[], []⟩) Q E s1 := by
    unfold LamBind at hb
    unfold DfOk at hd
    cases df with
    | false =>
      obtain ⟨h1, h2⟩ := hb
      subst h1
      have hd : dV = .none := hd
      subst hd
      exact ⟨[], [], .nil, rfl, fun M A Q E q => by rw [h2]; exact wpAny_pure q⟩
    | true =>
      obtain ⟨h1, h2⟩ := hb
      obtain ⟨td, e1', e2'⟩ := hd
      subst e1'
      obtain ⟨kk, h3, h4⟩ := h2 td pm (.ref c') ctv
      have x := e0.hok td _ (fh1 _ _ (up _ _ e2'))
      obtain ⟨_, its, rv, o, ho', _, n, hod⟩ := x
      have hl := rv.length
      match its, rv, hod with
      | [u], rv, hod =>
        refine ⟨[u], [.int 0], rv, by rw [h1]; rfl, fun M A Q E q => ?_⟩
        rw [h3]
        refine wpAny_bind (wpAny_seqItems ho' hod ?_)
        have h5 := h4 u
        have h6 : kk (some ([u] : List Value).toArray) = pure (ps.zip [u]) := h5
        rw [h6]
        exact wpAny_pure q
  have lim : s1.heap.NoLimit := e0.mod.nolimit.keeps fun b o e => (e0.bs b o e).1
  refine PySem.W.kla_callFunE hr.depth ho rfl L.co L.gen rfl hcode ?_
  refine hbind _ _ _ _ (wpAny_newFunctionEnv L.nocell (fun ⟨n, _⟩ hy => L.par n (List.of_mem_zip hy).1) (fun h₁ hns hsb => ⟨lim.fresh _ hsb, ?_⟩) L.kind)
  show codeAny _ _ (.expr body (lamEnv X scope s1.heap.objs.size g c')) _ _
  have kp : ∀ b o, s1.heap.get? b = some o → h₁.get? b = some o := fun b o e => hsb.extBut b o (Nat.ne_of_lt (Heap.lt_size e)) (Heap.get?_push_of_some _ e)
  obtain ⟨B', hB'⟩ : ∃ B' : Bs, B' = { bs0 (remC (cellZ X s.heap) F') (remC (cellZ X s.heap) H1) [] with E0 := PE } := ⟨_, rfl⟩
  have J := lam_inv (s1 := s1) (f := g) (c' := c') (E := eB X.K tb B') (σ := wipe σ vs) (tk := s1.toks + (ps.zip us).length) I.ok L e0m hr.hd hns kp (fun y c e => by
      obtain ⟨o, z1, z2, z3⟩ := atc y c e
      obtain ⟨v, o', ho', hd'⟩ := I.cell y c e
      rw [z2] at ho'
      cases ho'
      exact ⟨remC_some z1, v, _, z3, hd'⟩) (fun i y v hy hi hvis => by
      obtain ⟨h1, h2⟩ := wipe_none hi
      have hf : scope.names.lookup y = some .free := by
        rcases hvis with k | k | k
        · exact absurd (hvs y (L.loc _ (PySem.mem_of_lookup k) rfl) i hy) h1
        · exact absurd rfl (L.nocell _ (PySem.mem_of_lookup k))
        · exact k
      obtain ⟨m, hn, hl⟩ := I.loc
      have hvis' : Vis X.env.scope y := (L.free _ (PySem.mem_of_lookup hf) rfl).elim (fun k => .inr (.inl k)) (fun k => .inr (.inr k))
      obtain ⟨u, ru, lu⟩ := hl i y v hy h2 hvis'
      refine ⟨hf, ?_⟩
      rcases lu with ⟨k', _⟩ | ⟨_, c, hc, o, ho2, hd2⟩
      · have k' : X.env.scope.names.lookup y = some .local := k'
        rcases L.free _ (PySem.mem_of_lookup hf) rfl with k2 | k2 <;> rw [show X.env.scope.names.lookup y = _ from k2] at k' <;> cases k'
      · obtain ⟨o', z1, z2, z3⟩ := atc y c hc
        rw [ho2] at z2
        cases z2
        exact ⟨c, u, hc, ru, _, z3, hd2⟩) (by rw [wipe_len]; exact I.len)
  have hbd := hbody A outer s1 (remC (cellZ X s.heap) H1) (eB X.K tb B') g c' B' (hr.deeper _) ((takes_of rfl rfl rfl rfl).imp fun cls d σ' H' h => h)
  have cur : ∀ {H' : Hp} {s' : Shared}, Un (frs outer) [] (remC (cellZ X s.heap) H1) H' s1.heap s'.heap → ∀ b o, cellZ X s.heap b = some o → s'.heap.get? b = some o ∧ H' b = none := fun {H' s'} un b o z => by
    have e := cell_at e0.hok (zH1 b o z)
    exact ⟨un.keep b o e (remC_some z) (nfr b o z) (by simp), un.free b o e (remC_some z) (by simp)⟩
  refine PySem.W.kla_codeExpr (wpAny_mono (hbd.run [] _ _ _ (fun v H2 => ∃ x F2, P' x ∧ Fn (bs0 (remC (cellZ X s.heap) F') (remC (cellZ X s.heap) H1) []) F2 H2 ∧ r.ok F2 v x) J ⟨remC (cellZ X s.heap) F', P', ?_, ?_, fun z hz v F2 H2 S2 e2 okz => ?_⟩) (fun u s' hq => ?_) fun e s' he => ?_)
  · subst hB'
    exact ⟨⟨ex_remC fh1, Ex.refl _, Ex.refl _, ex_remC fh1, fun a ha => (by cases ha), fun a o h1 h2 h3 => ⟨h2, h1⟩⟩, (S.env.mono exm).wipe vs, fun p hp => (by cases hp), List.nodup_nil⟩
  · subst hB'
    exact hw
  · subst hB'
    have f := S2.fin
    exact ⟨z, F2, hz, ⟨f.fh, f.bf, f.mrk, f.bb, f.ios, f.keep⟩, okz⟩
  · obtain ⟨v', H2, J', rv', x, F2, px, fn, okx⟩ := hq
    have cu := cur J'.base
    refine ⟨v', addC (cellZ X s.heap) H2, J'.os, J'.bare, un_add J'.base zH1, hok_add J'.hok cu, rv', hk x px v' (addC (cellZ X s.heap) F2) _ (fn_add fn fh1 zF1 fun b o z => (cu b o z).2) (r.mono (ex_add fun b o z => fresh_back fn.fh (cu b o z).2) okx)⟩
  · have conv : ∀ (e' : Value) (s'' : Shared), L2.CX X.prog X.w outer (remC (cellZ X s.heap) H1) s1 (eB X.K tb B') e' s'' → L2.CX X.prog X.w outer H1 s1 E e' s'' := fun e' s'' c => cx_add c zH1 e0.hok nfr fun cls d H' hfree ⟨er, F2, h1, h2, h3⟩ => by
      subst hB'
      exact hx er h1 cls d (addC (cellZ X s.heap) F2) _ (fn_add ⟨h2.fh, h2.bf, h2.mrk, h2.bb, h2.ios, h2.keep⟩ fh1 zF1 hfree) (h3.mono (ex_add fun b o z => fresh_back h2.fh (hfree b o z)))
    exact wpAny_mono he (fun _ s'' c => conv _ _ c) fun e' s'' c => conv _ _ c
end
/-- what stands for x leans on no object that is told by what is true of it -/
def PlR {α : Type} (r : Rp α) : Prop := ∀ (F F' : Hp) (v : V) (x : α), (∀ a o, F a = some o → (∀ φ, o ≠ .ext φ) → F' a = some o) → r.ok F v x → r.ok F' v x
theorem pl_str : PlR rStr := fun _ _ _ _ _ h => h
section
variable {α β : Type} {r : Rp α} {s : Rp β} {K : PySem.W.Frag}
theorem pl_lst (h : PlR r) : PlR (rLst r) := fun F F' v x e ⟨a, vs, h1, h2, h3, h4⟩ => ⟨a, vs, h1, e _ _ h2 (fun φ z => by cases z), h3, Paired.imp (fun _ _ q => h F F' _ _ e q) h4⟩
theorem sqt_pl {F F' : Hp} {a : Addr} {vs : List V} (e : ∀ a o, F a = some o → (∀ φ, o ≠ .ext φ) → F' a = some o) (h : SqT K F a vs) : SqT K F' a vs := by
  rcases h with (h | ⟨o, h⟩) | h
  · exact .inl (.inl (e _ _ h (fun φ z => by cases z)))
  · exact .inl (.inr ⟨o, e _ _ h (fun φ z => by cases z)⟩)
  · exact .inr h
theorem sql_pl {F F' : Hp} {a : Addr} {vs : List V} (e : ∀ a o, F a = some o → (∀ φ, o ≠ .ext φ) → F' a = some o) (h : SqL K F a vs) : SqL K F' a vs := by
  rcases h with (h | ⟨o, h⟩) | h
  · exact .inl (.inl (e _ _ h (fun φ z => by cases z)))
  · exact .inl (.inr ⟨o, e _ _ h (fun φ z => by cases z)⟩)
  · exact .inr h
theorem pl_t2 (h : PlR r) (k : PlR s) : PlR (rT2 K r s) := fun F F' v x e ⟨a, v1, v2, h1, h2, h3, h4⟩ => ⟨a, v1, v2, h1, sqt_pl e h2, h _ _ _ _ e h3, k _ _ _ _ e h4⟩
theorem pl_D : PlR (rD K) := fun F F' v d e ⟨h, hc⟩ => ⟨by
  refine (show ∀ {v d}, Dp K F v d → Dp K F' v d from ?_) h
  intro v d h
  exact Dp.rec (K := K) (H := F) (motive_1 := fun v d _ => Dp K F' v d) (motive_2 := fun vs ds _ => DpAll K F' vs ds) .non .bl .int .str (fun h1 _ ih => .lst (sql_pl e h1) ih) (fun h1 _ ih => .tup (sqt_pl e h1) ih) .nil (fun _ _ i1 i2 => .cons i1 i2) h, hc⟩
end
section
variable {X : Cx} {B : Bs} {env : Env} {os : Os} {tb : ETab} {ι ρ : Type} {args : ι → Env} {wf : ι → W ρ} {ro : Rp ρ} {k : Nat} {f : Addr} {fd : FuncData} {ps : List Str}
theorem callC {pins : List (Addr × Obj)} {σ : L2.St} {F H : Hp} {s : Shared} {us : List Value} {vs : List V} {P : ρ → Prop} {Q : VK} (G : FnOk X.prog X.w X.K X.mg X.base CX0 k f fd ps (spW args (fun _ => []) wf ro)) (hr : Room k X.A) (hb : Binds X.K fd ps [])
    (hstk : X.stack = X.env :: X.outer) (hfr : X.env.frame = some X.env.locals) (hfn : ∀ x, X.fn x = true) (I : Inv X pins σ H s) (S : Sit B F H σ env os) (r : Vals vs us) (i : ι) (hargs : EnvOk (addC (cellZ X s.heap) F) (args i) (vs.map some)) (hw : wf i P (fun _ => False)) (pl : PlR ro)
    (kk : ∀ z, P z → ∀ v F' H', Sit B F' H' σ env os → Ex F F' → ro.ok F' v z → Q v H') : wpAny (model X.prog X.w) X.A (call (.ref f) us) (EP X pins σ Q) X.xe s := by
  have zok : ∀ b o, cellZ X s.heap b = some o → s.heap.get? b = some o ∧ H b = none ∧ b ∉ frs X.stack ∧ X.base.get? b = none := fun b o e => by
    obtain ⟨⟨y, h1⟩, h2⟩ := cellZ_of e
    have above := I.ok.cab y b (hfn y) h1
    refine ⟨h2, I.freeC y b h1, fun hm => ?_, ?_⟩
    · rw [hstk] at hm
      obtain ⟨en, hen, q⟩ := List.mem_filterMap.mp hm
      rcases List.mem_cons.mp hen with z | z
      · subst z
        rw [hfr] at q
        have q : X.env.locals = b := Option.some.inj q
        obtain ⟨m, ⟨oL, es, ep, e1, e2, _⟩, _⟩ := I.loc
        obtain ⟨v, oc, e3, e4⟩ := I.cell y b h1
        rw [q, e3] at e1
        cases e1
        rw [e4] at e2
        cases e2
      · obtain ⟨_, o', e', _⟩ := I.ok.funs.mem (List.mem_filterMap.mpr ⟨en, z, q⟩)
        exact absurd (Heap.lt_size e') (Nat.not_lt.mpr above)
    · cases z : X.base.get? b with
      | none => rfl
      | some o' => exact absurd (Heap.lt_size (I.ok.bs b o' z).1) (Nat.not_lt.mpr above)
  have zH : ∀ b o, cellZ X s.heap b = some o → H b = none := fun b o e => (zok b o e).2.1
  have e0 := env0_add I.env0 zok
  have hsp : spW args (fun _ => []) wf ro vs (addC (cellZ X s.heap) H) (fun v H' => (∀ b o, cellZ X s.heap b = some o → H' b = some (cellHO b o)) ∧ Q v (remC (cellZ X s.heap) H')) E0 := by
    refine ⟨i, addC (cellZ X s.heap) F, P, ex_addC S.fh, hargs, fun p hp => (by cases hp), List.nodup_nil, hw, fun x hx v F' H' fn ow ok => ⟨fun b o e => fn.fh _ _ (fn.bf _ _ (addC_some e)), ?_⟩⟩
    have f2 := fn_rem fn S.fh zH
    refine kk x hx v _ _ (S.back OsLe.none f2 (fun p hp => by cases hp)) f2.bf (pl _ _ _ _ (fun a o e n => ?_) ok)
    cases q : cellZ X s.heap a with
    | none => rw [remC_none q]; exact e
    | some o' =>
      have z := fn.bf _ _ (addC_some (H := F) q)
      rw [z] at e
      cases e
      exact absurd rfl (n _)
  have hl : us.length = ps.length := by rw [← r.length]; exact G.len _ _ _ _ hsp
  have b := hb s us I.kIn (by rw [List.append_nil]; exact hl)
  rw [List.append_nil] at b
  refine wpAny_call (codeAny_mono (G.run X.A X.stack s (addC (cellZ X s.heap) H) ⟨us, []⟩ us vs _ E0 hr e0 b r hsp) fun res s' hq => ?_)
  cases res with
  | error e => exact False.elim hq
  | ok fl =>
    cases fl with
    | ret u =>
      obtain ⟨v, H', os', bare, un, hok, rv, hc, q⟩ := hq
      exact I.after ⟨v, remC (cellZ X s.heap) H', os', bare, un_rem un hok (fun b o e => ⟨(zok b o e).1, (zok b o e).2.1, (zok b o e).2.2.1⟩) hc, hok_rem hok hc, rv, q⟩
    | next => exact False.elim hq
    | brk => exact False.elim hq
    | cont => exact False.elim hq
/-- f(e), e a list of lambdas or one: lifted to closures -/
theorem e_callC {x : Str} {e : Expr} {p pos : Pos} {α : Type} {rr : Rp α} {w : W α} (i : ι) (G : FnOk X.prog X.w X.K X.mg X.base CX0 k f fd ps (spW args (fun _ => []) wf ro)) (hr : Room k X.A) (hm : X.mg x = some (.ref f)) (hk : PySem.W.keepIn X.K (.ref f) = true) (hb : Binds X.K fd ps [])
    (ha : EE X B env os e rr w) (hstk : X.stack = X.env :: X.outer) (hfr : X.env.frame = some X.env.locals) (hfn : ∀ x, X.fn x = true) (pl : PlR ro)
    (conv : ∀ (pins : List (Addr × Obj)) (σ : L2.St) (F H : Hp) (s : Shared) (v : V) (y : α), Inv X pins σ H s → Sit B F H σ env os → rr.ok F v y → EnvOk (addC (cellZ X s.heap) F) (args i) [some v])
    (hg : Gl X x := by rfl) (hdb : (x == ("__debug__" : Str)) = false := by decide) (he : starEach [e] X.env = (false, eval e X.env) :: starEach [] X.env := by rfl) (hpl : (backTo pos (starEach [] X.env)).any (·.1) = false := by rfl) :
    EE X B env os (.Call (.Name x p) [e] [] pos) ro (bnd w fun _ => noX (wf i)) := by
  refine ⟨fun pins s σ H Q I ⟨F, P, S, hw, kk⟩ => ?_⟩
  refine wpAny_Call_Name_kw (ld_glob I hg hm ?_ hdb)
  have pa : PA X [e] (tCons (tOf B env os rr w) tNil) := pa_cons ha pa_nil he
  refine PySem.W.callWith_K (h₀ := X.base) I.ok.mod.kin hk (thn (pa.run pos pins s σ H (fun vs H1 => ∃ v F1 y, vs = [v] ∧ Sit B F1 H1 σ env os ∧ Ex F F1 ∧ rr.ok F1 v y ∧ noX (wf i) P B.E0) I ⟨F, _, S, hw, fun y hy v F1 H1 S1 e1 ok => ⟨v, F1, y, rfl, S1, e1, ok, hy⟩⟩) fun us s1 ⟨vs, H1, I1, r, v, F1, y, ev, S1, e1, ok, hw1⟩ => ⟨I1.kIn, ?_⟩) he hpl
  subst ev
  exact callC G hr hb hstk hfr hfn I1 S1 r i (conv pins σ F1 H1 s1 v y I1 S1 ok) hw1 pl fun z hz v F' H' S' e' ok' => kk z hz v F' H' S' (e1.trans e') ok'
end
end Mi
namespace Mi
open PySem L2 Evl
open PyProof.Rows (envOfC)
theorem flyingZ_keeps {B h h' : Heap} {l : List PySem.Env} {a : Addr} {Z : Obj → Prop} (R : HandSPX.FlyingZ B l a Z h) (k : ∀ b o, h.get? b = some o → h'.get? b = some o) : HandSPX.FlyingZ B l a Z h' := by
  obtain ⟨f1, f2, f3, oe, ws, T, oT, ts, he, hc, hd, h1, hn, hne, hT, hdT, h3⟩ := R
  exact ⟨fun b o q => k b o (f1 b o q), f2, f3.of_keeps fun b o q _ => ⟨o, k b o q, rfl⟩, oe, ws, T, oT, ts, k _ _ he, hc, hd, h1, hn, hne, k _ _ hT, hdT, h3⟩
/-- what the clause 'except (x1, x2) as n' wishes, where it takes all that comes -/
def wTup (K : PySem.W.Frag) (c1 c2 : Value) (i : Nat) (ts : Addr → Obj → Value → Option Addr → TS) (D : Ends) : WX := fun cls d σ H =>
  PySem.W.exmAny K cls [c1, c2] = some true ∧ ∀ a oe, H a = none → Zc cls d oe → (∃ vs, oe.data = .fields vs) → ts a oe cls d { nx := fun σ' H' => D.nx (σ'.set i none) H', rt := D.rt, bk := fun σ' H' => D.bk (σ'.set i none) H', ct := fun σ' H' => D.ct (σ'.set i none) H' } (σ.set i (some (.ref a))) H
section
variable {X : Cx} {x1 x2 n : Str} {c1 c2 : Value} {i kk : Nat} {body suite : List Stmt} {b₀ : Stmt} {np1 np2 tp pos pos' : Pos} {tb : WX → TS} {ts : Addr → Obj → Value → Option Addr → TS} {hds : List ExceptHandler}
theorem ps_try_tup2 (hs : X.stack = X.env :: X.outer) (hf : X.env.frame = some X.env.locals) (hN : X.N.Nodup) (hi : X.N[i]? = some n) (hln : X.env.kindOf n = some .local) (hc1 : Names X x1 c1) (hc2 : Names X x2 c2)
    (hb : ∀ (W : WX) (pn : List (Addr × Obj)) (xe : Value → Shared → Prop), Takes (X.tr pn xe) W → PassesOwn (model X.prog X.w) X.A X.env xe → PSs (X.tr pn xe) body (tb W))
    (hsu : ∀ (a : Addr) (oe : Obj) (cls : Value) (d : Option Addr) (pn : List (Addr × Obj)), Zc cls d oe → (∃ vs, oe.data = .fields vs) → PSs (X.suite a ((a, oe) :: pn)) (b₀ :: suite) (ts a oe cls d)) :
    PS X (.Try body (.ExceptHandler (some (.Tuple [.Name x1 np1, .Name x2 np2] kk tp)) (some n) (b₀ :: suite) pos' :: hds) [] [] pos) (fun D σ H => tb (wTup X.K c1 c2 i ts D) D σ H) := by
  refine ⟨fun pins s σ H D I h => ?_⟩
  have ok := I.ok
  have hfr : X.A.frames = some (X.env :: X.outer) := by rw [ok.frames, hs]
  have hloc : Loc X.env.scope n := .inl hln
  refine wpAny_Try_except ?_
  refine wpAny_mono ((hb (wTup X.K c1 c2 i ts D) (X.pn ++ pins) (fun e s₁ => wpAny (model X.prog X.w) X.A (noteFrame e X.env) (fun _ s₂ => wpAny (model X.prog X.w) X.A (setFlight e none) (fun _ s₃ =>
    wpAny (model X.prog X.w) X.A (handleBy e X.env (.ExceptHandler (some (.Tuple [.Name x1 np1, .Name x2 np2] kk tp)) (some n) (b₀ :: suite) pos' :: hds)) (SP X pins D) X.xe s₃) X.xe s₂) X.xe s₁) (fun u s' xx => ?_) PassesOwn.looking).run [] s σ H D (I.toTry _) h) (fun f s1 hsp => ?_) (fun e s1 he => he)
  · -- the catch
    obtain ⟨a, B, sI, pins', σ', H', cls, d, rfl, J', nb, up, sky, na, os, ag, hb1, hyes⟩ := xx
    have J : Inv X pins σ' H' sI := J'.ofTry ok
    have sky' : Sky B (X.env :: X.outer) a (Zc cls d) X.env.locals s'.heap := by rw [← hs]; exact sky
    show wpAny (model X.prog X.w) X.A (noteFrame (.ref a) X.env) _ _ _
    refine Sky.land Zc.steady hfr hf sky' fun h3 fl3 up3 => ?_
    have J3 : Inv X pins σ' H' { s' with heap := h3 } := J.landed nb fl3.1 (up.trans up3) os ag
    obtain ⟨oe3, vs3, he3, hz3, hd3⟩ := fl3.there
    have notFr : ∀ {h : Heap} {o : Obj} {vs : Array Value}, h.FunFrames B (X.env :: X.outer) → h.get? a = some o → o.data = .fields vs → a ∉ frs (X.env :: X.outer) := fun {h o vs} ff e dd hm => by
      obtain ⟨_, o', e', hnf⟩ := ff.mem hm
      rw [e] at e'; cases e'
      exact hnf _ dd
    have nfr := notFr fl3.2.2.1 he3 hd3
    have nL : a ≠ X.env.locals := fun z => nfr (List.mem_filterMap.mpr ⟨X.env, List.mem_cons_self, by rw [hf, z]⟩)
    have nF : a ∉ X.fs := fun hm => by
      obtain ⟨e, he, q⟩ := List.mem_filterMap.mp hm
      exact nfr (List.mem_filterMap.mpr ⟨e, List.mem_cons_of_mem _ he, q⟩)
    have S3 := J3.suite he3 hd3 na nL nF
    refine wpAny_handleBy_cons (codeAny_handlers_test ?_) (by intro q; cases q)
    have LT : PySem.W.Looks (model X.prog X.w) h3 (typeOf (.ref a)) cls := fun A Q E s k q => wpAny_typeOf_ref (k _ _ he3) (by rw [hz3.1]; exact q)
    have test : ∀ {x : Str} {c : Value} {np : Pos} {Q : Value → Shared → Prop} {E : Value → Shared → Prop}, Names X x c → Q c { s' with heap := h3 } → wpAny (model X.prog X.w) (X.A.mark (some (.ref a))) (eval (.Name x np) X.env) Q E { s' with heap := h3 } := fun {x c np Q E} hc q => by
      obtain ⟨hg, hdbg, hm | ⟨hm, hv, hnn⟩⟩ := hc
      · exact ld_glob (X := X.suite a ((a, oe3) :: (X.pn ++ pins))) S3 hg hm q hdbg
      · exact ld_blt (X := X.suite a ((a, oe3) :: (X.pn ++ pins))) S3 hg hm hv q hnn hdbg
    refine wpAny_Tuple ?_
    refine wpAny_items_cons (test hc1 ?_)
    refine wpAny_items_cons (test hc2 ?_)
    refine wpAny_items_nil ⟨by size_fits, ?_⟩
    have kp : ∀ q o, h3.get? q = some o → (h3.push { cls := .type "tuple", data := .seq [c1, c2].toArray }).get? q = some o := fun _ _ z => Heap.get?_push_of_some _ z
    have LM := PySem.W.exm_tup2 (M := model X.prog X.w) (J3.kIn.keeps kp) (LT.keeps kp) (Heap.get?_push_size h3 rfl) hb1
    refine LM.here ?_
    have fl3' := flyingZ_keeps fl3 kp
    have up3' := up3.trans (Heap.UpToSlots.of_keeps kp)
    refine codeAny_handlers_suite_as ?_
    refine HandSPX.lands_againZ (s := { s' with heap := h3.push { cls := .type "tuple", data := .seq [c1, c2].toArray } }) fl3' fun h4 fl4 up4 => ?_
    have J4 : Inv X pins σ' H' { s' with heap := h4 } := J.landed nb fl4.1 ((up.trans up3').trans up4) os ag
    obtain ⟨oe4, vs4, he4, hz4, hd4⟩ := fl4.there
    have S4 := J4.suite he4 hd4 na nL nF
    refine store_ok (X := X.suite a ((a, oe4) :: (X.pn ++ pins))) (v := .ref a) S4 hN hi hloc rfl (fun s5 S5 => ?_) (.inr hln)
    refine wpAny_mono ((hsu a oe4 cls d (X.pn ++ pins) hz4 ⟨_, hd4⟩).run [] s5 _ H' _ S5 (hyes a oe4 na hz4 ⟨_, hd4⟩)) (fun f s6 hsp => ?_) (fun _ _ z => False.elim z)
    have end_ : ∀ {σ6 : L2.St} {H6 : Hp} {Q : Shared → Prop}, Inv (X.suite a ((a, oe4) :: (X.pn ++ pins))) [] σ6 H6 s6 → (∀ s7, Inv X pins (σ6.set i none) H6 s7 → Q s7) →
        wpAny (model X.prog X.w) X.A (do bindName X.env n .none; unbindBehindTheSuite X.env n pos') (fun _ s7 => Q s7) X.xe s6 := fun {σ6 H6 Q} S6 hq => gone_ok (S6.unsuite ok) hN hi hln hq
    cases f with
    | next =>
      obtain ⟨σ6, H6, S6, q6⟩ := hsp
      exact end_ S6 fun s7 J7 => ⟨_, _, J7, q6⟩
    | brk =>
      obtain ⟨σ6, H6, S6, q6⟩ := hsp
      exact end_ S6 fun s7 J7 => ⟨_, _, J7, q6⟩
    | cont =>
      obtain ⟨σ6, H6, S6, q6⟩ := hsp
      exact end_ S6 fun s7 J7 => ⟨_, _, J7, q6⟩
    | ret u =>
      obtain ⟨v6, σ6, H6, S6, r6, q6⟩ := hsp
      exact end_ S6 fun s7 J7 => ⟨_, _, _, J7, r6, q6⟩
  · cases f with
    | next =>
      obtain ⟨σ', H', J', q⟩ := hsp
      exact wpAny_execs_nil ⟨σ', H', J'.ofTry ok, q⟩
    | brk =>
      obtain ⟨σ', H', J', q⟩ := hsp
      exact ⟨σ', H', J'.ofTry ok, q⟩
    | cont =>
      obtain ⟨σ', H', J', q⟩ := hsp
      exact ⟨σ', H', J'.ofTry ok, q⟩
    | ret u =>
      obtain ⟨v, σ', H', J', r, q⟩ := hsp
      exact ⟨v, σ', H', J'.ofTry ok, r, q⟩
end
end Mi
namespace Mi
open PySem L2 Evl
open PyProof.Rows (envOfC)
section
variable {X : Cx} {B : Bs} {env : Env} {os : Os} {pos : Pos} {α β : Type} {r : Rp α} {a b : Expr} {es : List Expr}
/-- (e, ..) of one kind -/
theorem e_tupL {w : W (List α)} {kk : Nat} (h : AL X B env os es r w) (hz : es.length ≤ sizeLine := by decide) : EE X B env os (.Tuple es kk pos) (rTup X.K r) w := PE.imp (pe_tup h) fun σ H Q ⟨F, P, S, hw, k⟩ => ⟨F, P, S, hw, fun xs hx vs F' H' S' e' ok hl =>
  ⟨by rw [hl]; exact hz, fun p hp => by
    have g : Grow F' H' (upd F' p (.tup vs)) (upd H' p (.tup vs)) := Grow.alloc S'.fh hp
    exact k xs hx (.ref p) _ _ (S'.grow g) (e'.trans g.f) ⟨p, vs, rfl, SqT.of upd_same, by rw [hl]; exact hz, Paired.imp (fun _ _ => r.mono g.f) ok⟩⟩⟩
/-- in a tuple, a list of texts or numbers -/
theorem inV_str (x : Str) (ys : List Str) : inV (.str x) (ys.map V.str) = decide (x ∈ ys) := by
  induction ys with
  | nil => rfl
  | cons y ys ih =>
    unfold inV at ih ⊢
    rw [List.map_cons, List.any_cons, ih]
    show ((y == x) || _) = _
    rw [Bool.eq_iff_iff, Bool.or_eq_true, beq_iff_eq, decide_eq_true_eq, decide_eq_true_eq, List.mem_cons]
    exact ⟨fun h => h.elim (fun e => .inl e.symm) .inr, fun h => h.elim (fun e => .inl e.symm) .inr⟩
theorem strs_map {F : Hp} : ∀ {vs : List V} {xs : List Str}, Paired (rStr.ok F) vs xs → vs = xs.map V.str
  | _, _, .nil => rfl
  | _, _, .cons h t => by
    rw [List.map_cons, ← strs_map t, h.1]
theorem sem_inST {K : PySem.W.Frag} : R2T (rIn K false) rStr (rTup K rStr) rBool (fun x ys => ret (decide (x ∈ ys))) := fun F H v u x ys P E Q fh o1 ⟨p, vs, e1, h1, h2, h3⟩ hw k => by
  have e := strs_map h3
  subst e
  refine ⟨p, _, e1, .inr (ex_t fh h1), by rw [o1.1]; rfl, by simp [flatV], ?_⟩
  show Q (.bl (inV v (ys.map V.str))) H
  rw [o1.1, inV_str]
  exact k _ hw _ F H (Grow.refl fh) rfl
theorem t_inST {w1 : W Str} {w2 : Str → W (List Str)} (ha : EE X B env os a rStr w1) (hb : ∀ x, EE X B env os b (rTup X.K rStr) (w2 x)) (hm : behindInMarks .In b = false := by rfl) : ET X B env os (.Compare a [.In] [b] pos) (bnd w1 fun x => bnd (w2 x) fun y => ret (decide (x ∈ y))) := t_cmp op_in_seq sem_inST hm ha hb
end
/-- the exception at p, pinned while it is handled -/
def rExc (K : PySem.W.Frag) (tb : ETab) (p : Addr × Obj) : Rp Er := ⟨fun F v e => v = .ref p.1 ∧ (∃ vs, p.2.data = .fields vs) ∧ ∃ cls d, Zc cls d p.2 ∧ ErAt K tb F e cls d, fun x ⟨h1, h2, cls, d, h3, h4⟩ => ⟨h1, h2, cls, d, h3, h4.mono x⟩⟩
abbrev FTab := List (String × Option Str)
structure TbOk (K : PySem.W.Frag) (tb : ETab) (ft : FTab) : Prop where
  xf : ∀ t ∈ tb, XfC K t.2.1
  nc : ∀ t ∈ tb, PySem.W.findIn K (.ref t.2.1) "code" = some none
  nf : ∀ t ∈ tb, ∀ f, t.2.2 = some f → PySem.W.findIn K (.ref t.2.1) f = some none
  st : ∀ t ∈ tb, (Str.ofString t.1).length ≤ sizeLine ∧ PyData.strOk (Str.ofString t.1) = true
  ft : ∀ t ∈ tb, ft.lookup t.1 = some t.2.2
def excF (ft : FTab) (e : Er) (f : Str) : W PyData := chk (ft.lookup e.cls = some (some f)) (ret (e.vals.headD .none))
section
variable {X : Cx} {B : Bs} {env : Env} {os : Os} {pos : Pos} {tb : ETab} {ft : FTab} {q : Addr × Obj}
theorem pe_xfP {e : Expr} {te : TE} {n : Str} (hp : q ∈ X.pn) (he : PE X e te) (hb : attributeBase e n X.env (eval e X.env) = eval e X.env := by rfl) :
    PE X (.Attribute e n pos) (fun σ H Q => te σ H fun x H1 => x = .ref q.1 ∧ ∃ (C : Addr) (d : Option Addr), XfC X.K C ∧ PySem.W.findIn X.K (.ref C) n = some none ∧ Zc (.ref C) d q.2 ∧ (∃ vs, q.2.data = .fields vs) ∧ ∃ (dd : Addr) (fs : List (Str × V)) (v : V), d = some dd ∧ H1 dd = some (.xd fs) ∧ fs.lookup n = some v ∧ Q v H1) := by
  refine ⟨fun pins s σ H Q I h => ?_⟩
  refine attr_of hb (thn (he.run pins s σ H _ I h) fun u s1 hh => ?_)
  obtain ⟨x, H1, I1, rx, ex, C, d, T, hno, hz, hf, dd, fs, v, ed, ea, l, q'⟩ := hh
  subst ex
  obtain rfl : u = Value.ref q.1 := rx
  subst ed
  obtain ⟨ha, _⟩ := I1.pin q (List.mem_append_left _ hp)
  obtain ⟨vs, hd⟩ := hf
  have hx : ObjOk X.prog X.w H1 s1.heap dd (.xd fs) := I1.hok dd _ ea
  obtain ⟨mA, hns, hr⟩ := hx
  obtain ⟨od, ho, hl⟩ := lookIn_ns hns
  obtain ⟨u, hu, ru⟩ := RelO.some_of (v := v) (o := mA n) (by rw [← l]; exact hr n)
  have J : PySem.W.InstAt s1.heap q.1 q.2 C (some od) := ⟨ha, hz.1, by unfold PySem.W.notCls; rw [hd] <;> rfl, by rw [hz.2]; exact ho⟩
  exact HandSPX.exc_get I1.kIn J T.ga T.gg T.exC (PySem.W.findObj_own T.hdC hno rfl (by rw [hl, hu])) (handed_of ru) ⟨v, H1, I1.tok _, ru, q'⟩
theorem e_excCode (i : Nat) {x : Str} {p1 : Pos} {e : Er} (hp : q ∈ X.pn) (T : TbOk X.K tb ft) (he : env[i]? = some (sv (rExc X.K tb q) e) := by rfl) (hN : X.N[i]? = some x := by rfl) (hv : Vis X.env.scope x := by first | exact Or.inl rfl | exact Or.inr (Or.inl rfl) | exact Or.inr (Or.inr rfl))
    (hd : (x == ("__debug__" : Str)) = false := by decide) (hcd : (x == ("__classdict__" : Str)) = false := by decide) (hb : attributeBase (.Name x p1) "code" X.env (eval (.Name x p1) X.env) = eval (.Name x p1) X.env := by rfl) :
    EE X B env os (.Attribute (.Name x p1) "code" pos) rStr (ret (Str.ofString e.cls)) :=
  PE.imp (pe_xfP hp (pe_var hN hv hd hcd) hb) fun σ H Q ⟨F, P, S, hw, k⟩ => by
    obtain ⟨ov, h1, v, h2, h3, hf, cls, d, hz, C, fo, dd, fs, m1, m2, m3, m4, m5, m6⟩ := S.env.get he
    subst h2 h3 m2
    exact ⟨_, h1, rfl, C, d, T.xf _ m1, T.nc _ m1, hz, hf, dd, fs, _, m3, S.fh _ _ m4, m5, k _ hw _ F H S (Ex.refl F) ⟨rfl, (T.st _ m1).1, (T.st _ m1).2⟩⟩
theorem e_excFld (i : Nat) {x f : Str} {p1 : Pos} {e : Er} (hp : q ∈ X.pn) (T : TbOk X.K tb ft) (he : env[i]? = some (sv (rExc X.K tb q) e) := by rfl) (hN : X.N[i]? = some x := by rfl) (hv : Vis X.env.scope x := by first | exact Or.inl rfl | exact Or.inr (Or.inl rfl) | exact Or.inr (Or.inr rfl))
    (hd : (x == ("__debug__" : Str)) = false := by decide) (hcd : (x == ("__classdict__" : Str)) = false := by decide) (hb : attributeBase (.Name x p1) f X.env (eval (.Name x p1) X.env) = eval (.Name x p1) X.env := by rfl) :
    EE X B env os (.Attribute (.Name x p1) f pos) (rD X.K) (excF ft e f) :=
  PE.imp (pe_xfP hp (pe_var hN hv hd hcd) hb) fun σ H Q ⟨F, P, S, ⟨hc, hw⟩, k⟩ => by
    obtain ⟨ov, h1, v, h2, h3, hf, cls, d, hz, C, fo, dd, fs, m1, m2, m3, m4, m5, m6⟩ := S.env.get he
    subst h2 h3 m2
    have e1 := T.ft _ m1
    rw [hc] at e1
    have e1 : some (some f) = some fo := e1
    cases e1
    obtain ⟨v, y, z1, z2, z3⟩ := m6
    rw [z1] at hw
    exact ⟨_, h1, rfl, C, d, T.xf _ m1, T.nf _ m1 f rfl, hz, hf, dd, fs, v, m3, S.fh _ _ m4, z2, k _ hw v F H S (Ex.refl F) z3⟩
end
structure FnS (P : Program) (w : World) (K : PySem.W.Frag) (mg : Str → Option Value) (base : Heap) (k : Nat) (f : Addr) (fd : FuncData) (ps : List Str) (sp : Addr × Obj → Sp) : Prop where
  len : ∀ p vs H Q E, sp p vs H Q E → vs.length = ps.length
  run : ∀ (A : Around) (outer : List PySem.Env) (s : Shared) (H : Hp) (args : Args) (us : List Value) (vs : List V) (Q : VK) (p : Addr × Obj), L2H.RoomH k A → L2H.PinOk outer H s p → Env0 P w K mg base A outer s H → BindsTo s fd args (ps.zip us) → Vals vs us → sp p vs H Q E0 →
    codeAny (model P w) A (.call (.ref f) args) (CR CX0 outer P w H s Q E0) s
section
variable {P : Program} {w : World} {K : PySem.W.Frag} {mg : Str → Option Value} {base : Heap} {k : Nat} {f : Addr} {fd : FuncData} {ps N : List Str} {ι ρ : Type} {args : Addr × Obj → ι → Env} {wf : ι → W ρ} {ro : Rp ρ}
theorem okS {x qual : Str} {st : Stmt} (F : Fun K x qual st f fd) (S : FnScope N ps (defScope st)) (hl : ∀ p i, (args p i).length = ps.length)
    (body : ∀ (cdv : Value) (A : Around) (outer : List PySem.Env) (s : Shared) (H : Hp) (B : Bs) (p : Addr × Obj) (i : ι),
      BG (L2H.cxH CX0 P w K mg base N qual (defScope st) f cdv A outer s H E0 p) B (entry (args p i) (N.length - ps.length)) [] (defBody st) (pFn B [] ro) (wf i)) : FnS P w K mg base (k + 1) f fd ps (fun p => spW (args p) (fun _ => []) wf ro) := by
  obtain ⟨oc, od, kV, doc, pm, an, cdv, ct, osl, rfl, lk, hcd⟩ := F.ex
  refine ⟨fun p => spW_len (hl p), fun A outer s H args' us vs Q p hr hpin e0 hb r hsp => ?_⟩
  have hvl := spW_len (hl p) vs H Q E0 hsp
  have KX : K.In s.heap := e0.mod.kin.keeps fun b o e => (e0.bs b o e).1
  have lim : s.heap.NoLimit := e0.mod.nolimit.keeps fun b o e => (e0.bs b o e).1
  have hkind : ∀ y ∈ ps.zip us, (defScope st).names.lookup y.1 = some .local ∨ ((defScope st).names.lookup y.1 = some .cell ∧ ((cellsFrom (s.heap.objs.size + 1) (defScope st).names []).lookup y.1).isSome = true) := fun ⟨n, v⟩ hy => by
    rcases S.par n (List.of_mem_zip hy).1 with q | q
    · exact .inl q
    · exact .inr ⟨q, PySem.W.cellsFrom_some _ _ _ (.inl q)⟩
  obtain ⟨i, F0, P0, fh, he, ho, nd, hw, hk⟩ := hsp
  refine codeAny_call_function hr.depth (KX _ _ lk) rfl S.co S.gen rfl (PySem.W.codeRec_of KX hcd) (hb _ _ _ _ ?_)
  refine wpAny_newFunctionEnv_cells S.kind hkind fun env he' s1 x => ?_
  subst he'
  refine ⟨lim.keeps x.toInCall.keep, codeAny_func ?_⟩
  have I : Inv (L2H.cxH CX0 P w K mg base N qual (defScope st) f cdv A outer s H E0 p) [] (L2.start N vs) H s1 := L2H.inv_startH S hpin e0 hvl r x
  refine wpAny_mono ((body cdv A outer s H (bs0 F0 H []) p i).run [] s1 (L2.start N vs) H { nx := fun _ H' => Q .non H', rt := Q } I ⟨F0, P0, ⟨bs0_start fh ho, by rw [← hvl]; exact entry_ok he, fun p hp => (by cases hp), List.nodup_nil⟩, hw,
    fun y hy => ⟨fun v F' H' fn ow ok => hk y hy v F' H' fn ow ok, fun σ F' H' fn ow ok => hk y hy .non F' H' fn ow ok⟩⟩) (fun fl s' hs => ?_) fun e s' hs => hs
  have fin : ∀ {σ' : L2.St} {H' : Hp} {v : V} {u : Value}, Inv (L2H.cxH CX0 P w K mg base N qual (defScope st) f cdv A outer s H E0 p) [] σ' H' s' → RelV v u → Q v H' → CE outer P w H s Q u s' :=
    fun {σ' H' v u} J rv q => ⟨v, H', J.os, J.bare, J.base, J.hok, rv, q⟩
  cases fl with
  | ret u =>
    obtain ⟨v, σ', H', J, rv, q⟩ := hs
    exact fin J rv q
  | next =>
    obtain ⟨σ', H', J, q⟩ := hs
    exact fin (v := V.non) (u := Value.none) J rfl q
  | brk =>
    obtain ⟨_, _, _, q⟩ := hs
    exact False.elim q
  | cont =>
    obtain ⟨_, _, _, q⟩ := hs
    exact False.elim q
end
section
variable {X : Cx} {B : Bs} {env : Env} {os : Os} {pos p : Pos} {ι ρ : Type} {args : Addr × Obj → ι → Env} {wf : ι → W ρ} {ro : Rp ρ} {e : Expr} {es : List Expr} {x : Str} {k : Nat} {f : Addr} {fd : FuncData} {ps : List Str} {q : Addr × Obj}
theorem e_callS {w : W ι} (G : FnS X.prog X.w X.K X.mg X.base k f fd ps (fun p => spW (args p) (fun _ => []) wf ro)) (hp : q ∈ X.pn) (hr : L2H.RoomH k X.A) (hm : X.mg x = some (.ref f)) (hk : PySem.W.keepIn X.K (.ref f) = true) (hb : Binds X.K fd ps [])
    (ha : AA X B env os (e :: es) (args q) w) (hg : Gl X x := by rfl) (hdb : (x == ("__debug__" : Str)) = false := by decide)
    (he : starEach (e :: es) X.env = (false, eval e X.env) :: starEach es X.env := by rfl) (hpl : (backTo pos (starEach es X.env)).any (·.1) = false := by rfl) :
    EE X B env os (.Call (.Name x p) (e :: es) [] pos) ro (bnd w fun i => noX (wf i)) := by
  refine ⟨fun pins s σ H Q I h => ?_⟩
  refine wpAny_Call_Name_kw (ld_glob I hg hm ?_ hdb)
  refine PySem.W.callWith_K (h₀ := X.base) I.ok.mod.kin hk (thn (ha.run pos pins s σ H _ I (call_back (args := args q) (osf := fun _ => []) (fun _ => OsLe.none) (fun _ => List.nodup_nil) h)) fun us s1 ⟨vs, H1, I1, r, qq⟩ => ⟨I1.kIn, ?_⟩) he hpl
  show wpAny _ _ (call (.ref f) us) _ _ _
  have hl : us.length = ps.length := by rw [← r.length]; exact G.len q _ _ _ _ qq
  have b := hb s1 us I1.kIn (by rw [List.append_nil]; exact hl)
  rw [List.append_nil] at b
  have P1 := I1.pin q (List.mem_append_left _ hp)
  have hpin : L2H.PinOk X.stack H1 s1 q := ⟨P1.1, P1.2.1, fun hm => (List.mem_cons.mp (I1.stkSub q.1 hm)).elim P1.2.2.1 P1.2.2.2.1, P1.2.2.2.2⟩
  refine wpAny_call (codeAny_mono (G.run X.A X.stack s1 H1 ⟨us, []⟩ us vs Q q hr hpin I1.env0 b r qq) fun res s' hq => ?_)
  cases res with
  | error e => exact False.elim hq
  | ok fl =>
    cases fl with
    | ret u => exact I1.after hq
    | next => exact False.elim hq
    | brk => exact False.elim hq
    | cont => exact False.elim hq
end
end Mi
namespace Mi
open PySem L2 Evl
open PyProof.Rows (envOfC)
/-- try: w1, what is raised goes to w2 -/
def tryW {α : Type} (w1 : W α) (w2 : Er → W α) : W α := fun P E => w1 P fun e => w2 e P E
theorem takes_len {X : Cx} {W W' : WX} (t : Takes X W) (h : ∀ c d σ H, σ.length = X.N.length → W' c d σ H → W c d σ H) : Takes X W' := fun u s' ⟨a, B, sI, pins, σ, H, cls, d, e, I, nb, up, sky, na, os, ag, w⟩ =>
  t u s' ⟨a, B, sI, pins, σ, H, cls, d, e, I, nb, up, sky, na, os, ag, h _ _ _ _ I.len w⟩
theorem env_sa {F : Hp} : ∀ {σ : L2.St} {n : Nat}, σ.length = n → EnvOk F (List.replicate n sa) σ
  | [], _, h => by subst h; exact .nil
  | o :: σ, _, h => by
    subst h
    rw [List.length_cons, List.replicate_succ]
    exact .cons trivial (env_sa rfl)
section
variable {P : Program} {w : World} {K : PySem.W.Frag} {tb : ETab} {mg : Str → Option Value} {base : Heap} {k : Nat} {f C1 C2 : Addr} {fd : FuncData} {ps N : List Str} {ι ρ : Type} {args : ι → Env} {w1 : ι → W ρ} {w2 : Er → W ρ} {ro : Rp ρ}
theorem tryFn {x qual x1 x2 n : Str} {st b₀ : Stmt} {body suite : List Stmt} {hds : List ExceptHandler} {np1 np2 tp pos' pos : Pos} {kk i : Nat} (F : Fun K x qual st f fd) (S : FnScope N ps (defScope st)) (hl : ∀ i, (args i).length = ps.length)
    (hblk : defBody st = [.Try body (.ExceptHandler (some (.Tuple [.Name x1 np1, .Name x2 np2] kk tp)) (some n) (b₀ :: suite) pos' :: hds) [] [] pos]) (hi : N[i]? = some n) (hln : (defScope st).names.lookup n = some .local)
    (g1 : (defScope st).names.lookup x1 = some .globalImplicit) (g2 : (defScope st).names.lookup x2 = some .globalImplicit) (d1 : (x1 == ("__debug__" : Str)) = false) (d2 : (x2 == ("__debug__" : Str)) = false) (m1 : mg x1 = some (.ref C1)) (m2 : mg x2 = some (.ref C2))
    (hall : ∀ t ∈ tb, PySem.W.exmAny K (.ref t.2.1) [.ref C1, .ref C2] = some true)
    (hbody : ∀ (cdv : Value) (A : Around) (outer : List PySem.Env) (s : Shared) (H : Hp) (E : XK) (pn : List (Addr × Obj)) (xe : Value → Shared → Prop) (B : Bs) (i0 : ι), Room k (A.deeper (envOfC qual (defScope st) s.heap.objs.size f cdv)) →
      Takes ((cxOf CX0 P w K mg base N qual (defScope st) f cdv A outer s H E).nox.tr pn xe) (wB K tb B) → BG ((cxOf CX0 P w K mg base N qual (defScope st) f cdv A outer s H E).nox.tr pn xe) B (entry (args i0) (N.length - ps.length)) [] body (pFn B [] ro) (w1 i0))
    (hsuite : ∀ (cdv : Value) (A : Around) (outer : List PySem.Env) (s : Shared) (H : Hp) (E : XK) (a : Addr) (oe : Obj) (pn : List (Addr × Obj)) (B : Bs) (e : Er), Room k (A.deeper (envOfC qual (defScope st) s.heap.objs.size f cdv)) →
      BG ((cxOf CX0 P w K mg base N qual (defScope st) f cdv A outer s H E).nox.suite a ((a, oe) :: pn)) B ((List.replicate N.length sa).set i (sv (rExc K tb (a, oe)) e)) [] (b₀ :: suite) (pFn B [] ro) (w2 e)) :
    FnOk P w K mg base CX0 (k + 1) f fd ps (spW args (fun _ => []) (fun i0 => tryW (w1 i0) w2) ro) := by
  refine F.ok S (spW_len hl) fun cdv A outer s H vs Q E hr hsp => ?_
  have hvl := spW_len hl vs H Q E hsp
  obtain ⟨i0, F0, P0, fh, he, ho, nd, hw, hk⟩ := hsp
  obtain ⟨X, hX⟩ : ∃ X, X = (cxOf CX0 P w K mg base N qual (defScope st) f cdv A outer s H E).nox := ⟨_, rfl⟩
  obtain ⟨B1, hB1⟩ : ∃ B1 : Bs, B1 = { bs0 F0 H [] with E0 := fun e => w2 e P0 fun _ => False } := ⟨_, rfl⟩
  have fn1 : ∀ F' H', Fn B1 F' H' → Fn (bs0 F0 H []) F' H' := fun F' H' f => by
    subst hB1
    exact ⟨f.fh, f.bf, f.mrk, f.bb, f.ios, f.keep⟩
  have key : PSs X (defBody st) (fun D σ H' => D = { nx := fun _ H' => Q .non H', rt := Q } ∧ tBG B1 (entry (args i0) (N.length - ps.length)) [] (pFn B1 [] ro) (w1 i0) D σ H') := by
    rw [hblk]
    suffices one : PS X (.Try body (.ExceptHandler (some (.Tuple [.Name x1 np1, .Name x2 np2] kk tp)) (some n) (b₀ :: suite) pos' :: hds) [] [] pos) (fun D σ H' => D = { nx := fun _ H' => Q .non H', rt := Q } ∧ tBG B1 (entry (args i0) (N.length - ps.length)) [] (pFn B1 [] ro) (w1 i0) D σ H')
      from PSs.imp (pss_one one) fun _ _ _ q => q
    refine ⟨fun pins s' σ H' D I ⟨eD, h⟩ => ?_⟩
    refine (ps_try_tup2 (X := X) (i := i) (c1 := .ref C1) (c2 := .ref C2) (tb := fun W D σ H' => (∀ cls d σ H', σ.length = X.N.length → wB K tb B1 cls d σ H' → W cls d σ H') ∧ tBG B1 (entry (args i0) (N.length - ps.length)) [] (pFn B1 [] ro) (w1 i0) D σ H')
      (ts := fun a oe cls d => fun D σ H' => ∃ e, tBG (bs0 F0 H []) ((List.replicate N.length sa).set i (sv (rExc K tb (a, oe)) e)) [] (pFn (bs0 F0 H []) [] ro) (w2 e) D σ H') (by subst hX; rfl) (by subst hX; rfl) (by subst hX; exact S.nd) (by subst hX; exact hi) (by subst hX; exact hln) (by subst hX; exact ⟨g1, d1, .inl m1⟩) (by subst hX; exact ⟨g2, d2, .inl m2⟩)
      (fun W pn xe tk _ => ?_) (fun a oe cls d pn hz hv => ?_)).run pins s' σ H' D I ⟨?_, h⟩
    · refine ⟨fun pins s' σ H' D I ⟨hW, h⟩ => ?_⟩
      subst hX
      exact (hbody cdv A outer s H E pn xe B1 i0 hr (takes_len tk hW)).run pins s' σ H' D I h
    · refine PSs.ex fun e => ?_
      subst hX
      exact hsuite cdv A outer s H E a oe pn _ e hr
    · rintro cls d σ2 H2 hlen ⟨e, F2, h1, h2, h3⟩
      have h2' := fn1 F2 H2 (by subst hB1; exact ⟨h2.fh, h2.bf, h2.bf, h2.bb, h2.ios, h2.keep⟩)
      have h1' : w2 e P0 fun _ => False := by
        subst hB1
        exact h1
      obtain ⟨C, fo, dd, fs, q1, q2, q3⟩ := id h3
      refine ⟨by rw [q2, show X.K = K by subst hX; rfl]; exact hall _ q1, fun a oe na hz hv => ⟨e, F2, P0, ⟨h2', ?_, fun p hp => (by cases hp), List.nodup_nil⟩, h1', fun y hy => ?_⟩⟩
      · have hN : X.N.length = N.length := by
          subst hX
          rfl
        exact EnvOk.set (s := sv (rExc K tb (a, oe)) e) ⟨_, rfl, rfl, hv, cls, d, hz, h3⟩ (env_sa (by rw [hlen, hN]))
      · subst eD
        exact ⟨fun v F' H' fn ow ok => hk y hy v F' H' fn ow ok, fun σ F' H' fn ow ok => hk y hy .non F' H' fn ow ok⟩
  rw [hX] at key
  refine ⟨_, key, ⟨rfl, F0, P0, ⟨?_, ?_, fun p hp => (by cases hp), List.nodup_nil⟩, ?_, fun y hy => ⟨fun v F' H' fn ow ok => hk y hy v F' H' (fn1 _ _ fn) (fun p hp => by cases hp) ok, fun σ F' H' fn ow ok => hk y hy .non F' H' (fn1 _ _ fn) (fun p hp => by cases hp) ok⟩⟩⟩
  · have z := bs0_start (os := []) fh (fun p hp => by cases hp)
    subst hB1
    exact ⟨z.fh, z.bf, z.mrk, z.bb, z.ios, z.keep⟩
  · rw [← hvl]
    exact entry_ok he
  · subst hB1
    exact hw
end
end Mi
namespace Mi
open PySem L2 Evl LamX
open PyProof.Rows (envOfC IntsAre AllBare)
theorem sqL_but {K : PySem.W.Frag} {H : Hp} {P a : Addr} {xs : List V} {ps : Array Value} (hP : H P = some (.tbl ps)) (h : SqL K H a xs) : SqL K (del H P) a xs := by
  have ne : ∀ o, H a = some o → o ≠ .tbl ps → a ≠ P := fun o e n z => by
    subst z
    rw [hP] at e
    exact n (Option.some.inj e).symm
  rcases h with (h | ⟨o, h⟩) | h
  · exact .inl (.inl ((del_ne (ne _ h (by intro z; cases z))).trans h))
  · exact .inl (.inr ⟨o, (del_ne (ne _ h (by intro z; cases z))).trans h⟩)
  · exact .inr h
end Mi
namespace Mi
open PySem L2 Evl
section
variable {X : Cx} {B : Bs} {env : Env} {os : Os} {pos p : Pos} {α β ρ : Type} {s : Rp β} {a b : Expr} {fl : α → List (Str × Slot)} {k : Nat} {f C : Addr} {fd : FuncData} {ps : List Str}
/-- what never ends may end as anything -/
theorem e_never {γ : Type} {r : Rp α} {r' : Rp γ} {w : W α} (h : EE X B env os a r w) : EE X B env os a r' (bnd w fun _ => fail) := PE.imp h fun σ H Q ⟨F, P, S, hw, k⟩ => ⟨F, _, S, hw, fun z hz => False.elim hz⟩
end
end Mi
namespace Mi
open PySem L2 Evl
open PyProof.Rows (envOfC)
def tLs (B : Bs) (env : Env) (os : Os) {α : Type} (r : Rp α) (w : W (List α)) : TA := fun σ H Q => ∃ F P, Sit B F H σ env os ∧ w P B.E0 ∧ ∀ xs, P xs → ∀ vs F' H', Sit B F' H' σ env os → Ex F F' → Paired (r.ok F') vs xs → Q vs H'
def LS (X : Cx) (B : Bs) (env : Env) (os : Os) (es : List Expr) {α : Type} (r : Rp α) (w : W (List α)) : Prop := PA X es (tLs B env os r w)
section
variable {X : Cx} {B : Bs} {env : Env} {os : Os} {pos : Pos} {α β γ : Type} {r : Rp α} {s : Rp β} {a b c o e : Expr} {es : List Expr} {rest : List Stmt} {post : Post β}
theorem ls_nil : LS X B env os [] r (ret []) := PA.imp pa_nil fun σ H Q ⟨F, P, S, hw, k⟩ => k [] hw [] F H S (Ex.refl F) .nil
theorem ls_cons {w1 : W α} {w2 : W (List α)} (h : EE X B env os e r w1) (ht : LS X B env os es r w2) (hs : starEach (e :: es) X.env = (false, eval e X.env) :: starEach es X.env := by rfl) : LS X B env os (e :: es) r (bnd w1 fun x => bnd w2 fun xs => ret (x :: xs)) :=
  PA.imp (pa_cons h ht hs) fun σ H Q ⟨F, P, S, hw, k⟩ => ⟨F, _, S, hw, fun x hx v F1 H1 S1 e1 ok1 => ⟨F1, _, S1, hx, fun xs hxs vs F2 H2 S2 e2 ok2 => k _ hxs (v :: vs) F2 H2 S2 (e1.trans e2) (.cons (r.mono e2 ok1) ok2)⟩⟩
theorem ls_star {w1 w2 : W (List α)} {p : Pos} (h : EE X B env os e (rLst r) w1) (ht : LS X B env os es r w2) (hs : starEach (.Starred e p :: es) X.env = (true, eval e X.env) :: starEach es X.env := by rfl) : LS X B env os (.Starred e p :: es) r (bnd w1 fun x => bnd w2 fun xs => ret (x ++ xs)) :=
  PA.imp (StX.pa_star h ht hs) fun σ H Q ⟨F, P, S, hw, k⟩ => ⟨F, _, S, hw, fun x hx v F1 H1 S1 e1 ⟨p1, vs, q1, h1, z1, ok1⟩ => ⟨p1, vs, q1, .inr (SqL.of (S1.fh _ _ h1)), F1, _, S1, hx, fun xs hxs us F2 H2 S2 e2 ok2 => k _ hxs (vs ++ us) F2 H2 S2 (e1.trans e2) (Paired.app (Paired.imp (fun _ _ => r.mono e2) ok1) ok2)⟩⟩
theorem n_listS {w : W (List α)} (h : LS X B env os es r w) : EN X B env os (.List es pos) r (bnd w fun xs => chk (xs.length ≤ sizeLine) (ret xs)) := PE.imp (pe_lst h) fun σ H Q ⟨F, P, S, hw, k⟩ => ⟨F, _, S, hw, fun xs ⟨hl, hx⟩ vs F' H' S' e' ok =>
  ⟨by rw [ok.length]; exact hl, fun p hp => k xs hx p F' _ (S'.newOwn hp ⟨vs, rfl, by rw [ok.length]; exact hl, ok⟩) e'⟩⟩
def tyD : PyData → String
  | .none => "NoneType"
  | .bool _ => "bool"
  | .int _ => "int"
  | .str _ => "str"
  | .list _ => "list"
  | .tuple _ => "tuple"
  | .dict _ => "dict"
theorem ty_D {K : PySem.W.Frag} {F H : Hp} {v : V} {d : PyData} (h : (rD K).ok F v d) (q : Ex F H) : TyX K H v (.type (tyD d)) := by
  obtain ⟨h, _⟩ := h
  cases h with
  | non => exact .base .non
  | bl b => exact .base (.bl b)
  | int i => exact .base (.int i)
  | str x => exact .base (.str x)
  | lst h _ =>
    rcases h with (h | ⟨o, h⟩) | ⟨o, its, n, hk, hc, _⟩
    · exact .base (.lst (q _ _ h))
    · exact .base (.frz (q _ _ h))
    · exact .kList hk hc
  | tup h _ =>
    rcases h with (h | ⟨o, h⟩) | ⟨o, its, n, hk, hc, _⟩
    · exact .base (.tup (q _ _ h))
    · exact .fTuple (q _ _ h)
    · exact .kTuple hk hc
theorem e_isBD {w : W PyData} {x : Str} {T : String} {k : String → Bool} {p1 p2 : Pos} (hk : ∀ d, PySem.W.kitOne X.K (.type (tyD d)) (.type T) = some (k (tyD d))) (ha : EE X B env os a (rD X.K) w) (hm : X.mg "isinstance" = none) (hx : X.mg x = none)
    (hv : bootBuiltins x = some (.type T) := by decide +kernel) (hn : x ≠ "__name__" := by decide) (hd : (x == ("__debug__" : Str)) = false := by decide)
    (hg : Gl X "isinstance" := by rfl) (hgx : Gl X x := by rfl) (hs : starEach [a, .Name x p2] X.env = (false, eval a X.env) :: starEach [.Name x p2] X.env := by rfl) (hs2 : starEach [.Name x p2] X.env = (false, eval (.Name x p2) X.env) :: starEach [] X.env := by rfl) (hpl : (backTo pos (starEach [.Name x p2] X.env)).any (·.1) = false := by rfl) :
    EE X B env os (.Call (.Name "isinstance" p1) [a, .Name x p2] [] pos) rBool (bnd w fun d => ret (k (tyD d))) :=
  PE.imp (pe_callB call_isi hg hm (by decide +kernel) (pa_cons ha (pa_cons (pe_bltn (v := .ty T) hgx hx hv rfl hn hd) pa_nil hs2) hs) (by decide) (by decide) hs hpl) fun σ H Q ⟨F, P, S, hw, kk⟩ => ⟨F, _, S, hw, fun d hd v F1 H1 S1 e1 ok =>
    ⟨v, .ty T, _, .type T, k (tyD d), rfl, .ty T, ty_D ok S1.fh, hk d, kk _ hd (.bl _) F1 H1 S1 e1 rfl⟩⟩
def tyInt (t : String) : Bool := t == "int" || t == "bool"
theorem kd_int {K : PySem.W.Frag} (d : PyData) : PySem.W.kitOne K (.type (tyD d)) (.type "int") = some (tyInt (tyD d)) := by
  cases d <;> (dsimp only [tyD]; exact kit_ty (by decide +kernel))
theorem kd_bool {K : PySem.W.Frag} (d : PyData) : PySem.W.kitOne K (.type (tyD d)) (.type "bool") = some (tyD d == "bool") := by
  cases d <;> (dsimp only [tyD]; exact kit_ty (by decide +kernel))
theorem kd_str {K : PySem.W.Frag} (d : PyData) : PySem.W.kitOne K (.type (tyD d)) (.type "str") = some (tyD d == "str") := by
  cases d <;> (dsimp only [tyD]; exact kit_ty (by decide +kernel))
theorem kd_list {K : PySem.W.Frag} (d : PyData) : PySem.W.kitOne K (.type (tyD d)) (.type "list") = some (tyD d == "list") := by
  cases d <;> (dsimp only [tyD]; exact kit_ty (by decide +kernel))
theorem kd_tuple {K : PySem.W.Frag} (d : PyData) : PySem.W.kitOne K (.type (tyD d)) (.type "tuple") = some (tyD d == "tuple") := by
  cases d <;> (dsimp only [tyD]; exact kit_ty (by decide +kernel))
end
end Mi
namespace Mi
open PySem L2 Evl LamX
open PyProof.Rows (envOfC)
def spN {ι α : Type} (args : ι → Env) (w : ι → W (List α)) (r : Rp α) : Sp := fun vs H Q _ => ∃ (i : ι) (F : Hp) (P : List α → Prop), Ex F H ∧ EnvOk F (args i) (vs.map some) ∧ w i P (fun _ => False) ∧
  ∀ xs, P xs → ∀ a F' H', Fn (bs0 F H []) F' H' → F' a = none → H a = none → (∃ o, H' a = some o ∧ (oLst r xs).ok F' o) → Q (.ref a) H'
def pN {α : Type} (B : Bs) (r : Rp α) : Post (List α) := fun D xs => ∀ a F H, Fn B F H → F a = none → B.H a = none → (∃ o, H a = some o ∧ (oLst r xs).ok F o) → D.rt (.ref a) H
section
variable {P : Program} {w : World} {K : PySem.W.Frag} {mg : Str → Option Value} {base : Heap} {k : Nat} {f : Addr} {fd : FuncData} {ps N : List Str} {ι α : Type} {args : ι → Env} {wf : ι → W (List α)} {r : Rp α}
theorem okN {x qual : Str} {st : Stmt} (F : Fun K x qual st f fd) (S : FnScope N ps (defScope st)) (hl : ∀ i, (args i).length = ps.length)
    (body : ∀ (cdv : Value) (A : Around) (outer : List PySem.Env) (s : Shared) (H : Hp) (E : XK) (B : Bs) (i : ι), Room k (A.deeper (envOfC qual (defScope st) s.heap.objs.size f cdv)) → B.io = [] →
      BG (cxOf CX0 P w K mg base N qual (defScope st) f cdv A outer s H E).nox B (entry (args i) (N.length - ps.length)) [] (defBody st) (pN B r) (wf i)) : FnOk P w K mg base CX0 (k + 1) f fd ps (spN args wf r) := by
  have ln : ∀ vs H Q E, spN args wf r vs H Q E → vs.length = ps.length := fun vs H Q E ⟨i, F, P, _, he, _⟩ => by
    have := he.len
    rw [List.length_map, hl i] at this
    exact this.symm
  refine F.ok S ln fun cdv A outer s H vs Q E hr hsp => ?_
  have hvl := ln vs H Q E hsp
  obtain ⟨i, F0, P0, fh, he, hw, hk⟩ := hsp
  refine ⟨_, body cdv A outer s H E (bs0 F0 H []) i hr rfl, F0, P0, ⟨bs0_start fh (fun p hp => by cases hp), ?_, fun p hp => (by cases hp), List.nodup_nil⟩, hw, fun xs hx a F' H' fn h1 h2 h3 => hk xs hx a F' H' fn h1 h2 h3⟩
  rw [← hvl]
  exact entry_ok he
end
section
variable {X : Cx} {B : Bs} {env : Env} {os : Os} {pos p : Pos} {α β ι ρ : Type} {r : Rp α} {e o : Expr} {es : List Expr} {rest : List Stmt} {post : Post β} {k : Nat} {f C : Addr} {fd : FuncData} {ps : List Str} {m : Str} {apos : Pos}
theorem b_retN {w : W (List α)} (hio : B.io = []) (h : EN X B env os e r w) : BG X B env os [.Return (some e) pos] (pN B r) w :=
  PSs.imp (pss_one (ps_ret h)) fun D σ H ⟨F, P, Si, hw, k⟩ => ⟨F, P, Si, hw, fun x hx a F' H' S' _ => by
    obtain ⟨h1, h2, h3⟩ := S'.ow (a, oLst r x) List.mem_cons_self
    refine k x hx a F' H' S'.fin h1 (h3.elim id fun z => ?_) h2
    rw [hio] at z
    cases z⟩
theorem Sit.gotN {F F' H H' : Hp} {σ : L2.St} {a : Addr} {xs : List α} (S : Sit B F H σ env os) (fn : Fn (bs0 F H []) F' H') (h1 : F' a = none) (h2 : H a = none) (h3 : ∃ o, H' a = some o ∧ (oLst r xs).ok F' o) : Sit B F' H' σ env ((a, oLst r xs) :: os) := by
  have S' := S.back OsLe.none fn (fun p hp => by cases hp)
  refine ⟨S'.fin, S'.env, fun p hp => ?_, ?_⟩
  · rcases List.mem_cons.mp hp with e | e
    · subst e
      refine ⟨h1, h3, .inl ?_⟩
      cases z : B.H a with
      | none => rfl
      | some u =>
        by_cases hio : a ∈ B.io
        · obtain ⟨o, ho⟩ := S.fin.ios a hio
          rw [h2] at ho
          cases ho
        · cases q : B.F a with
          | none =>
            have := (S.fin.keep a u q z hio).1
            rw [h2] at this
            cases this
          | some u' =>
            have := S.fh _ _ (S.fin.bf _ _ q)
            rw [h2] at this
            cases this
    · exact S'.ow p e
  · rw [List.map_cons]
    refine List.nodup_cons.mpr ⟨fun hm => ?_, S'.nd⟩
    obtain ⟨p, hp, e⟩ := List.mem_map.mp hm
    obtain ⟨_, ⟨u, hu, _⟩, _⟩ := S.ow p hp
    rw [e, h2] at hu
    cases hu
end
end Mi
namespace Mi
open PySem L2 Evl LamX
open PyProof.Rows (envOfC)
def LamsOk (F : Hp) (vs : List V) (Ds : List (LamD × Bool)) : Prop := Paired (fun v (D : LamD × Bool) => (rLam D.1 D.2).ok F v ()) vs Ds
theorem LamsOk.mono {F F' : Hp} (e : Ex F F') : ∀ {vs : List V} {Ds : List (LamD × Bool)}, LamsOk F vs Ds → LamsOk F' vs Ds := fun h => Paired.imp (fun v D => (rLam D.1 D.2).mono e) h
def rLamL (Ds : List (LamD × Bool)) : Rp Unit := ⟨fun F v _ => ∃ a vs, v = .ref a ∧ F a = some (.lst vs) ∧ vs.length ≤ sizeLine ∧ LamsOk F vs Ds, fun e ⟨a, vs, h1, h2, h3, h4⟩ => ⟨a, vs, h1, e _ _ h2, h3, h4.mono e⟩⟩
def oLams (Ds : List (LamD × Bool)) : Own := ⟨fun F o => ∃ vs, o = .lst vs ∧ vs.length ≤ sizeLine ∧ LamsOk F vs Ds, fun e ⟨vs, h1, h2, h3⟩ => ⟨vs, h1, h2, h3.mono e⟩⟩
def LL (X : Cx) (B : Bs) (env : Env) (os : Os) (es : List Expr) (Ds : List (LamD × Bool)) : Prop := PA X es fun σ H Q => ∃ F, Sit B F H σ env os ∧ ∀ vs F' H', Sit B F' H' σ env os → Ex F F' → LamsOk F' vs Ds → Q vs H'
section
variable {X : Cx} {B : Bs} {env : Env} {os : Os} {pos p : Pos} {e : Expr} {es : List Expr} {D : LamD} {df : Bool} {Ds : List (LamD × Bool)}
theorem ll_nil : LL X B env os [] [] := PA.imp pa_nil fun σ H Q ⟨F, S, k⟩ => k [] F H S (Ex.refl F) .nil
theorem ll_cons (h : EE X B env os e (rLam D df) (ret ())) (ht : LL X B env os es Ds) (hs : starEach (e :: es) X.env = (false, eval e X.env) :: starEach es X.env := by rfl) : LL X B env os (e :: es) ((D, df) :: Ds) :=
  PA.imp (pa_cons h ht hs) fun σ H Q ⟨F, S, k⟩ => ⟨F, fun _ => True, S, trivial, fun _ _ v F1 H1 S1 e1 ok1 => ⟨F1, S1, fun vs F2 H2 S2 e2 ok2 => k (v :: vs) F2 H2 S2 (e1.trans e2) (.cons ((rLam D df).mono e2 ok1) ok2)⟩⟩
theorem e_lams (h : LL X B env os es Ds) (hz : Ds.length ≤ sizeLine := by decide) : EE X B env os (.List es pos) (rLamL Ds) (ret ()) := PE.imp (pe_lst h) fun σ H Q ⟨F, P, S, hw, k⟩ => ⟨F, S, fun vs F' H' S' e' ok =>
  have hl : vs.length ≤ sizeLine := by rw [ok.length]; exact hz
  ⟨hl, fun p hp => by
    obtain ⟨F2, o, e2, h1, ⟨vs', h2, h3, h4⟩, S2⟩ := (S'.newOwn (ow := oLams Ds) hp ⟨vs, rfl, hl, ok⟩).freeze
    subst h2
    exact k () hw (.ref p) F2 _ S2 (e'.trans e2) ⟨p, vs', rfl, h1, h3, h4⟩⟩⟩
end
/-- each of them as a closure -/
theorem clos_ok {P : Program} {w : World} {K : PySem.W.Frag} {mg : Str → Option Value} {base : Heap} {tb : ETab} {k : Nat} {ρ : Type} {r : Rp ρ} {X : Cx} {s : Shared} {F H : Hp} {σ : L2.St} {B : Bs} {env : Env} {os : Os} {pins : List (Addr × Obj)} {v : V} {u : Unit} {Ds : List (LamD × Bool)} {wfs : List (W ρ)} (I : Inv X pins σ H s) (S : Sit B F H σ env os) (hv : (rLamL Ds).ok F v u)
    (hz : Paired (fun (D : LamD × Bool) (wf : W ρ) => ∀ v, (rLam D.1 D.2).ok F v () → (rClo P w K mg base tb k r).ok (addC (cellZ X s.heap) F) v wf) Ds wfs) : EnvOk (addC (cellZ X s.heap) F) [sv (rLst (rClo P w K mg base tb k r)) wfs] [some v] := by
  obtain ⟨a, vs, ev, hF, hl, hp⟩ := hv
  have na : cellZ X s.heap a = none := by
    cases z : cellZ X s.heap a with
    | none => rfl
    | some o =>
      obtain ⟨⟨y, h1⟩, _⟩ := cellZ_of z
      have := I.freeC y a h1
      rw [S.fh _ _ hF] at this
      cases this
  refine .cons ⟨v, rfl, a, vs, ev, (addC_none na).trans hF, hl, ?_⟩ .nil
  clear hl ev hF na
  induction hp generalizing wfs with
  | nil =>
    cases hz
    exact .nil
  | cons h t ih =>
    cases hz with
    | cons h2 t2 => exact .cons (h2 _ h) (ih t2)
section
variable {P : Program} {w : World} {K : PySem.W.Frag} {mg : Str → Option Value} {base : Heap} {k : Nat} {f : Addr} {fd : FuncData} {ps N : List Str} {ι ρ : Type} {args : ι → Env} {os : ι → Os} {wf : ι → W ρ} {ro : Rp ρ}
theorem fnWc {x qual : Str} {st : Stmt} {c : Addr} (F : Fun K x qual st f fd) (hfd : fd.code = .ref c) (S : FnScope N ps (defScope st)) (hl : ∀ i, (args i).length = ps.length)
    (body : ∀ (A : Around) (outer : List PySem.Env) (s : Shared) (H : Hp) (E : XK) (B : Bs) (i : ι), Room k (A.deeper (envOfC qual (defScope st) s.heap.objs.size f (.ref c))) → A.guards = some [] →
      BG (cxOf CX0 P w K mg base N qual (defScope st) f (.ref c) A outer s H E).nox B (entry (args i) (N.length - ps.length)) (os i) (defBody st) (pFn B (os i) ro) (wf i)) : FnG P w K mg base CX0 (k + 1) f fd ps (spW args os wf ro) := by
  obtain ⟨oc, od, kV, doc, pm, an, cdv, ct, osl, rfl, lk, hcd⟩ := F.ex
  have hfd : cdv = .ref c := hfd
  subst hfd
  refine ⟨spW_len hl, fun A outer s H args us vs Q E hgu hr e0 hb r hsp => ?_⟩
  have hln := spW_len hl _ _ _ _ hsp
  have hvl := hln
  obtain ⟨i, F0, P0, fh, he, ho, nd, hw, hk⟩ := hsp
  have hk0 : ∀ b o, base.get? b = some o → s.heap.get? b = some o := fun b o e => (e0.bs b o e).1
  have KX := e0.mod.kin.keeps hk0
  refine codeAny_call_function hr.depth (KX _ _ lk) rfl S.co S.gen rfl (PySem.W.codeRec_of KX hcd) (hb _ _ _ _ ?_)
  refine wpAny_newFunctionEnv_cells S.kind (fun ⟨n, v⟩ hy => ?_) fun env he' s1 x => ?_
  · rcases S.par n (List.of_mem_zip hy).1 with q | q
    · exact .inl q
    · exact .inr ⟨q, PySem.W.cellsFrom_some _ _ _ (.inl q)⟩
  subst he'
  refine ⟨(e0.mod.nolimit.keeps hk0).keeps x.toInCall.keep, codeAny_func ?_⟩
  have ht := body A outer s H E (bs0 F0 H (os i)) i (hr.deeper _) hgu
  have I := inv_start (CX := CX0) (E := E) S hr.hd e0 hln r x
  refine wpAny_mono (ht.nox.run [] s1 (L2.start N vs) H { nx := fun _ H' => Q .non H', rt := Q } I ⟨F0, P0, ⟨bs0_start fh ho, ?_, fun p hp => ?_, nd⟩, hw, fun y hy => ⟨fun v F' H' fn ow ok => hk y hy v F' H' fn ow ok, fun σ F' H' fn ow ok => hk y hy .non F' H' fn ow ok⟩⟩) (fun fl s' hs => ?_) fun e s' hs => hs
  · rw [← hvl]
    exact entry_ok he
  · obtain ⟨h1, o, h2, h3⟩ := ho p hp
    exact ⟨h1, ⟨o, h2, h3⟩, .inr (List.mem_map_of_mem hp)⟩
  cases fl with
  | ret u =>
    obtain ⟨v, σ', H', J, rv, q⟩ := hs
    exact ⟨v, H', J.os, J.bare, J.base, J.hok, rv, q⟩
  | next =>
    obtain ⟨σ', H', J, q⟩ := hs
    exact ⟨.non, H', J.os, J.bare, J.base, J.hok, rfl, q⟩
  | brk =>
    obtain ⟨_, _, _, q⟩ := hs
    exact False.elim q
  | cont =>
    obtain ⟨_, _, _, q⟩ := hs
    exact False.elim q
end
end Mi
namespace Mi
open PySem L2 Evl LamX
theorem lamBind0 {D : LamD} {ps : List Str} (h1 : ps = []) (h2 : ∀ (pm cv ct : Value), bindArgs (PySem.W.lmFn D.q D.params D.body D.scope D.cl .none pm cv ct) ⟨[], []⟩ = pure []) : LamBind D false ps := by
  unfold LamBind
  exact ⟨h1, h2⟩
theorem lamBind1 {D : LamD} {ps : List Str} (h1 : ps.length = 1) (h2 : ∀ (td : Addr) (pm cv ct : Value), ∃ k, bindArgs (PySem.W.lmFn D.q D.params D.body D.scope D.cl (.ref td) pm cv ct) ⟨[], []⟩ = seqItems? (.ref td) >>= k ∧ ∀ u, k (some #[u]) = pure (ps.zip [u])) : LamBind D true ps := by
  unfold LamBind
  exact ⟨h1, h2⟩
def hvsB (N ps : List Str) (vs : List Nat) : Bool := (List.range N.length).all fun i => ps.all fun p => N[i]? != some p || vs.contains i
theorem hvs_by {N ps : List Str} {vs : List Nat} (h : hvsB N ps vs = true) : ∀ p ∈ ps, ∀ i, N[i]? = some p → i ∈ vs := fun p hp i e => by
  unfold hvsB at h
  rw [List.all_eq_true] at h
  have hi : i < N.length := by
    rcases Nat.lt_or_ge i N.length with q | q
    · exact q
    · rw [List.getElem?_eq_none q] at e
      cases e
  have h1 := List.all_eq_true.mp (h i (List.mem_range.mpr hi)) p hp
  rw [e] at h1
  simpa using h1
theorem fm_nil {α : Type} {p : α → Prop} : ∀ x ∈ ([] : List α), p x := fun _ h => by cases h
theorem fm_cons {α : Type} {p : α → Prop} {a : α} {l : List α} (h : p a) (t : ∀ x ∈ l, p x) : ∀ x ∈ a :: l, p x := fun x hx => by
  rcases List.mem_cons.mp hx with e | e
  · rw [e]
    exact h
  · exact t x e
end Mi
namespace Mi
open PySem L2 Evl
section
variable {X : Cx} {B : Bs} {env : Env} {os : Os} {e : Expr} {α : Type} {r : Rp α}
theorem e_fail : EE X B env os e r fail := ⟨fun _ _ _ _ _ _ ⟨_, _, _, hw, _⟩ => False.elim hw⟩
end
section
variable {X : Cx} {B : Bs} {env : Env} {os : Os} {pos p : Pos} {α β γ ρ : Type} {s : Rp β} {t : Rp γ} {o e e2 : Expr} {k : Nat} {f C : Addr} {fd : FuncData} {ps : List Str} {m : Str} {fl : α → List (Str × Slot)} {ro : Rp ρ} {apos : Pos} {tb : ETab}
theorem e_la0 {c P : Addr} {params : Arguments} {body : Expr} {scope : Scope} (j : Nat) (TB : LamX.TabB X.base X.mg c P) (hcode : X.env.code = .ref c) (hj : os[j]? = some (P, oTab (X.env.qual ++ "<lambda>"))) (L : ∀ y ∈ scope.names, y.2 = .free → X.env.scope.names.lookup y.1 = some .cell ∨ X.env.scope.names.lookup y.1 = some .free) (h1 : params.defaults = [] := by rfl) (h2 : params.kw_defaults = [] := by rfl) :
    EE X B env os (.Lambda params body scope pos) (rLam ⟨X.env.qual ++ "<lambda>", params, body, scope, cloFrom X.env.cells scope.names []⟩ false) (ret ()) := e_lam0 j TB hcode hj L (by rw [defaultsOf_eq, h1, h2]; rfl)
theorem e_la1 {c P : Addr} {params : Arguments} {body : Expr} {scope : Scope} {dp : Pos} {di : Nat} (j : Nat) (TB : LamX.TabB X.base X.mg c P) (hcode : X.env.code = .ref c) (hj : os[j]? = some (P, oTab (X.env.qual ++ "<lambda>"))) (L : ∀ y ∈ scope.names, y.2 = .free → X.env.scope.names.lookup y.1 = some .cell ∨ X.env.scope.names.lookup y.1 = some .free) (h1 : params.defaults = [.Constant (.int 0) di dp] := by rfl) (h2 : params.kw_defaults = [] := by rfl) :
    EE X B env os (.Lambda params body scope pos) (rLam ⟨X.env.qual ++ "<lambda>", params, body, scope, cloFrom X.env.cells scope.names []⟩ true) (ret ()) := e_lam1 (di := di) (dp := dp) j TB hcode hj L (by rw [defaultsOf_eq, h1, h2]; rfl)
end
end Mi
namespace Mi
open PySem L2 Evl LamX
section
variable {X : Cx} {B : Bs} {env : Env} {os : Os} {tb : ETab} {ι ρ σ' : Type} {wf : List (W σ') × Unit → W ρ} {ro : Rp ρ} {r : Rp σ'} {k kc : Nat} {f : Addr} {fd : FuncData} {ps : List Str}
/-- f(x), x a name that holds a list of lambdas -/
theorem e_callL {x y : Str} {p1 p2 pos : Pos} {Ds : List (LamD × Bool)} {u : Unit} (j : Nat) (wfs : List (W σ')) (he : env[j]? = some (sv (rLamL Ds) u)) (G : FnOk X.prog X.w X.K X.mg X.base CX0 k f fd ps (spW (fun i : List (W σ') × Unit => [sv (rLst (rClo X.prog X.w X.K X.mg X.base tb kc r)) i.1]) (fun _ => []) wf ro)) (hr : Room k X.A) (hm : X.mg x = some (.ref f)) (hk : PySem.W.keepIn X.K (.ref f) = true) (hb : Binds X.K fd ps [])
    (hstk : X.stack = X.env :: X.outer) (hfr : X.env.frame = some X.env.locals) (hfn : ∀ x, X.fn x = true) (pl : PlR ro)
    (conv : ∀ (pins : List (Addr × Obj)) (σ : L2.St) (F H : Hp) (s : Shared), Inv X pins σ H s → Sit B F H σ env os → Paired (fun (D : LamD × Bool) (wf : W σ') => ∀ v, (rLam D.1 D.2).ok F v () → (rClo X.prog X.w X.K X.mg X.base tb kc r).ok (addC (cellZ X s.heap) F) v wf) Ds wfs)
    (hN : X.N[j]? = some y := by rfl) (hv : Vis X.env.scope y := by first | exact Or.inl rfl | exact Or.inr (Or.inl rfl) | exact Or.inr (Or.inr rfl)) (hd2 : (y == ("__debug__" : Str)) = false := by decide) (hcd : (y == ("__classdict__" : Str)) = false := by decide)
    (hg : Gl X x := by rfl) (hdb : (x == ("__debug__" : Str)) = false := by decide) (hs : starEach [Expr.Name y p2] X.env = (false, eval (Expr.Name y p2) X.env) :: starEach [] X.env := by rfl) (hpl : (backTo pos (starEach [] X.env)).any (·.1) = false := by rfl) :
    EE X B env os (.Call (.Name x p1) [.Name y p2] [] pos) ro (noX (wf (wfs, ()))) :=
  e_conv (e_callC (wfs, ()) G hr hm hk hb (e_name j he hN hv hd2 hcd) hstk hfr hfn pl (fun pins σ F H s v y I S ok => clos_ok I S ok (conv pins σ F H s I S)) hg hdb hs hpl) rfl
end
end Mi
namespace Mi
open PySem L2 Evl
structure KeyR {κ : Type} (rk : Rp κ) (kf : κ → Key) : Prop where
  of : ∀ {F v k}, rk.ok F v k → v = kV (kf k)
  inj : ∀ {a b}, kf a = kf b → a = b
theorem key_str : KeyR rStr Sum.inr := ⟨fun h => h.1, fun h => Sum.inr.inj h⟩
def DPair {κ α : Type} (F : Hp) (rk : Rp κ) (kf : κ → Key) (r : Rp α) (p : Key × V) (q : κ × α) : Prop := p.1 = kf q.1 ∧ rk.ok F (kV p.1) q.1 ∧ r.ok F p.2 q.2
theorem dpairs_mono {κ α : Type} {F F' : Hp} {rk : Rp κ} {kf : κ → Key} {r : Rp α} {kvs : List (Key × V)} {xs : List (κ × α)} (e : Ex F F') (h : Paired (DPair F rk kf r) kvs xs) : Paired (DPair F' rk kf r) kvs xs := Paired.imp (fun _ _ ⟨h1, h2, h3⟩ => ⟨h1, rk.mono e h2, r.mono e h3⟩) h
section
variable {κ α : Type} [DecidableEq κ]
def dget (xs : List (κ × α)) (k : κ) : Option α := (xs.find? fun p => decide (p.1 = k)).map (·.2)
def dput (xs : List (κ × α)) (k : κ) (v : α) : List (κ × α) := if (xs.any fun p => decide (p.1 = k)) = true then xs.map (fun p => if p.1 = k then (p.1, v) else p) else xs ++ [(k, v)]
variable {F F' : Hp} {rk : Rp κ} {kf : κ → Key} {r : Rp α} {kvs : List (Key × V)} {xs : List (κ × α)}
theorem dget_ok (K : KeyR rk kf) (h : Paired (DPair F rk kf r) kvs xs) (k : κ) : (valV kvs (kf k) = none ∧ dget xs k = none) ∨ ∃ v x, valV kvs (kf k) = some v ∧ dget xs k = some x ∧ r.ok F v x := by
  induction h with
  | nil => exact .inl ⟨rfl, rfl⟩
  | @cons p q kvs xs hp t ih =>
    by_cases e : q.1 = k
    · refine .inr ⟨p.2, q.2, valV_pos (by rw [hp.1, e]), ?_, hp.2.2⟩
      unfold dget
      rw [List.find?_cons, e]
      simp
    · have e' : ¬ p.1 = kf k := fun z => e (K.inj (hp.1.symm.trans z))
      rw [valV_neg e']
      have : dget (q :: xs) k = dget xs k := by
        unfold dget
        rw [List.find?_cons]
        simp [e]
      rw [this]
      exact ih
theorem dany_ok (K : KeyR rk kf) (h : Paired (DPair F rk kf r) kvs xs) (k : κ) : (kvs.any fun kv => decide (kv.1 = kf k)) = (xs.any fun p => decide (p.1 = k)) := by
  induction h with
  | nil => rfl
  | @cons p q kvs xs hp t ih =>
    rw [List.any_cons, List.any_cons, ih]
    congr 1
    rw [Bool.eq_iff_iff, decide_eq_true_eq, decide_eq_true_eq, hp.1]
    exact ⟨fun z => K.inj z, fun z => by rw [z]⟩
theorem dmap_ok (K : KeyR rk kf) (h : Paired (DPair F rk kf r) kvs xs) {k : κ} {v : V} {x : α} (hv : r.ok F v x) : Paired (DPair F rk kf r) (kvs.map fun kv => if kv.1 = kf k then (kv.1, v) else kv) (xs.map fun p => if p.1 = k then (p.1, x) else p) := by
  induction h with
  | nil => exact .nil
  | @cons p q kvs xs hp t ih =>
    rw [List.map_cons, List.map_cons]
    refine .cons ?_ ih
    by_cases e : q.1 = k
    · rw [if_pos e, if_pos (by rw [hp.1, e])]
      exact ⟨hp.1, hp.2.1, hv⟩
    · rw [if_neg e, if_neg fun z => e (K.inj (hp.1.symm.trans z))]
      exact hp
theorem dput_ok (K : KeyR rk kf) (h : Paired (DPair F rk kf r) kvs xs) {k : κ} {v : V} {x : α} (hk : rk.ok F (kV (kf k)) k) (hv : r.ok F v x) : Paired (DPair F rk kf r) (putK kvs (kf k) v) (dput xs k x) := by
  unfold putK dput
  rw [dany_ok K h k]
  split
  · exact dmap_ok K h hv
  · exact Paired.app h (.cons ⟨rfl, hk, hv⟩ .nil)
theorem putK_len (kvs : List (Key × V)) (k : Key) (v : V) : (putK kvs k v).length ≤ kvs.length + 1 := by
  unfold putK
  split
  · rw [List.length_map]; omega
  · rw [List.length_append]; exact Nat.le_refl _
end
/-- a dict that nobody changes any more -/
def rDct {κ α : Type} (rk : Rp κ) (kf : κ → Key) (r : Rp α) : Rp (List (κ × α)) := ⟨fun F v xs => ∃ a ob kvs, v = .ref a ∧ F a = some (.frz ob (.dK kvs)) ∧ kvs.length ≤ sizeLine ∧ Paired (DPair F rk kf r) kvs xs, fun e ⟨a, ob, kvs, h1, h2, h3, h4⟩ => ⟨a, ob, kvs, h1, e _ _ h2, h3, dpairs_mono e h4⟩⟩
/-- a dict of one's own -/
def oDct {κ α : Type} (rk : Rp κ) (kf : κ → Key) (r : Rp α) (xs : List (κ × α)) : Own := ⟨fun F o => ∃ kvs, o = .dK kvs ∧ kvs.length ≤ sizeLine ∧ Paired (DPair F rk kf r) kvs xs, fun e ⟨kvs, h1, h2, h3⟩ => ⟨kvs, h1, h2, dpairs_mono e h3⟩⟩
def optW {α : Type} : Option α → W α
  | some x => ret x
  | none => fail
section
variable {X : Cx} {B : Bs} {env : Env} {os : Os} {pos p : Pos} {κ α β : Type} [DecidableEq κ] {rk : Rp κ} {kf : κ → Key} {r : Rp α} {o a b c e : Expr} {rest : List Stmt} {post : Post β}
/-- d[k] -/
theorem e_dget {w1 : W (List (κ × α))} {w2 : List (κ × α) → W κ} (K : KeyR rk kf) (hu : X.A.units + 100 < cLine) (ha : EE X B env os a (rDct rk kf r) w1) (hb : ∀ x, EE X B env os b rk (w2 x)) (hs : NoSl b := by exact fun _ _ => rfl) : EE X B env os (.Subscript a b pos) r (bnd w1 fun xs => bnd (w2 xs) fun k => optW (dget xs k)) :=
  PE.imp (pe_dget (by omega) ha (PE.ex hb) hs) fun σ H Q ⟨F, P, S, hw, kk⟩ => ⟨F, _, S, hw, fun xs hx v F1 H1 S1 e1 ⟨p1, ob, kvs, q1, h1, z1, ok1⟩ => ⟨xs, F1, _, S1, hx, fun k hk u F2 H2 S2 e2 ok2 => by
    have eu := K.of ok2
    subst q1 eu
    have hk : optW (dget xs k) P B.E0 := hk
    rcases dget_ok K (dpairs_mono e2 ok1) k with ⟨g1, g2⟩ | ⟨v, x, g1, g2, g3⟩
    · rw [g2] at hk
      exact False.elim hk
    · rw [g2] at hk
      exact ⟨p1, v, rfl, .inl ⟨kvs, kf k, .inr ⟨_, S2.fh _ _ (e2 _ _ h1)⟩, rfl, g1.symm⟩, kk x hk v F2 H2 S2 (e1.trans e2) g3⟩⟩⟩
theorem Sit.dct {F H : Hp} {σ : L2.St} {i j : Nat} {q : Addr} {xs : List (κ × α)} (S : Sit B F H σ env os) (hi : env[i]? = some (sv (rAdr q) ())) (hj : os[j]? = some (q, oDct rk kf r xs)) :
    σ[i]? = some (some (.ref q)) ∧ F q = none ∧ ∃ kvs, H q = some (.dK kvs) ∧ kvs.length ≤ sizeLine ∧ Paired (DPair F rk kf r) kvs xs := by
  obtain ⟨ov, g1, v, g2, g3⟩ := S.env.get hi
  have g3 : v = .ref q := g3
  subst g2 g3
  obtain ⟨h1, ⟨o, h2, kvs, h3, h4, h5⟩, _⟩ := S.ow _ (List.mem_of_getElem? hj)
  subst h3
  exact ⟨g1, h1, kvs, h2, h4, h5⟩
/-- d = {} -/
theorem b_dnew (i : Nat) {x : Str} {pos' p2 : Pos} {w2 : W β} (rk : Rp κ) (kf : κ → Key) (r : Rp α) (hr : ∀ a, BG X B (env.set i (sv (rAdr a) ())) ((a, oDct rk kf r []) :: os) rest post w2) (hN : X.N.Nodup) (hi : X.N[i]? = some x := by rfl)
    (hx : Loc X.env.scope x := by first | exact Or.inl rfl | exact Or.inr rfl) (hs : swapsWith (.Dict [] [] p2) (some (.Name x pos')) pos.line X.env = pure false := by rfl) (hf : X.fn x = true ∨ X.env.scope.names.lookup x = some .local := by first | exact .inl rfl | exact .inr rfl | assumption) :
    BG X B env os (.Assign [.Name x pos'] (.Dict [] [] p2) pos :: rest) post w2 :=
  PSs.imp (pss_cons (ps_set hN hi hx pe_dnewK hs hf) (PSs.ex hr)) fun D σ H ⟨F, P, S, hw, k⟩ => fun q hq => ⟨q, F, P, (S.newOwn (ow := oDct rk kf r []) hq ⟨[], rfl, Nat.zero_le _, .nil⟩).store ⟨_, rfl, rfl⟩, hw, k⟩
/-- d[k] = e, d one's own -/
theorem b_dput (i j : Nat) {x : Str} {p1 p2 : Pos} {q : Addr} {xs : List (κ × α)} {w : W α} {w1 : α → W κ} {w2 : List (κ × α) → W β} (K : KeyR rk kf) (hu : X.A.units + 100 < cLine) (hi : env[i]? = some (sv (rAdr q) ())) (hj : os[j]? = some (q, oDct rk kf r xs)) (he : EE X B env os e r w) (hk : ∀ y, EE X B env os b rk (w1 y))
    (hr : ∀ ys, BG X B env (os.set j (q, oDct rk kf r ys)) rest post (w2 ys)) (hN : X.N[i]? = some x := by rfl)
    (hv : Vis X.env.scope x := by first | exact Or.inl rfl | exact Or.inr (Or.inl rfl) | exact Or.inr (Or.inr rfl)) (hd : (x == ("__debug__" : Str)) = false := by decide) (hcd : (x == ("__classdict__" : Str)) = false := by decide)
    (hs : swapsWith e (some (.Subscript (.Name x p1) b p2)) pos.line X.env = pure false := by rfl) :
    BG X B env os (.Assign [.Subscript (.Name x p1) b p2] e pos :: rest) post (bnd w fun y => bnd (w1 y) fun k => chk (xs.length < sizeLine) (w2 (dput xs k y))) :=
  PSs.imp (pss_cons (ps_dput (by omega) (pe_var hN hv hd hcd) (PE.ex hk) he hs) (PSs.ex hr)) fun D σ H ⟨F, P, S, hw, kk⟩ => ⟨F, _, S, hw, fun y hy v F1 H1 S1 e1 ok => by
    obtain ⟨g1, _, _, _, _, _⟩ := S1.dct hi hj
    refine ⟨.ref q, g1, y, F1, _, S1, hy, fun k ⟨hl, hz⟩ u F2 H2 S2 e2 ok2 => ?_⟩
    obtain ⟨_, g2, kvs, g3, g4, g5⟩ := S2.dct hi hj
    have eu := K.of ok2
    subst eu
    have hl' : kvs.length < sizeLine := by rw [g5.length]; exact hl
    have lp := putK_len kvs (kf k) v
    exact ⟨q, _, rfl, .inl ⟨kvs, kf k, g3, rfl, hl', rfl⟩, _, F2, P, S2.change hj ⟨_, rfl, by omega, dput_ok K g5 ok2 (r.mono e2 ok)⟩, hz, kk⟩⟩
/-- d.get(k, c), d one's own -/
theorem e_dgetO (i j : Nat) {x : Str} {p1 apos : Pos} {q : Addr} {xs : List (κ × α)} {w2 : W κ} {w3 : κ → W α} (K : KeyR rk kf) (hu : X.A.units + 100 < cLine) (hi : env[i]? = some (sv (rAdr q) ())) (hj : os[j]? = some (q, oDct rk kf r xs)) (hb : EE X B env os b rk w2) (hc : ∀ y, EE X B env os c r (w3 y)) (hN : X.N[i]? = some x := by rfl)
    (hv : Vis X.env.scope x := by first | exact Or.inl rfl | exact Or.inr (Or.inl rfl) | exact Or.inr (Or.inr rfl)) (hd : (x == ("__debug__" : Str)) = false := by decide) (hcd : (x == ("__classdict__" : Str)) = false := by decide) (m : M2 X (.Name x p1) "get" apos b c pos := by exact ⟨rfl, rfl, rfl, rfl⟩) :
    EE X B env os (.Call (.Attribute (.Name x p1) "get" apos) [b, c] [] pos) r (bnd w2 fun k => bnd (w3 k) fun d => ret ((dget xs k).getD d)) :=
  PE.imp (pe_dget2 (by omega) (pe_var hN hv hd hcd) hb (PE.ex hc) m) fun σ H Q ⟨F, P, S, hw, kk⟩ => by
    obtain ⟨g1, g2, kvs, g3, g4, g5⟩ := S.dct hi hj
    refine ⟨.ref q, g1, q, rfl, .inl ⟨kvs, .inl g3⟩, F, _, S, hw, fun k hk u F2 H2 S2 e2 ok2 => ⟨k, F2, _, S2, hk, fun d hd t F3 H3 S3 e3 ok3 => ?_⟩⟩
    obtain ⟨_, _, kvs, g3, g4, g5⟩ := S3.dct hi hj
    have eu := K.of ok2
    subst eu
    have hd : P ((dget xs k).getD d) := hd
    refine ⟨valV kvs (kf k), .inl ⟨kvs, kf k, .inl g3, rfl, rfl⟩, ?_⟩
    rcases dget_ok K g5 k with ⟨h1, h2⟩ | ⟨v, x, h1, h2, h3⟩
    · rw [h1]
      rw [h2] at hd
      exact kk d hd t F3 H3 S3 (e2.trans e3) ok3
    · rw [h1]
      rw [h2] at hd
      exact kk x hd v F3 H3 S3 (e2.trans e3) h3
/-- from now on nobody changes it -/
theorem pss_lock {blk : List Stmt} {t : TS} (h : PSs X blk t) : PSs X blk (fun D σ H => ∃ d u, H d = some u ∧ Mut (some u) ∧ ∀ od, t D σ (upd H d (.frz od u))) := ⟨fun pins s σ H D I ⟨d, u, hd, mu, hw⟩ => by
  obtain ⟨od, I1⟩ := I.lock hd mu
  exact h.run pins s σ _ D I1 (hw od)⟩
theorem pe_lockR {t : TE} (h : PE X e t) : PE X e (fun σ H Q => t σ H fun v H' => ∃ d u, v = .ref d ∧ H' d = some u ∧ Mut (some u) ∧ ∀ od, Q v (upd H' d (.frz od u))) := ⟨fun pins s σ H Q I hw => by
  refine thn (h.run pins s σ H _ I hw) fun w s1 ⟨x, H1, I1, r1, d, u, ex, hd, mu, q⟩ => ?_
  obtain ⟨od, I2⟩ := I1.lock hd mu
  exact ⟨x, _, I2, r1, q od⟩⟩
theorem Sit.lockD {F H : Hp} {σ : L2.St} {q : Addr} {xs : List (κ × α)} (S : Sit B F H σ env ((q, oDct rk kf r xs) :: os)) :
    ∃ kvs, H q = some (.dK kvs) ∧ ∀ od, ∃ F', Ex F F' ∧ (rDct rk kf r).ok F' (.ref q) xs ∧ Sit B F' (upd H q (.frz od (.dK kvs))) σ env os := by
  obtain ⟨h1, ⟨o, h2, kvs, h3, h4, h5⟩, _⟩ := S.ow _ List.mem_cons_self
  subst h3
  refine ⟨kvs, h2, fun od => ?_⟩
  have S2 := S.change (j := 0) (ow' := ⟨fun F o => o = .frz od (.dK kvs) ∧ Paired (DPair F rk kf r) kvs xs, fun e ⟨z, w⟩ => ⟨z, dpairs_mono e w⟩⟩) (o' := .frz od (.dK kvs)) rfl ⟨rfl, h5⟩
  obtain ⟨F', o, e, k1, ⟨k2, k3⟩, S3⟩ := Sit.freeze S2
  subst k2
  exact ⟨F', e, ⟨q, od, kvs, rfl, k1, h4, k3⟩, S3⟩
theorem b_dfreeze (i j : Nat) {q : Addr} {xs : List (κ × α)} {w : W β} {blk : List Stmt} (hi : env[i]? = some (sv (rAdr q) ())) (hj : os[j]? = some (q, oDct rk kf r xs)) (h : BG X B (env.set i (sv (rDct rk kf r) xs)) (os.eraseIdx j) blk post w) : BG X B env os blk post w :=
  PSs.imp (pss_lock h) fun D σ H ⟨F, P, S, hw, k⟩ => by
  obtain ⟨kvs, h1, hl⟩ := (S.pick hj).lockD
  refine ⟨q, .dK kvs, h1, trivial, fun od => ?_⟩
  obtain ⟨F2, e2, ok, S2⟩ := hl od
  obtain ⟨ov, g1, v, g2, g3⟩ := S2.env.get hi
  have g3' : v = .ref q := g3
  subst g2 g3'
  have z : σ.set i (some (.ref q)) = σ := set_same g1
  have S3 := S2.store (i := i) (sl := sv (rDct rk kf r) xs) (v := .ref q) ⟨_, rfl, ok⟩
  rw [z] at S3
  exact ⟨F2, P, S3, hw, k⟩
def tNewD {κ α : Type} (B : Bs) (env : Env) (os : Os) (rk : Rp κ) (kf : κ → Key) (r : Rp α) (w : W (List (κ × α))) : TE := fun σ H Q => ∃ F P, Sit B F H σ env os ∧ w P B.E0 ∧ ∀ xs, P xs → ∀ a F' H', Sit B F' H' σ env ((a, oDct rk kf r xs) :: os) → Ex F F' → Q (.ref a) H'
def ED {κ α : Type} (X : Cx) (B : Bs) (env : Env) (os : Os) (e : Expr) (rk : Rp κ) (kf : κ → Key) (r : Rp α) (w : W (List (κ × α))) : Prop := PE X e (tNewD B env os rk kf r w)
theorem e_newD {w : W (List (κ × α))} (h : ED X B env os e rk kf r w) : EE X B env os e (rDct rk kf r) w := PE.imp (pe_lockR h) fun σ H Q ⟨F, P, S, hw, k⟩ => ⟨F, P, S, hw, fun xs hx a F' H' S' e' => by
  obtain ⟨kvs, h1, hl⟩ := S'.lockD
  refine ⟨a, .dK kvs, rfl, h1, trivial, fun od => ?_⟩
  obtain ⟨F2, e2, ok, S2⟩ := hl od
  exact k xs hx (.ref a) F2 _ S2 (e'.trans e2) ok⟩
end
end Mi
namespace Mi
open PySem L2 Evl
theorem dpAll_paired {K : PySem.W.Frag} {F : Hp} : ∀ {ds : List PyData} {vs : List V}, DpAll K F vs ds → Paired (Dp K F) vs ds
  | [], _, h => by
    cases h
    exact .nil
  | d :: ds, _, h => by
    cases h with
    | cons h t => exact .cons h (dpAll_paired t)
theorem depthAll_mem : ∀ {ds : List PyData} {d : PyData}, d ∈ ds → d.depth ≤ PyData.depthAll ds
  | d :: ds, e, h => by
    rw [PyData.depthAll]
    rcases List.mem_cons.mp h with z | z
    · rw [z]
      omega
    · have := depthAll_mem z
      omega
def lenD : PyData → W Int
  | .str s => chk (s.length ≤ sizeLine) (ret (s.length : Int))
  | .list ds => ret (ds.length : Int)
  | .tuple ds => ret (ds.length : Int)
  | _ => fail
def idxD (d : PyData) (i : Int) : W PyData := match d with
  | .list ds => idx ds i
  | .tuple ds => idx ds i
  | _ => fail
section
variable {X : Cx} {B : Bs} {env : Env} {os : Os} {pos p : Pos} {a b e : Expr} {rest : List Stmt} {α β : Type} {post : Post β}
theorem e_lenD {w : W PyData} (ha : EE X B env os a (rD X.K) w) (hm : X.mg "len" = none) (hg : Gl X "len" := by rfl) (he : starEach [a] X.env = (false, eval a X.env) :: starEach [] X.env := by rfl) (hpl : (backTo pos (starEach [] X.env)).any (·.1) = false := by rfl) :
    EE X B env os (.Call (.Name "len" p) [a] [] pos) rInt (bnd w lenD) :=
  PE.imp (pe_callB call_len hg hm PySem.boot_len (pa_cons ha pa_nil he) (by decide) (by decide) he hpl) fun σ H Q ⟨F, P, S, hw, kk⟩ => ⟨F, _, S, hw, fun d hd v F1 H1 S1 e1 ⟨ok, h2, h3⟩ => by
    have hd : lenD d P B.E0 := hd
    cases ok with
    | non => exact False.elim hd
    | bl b => exact False.elim hd
    | int i => exact False.elim hd
    | str x => exact ⟨_, x.length, rfl, ⟨hd.1, rfl⟩, kk _ hd.2 (.int _) F1 H1 S1 e1 rfl⟩
    | @lst a1 vs ds h t =>
      have hl := (dpAll_paired t).length
      refine ⟨_, ds.length, rfl, .inl ⟨vs, ex_l S1.fh h, hl.symm⟩, kk _ hd (.int _) F1 H1 S1 e1 rfl⟩
    | @tup a1 vs ds h t =>
      have hl := (dpAll_paired t).length
      refine ⟨_, ds.length, rfl, .inr ⟨vs, ex_t S1.fh h, hl.symm⟩, kk _ hd (.int _) F1 H1 S1 e1 rfl⟩⟩
theorem atI_pair {κ : Type} {R : V → κ → Prop} {vs : List V} {ds : List κ} (h : Paired R vs ds) {i : Int} {d : κ} (e : atI ds i = some d) : ∃ v, atI vs i = some v ∧ R v d := by
  unfold atI at e ⊢
  rw [h.length]
  cases q : ixN ds.length i with
  | none => rw [q] at e; cases e
  | some j =>
    rw [q] at e
    have e2 : ds[j]? = some d := e
    clear q e
    show ∃ v, vs[j]? = some v ∧ R v d
    induction h generalizing j with
    | nil => simp at e2
    | cons r t ih =>
      cases j with
      | zero =>
        simp at e2
        subst e2
        exact ⟨_, rfl, r⟩
      | succ j => exact ih j (by simpa using e2)
theorem atI_mem {κ : Type} {ds : List κ} {i : Int} {d : κ} (e : atI ds i = some d) : d ∈ ds := by
  unfold atI at e
  cases q : ixN ds.length i with
  | none => rw [q] at e; cases e
  | some j =>
    rw [q] at e
    exact List.mem_of_getElem? (show ds[j]? = some d from e)
theorem e_idxD {w1 : W PyData} {w2 : PyData → W Int} (ha : EE X B env os a (rD X.K) w1) (hb : ∀ x, EE X B env os b rInt (w2 x)) (hs : PlainIx b := by exact fun _ _ => rfl) : EE X B env os (.Subscript a b pos) (rD X.K) (bnd w1 fun d => bnd (w2 d) fun i => idxD d i) :=
  PE.imp (pe_ix ix_seq ha (PE.ex hb) hs) fun σ H Q ⟨F, P, S, hw, kk⟩ => ⟨F, _, S, hw, fun d hd v F1 H1 S1 e1 okd => ⟨d, F1, _, S1, hd, fun i hi u F2 H2 S2 e2 ok2 => by
    have ok2 : u = .int i := ok2
    subst ok2
    have hi : idxD d i P B.E0 := hi
    obtain ⟨ok, c, dp⟩ := (rD X.K).mono e2 okd
    cases ok with
    | non => exact False.elim hi
    | bl b => exact False.elim hi
    | int i => exact False.elim hi
    | str x => exact False.elim hi
    | lst h t =>
      obtain ⟨y, g1, g2⟩ := idx_of (show idx _ i P B.E0 from hi)
      obtain ⟨v, g3, g4⟩ := atI_pair (dpAll_paired t) g1
      have hm : y ∈ _ := atI_mem g1
      rw [PyData.depth] at dp
      have := depthAll_mem hm
      exact .inl ⟨_, _, i, v, rfl, rfl, ex_l S2.fh h, g3, kk y g2 v F2 H2 S2 (e1.trans e2) ⟨g4, PyData.canLay0_of_mem _ _ (by simpa only [PyData.canLay0] using c) hm, by omega⟩⟩
    | tup h t =>
      obtain ⟨y, g1, g2⟩ := idx_of (show idx _ i P B.E0 from hi)
      obtain ⟨v, g3, g4⟩ := atI_pair (dpAll_paired t) g1
      have hm : y ∈ _ := atI_mem g1
      rw [PyData.depth] at dp
      have := depthAll_mem hm
      exact .inr (.inl ⟨_, _, i, v, rfl, rfl, ex_t S2.fh h, g3, kk y g2 v F2 H2 S2 (e1.trans e2) ⟨g4, PyData.canLay0_of_mem _ _ (by simpa only [PyData.canLay0] using c) hm, by omega⟩⟩)⟩⟩
/-- isinstance(e, (T1, T2)) -/
theorem e_isTD {w : W PyData} {x1 x2 : Str} {T1 T2 : String} {k : String → Bool} {p1 p2 p3 p4 : Pos} {kk0 : Nat} (hk : ∀ d, PySem.W.kitAny X.K (.type (tyD d)) [.type T1, .type T2] = some (k (tyD d))) (ha : EE X B env os a (rD X.K) w) (hm : X.mg "isinstance" = none) (hx1 : X.mg x1 = none) (hx2 : X.mg x2 = none)
    (hv1 : bootBuiltins x1 = some (.type T1) := by decide +kernel) (hn1 : x1 ≠ "__name__" := by decide) (hd1 : (x1 == ("__debug__" : Str)) = false := by decide) (hv2 : bootBuiltins x2 = some (.type T2) := by decide +kernel) (hn2 : x2 ≠ "__name__" := by decide) (hd2 : (x2 == ("__debug__" : Str)) = false := by decide)
    (hg : Gl X "isinstance" := by rfl) (hg1 : Gl X x1 := by rfl) (hg2 : Gl X x2 := by rfl) (hs : starEach [a, .Tuple [.Name x1 p2, .Name x2 p3] kk0 p4] X.env = (false, eval a X.env) :: starEach [.Tuple [.Name x1 p2, .Name x2 p3] kk0 p4] X.env := by rfl) (hs2 : starEach [.Tuple [.Name x1 p2, .Name x2 p3] kk0 p4] X.env = (false, eval (.Tuple [.Name x1 p2, .Name x2 p3] kk0 p4) X.env) :: starEach [] X.env := by rfl)
    (hs3 : starEach [.Name x1 p2, .Name x2 p3] X.env = (false, eval (.Name x1 p2) X.env) :: starEach [.Name x2 p3] X.env := by rfl) (hs4 : starEach [.Name x2 p3] X.env = (false, eval (.Name x2 p3) X.env) :: starEach [] X.env := by rfl) (hpl : (backTo pos (starEach [.Tuple [.Name x1 p2, .Name x2 p3] kk0 p4] X.env)).any (·.1) = false := by rfl) :
    EE X B env os (.Call (.Name "isinstance" p1) [a, .Tuple [.Name x1 p2, .Name x2 p3] kk0 p4] [] pos) rBool (bnd w fun d => ret (k (tyD d))) :=
  PE.imp (pe_callB call_isiT hg hm (by decide +kernel) (pa_cons ha (pa_cons (pe_tup (pa_cons (pe_bltn (v := .ty T1) hg1 hx1 hv1 rfl hn1 hd1) (pa_cons (pe_bltn (v := .ty T2) hg2 hx2 hv2 rfl hn2 hd2) pa_nil hs4) hs3)) pa_nil hs2) hs) (by decide) (by decide) hs hpl) fun σ H Q ⟨F, P, S, hw, kk⟩ => ⟨F, _, S, hw, fun d hd v F1 H1 S1 e1 ok => ⟨by show 2 ≤ sizeLine; decide, fun q hq => by
    have g : Grow F1 H1 (upd F1 q (.tup [.ty T1, .ty T2])) (upd H1 q (.tup [.ty T1, .ty T2])) := Grow.alloc S1.fh hq
    exact ⟨v, q, [.ty T1, .ty T2], _, [.type T1, .type T2], k (tyD d), rfl, upd_same, .cons (.ty T1) (.cons (.ty T2) .nil), ty_D ((rD X.K).mono g.f ok) (S1.grow g).fh, hk d, kk _ hd (.bl _) _ _ (S1.grow g) (e1.trans g.f) rfl⟩⟩⟩
def asStr : PyData → W Str
  | .str s => chk (s.length ≤ sizeLine) (ret s)
  | _ => fail
def asInt : PyData → W Int
  | .int i => ret i
  | _ => fail
theorem nr_int {K : PySem.W.Frag} {d : PyData} {F : Hp} {v : V} {P : Int → Prop} {E : Er → Prop} (h : (rD K).ok F v d) (q : asInt d P E) : ∃ x, P x ∧ rInt.ok F v x := by
  obtain ⟨ok, _, _⟩ := h
  cases ok with
  | int i => exact ⟨i, q, rfl⟩
  | _ => exact False.elim q
theorem nr_str {K : PySem.W.Frag} {d : PyData} {F : Hp} {v : V} {P : Str → Prop} {E : Er → Prop} (h : (rD K).ok F v d) (q : asStr d P E) : ∃ x, P x ∧ rStr.ok F v x := by
  obtain ⟨ok, c, _⟩ := h
  cases ok with
  | str x => exact ⟨x, q.2, rfl, q.1, by simpa [PyData.canLay0] using c⟩
  | _ => exact False.elim q
end
end Mi
namespace Mi
open PySem L2 Evl
theorem kt_lt {K : PySem.W.Frag} (d : PyData) : PySem.W.kitAny K (.type (tyD d)) [.type "list", .type "tuple"] = some (tyD d == "list" || tyD d == "tuple") := by
  unfold PySem.W.kitAny PySem.W.kitAny PySem.W.kitAny
  rw [kd_list, kd_tuple]
  cases d <;> rfl
section
variable {X : Cx} {B : Bs} {env : Env} {os : Os} {pos p : Pos} {κ α β : Type} {rk : Rp κ} {kf : κ → Key} {r : Rp α} {tg o a b c e : Expr}
theorem dkeys_get {F : Hp} {kvs : List (Key × V)} {xs : List (κ × α)} (h : Paired (DPair F rk kf r) kvs xs) {i : Nat} {q : κ × α} (hq : xs[i]? = some q) : ∃ p, kvs[i]? = some p ∧ DPair F rk kf r p q := by
  obtain ⟨v, h1, h2⟩ := Paired.get h hq
  exact ⟨v, h1, h2⟩
theorem s_keys {w : W (List (κ × α))} (h : EE X B env os e (rDct rk kf r) w) : ES X B env os tg e rk (bnd w fun xs => ret (xs.map (·.1))) := PI.imp (pi_keys h) fun σ H R ⟨F, P, S, hw, k⟩ => ⟨F, _, S, hw, fun xs hx v F' H' S' e' ⟨p, ob, kvs, e1, h1, h2, h3⟩ =>
  ⟨p, ob, e1, .inl ⟨kvs, S'.fh _ _ h1, k _ hx _ F' H' S' e' ⟨fun i F1 H1 x1 x2 hi => by
    rw [List.length_map] at hi
    exact ⟨x2 _ _ (x1 _ _ h1), by rw [h3.length]; exact hi⟩, fun i F1 H1 u H2 x x1 x2 y hx => by
    obtain ⟨e2, k1, v1, y1, y2⟩ := y
    subst e2 y2
    rw [List.getElem?_map] at hx
    cases q : xs[i]? with
    | none => rw [q] at hx; cases hx
    | some z =>
      rw [q] at hx
      cases hx
      obtain ⟨pp, g1, g2⟩ := dkeys_get h3 q
      rw [y1] at g1
      cases g1
      exact ⟨F1, Grow.refl x2, rk.mono x1 g2.2.1⟩, fun i F1 H1 x1 x2 hi => by
    rw [List.length_map] at hi
    exact ⟨x2 _ _ (x1 _ _ h1), by rw [h3.length]; exact hi⟩⟩ (by rw [List.length_map, ← h3.length]; exact h2)⟩⟩⟩
def sortS (xs : List Str) : W (List Str) := fun P _ => xs.length < 64 ∧ ∀ ys : List Str, ys.Perm xs → PyProof.Rows.sortedS ys = true → P ys
theorem strs_paired {F : Hp} : ∀ {xs : List Str}, (∀ x ∈ xs, rStr.ok F (.str x) x) → Paired (rStr.ok F) (xs.map V.str) xs
  | [], _ => .nil
  | x :: xs, h => .cons (h x List.mem_cons_self) (strs_paired fun y hy => h y (List.mem_cons_of_mem _ hy))
theorem strs_each {F : Hp} : ∀ {xs : List Str} {vs : List V}, Paired (rStr.ok F) vs xs → ∀ x ∈ xs, rStr.ok F (.str x) x
  | _, _, .cons h t, x, hx => by
    rcases List.mem_cons.mp hx with e | e
    · subst e
      have := h
      rw [h.1] at this
      exact this
    · exact strs_each t x e
theorem n_sortedS {w : W (List Str)} (ha : EE X B env os a (rLst rStr) w) (hm : X.mg "sorted" = none) (hg : Gl X "sorted" := by rfl) (he : starEach [a] X.env = (false, eval a X.env) :: starEach [] X.env := by rfl) (hpl : (backTo pos (starEach [] X.env)).any (·.1) = false := by rfl) :
    EN X B env os (.Call (.Name "sorted" p) [a] [] pos) rStr (bnd w sortS) :=
  PE.imp (pe_callB cr_sortedS hg hm (by decide +kernel) (pa_cons ha pa_nil he) (by decide) (by decide) he hpl) fun σ H Q ⟨F, P, S, hw, k⟩ => ⟨F, _, S, hw, fun x ⟨hl, hx⟩ v F1 H1 S1 e1 ⟨p1, vs, q1, h1, z1, ok1⟩ => by
    have each := strs_each ok1
    have ev := strs_map ok1
    subst ev
    exact ⟨p1, x, by rw [q1], SqL.of (S1.fh _ _ h1), hl, fun ys q h2 h3 hq => k ys (hx ys h2 h3) q F1 _ (S1.newOwn hq ⟨ys.map V.str, rfl, by rw [List.length_map, h2.length_eq]; exact small64 hl, strs_paired fun y hy => each y (h2.mem_iff.mp hy)⟩) e1⟩⟩
theorem dkeys_list {F : Hp} : ∀ {kvs : List (Key × V)} {xs : List (κ × α)}, Paired (DPair F rk kf r) kvs xs → Paired (rk.ok F) (kvs.map fun kv => kV kv.1) (xs.map (·.1))
  | _, _, .nil => .nil
  | _, _, .cons h t => .cons h.2.1 (dkeys_list t)
/-- list(d) -/
theorem n_listD {w : W (List (κ × α))} (hc : X.calm = true) (ha : EE X B env os a (rDct rk kf r) w) (hm : X.mg "list" = none) (hg : Gl X "list" := by rfl) (he : starEach [a] X.env = (false, eval a X.env) :: starEach [] X.env := by rfl) (hpl : (backTo pos (starEach [] X.env)).any (·.1) = false := by rfl) :
    EN X B env os (.Call (.Name "list" p) [a] [] pos) rk (bnd w fun xs => ret (xs.map (·.1))) :=
  PE.imp (pe_callTy (call_listD hc) hg hm (by decide +kernel) (pa_cons ha pa_nil he) (by decide) (by decide) he hpl) fun σ H Q ⟨F, P, S, hw, k⟩ => ⟨F, _, S, hw, fun x hx v F1 H1 S1 e1 ⟨p1, ob, kvs, q1, h1, z1, ok1⟩ => by
    refine ⟨p1, kvs, by rw [q1], .inr ⟨_, S1.fh _ _ h1⟩, fun l hl => k _ hx l F1 _ (S1.newOwn hl ⟨kvs.map fun kv => kV kv.1, rfl, by rw [List.length_map]; exact z1, dkeys_list ok1⟩) e1⟩⟩
end
end Mi
namespace Mi
open PySem L2 Evl
def dcW {α κ β : Type} [DecidableEq κ] (c : α → W Bool) (fk : α → W κ) (fv : α → W β) : List α → List (κ × β) → W (List (κ × β))
  | [], ys => ret ys
  | x :: xs, ys => bnd (c x) fun b => if b = true then bnd (fk x) fun k => bnd (fv x) fun v => dcW c fk fv xs (dput ys k v) else dcW c fk fv xs ys
section
variable {X : Cx} {B : Bs} {env : Env} {os : Os} {α κ β : Type} [DecidableEq κ] {r : Rp α} {rk : Rp κ} {kf : κ → Key} {s : Rp β} {kx vx tg iter test : Expr} {scope : Scope} {pos : Pos}
theorem dput_len (ys : List (κ × β)) (k : κ) (v : β) : (dput ys k v).length ≤ ys.length + 1 := by
  unfold dput
  split
  · rw [List.length_map]; exact Nat.le_succ _
  · rw [List.length_append, List.length_singleton]; exact Nat.le_refl _
theorem dc_read {w : W (List α)} {c : α → W Bool} {fk : α → W κ} {f : α → W β} {own : List (Str × Nat)} {g : TG} {tt : TT} {tk te : TE} {is : List Nat} {envT : Env → α → Env} (K : KeyR rk kf)
    (st : ∀ M D ys x σ H Q, tOfT (B.at M) (envT (wipeE env (own.map (fun p : Str × Nat => p.2))) x) ((D, oDct rk kf s ys) :: os) (c x) σ H Q → tt σ H Q)
    (sk : ∀ M D ys x σ H Q, tOf (B.at M) (envT (wipeE env (own.map (fun p : Str × Nat => p.2))) x) ((D, oDct rk kf s ys) :: os) rk (fk x) σ H Q → tk σ H Q)
    (se : ∀ M D ys x σ H Q, tOf (B.at M) (envT (wipeE env (own.map (fun p : Str × Nat => p.2))) x) ((D, oDct rk kf s ys) :: os) s (f x) σ H Q → te σ H Q)
    (tgt : TgT g r is envT) (his : ∀ i ∈ is, i ∈ own.map (fun p : Str × Nat => p.2)) {σ : L2.St} {H : Hp} {Q : VK} (h : tNewD B env os rk kf s (bnd w fun xs => dcW c fk f xs []) σ H Q) :
    tDc (tSrc B env os r w) g tt tk te (own.map (fun p : Str × Nat => p.2)) σ H Q := by
  obtain ⟨F, P, S, hw, k⟩ := h
  refine ⟨F, _, S, hw, fun xs hxs J F1 H1 S1 e1 wk hz D hD => ?_⟩
  refine ⟨(fun i m H => m = xs.length - i ∧ i ≤ xs.length ∧ ∃ F' ys, ys.length ≤ i ∧ Sit (B.at F1) F' H σ env ((D, oDct rk kf s ys) :: os) ∧ dcW c fk f (xs.drop i) ys P B.E0 : Nat → Nat → Hp → Prop), ?_, ?_⟩
  · refine ⟨xs.length, by simp, Nat.zero_le _, F1, [], Nat.zero_le _, ?_, ?_⟩
    · have S1' : Sit (B.at F1) F1 H1 σ env os := ⟨⟨S1.fin.fh, S1.fin.bf, Ex.refl F1, S1.fin.bb, S1.fin.ios, S1.fin.keep⟩, S1.env, S1.ow, S1.nd⟩
      exact S1'.newOwn (ow := oDct rk kf s []) hD ⟨[], rfl, Nat.zero_le _, .nil⟩
    · rw [List.drop_zero]
      exact hxs
  rintro i m H2 ⟨rfl, hi, F2, ys, hyl, S2, hw2⟩
  have e12 : Ex F1 F2 := S2.fin.mrk
  by_cases hlt : i < xs.length
  · obtain ⟨x, hx⟩ : ∃ x, xs[i]? = some x := ⟨_, List.getElem?_eq_getElem hlt⟩
    refine .inr ⟨wk.go i F2 H2 e12 S2.fh hlt, (fun H' => ∃ F' ys, ys.length ≤ i + 1 ∧ Sit (B.at F1) F' H' σ env ((D, oDct rk kf s ys) :: os) ∧ dcW c fk f (xs.drop (i + 1)) ys P B.E0 : Hp → Prop), ?_, fun v H3 y => ?_⟩
    · intro H' h
      exact ⟨xs.length - (i + 1), by omega, rfl, hlt, h⟩
    obtain ⟨F3, gr, rv⟩ := wk.yld i F2 H2 v H3 x e12 S2.fh y hx
    have S3 : Sit (B.at F1) F3 H3 σ env ((D, oDct rk kf s ys) :: os) := S2.grow gr
    refine tgt F3 H3 v x (wipe σ (own.map (fun p : Str × Nat => p.2))) (wipeE env (own.map (fun p : Str × Nat => p.2))) _ rv S3.fh (S3.env.wipe _) fun σ' hσ hwipe => ⟨?_, ?_⟩
    · rw [hwipe _ his]
      have ww : ∀ (τ : L2.St) (vs : List Nat), wipe (wipe τ vs) vs = wipe τ vs := by
        intro τ vs
        have key : ∀ (us vs : List Nat), (∀ u ∈ us, u ∈ vs) → wipe (wipe τ us) vs = wipe τ vs := by
          intro us
          induction us with
          | nil => intro vs _; rfl
          | cons u us ih =>
            intro vs h
            show wipe ((wipe τ us).set u none) vs = wipe τ vs
            rw [wipe_set (h u (List.mem_cons_self ..)), ih vs fun z hz => h z (List.mem_cons_of_mem _ hz)]
        exact key vs vs fun _ h => h
      exact ww σ _
    · rw [drop_cons hx] at hw2
      have hw3 : c x (fun b => (if b = true then bnd (fk x) fun kk => bnd (f x) fun y => dcW c fk f (xs.drop (i + 1)) (dput ys kk y) else dcW c fk f (xs.drop (i + 1)) ys) P B.E0) B.E0 := hw2
      have St : Sit (B.at F1) F3 H3 σ' (envT (wipeE env (own.map (fun p : Str × Nat => p.2))) x) ((D, oDct rk kf s ys) :: os) := ⟨S3.fin, hσ, S3.ow, S3.nd⟩
      refine st F1 D ys x σ' H3 _ ⟨F3, _, St, hw3, fun b hb F4 H4 S4 e34 => ?_⟩
      cases b with
      | false => exact ⟨F4, ys, by omega, ⟨S4.fin, S3.env.mono e34, S4.ow, S4.nd⟩, hb⟩
      | true =>
        have hb' : fk x (fun kk => f x (fun y => dcW c fk f (xs.drop (i + 1)) (dput ys kk y) P B.E0) B.E0) B.E0 := hb
        refine sk F1 D ys x σ' H4 _ ⟨F4, _, S4, hb', fun kk hk vk F5 H5 S5 e45 okk => ?_⟩
        refine se F1 D ys x σ' H5 _ ⟨F5, _, S5, hk, fun z hz v' F6 H6 S6 e56 okz => ?_⟩
        obtain ⟨hF6, ⟨o, ho, vs, eo, hl, pr⟩, hB6⟩ := S6.ow (D, oDct rk kf s ys) (List.mem_cons_self ..)
        subst eo
        have hlen : vs.length < sizeLine := by
          have := pr.length
          omega
        have ek := K.of okk
        subst ek
        refine ⟨vs, kf kk, rfl, ho, hlen, F6, dput ys kk z, ?_, ?_, hz⟩
        · have := dput_len ys kk z
          omega
        · have S7 := S6.change (j := 0) (ow' := oDct rk kf s (dput ys kk z)) (o' := .dK (putK vs (kf kk) v')) rfl ⟨putK vs (kf kk) v', rfl, by have := putK_len vs (kf kk) v'; omega, dput_ok K pr (rk.mono e56 okk) okz⟩
          exact ⟨S7.fin, ((S3.env.mono e34).mono e45).mono e56, S7.ow, S7.nd⟩
  · have e : i = xs.length := by omega
    subst e
    refine .inl ⟨wk.stop _ F2 H2 e12 S2.fh (Nat.le_refl _), ?_⟩
    rw [List.drop_length] at hw2
    have hp : P ys := hw2
    exact k ys hp D F2 H2 ⟨⟨S2.fin.fh, S2.fin.bf, S1.fin.mrk.trans e12, S2.fin.bb, S2.fin.ios, S2.fin.keep⟩, S2.env, S2.ow, S2.nd⟩ (e1.trans e12)
abbrev tkC {γ : Type} (B : Bs) (env : Env) (os : Os) (own : List (Str × Nat)) {α : Type} (envT : Env → α → Env) (rk : Rp κ) (kf : κ → Key) (s : Rp β) (t : Rp γ) (f : α → W γ) : TE := fun σ H Q => ∃ p : Hp × Addr × List (κ × β) × α, tOf (B.at p.1) (envI env own envT p.2.2.2) ((p.2.1, oDct rk kf s p.2.2.1) :: os) t (f p.2.2.2) σ H Q
abbrev ttD (B : Bs) (env : Env) (os : Os) (own : List (Str × Nat)) {α : Type} (envT : Env → α → Env) (rk : Rp κ) (kf : κ → Key) (s : Rp β) (c : α → W Bool) : TT := fun σ H Q => ∃ p : Hp × Addr × List (κ × β) × α, tOfT (B.at p.1) (envI env own envT p.2.2.2) ((p.2.1, oDct rk kf s p.2.2.1) :: os) (c p.2.2.2) σ H Q
section
variable {γ : Type} {t : Rp γ} {w : W (List α)} {c : α → W Bool} {fk : α → W κ} {f : α → W β} {h : α → W γ} {own : List (Str × Nat)} {g : TG} {is : List Nat} {envT : Env → α → Env} {elt : Expr}
theorem ex_tkC {Y : Cx} (q : ∀ (M : Hp) (D : Addr) (ys : List (κ × β)) (x : α), EE Y (B.at M) (envI env own envT x) ((D, oDct rk kf s ys) :: os) elt t (h x)) : PE Y elt (tkC B env os own envT rk kf s t h) :=
  ⟨fun pins s σ H Q I ⟨p, z⟩ => (q p.1 p.2.1 p.2.2.1 p.2.2.2).run pins s σ H Q I z⟩
theorem ex_ttD {Y : Cx} (q : ∀ (M : Hp) (D : Addr) (ys : List (κ × β)) (x : α), ET Y (B.at M) (envI env own envT x) ((D, oDct rk kf s ys) :: os) test (c x)) : PT Y test (ttD B env os own envT rk kf s c) :=
  ⟨fun pins s σ H Q I ⟨p, z⟩ => (q p.1 p.2.1 p.2.2.1 p.2.2.2).run pins s σ H Q I z⟩
variable (K : KeyR rk kf) (hc : X.calm = true) (hN : X.N.Nodup) (src : ES X B env os tg iter r w) (ok : BlkOk X.N X.env.scope scope own) (tgt : TgT g r is envT)
  (hg : ∀ (s : Shared) (H : Hp) (C : Addr) (cl : List (Str × Addr)) (fp : List Addr), PG (X.blk s H scope (compEnvC scope cl C X.env) fp) tg g) (his : ∀ i ∈ is, i ∈ own.map (fun p : Str × Nat => p.2))
  (ht : ∀ (s' : Shared) (H : Hp) (C : Addr) (cl : List (Str × Addr)) (fp : List Addr) (M : Hp) (D : Addr) (ys : List (κ × β)) (x : α), ET (X.blk s' H scope (compEnvC scope cl C X.env) fp) (B.at M) (envI env own envT x) ((D, oDct rk kf s ys) :: os) test (c x))
  (hk : ∀ (s' : Shared) (H : Hp) (C : Addr) (cl : List (Str × Addr)) (fp : List Addr) (M : Hp) (D : Addr) (ys : List (κ × β)) (x : α), EE (X.blk s' H scope (compEnvC scope cl C X.env) fp) (B.at M) (envI env own envT x) ((D, oDct rk kf s ys) :: os) kx rk (fk x))
  (he : ∀ (s' : Shared) (H : Hp) (C : Addr) (cl : List (Str × Addr)) (fp : List Addr) (M : Hp) (D : Addr) (ys : List (κ × β)) (x : α), EE (X.blk s' H scope (compEnvC scope cl C X.env) fp) (B.at M) (envI env own envT x) ((D, oDct rk kf s ys) :: os) vx s (f x))
include hc hN src ok tgt hg his hk he K
include ht
/-- {k: v for target in iter if test} -/
theorem d_compF (hs : ∀ x, foldedSetIterable iter X.env x = pure x := by intro _; rfl) : ED X B env os (.DictComp kx vx [⟨tg, iter, [test], 0⟩] scope pos) rk kf s (bnd w fun xs => dcW c fk f xs []) :=
  PE.imp (pe_dc hc hN src ok hg (fun s' H C cl fp => pts_one (ex_ttD (ht s' H C cl fp))) (fun s' H C cl fp => ex_tkC (hk s' H C cl fp)) (fun s' H C cl fp => ex_tkC (he s' H C cl fp)) hs) fun σ H Q h =>
    dc_read (own := own) K (fun M D ys x σ H Q h => ⟨(M, D, ys, x), h⟩) (fun M D ys x σ H Q h => ⟨(M, D, ys, x), h⟩) (fun M D ys x σ H Q h => ⟨(M, D, ys, x), h⟩) tgt his h
end
end
end Mi
namespace Mi
open PySem L2 Evl
end Mi
namespace Mi
open PySem L2 Evl
end Mi
namespace Mi
open PySem L2 Evl
def lettersW (x : Str) : List Str := x.cps.toList.map fun c => ⟨#[c]⟩
def hasS (i j : Str) : Bool := !(Builtin.Str.occurrences j i 0 j.length 1).isEmpty
section
variable {X : Cx} {B : Bs} {env : Env} {os : Os} {pos p : Pos} {κ α β : Type} {r : Rp α} {tg e a b : Expr}
theorem letter_ok {F : Hp} {v : V} {x : Str} (h : rStr.ok F v x) {c : Nat} (hc : c ∈ x.cps.toList) : rStr.ok F (.str ⟨#[c]⟩) ⟨#[c]⟩ := by
  obtain ⟨_, h2, h3⟩ := h
  refine ⟨rfl, by show 1 ≤ _; rw [sizeLine_eq]; omega, ?_⟩
  unfold PyData.strOk at h3 ⊢
  rw [Array.all_eq_true'] at h3
  simp only [List.all_toArray, List.all_cons, List.all_nil, Bool.and_true]
  exact h3 c (Array.mem_toList_iff.mp hc)
theorem sem_inS : R2T (fun x y H Q => ∃ i j, x = .str i ∧ y = .str j ∧ Q (.bl (!(Builtin.Str.occurrences j i 0 j.length 1).isEmpty)) H) rStr rStr rBool (fun x y => ret (hasS x y)) := fun F H v u x y P E Q fh ⟨o1, _⟩ ⟨o2, _⟩ hw k =>
  ⟨x, y, o1, o2, k _ hw _ F H (Grow.refl fh) rfl⟩
theorem e_inS {w1 : W Str} {w2 : Str → W Str} (ha : EE X B env os a rStr w1) (hb : ∀ x, EE X B env os b rStr (w2 x)) (hm : behindInMarks .In b = false := by rfl) : EE X B env os (.Compare a [.In] [b] pos) rBool (bnd w1 fun x => bnd (w2 x) fun y => ret (hasS x y)) := e_cmp op_in_str sem_inS hm ha hb
theorem s_str {w : W Str} (h : EE X B env os e rStr w) : ES X B env os tg e rStr (bnd w fun x => ret (lettersW x)) := PI.imp (pi_str h) fun σ H R ⟨F, P, S, hw, k⟩ => ⟨F, _, S, hw, fun x hx v F' H' S' e' ok => by
  have ll : (lettersW x).length = x.cps.size := by unfold lettersW; rw [List.length_map, Array.length_toList]
  exact ⟨x, ok.1, k _ hx _ F' H' S' e' ⟨fun i F1 H1 x1 x2 hi => by
    rw [ll] at hi
    exact hi, fun i F1 H1 u H2 y x1 x2 q hx => by
    obtain ⟨e2, c, y1, y2⟩ := q
    subst e2 y2
    have hl : x.cps.toList[i]? = some c := by rw [Array.getElem?_toList]; exact y1
    unfold lettersW at hx
    rw [List.getElem?_map, hl] at hx
    cases hx
    exact ⟨F1, Grow.refl x2, letter_ok ok (List.mem_of_getElem? hl)⟩, fun i F1 H1 x1 x2 hi => by
    rw [ll] at hi
    exact hi⟩ (by rw [ll]; exact ok.2.1)⟩⟩
end
end Mi
namespace Mi
open PySem L2 Evl
theorem kd_dict {K : PySem.W.Frag} (d : PyData) : PySem.W.kitOne K (.type (tyD d)) (.type "dict") = some (tyD d == "dict") := by
  cases d <;> (dsimp only [tyD]; exact kit_ty (by decide +kernel))
section
variable {X : Cx} {B : Bs} {env : Env} {os : Os} {pos : Pos} {α : Type} {r : Rp α} {a : Expr}
theorem e_gInt {x : Str} {i : Int} {t : Tok} (hm : X.mg x = some (.int i t)) (hg : Gl X x := by rfl) (hd : (x == ("__debug__" : Str)) = false := by decide) : EE X B env os (.Name x pos) rInt (ret i) := e_glob (v := .int i) hg hm ⟨t, rfl⟩ (fun _ => rfl) hd
theorem e_gStr {x z : Str} {t : Tok} (hm : X.mg x = some (.str z t)) (h : z.length ≤ sizeLine := by decide +kernel) (h2 : PyData.strOk z = true := by decide +kernel) (hg : Gl X x := by rfl) (hd : (x == ("__debug__" : Str)) = false := by decide) : EE X B env os (.Name x pos) rStr (ret z) := e_glob (v := .str z) hg hm ⟨t, rfl⟩ (fun _ => ⟨rfl, h, h2⟩) hd
end
end Mi
namespace Mi
open PySem L2 Evl
end Mi
namespace Mi
open PySem L2 Evl
theorem EnvOk.app {F : Hp} : ∀ {e e' : Env} {σ τ : L2.St}, EnvOk F e σ → EnvOk F e' τ → EnvOk F (e ++ e') (σ ++ τ)
  | _, _, _, _, .nil, h' => h'
  | _, _, _, _, .cons h t, h' => .cons h (EnvOk.app t h')
end Mi
namespace Mi
open PySem L2 Evl
def pick {α : Type} (ix : List Nat) (l : List α) : List α := ix.filterMap fun j => l[j]?
theorem Paired.pick {α β : Type} {R : α → β → Prop} {l : List α} {m : List β} (h : Paired R l m) : ∀ ix : List Nat, Paired R (Mi.pick ix l) (Mi.pick ix m)
  | [] => .nil
  | j :: ix => by
    have ih := Paired.pick h ix
    unfold Mi.pick at ih ⊢
    rw [List.filterMap_cons, List.filterMap_cons]
    cases e : m[j]? with
    | none =>
      have e2 : l[j]? = none := by
        rw [List.getElem?_eq_none_iff] at e ⊢
        rw [h.length]
        exact e
      rw [e2]
      exact ih
    | some y =>
      obtain ⟨x, h1, h2⟩ := Paired.get h e
      rw [h1]
      exact .cons h2 ih
theorem pick_map {α β : Type} (f : α → β) (l : List α) : ∀ ix : List Nat, pick ix (l.map f) = (pick ix l).map f
  | [] => rfl
  | j :: ix => by
    have ih := pick_map f l ix
    unfold pick at ih ⊢
    rw [List.filterMap_cons, List.filterMap_cons, List.getElem?_map]
    cases e : l[j]? with
    | none => exact ih
    | some y =>
      rw [Option.map_some, List.map_cons, ih]
/-- how a def binds: f0 values handed in ahead (self), n by place, those of the keywords ks, the written defaults dvs -/
def CB (K : PySem.W.Frag) (fd : FuncData) (ps : List Str) (f0 n : Nat) (ks : List Str) (ix : List Nat) (dvs : List V) : Prop :=
  ∃ ds : List Value, Vals dvs ds ∧ ∀ (s : Shared) (fs us ws : List Value), K.In s.heap → fs.length = f0 → us.length = n → ws.length = ks.length → BindsTo s fd ⟨fs ++ us, ks.zip ws⟩ (ps.zip (fs ++ pick ix (us ++ ws ++ ds)))
theorem CB.kbn {K : PySem.W.Frag} {fd : FuncData} {ps : List Str} {f0 n : Nat} {ks : List Str} {ix : List Nat} {dvs : List V} (h : CB K fd ps f0 n ks ix dvs) :
    ∃ g, KBn K fd ps (f0 + n) ks g fun vs zs => vs.take f0 ++ pick ix (vs.drop f0 ++ zs ++ dvs) := by
  obtain ⟨ds, rd, h⟩ := h
  refine ⟨fun us ws => us.take f0 ++ pick ix (us.drop f0 ++ ws ++ ds), ⟨fun s us ws X l1 l2 => ?_, fun r rz => (r.take f0).append (Paired.pick (((r.drop f0).append rz).append rd) ix)⟩⟩
  have z := h s (us.take f0) (us.drop f0) ws X (by rw [List.length_take]; omega) (by rw [List.length_drop]; omega) l2
  rwa [List.take_append_drop] at z
/-- the handing over -/
structure HA (X : Cx) (es : List Expr) (kws : List Keyword) (pos : Pos) (ks : List Str) (t : L2.St → Hp → (List V → List V → Hp → Prop) → Prop) : Prop where
  run : ∀ (pins : List (Addr × Obj)) (s : Shared) (σ : L2.St) (H : Hp) (Q : List V → List V → Hp → Prop) (f : Value) (first : List Value) (R : Value → Shared → Prop), PySem.W.keepIn X.K f = true → Inv X pins σ H s → t σ H Q →
    (∀ us ws vs zs H1 s1, Inv X pins σ H1 s1 → Vals vs us → Vals zs ws → Q vs zs H1 → wpAny (model X.prog X.w) X.A (call f (first ++ us) (ks.zip ws)) R X.xe s1) →
    wpAny (model X.prog X.w) X.A (callWith pos f first (backTo pos (starEach es X.env)) (backToKw pos (keywordEach kws X.env))) R X.xe s
def tHA (B : Bs) (env : Env) (os : Os) {κ : Type} (n m : Nat) (ar : κ → Env) (w : W κ) : L2.St → Hp → (List V → List V → Hp → Prop) → Prop := fun σ H Q => ∃ F P, Sit B F H σ env os ∧ w P B.E0 ∧ ∀ q, P q → ∀ vs zs F' H', Sit B F' H' σ env os → Ex F F' → vs.length = n → zs.length = m → EnvOk F' (ar q) ((vs ++ zs).map some) → Q vs zs H'
def HH (X : Cx) (B : Bs) (env : Env) (os : Os) (es : List Expr) (kws : List Keyword) (pos : Pos) (n : Nat) (ks : List Str) {κ : Type} (ar : κ → Env) (w : W κ) : Prop := HA X es kws pos ks (tHA B env os n ks.length ar w)
section
variable {X : Cx} {B : Bs} {env : Env} {os : Os} {pos p : Pos} {κ κ2 : Type} {e : Expr} {es : List Expr} {kws : List Keyword} {n : Nat} {ks : List Str} {ar : κ → Env} {ar2 : κ2 → Env}
theorem hh_none : HH X B env os [] [] pos 0 [] (fun _ : Unit => []) (ret ()) :=
  ⟨fun pins s σ H Q f first R hk I ⟨F, P, S, hw, k⟩ hq => PySem.W.callWith_K0 I.kIn hk (hq [] [] [] [] H s I .nil .nil (k () hw [] [] F H S (Ex.refl F) rfl rfl .nil))⟩
theorem hh_pos {w : W κ} (ha : AA X B env os (e :: es) ar w) (hn : ∀ q, (ar q).length = n) (he : starEach (e :: es) X.env = (false, eval e X.env) :: starEach es X.env := by rfl) (hpl : (backTo pos (starEach es X.env)).any (·.1) = false := by rfl) :
    HH X B env os (e :: es) [] pos n [] ar w :=
  ⟨fun pins s σ H Q f first R hk I ⟨F, P, S, hw, k⟩ hq => PySem.W.callWith_K (h₀ := X.base) I.ok.mod.kin hk (thn (ha.run pos pins s σ H (fun vs H1 => Q vs [] H1) I ⟨F, P, S, hw, fun q hq vs F1 H1 S1 e1 ok => by
    have l := ok.len
    rw [List.length_map, hn q] at l
    exact k q hq vs [] F1 H1 S1 e1 l.symm rfl (by rw [List.append_nil]; exact ok)⟩) fun us s1 ⟨vs, H1, I1, r, q⟩ => ⟨I1.kIn, hq us [] vs [] H1 s1 I1 r .nil q⟩) he hpl⟩
end
structure Res (ρ : Type) where
  k : ρ → Hp → L2.St → VK → Prop
  mono : ∀ {F F' : Hp} {x : ρ} {σ : L2.St} {Q : VK}, Ex F F' → k x F σ Q → k x F' σ Q
def resV (B : Bs) (env : Env) (os : Os) {ρ : Type} (r : Rp ρ) : Res ρ := ⟨fun x F σ Q => ∀ v F' H', Sit B F' H' σ env os → Ex F F' → r.ok F' v x → Q v H', fun e h v F' H' S e' => h v F' H' S (e.trans e')⟩
def resN (B : Bs) (env : Env) (os : Os) {α : Type} (r : Rp α) : Res (List α) := ⟨fun xs F σ Q => ∀ a F' H', Sit B F' H' σ env ((a, oLst r xs) :: os) → Ex F F' → Q (.ref a) H', fun e h v F' H' S e' => h v F' H' S (e.trans e')⟩
/-- a def's promise, read at a call -/
structure SpF (sp : Sp) (E : XK) (B : Bs) (env : Env) (os : Os) {ι ρ : Type} (args : ι → Env) (wf : ι → W ρ) (R : Res ρ) : Prop where
  ok : ∀ {F H : Hp} {σ : L2.St} {vs : List V} {i : ι} {P : ρ → Prop} {Q : VK}, Sit B F H σ env os → EnvOk F (args i) (vs.map some) → wf i P B.E0 → (∀ z, P z → R.k z F σ Q) → sp vs H Q E
section
variable {X : Cx} {B : Bs} {env : Env} {os : Os} {tb : ETab} {ι ρ α : Type} {args : ι → Env} {osf : ι → Os} {wf : ι → W ρ} {ro : Rp ρ}
theorem spf_X (ho : ∀ i, OsLe os (osf i)) (hnd : ∀ i, ((osf i).map (·.1)).Nodup) : SpF (spX X.K tb args osf wf ro) (eB X.K tb B) B env os args wf (resV B env os ro) :=
  ⟨fun {F H σ vs i P Q} S ok hw k => ⟨i, F, P, B.E0, S.fh, ok, fun p hp => by
    obtain ⟨h1, h2, _⟩ := S.ow p (ho i p hp)
    exact ⟨h1, h2⟩, hnd i, hw, fun y hy v F2 H2 fn ow okv => k y hy v F2 H2 (S.back (ho i) fn ow) fn.bf okv, fun e he cls d F2 H2 fn er => ⟨e, F2, he, S.backE (ho i) fn, er⟩⟩⟩
theorem spf_X0 : SpF (spX X.K tb args (fun _ => []) wf ro) (eB X.K tb B) B env os args wf (resV B env os ro) := spf_X (fun _ => OsLe.none) fun _ => List.nodup_nil
theorem spf_N {r : Rp α} {wl : ι → W (List α)} : SpF (spN args wl r) E0 B env os args (fun i => noX (wl i)) (resN B env os r) :=
  ⟨fun {F H σ vs i P Q} S ok hw k => ⟨i, F, P, S.fh, ok, hw, fun z hz a F' H' fn h1 h2 h3 => k z hz a F' H' (S.gotN fn h1 h2 h3) fn.bf⟩⟩
end
section
variable {X : Cx} {CX : CXT} {B : Bs} {env : Env} {os : Os} {pos p apos : Pos} {ι κ ρ α β : Type} {e o : Expr} {es : List Expr} {kws : List Keyword} {n k : Nat} {ks : List Str} {ix : List Nat} {dvs : List V} {dfl : Env} {ar : κ → Env} {f C pa : Addr} {fd : FuncData} {ps : List Str} {sp : Sp} {E : XK} {x m : Str} {R : Res ρ} {args : ι → Env} {wf : ι → W ρ} {conv : κ → ι} {mc : Value}
def ER (X : Cx) (B : Bs) (env : Env) (os : Os) (e : Expr) {ρ : Type} (R : Res ρ) (w : W ρ) : Prop := PE X e fun σ H Q => ∃ F P, Sit B F H σ env os ∧ w P B.E0 ∧ ∀ x, P x → R.k x F σ Q
theorem er_V {r : Rp ρ} {w : W ρ} (h : ER X B env os e (resV B env os r) w) : EE X B env os e r w := h
theorem er_N {r : Rp α} {w : W (List α)} (h : ER X B env os e (resN B env os r) w) : EN X B env os e r w := h
theorem env_pick {F : Hp} {vs zs : List V} {q : κ} (ok : EnvOk F (ar q) ((vs ++ zs).map some)) (hd : ∀ F, EnvOk F dfl (dvs.map some)) : EnvOk F (pick ix (ar q ++ dfl)) ((pick ix (vs ++ zs ++ dvs)).map some) := by
  rw [← pick_map, List.map_append]
  exact Paired.pick (EnvOk.app ok (hd F)) ix
/-- f(..) -/
theorem e_callZ {w : W κ} (G : FnOk X.prog X.w X.K X.mg X.base CX k f fd ps sp) (hx : Passes CX X E) (hs : SpF sp E B env os args wf R) (hr : Room k X.A) (hm : X.mg x = some (.ref f)) (hk : PySem.W.keepIn X.K (.ref f) = true) (hb : CB X.K fd ps 0 n ks ix dvs) (hd : ∀ F, EnvOk F dfl (dvs.map some))
    (hh : HH X B env os es kws pos n ks ar w) (hc : ∀ q, args (conv q) = pick ix (ar q ++ dfl)) (hg : Gl X x := by rfl) (hdb : (x == ("__debug__" : Str)) = false := by decide) :
    ER X B env os (.Call (.Name x p) es kws pos) R (bnd w fun q => wf (conv q)) := by
  refine ⟨fun pins s σ H Q I ⟨F, P, S, hw, kk⟩ => ?_⟩
  refine wpAny_Call_Name_kw (ld_glob I hg hm ?_ hdb)
  obtain ⟨g, hb⟩ := hb.kbn
  refine hh.run pins s σ H (fun vs zs H1 => vs.length = n ∧ zs.length = ks.length ∧ sp (pick ix (vs ++ zs ++ dvs)) H1 Q E) (.ref f) [] _ hk I ⟨F, _, S, hw, fun q hq vs zs F1 H1 S1 e1 l1 l2 ok => ⟨l1, l2, hs.ok S1 (i := conv q) (by rw [hc q]; exact env_pick ok hd) hq fun z hz => R.mono e1 (kk z hz)⟩⟩ fun us ws vs zs H1 s1 I1 r rz ⟨l1, l2, q⟩ => ?_
  rw [show 0 + n = n from Nat.zero_add n] at hb
  exact run_fnN G hr hb hx I1 r rz l1 l2 q
/-- o.m(..) -/
theorem e_methZ {args : α × ι → Env} {wf : α × ι → W ρ} {fl : α → List (Str × Slot)} {w1 : W α} {w2 : α → W κ} {pl : Sem Bool} (G : FnOk X.prog X.w X.K X.mg X.base CX k f fd ps sp) (hx : Passes CX X E) (hs : SpF sp E B env os args wf R) (hr : Room k X.A) (cl : Cls X.K C) (hm : Meth X.K C m f) (hb : CB X.K fd ps 1 n ks ix dvs) (hd : ∀ F, EnvOk F dfl (dvs.map some))
    (ho : EE X B env os o (rObj C fl) w1) (hh : ∀ x, HH X B env os es kws pos n ks ar (w2 x)) (hc : ∀ x q, args (x, conv q) = sv (rObj C fl) x :: pick ix (ar q ++ dfl)) (hn : ∀ x, (fl x).lookup m = none := by exact fun _ => rfl)
    (ht : eval (.Call (.Attribute o m apos) es kws pos) X.env = (do
      let ov ← eval o X.env
      standAt apos.atName
      let (f, first) ← holding [ov] (getMethod ov m pl)
      callWith pos f first (backTo pos (starEach es X.env)) (backToKw pos (keywordEach kws X.env))) := by rfl) :
    ER X B env os (.Call (.Attribute o m apos) es kws pos) R (bnd w1 fun x => bnd (w2 x) fun q => wf (x, conv q)) := by
  refine ⟨fun pins s σ H Q I ⟨F, P, S, hw, kk⟩ => ?_⟩
  refine PySem.W.methodCall_KW (pl := pl) (thn (ho.run pins s σ H (fun v H1 => ∃ x F1, Sit B F1 H1 σ env os ∧ Ex F F1 ∧ (rObj C fl).ok F1 v x ∧ (bnd (w2 x) fun i => wf (x, conv i)) P B.E0) I ⟨F, _, S, hw, fun x hx v F1 H1 S1 e1 ok => ⟨x, F1, S1, e1, ok, hx⟩⟩) fun u s1 ⟨v, H1, I1, rx, x, F1, S1, e1, ⟨y, dx, fs, ev, hy, hf⟩, hx1⟩ => ?_) ht
  subst ev
  obtain rfl : u = Value.ref y := rx
  refine getmeth_ok I1 (S1.fh _ _ hy) cl hm (hf.none (hn x)) ?_
  obtain ⟨g, hb⟩ := hb.kbn
  refine (hh x).run pins s1 σ H1 (fun vs zs H2 => vs.length = n ∧ zs.length = ks.length ∧ sp (.ref y :: pick ix (vs ++ zs ++ dvs)) H2 Q E) (.ref f) [.ref y] _ hm.kp I1 ⟨F1, _, S1, hx1, fun q hq vs zs F2 H2 S2 e2 l1 l2 ok => ⟨l1, l2, hs.ok S2 (i := (x, conv q)) (by
    rw [hc x q]
    exact .cons ⟨_, rfl, y, dx, fs, rfl, e2 _ _ hy, hf.mono e2⟩ (env_pick ok hd)) hq fun z hz => R.mono (e1.trans e2) (kk z hz)⟩⟩ fun us ws vs zs H2 s2 I2 r rz ⟨l1, l2, q⟩ => ?_
  exact run_fnN (us := .ref y :: us) (vs := .ref y :: vs) G hr hb hx I2 (.cons rfl r) rz (by rw [List.length_cons, l1]; omega) l2 q
end
structure SpM (sp : Sp) (E : XK) (B : Bs) (env : Env) (os : Os) (C : Addr) {ι ρ : Type} (args : ι → Env) (wf : ι → W ρ) (fl : ρ → List (Str × Slot)) : Prop where
  ok : ∀ {F H : Hp} {σ : L2.St} {vs : List V} {i : ι} {P : ρ → Prop} {Q : VK}, Sit B F H σ env os → EnvOk F (args i) (vs.map some) → wf i P B.E0 → (∀ z, P z → ∀ v F' H', Sit B F' H' σ env os → Ex F F' → (rObj C fl).ok F' v z → Q v H') →
    ∀ x dx, H x = none → H dx = none → dx ≠ x → sp (.ref x :: vs) (upd (upd H dx (.own x)) x (.ins C dx [])) (fun v H2 => v = .non ∧ Q (.ref x) H2) E
section
variable {X : Cx} {CX : CXT} {B : Bs} {env : Env} {os : Os} {tb : ETab} {pos p : Pos} {ι κ ρ : Type} {es : List Expr} {kws : List Keyword} {n k : Nat} {ks : List Str} {ix : List Nat} {dvs : List V} {dfl : Env} {ar : κ → Env} {f C : Addr} {fd : FuncData} {ps : List Str} {sp : Sp} {E : XK} {x : Str} {args : ι → Env} {wf : ι → W ρ} {conv : κ → ι} {fl : ρ → List (Str × Slot)}
/-- C(..) -/
theorem e_makeZ {w : W κ} (M : Mk X.K C f) (G : FnOk X.prog X.w X.K X.mg X.base CX k f fd ps sp) (hx : Passes CX X E) (hs : SpM sp E B env os C args wf fl) (hr : Room (k + 1) X.A) (hm : X.mg x = some (.ref C)) (hb : CB X.K fd ps 1 n ks ix dvs) (hd : ∀ F, EnvOk F dfl (dvs.map some))
    (hh : HH X B env os es kws pos n ks ar w) (hc : ∀ q, args (conv q) = pick ix (ar q ++ dfl)) (hg : Gl X x := by rfl) (hdb : (x == ("__debug__" : Str)) = false := by decide) :
    EE X B env os (.Call (.Name x p) es kws pos) (rObj C fl) (bnd w fun q => wf (conv q)) := by
  refine ⟨fun pins s σ H Q I ⟨F, P, S, hw, kk⟩ => ?_⟩
  refine wpAny_Call_Name_kw (ld_glob I hg hm ?_ hdb)
  obtain ⟨g, hb⟩ := hb.kbn
  rw [show 1 + n = n + 1 from Nat.add_comm 1 n] at hb
  refine hh.run pins s σ H (fun vs zs H1 => vs.length = n ∧ zs.length = ks.length ∧ ∀ x dx, H1 x = none → H1 dx = none → dx ≠ x → sp (.ref x :: pick ix (vs ++ zs ++ dvs)) (upd (upd H1 dx (.own x)) x (.ins C dx [])) (fun v H2 => v = .non ∧ Q (.ref x) H2) E) (.ref C) [] _ M.kp I ⟨F, _, S, hw, fun q hq vs zs F1 H1 S1 e1 l1 l2 ok => ⟨l1, l2, hs.ok S1 (i := conv q) (by rw [hc q]; exact env_pick ok hd) hq fun z hz v F' H' S' e' ok' => kk z hz v F' H' S' (e1.trans e') ok'⟩⟩ fun us ws vs zs H1 s1 I1 r rz ⟨l1, l2, q⟩ => ?_
  exact run_makeN M G hr hb hx I1 r rz l1 l2 q
end
/-- the words of a def, whatever its defaults -/
structure FunE (K : PySem.W.Frag) (x qual : Str) (st : Stmt) (f : Addr) (fd : FuncData) : Prop where
  ex : ∃ (oc : Value) (od : Option Addr) (dV kV doc pm : Value) (an : Option Addr) (cdv ct : Value) (osl : Array (Option Value)),
    fd = PySem.W.fnOf x qual (defArgs st) (defBody st) (defScope st) dV kV doc pm an cdv ct ∧ K.lookup f = some ⟨oc, od, .func fd, osl⟩ ∧ PySem.W.codeIn K cdv qual = true
  kp : PySem.W.keepIn K (.ref f) = true
theorem cb_of {K : PySem.W.Frag} {fd : FuncData} {ps : List Str} {f0 n : Nat} {ks : List Str} {ix : List Nat} (h : ∀ fs us ws : List Value, fs.length = f0 → us.length = n → ws.length = ks.length → bindArgs fd ⟨fs ++ us, ks.zip ws⟩ = pure (ps.zip (fs ++ pick ix (us ++ ws ++ [])))) : CB K fd ps f0 n ks ix [] :=
  ⟨[], .nil, fun s fs us ws _ h0 h1 h2 => .of_eq (h fs us ws h0 h1 h2)⟩
/-- defaults stand at T -/
theorem cb_dflt {K : PySem.W.Frag} {fd : FuncData} {ps : List Str} {f0 n : Nat} {ks : List Str} {ix : List Nat} {dvs : List V} {T : Addr} {o : Obj} {its : List Value} {m : Nat} (lT : K.lookup T = some o) (oT : o.data = .seq its.toArray m) (rT : Vals dvs its)
    (h : ∀ fs us ws : List Value, fs.length = f0 → us.length = n → ws.length = ks.length → ∃ k, bindArgs fd ⟨fs ++ us, ks.zip ws⟩ = seqItems? (.ref T) >>= k ∧ k (some its.toArray) = pure (ps.zip (fs ++ pick ix (us ++ ws ++ its)))) : CB K fd ps f0 n ks ix dvs :=
  ⟨its, rT, fun s fs us ws X h0 h1 h2 => by
    obtain ⟨k, e1, e2⟩ := h fs us ws h0 h1 h2
    refine BindsTo.of_looks fun M => ?_
    rw [e1]
    exact looks_items X lT oT (.of_pure e2)⟩
end Mi
namespace Mi
open PySem L2 Evl
open PyProof.Rows (envOfC Call_ boot_enumerate)
section
variable {X : Cx} {B : Bs} {env : Env} {os : Os} {pos p : Pos} {α β γ : Type} {r : Rp α} {s : Rp β} {f : α → PyData} {n : Nat} {a b c e tg : Expr}
theorem e_asInt {w : W PyData} (h : EE X B env os e (rD X.K) w) : EE X B env os e rInt (bnd w asInt) := PE.imp h fun σ H Q ⟨F, P, S, hw, k⟩ => ⟨F, _, S, hw, fun d hd v F' H' S' e' ok => by
  obtain ⟨x, hx, ok2⟩ := nr_int (K := X.K) ok hd
  exact k x hx v F' H' S' e' ok2⟩
theorem e_asStr {w : W PyData} (h : EE X B env os e (rD X.K) w) : EE X B env os e rStr (bnd w asStr) := PE.imp h fun σ H Q ⟨F, P, S, hw, k⟩ => ⟨F, _, S, hw, fun d hd v F' H' S' e' ok => by
  obtain ⟨x, hx, ok2⟩ := nr_str (K := X.K) ok hd
  exact k x hx v F' H' S' e' ok2⟩
/-- data is no dict -/
theorem e_noDict {w : W PyData} {p1 p2 : Pos} (ha : EE X B env os a (rD X.K) w) (hm : X.mg "isinstance" = none) (hx : X.mg "dict" = none)
    (hg : Gl X "isinstance" := by rfl) (hgx : Gl X "dict" := by rfl) (hs : starEach [a, .Name "dict" p2] X.env = (false, eval a X.env) :: starEach [.Name "dict" p2] X.env := by rfl) (hs2 : starEach [.Name "dict" p2] X.env = (false, eval (.Name "dict" p2) X.env) :: starEach [] X.env := by rfl) (hpl : (backTo pos (starEach [.Name "dict" p2] X.env)).any (·.1) = false := by rfl) :
    EE X B env os (.Call (.Name "isinstance" p1) [a, .Name "dict" p2] [] pos) rBool (bnd w fun _ => ret false) :=
  PE.imp (pe_callB call_isi hg hm (by decide +kernel) (pa_cons ha (pa_cons (pe_bltn (v := .ty "dict") hgx hx (by decide +kernel) rfl (by decide) (by decide)) pa_nil hs2) hs) (by decide) (by decide) hs hpl) fun σ H Q ⟨F, P, S, hw, kk⟩ => ⟨F, _, S, hw, fun d hd v F1 H1 S1 e1 ok =>
    ⟨v, .ty "dict", _, .type "dict", (tyD d == "dict"), rfl, .ty "dict", ty_D ok S1.fh, kd_dict d, by
      have z : (tyD d == "dict") = false := by
        obtain ⟨ok, _⟩ := ok
        cases ok <;> rfl
      rw [z]
      exact kk _ hd (.bl _) F1 H1 S1 e1 rfl⟩⟩
end
def TupS (K : PySem.W.Frag) (a : Addr) (zs : List Str) : Prop := (∃ (o : Obj) (its : Array Value) (n : Nat), K.lookup a = some o ∧ o.cls = .type "tuple" ∧ o.data = .seq its n ∧ its.size ≤ sizeLine ∧ Vals (zs.map V.str) its.toList) ∧ zs.length ≤ sizeLine ∧ ∀ z ∈ zs, z.length ≤ sizeLine ∧ PyData.strOk z = true
section
variable {X : Cx} {B : Bs} {env : Env} {os : Os} {pos p : Pos} {α β γ : Type} {r : Rp α} {s : Rp β} {a b c e tg : Expr}
theorem e_gTup {x : Str} {A : Addr} {zs : List Str} (hm : X.mg x = some (.ref A)) (ht : TupS X.K A zs) (hg : Gl X x := by rfl) (hd : (x == ("__debug__" : Str)) = false := by decide) : EE X B env os (.Name x pos) (rTup X.K rStr) (ret zs) :=
  e_glob (v := .ref A) hg hm rfl (fun F => ⟨A, zs.map V.str, rfl, .inr ht.1, by rw [List.length_map]; exact ht.2.1, strs_paired fun z hz => ⟨rfl, ht.2.2 z hz⟩⟩) hd
theorem e_gIntE {x : Str} {i : Int} (hm : ∃ t, X.mg x = some (.int i t)) (hg : Gl X x := by rfl) (hd : (x == ("__debug__" : Str)) = false := by decide) : EE X B env os (.Name x pos) rInt (ret i) := let ⟨_, h⟩ := hm; e_gInt h hg hd
theorem e_gStrE {x z : Str} (hm : ∃ t, X.mg x = some (.str z t)) (h : z.length ≤ sizeLine := by decide +kernel) (h2 : PyData.strOk z = true := by decide +kernel) (hg : Gl X x := by rfl) (hd : (x == ("__debug__" : Str)) = false := by decide) : EE X B env os (.Name x pos) rStr (ret z) := let ⟨_, q⟩ := hm; e_gStr q h h2 hg hd
def seqD : PyData → W (List PyData)
  | .list ds => chk (ds.length ≤ sizeLine) (ret ds)
  | .tuple ds => chk (ds.length ≤ sizeLine) (ret ds)
  | _ => fail
theorem rD_item {K : PySem.W.Frag} {F F' : Hp} {vs : List V} {ds : List PyData} {i : Nat} {v : V} {d : PyData} (e : Ex F F') (h : Paired (Dp K F) vs ds) (hc : PyData.canLayAll0 ds = true) (hp : PyData.depthAll ds ≤ 29) (hv : vs[i]? = some v) (hd : ds[i]? = some d) : (rD K).ok F' v d := by
  have hm := List.mem_of_getElem? hd
  obtain ⟨u, h1, h2⟩ := Paired.get h hd
  rw [h1] at hv
  cases hv
  exact (rD K).mono e ⟨h2, PyData.canLay0_of_mem _ _ hc hm, Nat.le_trans (depthAll_mem hm) (by omega)⟩
def iEnumLT (K : PySem.W.Frag) (ta : TA) : TI := fun σ H R => ta σ H fun vs H1 => ∃ a, vs = [.ref a] ∧ (((∃ xs, SqL K H1 a xs) ∧ R (Ite K a) H1) ∨ ((∃ xs, SqT K H1 a xs) ∧ R (IteT K a) H1))
theorem pi_enumLT {e : Expr} {ta : TA} {p pos tpos : Pos} {elts : List Expr} {kk : Nat} (hg : Gl X "enumerate") (hm : X.mg "enumerate" = none) (ha : PA X [e] ta) (hs : starEach [e] X.env = [(false, eval e X.env)] := by rfl) :
    PI X (.Tuple elts kk tpos) (.Call (.Name "enumerate" p) [e] [] pos) (iEnumLT X.K ta) := by
  refine ⟨fun pins s σ H R I h => ?_⟩
  refine Call_ (ld_blt I hg hm boot_enumerate (PyProof.Rows.callWith_type1 (thn (ha.run pos pins s σ H _ I h) fun us s1 ⟨vs, H1, I1, r1, q1⟩ => ?_) hs rfl))
  obtain ⟨a, ex, q⟩ := q1
  subst ex
  cases r1 with
  | cons r rr =>
    cases rr
    cases r
    rcases q with ⟨⟨xs, hq⟩, q⟩ | ⟨⟨xs, hq⟩, q⟩
    · obtain ⟨its, rv, p', hz⟩ := I1.list hq
      refine call_enumerate_list p'.isList fun h' he hit hsz hk => wpAny_pyIter_enum he ?_
      have I2 : Inv X pins σ H1 { s1 with heap := h' } := I1.kept (t' := s1.toks) hk
      refine ⟨s1.heap.objs.size + 1, [s1.heap.objs.size + 1, s1.heap.objs.size], _, _, H1, rfl, I2, turn_enum a (s1.heap.objs.size + 1) s1.heap.objs.size, ⟨⟨.none, he⟩, hit, Nat.succ_ne_self _⟩, fun b hb => ?_, q⟩
      have e' : b = s1.heap.objs.size + 1 ∨ b = s1.heap.objs.size := by simpa using hb
      have hle : s1.heap.objs.size ≤ b := by
        rcases e' with z | z
        · rw [z]; exact Nat.le_add_right _ _
        · rw [z]; exact Nat.le_refl _
      exact I1.fpOk hle (I1.hok.fresh hle)
    · obtain ⟨its, rv', p', hz⟩ := I1.tuple hq
      refine call_enum1 (begins_tuple a its.toArray) p' fun h' he hi hk => wpAny_pyIter_enum he ?_
      have I2 : Inv X pins σ H1 { s1 with heap := h' } := I1.kept (t' := s1.toks) hk
      refine ⟨_, [s1.heap.objs.size + 1, s1.heap.objs.size], _, _, H1, rfl, I2, turn_enumT a _ _, ⟨⟨.none, he⟩, ⟨_, hi, rfl, rfl⟩, Nat.succ_ne_self _⟩, fun b hb => ?_, q⟩
      have le : s1.heap.objs.size ≤ b := by
        rcases List.mem_cons.mp hb with z | z
        · rw [z]; exact Nat.le_succ _
        · rw [List.mem_singleton.mp z]; exact Nat.le_refl _
      exact I1.fpOk le (I1.hok.fresh le)
theorem enum_at {ds : List α} {i : Nat} {z : Int × α} (h : ((rangeI 0 (ds.length : Int)).zip ds)[i]? = some z) : z.1 = (i : Int) ∧ ds[i]? = some z.2 := by
  obtain ⟨z1, z2⟩ := z
  have hz' := List.getElem?_zip_eq_some.mp h
  refine ⟨?_, hz'.2⟩
  have h := hz'.1
  unfold rangeI at h
  rw [List.getElem?_map] at h
  obtain ⟨m, hm, em⟩ := Option.map_eq_some_iff.mp h
  rw [List.getElem?_range (by have := (List.getElem?_eq_some_iff.mp hm).1; simpa using this)] at hm
  have := Option.some.inj hm
  show z1 = _
  omega
theorem enum_len {ds : List α} : ((rangeI 0 (ds.length : Int)).zip ds).length = ds.length := by
  have lr : (rangeI 0 (ds.length : Int)).length = ds.length := by rw [rangeI_len]; omega
  rw [List.length_zip, lr]
  exact Nat.min_self _
/-- enumerate(d), d a list or a tuple -/
theorem s_enumD {tpos : Pos} {elts : List Expr} {kk : Nat} {w : W PyData} (ha : EE X B env os a (rD X.K) w) (hm : X.mg "enumerate" = none) (hg : Gl X "enumerate" := by rfl) (hs : starEach [a] X.env = [(false, eval a X.env)] := by rfl)
    (he : starEach [a] X.env = (false, eval a X.env) :: starEach [] X.env := by rfl) :
    ES X B env os (.Tuple elts kk tpos) (.Call (.Name "enumerate" p) [a] [] pos) (rT2 X.K rInt (rD X.K)) (bnd w fun d => bnd (seqD d) fun x => ret ((rangeI 0 x.length).zip x)) :=
  PI.imp (pi_enumLT hg hm (pa_cons ha pa_nil he) hs) fun σ H R ⟨F, P, S, hw, k⟩ => ⟨F, _, S, hw, fun d hd v F1 H1 S1 e1 ⟨ok, c, dp⟩ => by
  have hd : seqD d (fun x => P ((rangeI 0 x.length).zip x)) B.E0 := hd
  cases ok with
  | non => exact False.elim hd
  | bl b => exact False.elim hd
  | int i => exact False.elim hd
  | str x => exact False.elim hd
  | @lst p1 vs ds h t =>
    rw [PyData.depth] at dp
    have t := dpAll_paired t
    have hc : PyData.canLayAll0 ds = true := by simpa only [PyData.canLay0] using c
    refine ⟨p1, rfl, .inl ⟨⟨vs, ex_l S1.fh h⟩, k _ hd.2 _ F1 H1 S1 e1 ⟨fun i F3 H3 x1 x2 hi => ?_, fun i F3 H3 u H4 z x1 x2 yy hz => ?_, fun i F3 H3 x1 x2 hi => ?_⟩ (by rw [enum_len]; exact hd.1)⟩⟩
    · rw [enum_len] at hi
      exact ⟨vs, vs[i]'(by rw [t.length]; exact hi), ex_l x2 (ex_l x1 h), List.getElem?_eq_getElem _⟩
    · obtain ⟨T, v2, ev, hT, eH, y1⟩ := yy
      subst ev eH
      obtain ⟨q1, q2⟩ := enum_at hz
      have g : Grow F3 H3 (upd F3 T (.tup [.int (i : Nat), v2])) (upd H3 T (.tup [.int (i : Nat), v2])) := Grow.alloc x2 hT
      exact ⟨_, g, T, _, v2, rfl, SqT.of upd_same, (by show V.int _ = V.int _; rw [q1]), rD_item (x1.trans g.f) t hc (by omega) (y1 vs (ex_l x2 (ex_l x1 h))) q2⟩
    · rw [enum_len] at hi
      exact ⟨vs, ex_l x2 (ex_l x1 h), by rw [t.length]; exact hi⟩
  | @tup p1 vs ds h t =>
    rw [PyData.depth] at dp
    have t := dpAll_paired t
    have hc : PyData.canLayAll0 ds = true := by simpa only [PyData.canLay0] using c
    refine ⟨p1, rfl, .inr ⟨⟨vs, ex_t S1.fh h⟩, k _ hd.2 _ F1 H1 S1 e1 ⟨fun i F3 H3 x1 x2 hi => ?_, fun i F3 H3 u H4 z x1 x2 yy hz => ?_, fun i F3 H3 x1 x2 hi => ?_⟩ (by rw [enum_len]; exact hd.1)⟩⟩
    · rw [enum_len] at hi
      exact ⟨vs, vs[i]'(by rw [t.length]; exact hi), ex_t x2 (ex_t x1 h), List.getElem?_eq_getElem _⟩
    · obtain ⟨T, v2, ev, hT, eH, y1⟩ := yy
      subst ev eH
      obtain ⟨q1, q2⟩ := enum_at hz
      have g : Grow F3 H3 (upd F3 T (.tup [.int (i : Nat), v2])) (upd H3 T (.tup [.int (i : Nat), v2])) := Grow.alloc x2 hT
      exact ⟨_, g, T, _, v2, rfl, SqT.of upd_same, (by show V.int _ = V.int _; rw [q1]), rD_item (x1.trans g.f) t hc (by omega) (y1 vs (ex_t x2 (ex_t x1 h))) q2⟩
    · rw [enum_len] at hi
      exact ⟨vs, ex_t x2 (ex_t x1 h), by rw [t.length]; exact hi⟩⟩
end
section
variable {P : Program} {w : World} {K : PySem.W.Frag} {mg : Str → Option Value} {base : Heap} {tb : ETab} {k : Nat} {f C : Addr} {fd : FuncData} {ps N : List Str} {ι ρ : Type} {args : ι → Env} {os : ι → Os} {wf : ι → W ρ} {ro : Rp ρ} {fl : ρ → List (Str × Slot)}
theorem FunE.ok {CX : CXT} {x qual : Str} {st : Stmt} {sp : Sp} (F : FunE K x qual st f fd) (S : FnScope N ps (defScope st)) (len : ∀ vs H Q E, sp vs H Q E → vs.length = ps.length)
    (hbody : ∀ (cdv : Value) (A : Around) (outer : List PySem.Env) (s : Shared) (H : Hp) (vs : List V) (Q : VK) (E : XK), Room k (A.deeper (envOfC qual (defScope st) s.heap.objs.size f cdv)) → sp vs H Q E →
      ∃ t, PSs (cxOf CX P w K mg base N qual (defScope st) f cdv A outer s H E) (defBody st) t ∧ t { nx := fun _ H' => Q .non H', rt := Q } (L2.start N vs) H) : FnOk P w K mg base CX (k + 1) f fd ps sp := by
  obtain ⟨oc, od, dV, kV, doc, pm, an, cdv, ct, osl, rfl, lk, hcd⟩ := F.ex
  exact fn_of lk hcd S len fun A outer s H vs Q E hr hsp => hbody cdv A outer s H vs Q E hr hsp
theorem initXE {x qual : Str} {st : Stmt} (F : FunE K x qual st f fd) (S : FnScope N ps (defScope st)) (hl : ∀ i, (args i).length + 1 = ps.length)
    (body : ∀ (cdv : Value) (A : Around) (outer : List PySem.Env) (s : Shared) (H : Hp) (E : XK) (B : Bs) (a : Addr) (i : ι), Room k (A.deeper (envOfC qual (defScope st) s.heap.objs.size f cdv)) → Takes (cxOf (L2.CX P w) P w K mg base N qual (defScope st) f cdv A outer s H E) (wB K tb B) →
      BG (cxOf (L2.CX P w) P w K mg base N qual (defScope st) f cdv A outer s H E) B (entry (sv (rAdr a) () :: args i) (N.length - ps.length)) [(a, oObj C [])] (defBody st) (pIn B C a fl) (wf i)) : FnOk P w K mg base (L2.CX P w) (k + 1) f fd ps (spIX K tb C args wf fl) :=
  F.ok S (fun vs H Q E ⟨i, F, P, PE, x, dx, us, ev, _, _, _, he, _⟩ => by
    have := he.len
    rw [List.length_map] at this
    rw [ev, List.length_cons, ← this, hl i]) fun cdv A outer s H vs Q E hr hsp => bodyIX hl hsp fun B a i tk => body cdv A outer s H E B a i hr tk
end
section
variable {X : Cx} {B : Bs} {env : Env} {os : Os} {ρ : Type} {r : Rp ρ} {K : PySem.W.Frag} {tb : ETab} {k : Nat} {P : Program} {w : World} {mg : Str → Option Value} {base : Heap}
theorem clo1_ok {s : Shared} {F : Hp} {v : V} {u : Unit} {D : LamD} {df : Bool} {wf : W ρ} (hv : (rLam D df).ok F v u) (hz : ∀ v, (rLam D df).ok F v () → (rClo P w K mg base tb k r).ok (addC (cellZ X s.heap) F) v wf) : EnvOk (addC (cellZ X s.heap) F) [sv (rClo P w K mg base tb k r) wf] [some v] := .cons ⟨v, rfl, hz v hv⟩ .nil
end
end Mi
namespace Mi
open PySem L2 Evl
section
variable {X : Cx} {B : Bs} {env : Env} {os : Os} {pos p : Pos} {κ α β : Type} [DecidableEq κ] {rk : Rp κ} {kf : κ → Key} {r : Rp α} {o a b c e : Expr} {rest : List Stmt} {post : Post β}
theorem b_dputB (i j : Nat) {x : Str} {p1 p2 : Pos} {q : Addr} {xs : List (κ × α)} {w : W α} {w1 : α → W κ} {w2 : List (κ × α) → W β} (K : KeyR rk kf) (hu : X.A.units + 100 < cLine) (hi : env[i]? = some (sv (rAdr q) ())) (hj : os[j]? = some (q, oDct rk kf r xs)) (he : EE X B env os e r w) (hk : ∀ y, EE X B env os b rk (w1 y))
    (hr : ∀ ys, BG X B env (os.set j (q, oDct rk kf r ys)) rest post (w2 ys)) (hN : X.N[i]? = some x := by rfl)
    (hv : Vis X.env.scope x := by first | exact Or.inl rfl | exact Or.inr (Or.inl rfl) | exact Or.inr (Or.inr rfl)) (hd : (x == ("__debug__" : Str)) = false := by decide) (hcd : (x == ("__classdict__" : Str)) = false := by decide)
    (hs : swapsWith e (some (.Subscript (.Name x p1) b p2)) pos.line X.env = pure false := by rfl) :
    BG X B env os (.Assign [.Subscript (.Name x p1) b p2] e pos :: rest) post (bnd w fun y => bnd (w1 y) fun k => chk (xs.length < sizeLine) (bnd (ret (dput xs k y)) w2)) :=
  b_dput i j K hu hi hj he hk hr hN hv hd hcd hs
end
end Mi
namespace Mi
open PySem L2 Evl
section
variable {X : Cx} {B : Bs} {env : Env} {os : Os} {tb : ETab} {pos p : Pos} {κ α β ι ρ : Type} [DecidableEq κ] {rk : Rp κ} {kf : κ → Key} {r : Rp α} {o a b c e : Expr} {args : ι → Env} {osf : ι → Os} {wf : ι → W ρ} {ro : Rp ρ} {C : Addr} {fl : ρ → List (Str × Slot)}
theorem passN : Passes (L2.CX X.prog X.w) X E0 := fun pins σ H s e s' I c => by
  obtain ⟨a, B, H', cls, d, rfl, fl, hokB, ub, na, os, ag, hE0⟩ := c
  exact False.elim hE0
theorem spm_XN : SpM (spIX X.K tb C args wf fl) E0 B env os C args (fun i => noX (wf i)) fl := ⟨fun {F H σ vs i P Q} S ok hw k x dx hx hdx hne => by
  have g : Grow F H (upd F dx (.own x)) (upd H dx (.own x)) := Grow.alloc S.fh hdx
  have S1 := S.grow g
  have hx1 : upd H dx (.own x) x = none := by rw [upd_ne (Ne.symm hne)]; exact hx
  have S2 := S1.newOwn (o := .ins C dx []) (ow := oObj C []) hx1 ⟨dx, [], rfl, .nil⟩
  refine ⟨i, upd F dx (.own x), P, fun _ => False, x, dx, vs, rfl, S2.fh, ?_, upd_same, ok.mono g.f, hw, fun r hr F' H' fn ow => ⟨rfl, ?_⟩, fun e he => False.elim he⟩
  · exact (S2.ow (x, oObj C []) List.mem_cons_self).1
  · obtain ⟨F2, o, e2, h1, ⟨dx', vs', h2, h3⟩, S4⟩ := (S2.backI fn ow).freeze
    subst h2
    exact k r hr (.ref x) F2 H' S4 ((g.f.trans fn.bf).trans e2) ⟨x, dx', vs', rfl, h1, h3⟩⟩
end
end Mi
namespace Mi
open PySem L2 Evl NdefX
open PyProof.Rows (envOfC)
open PySem.Builtin.ObjectAttr PySem.Builtin
/-- a builtin exception at the foot: its name, those of its __new__ and __init__, its mro -/
structure Foot (nameB newB initB : String) (tl : List Value) : Prop where
  base : PySem.ExcBaseFacts nameB newB initB tl
  lets : ∀ me : Value, refuseLoop me "__setattr__" tl = pure ()
  objT : tl.contains (Value.type "object") = true
  kxs : PySem.W.KxsFacts nameB initB
  nmW : (nameB == "type") = false
theorem foot_value : Foot "ValueError" "ValueError.__new__" "ValueError.__init__" PySem.HandSPX.veTail := ⟨F.excBase_ValueError, fun me => F.store_ValueError.passes me, by decide +kernel, PySem.W.kxs_ValueError, by decide⟩
/-- a class's mro behind itself: own classes, then the foot's -/
def Refs (tl l : List Value) : Prop := ∃ cs : List Addr, l = cs.map Value.ref ++ tl
section
variable {tl l : List Value}
theorem Refs.has (h : Refs tl l) (T : String) : l.contains (Value.type T) = tl.contains (Value.type T) := by
  obtain ⟨cs, rfl⟩ := h
  induction cs with
  | nil => rfl
  | cons c cs ih =>
    rw [List.map_cons, List.cons_append, List.contains_cons, ih]
    rfl
theorem Refs.lets (h : Refs tl l) {me : Value} (k : refuseLoop me "__setattr__" tl = pure ()) : refuseLoop me "__setattr__" l = pure () := by
  obtain ⟨cs, rfl⟩ := h
  induction cs with
  | nil => exact k
  | cons c cs ih =>
    rw [List.map_cons, List.cons_append]
    rw [PySem.refuseLoop_ref]
    exact ih
theorem Refs.cons (h : Refs tl l) (c : Addr) : Refs tl (Value.ref c :: l) := by
  obtain ⟨cs, rfl⟩ := h
  exact ⟨c :: cs, rfl⟩
theorem Refs.some (h : Refs tl l) (k : tl.contains (Value.type "object") = true) : l.isEmpty = false := by
  obtain ⟨cs, rfl⟩ := h
  cases cs with
  | cons c cs => rfl
  | nil => cases tl with
    | nil => cases k
    | cons a b => rfl
end
section
variable {prog : Program} {wd : World} {Ar : Around} {Ans : Result → Shared → Prop} {hh : Heap} {gs : Array GenState} {dr : Drawn} {tk0 : Nat} {oss : OsState} {K : PySem.W.Frag} {fld : Str} {tk : Tok} {val : Value} {a C dx : Addr} {fvs : Array Value} {cda : ClassData} {tl : List Value}
theorem exg_first (inK : K.In hh) (at_ : hh.get? a = Option.some { cls := Value.ref C, data := Data.fields fvs }) (cin : PySem.W.clsIn K C = Option.some cda) (rf : Refs tl cda.mro) (ob : tl.contains (Value.type "object") = true)
    (lets : ∀ me : Value, refuseLoop me "__setattr__" tl = pure ()) (hasD : cda.hasDict = true) (free : PySem.W.findIn K (Value.ref C) fld = Option.some none)
    (fin : ∀ h2 tk2 d2, (∀ b o, b ≠ a → hh.get? b = Option.some o → h2.get? b = Option.some o) → hh.objs.size ≤ d2 → d2 ≠ a → h2.get? a = Option.some { cls := Value.ref C, dict := Option.some d2, data := Data.fields fvs } →
      h2.Ns1 d2 (fun y => if y = fld then Option.some val else none) → Ans (.ok (.ret .none)) ⟨h2, gs, dr, tk2, oss⟩) :
    codeAny (model prog wd) Ar (.call (.builtin "object.__setattr__") ⟨[Value.ref a, Value.str fld tk, val], []⟩) Ans ⟨hh, gs, dr, tk0, oss⟩ := by
  have inst : PySem.W.InstAt hh a { cls := Value.ref C, data := Data.fields fvs } C none := ⟨at_, rfl, rfl, trivial⟩
  have fresh : a ≠ hh.objs.size := Nat.ne_of_lt (Heap.lt_size at_)
  have cont : cda.mro.contains (Value.type "object") = true := (rf.has "object").trans ob
  have inM : PySem.W.mroIn K C (Value.type "object") = Option.some true := by
    unfold PySem.W.mroIn
    rw [cin, Option.bind_some]
    rw [if_neg (by rw [rf.some ob]; decide), cont]
  have isO : PySem.W.Looks (model prog wd) hh (isInstance (Value.ref a) (Value.type "object")) true := inst.type.andThen (PySem.W.looks_mroIn inK inM)
  have so := F.store_object
  have lm : PySem.W.Looks (model prog wd) hh (mroOf (Value.ref C)) cda.mro := (PySem.W.looks_clsIn inK cin).andThen .now
  have lt : PySem.W.Looks (model prog wd) hh (storeTaker? none) none := .now
  have lc : PySem.W.Looks (model prog wd) hh (classData C) cda := PySem.W.looks_clsIn inK cin
  have lf := PySem.W.looks_findIn (M := model prog wd) inK free
  refine codeAny_call_builtin so.slot.plain so.entry ?_
  refine @PySem.W.check_slot (model prog wd) _ _ ⟨hh, gs, dr, tk0, oss⟩ "object.__setattr__" "object" "__setattr__" (Value.ref a) [Value.str fld tk, val] [] _ so.kind so.split isO (so.args (Value.ref a) (Value.str fld tk) val) ?_
  rw [PySem.W.osa_eq, PySem.refuse_eq]
  refine wpAny_bind (wpAny_bind (inst.type.at ?_))
  refine wpAny_bind (lm.at ?_)
  rw [rf.lets (lets _)]
  refine wpAny_pure ?_
  refine wpAny_bind (inst.type.at (wpAny_bind (lf.at ?_)))
  refine wpAny_bind (lt.at ?_)
  show wpAny _ _ (storeInOwnDict (Value.ref a) (Value.ref C) (Value.str fld tk) fld val false) _ _ _
  obtain ⟨c1, c2, c3, c4, c5, c6, c7, c8, c9, c10, c11⟩ := cda
  have hasD : c6 = true := hasD
  subst hasD
  unfold storeInOwnDict ownDictForStores
  repeat (first | with_reducible refine PySem.HandSPX.store_in_new ?_ ?_ | with_reducible refine wpAny_loadPart_at at_ ?_ | with_reducible refine lc.at ?_ | wp_step)
  · have e0 := Heap.get?_push_at (h := hh) (o := ({ cls := .type "dict", data := .dict #[] } : Obj)) rfl rfl
    exact ⟨_, #[], _, (Heap.get?_update_ne _ _ _ _ (Ne.symm fresh)).trans e0, rfl, fun e he => absurd he (by simp), fun _ => rfl⟩
  · intro h2 tk2 ns sb
    have at2 : (hh.push { cls := .type "dict", data := .dict #[] }).get? a = Option.some { cls := Value.ref C, data := Data.fields fvs } := Heap.get?_push_of_some _ at_
    refine fin h2 tk2 hh.objs.size (fun b o nb eb => ?_) (Nat.le_refl _) (Ne.symm fresh) ?_ ns
    · have lb : b ≠ hh.objs.size := Nat.ne_of_lt (Heap.lt_size eb)
      rw [sb.2 b lb, Heap.get?_update_ne _ _ _ _ nb]
      exact Heap.get?_push_of_some _ eb
    · rw [sb.2 a fresh]
      exact Heap.get?_update_self _ at2 rfl
theorem exg_more {m0 : Str → Option Value} {nl : List Str} (inK : K.In hh) (at_ : hh.get? a = Option.some { cls := Value.ref C, dict := Option.some dx, data := Data.fields fvs }) (ns0 : hh.Ns1 dx m0) (wi : Within m0 nl) (few : nl.length ≤ 1000)
    (cin : PySem.W.clsIn K C = Option.some cda) (rf : Refs tl cda.mro) (ob : tl.contains (Value.type "object") = true) (lets : ∀ me : Value, refuseLoop me "__setattr__" tl = pure ()) (hasD : cda.hasDict = true) (free : PySem.W.findIn K (Value.ref C) fld = Option.some none)
    (fin : ∀ h2 tk2, (∀ b o, b ≠ dx → hh.get? b = Option.some o → h2.get? b = Option.some o) → h2.Ns1 dx (fun y => if y = fld then Option.some val else m0 y) → Ans (.ok (.ret .none)) ⟨h2, gs, dr, tk2, oss⟩) :
    codeAny (model prog wd) Ar (.call (.builtin "object.__setattr__") ⟨[Value.ref a, Value.str fld tk, val], []⟩) Ans ⟨hh, gs, dr, tk0, oss⟩ := by
  obtain ⟨od, _, _, edx, _, _⟩ := ns0.count wi
  have inst : PySem.W.InstAt hh a { cls := Value.ref C, dict := Option.some dx, data := Data.fields fvs } C (Option.some od) := ⟨at_, rfl, rfl, edx⟩
  have cont : cda.mro.contains (Value.type "object") = true := (rf.has "object").trans ob
  have inM : PySem.W.mroIn K C (Value.type "object") = Option.some true := by
    unfold PySem.W.mroIn
    rw [cin, Option.bind_some]
    rw [if_neg (by rw [rf.some ob]; decide), cont]
  have isO : PySem.W.Looks (model prog wd) hh (isInstance (Value.ref a) (Value.type "object")) true := inst.type.andThen (PySem.W.looks_mroIn inK inM)
  have so := F.store_object
  have lm : PySem.W.Looks (model prog wd) hh (mroOf (Value.ref C)) cda.mro := (PySem.W.looks_clsIn inK cin).andThen .now
  have lt : PySem.W.Looks (model prog wd) hh (storeTaker? none) none := .now
  have lc : PySem.W.Looks (model prog wd) hh (classData C) cda := PySem.W.looks_clsIn inK cin
  have lf := PySem.W.looks_findIn (M := model prog wd) inK free
  refine codeAny_call_builtin so.slot.plain so.entry ?_
  refine @PySem.W.check_slot (model prog wd) _ _ ⟨hh, gs, dr, tk0, oss⟩ "object.__setattr__" "object" "__setattr__" (Value.ref a) [Value.str fld tk, val] [] _ so.kind so.split isO (so.args (Value.ref a) (Value.str fld tk) val) ?_
  rw [PySem.W.osa_eq, PySem.refuse_eq]
  refine wpAny_bind (wpAny_bind (inst.type.at ?_))
  refine wpAny_bind (lm.at ?_)
  rw [rf.lets (lets _)]
  refine wpAny_pure ?_
  refine wpAny_bind (inst.type.at (wpAny_bind (lf.at ?_)))
  refine wpAny_bind (lt.at ?_)
  show wpAny _ _ (storeInOwnDict (Value.ref a) (Value.ref C) (Value.str fld tk) fld val false) _ _ _
  obtain ⟨c1, c2, c3, c4, c5, c6, c7, c8, c9, c10, c11⟩ := cda
  have hasD : c6 = true := hasD
  subst hasD
  unfold storeInOwnDict ownDictForStores
  repeat (first | with_reducible refine PySem.OEX.store_in_old ns0 wi few ?_ | with_reducible refine wpAny_loadPart_at at_ ?_ | with_reducible refine lc.at ?_ | wp_step)
  intro h2 tk2 ns sb
  refine fin h2 tk2 (fun b o nb eb => ?_) ns
  rw [sb.2 b nb]
  exact eb
end
end Mi
namespace Mi
open PySem L2 Evl NdefX
open PyProof.Rows (envOfC)
/-- what the written part says of such a class -/
structure OexG (K : PySem.W.Frag) (C : Addr) (newB : String) (tl : List Value) : Prop where
  obj : ∃ nm q N bs bm sn sub ab col dd k0 k1 k2 k3 k5, K.lookup C = some (excClassObj nm q C N bs bm true sn sub ab col dd k0 k1 k2 k3 k5 newB) ∧ Refs tl bm
  sets : PySem.W.findIn K (.ref C) "__setattr__" = some (some (.builtin "object.__setattr__"))
  isE : PySem.W.subIn K (.ref C) (.type "BaseException") = some true
  ty : PySem.W.typeIn K (.ref C) = some (.type "type")
  kp : PySem.W.keepIn K (.ref C) = true
section
variable {X : Cx} {pins : List (Addr × Obj)} {σ : L2.St} {H : Hp} {s : Shared} {a C dx : Addr} {fld : Str} {y : V} {u : Value} {fs : List (Str × V)} {Q : Unit → Shared → Prop} {E : Value → Shared → Prop} {A : Around} {nameB newB initB : String} {tl : List Value}
theorem OexG.data (T : OexG X.K C newB tl) : ∃ cda : ClassData, PySem.W.clsIn X.K C = some cda ∧ Refs tl cda.mro ∧ cda.hasDict = true := by
  obtain ⟨nm, q, N, bs, bm, sn, sub, ab, col, dd, k0, k1, k2, k3, k5, look, rf⟩ := T.obj
  refine ⟨{ name := nm, bases := bs, mro := .ref C :: bm, ns := N, qualname := q, hasDict := true, slotNames := sn, subclasses := sub, abstract := ab, collection := col, hasDel := false }, ?_, rf.cons C, rfl⟩
  unfold PySem.W.clsIn
  rw [look] <;> rfl
/-- the first field -/
theorem fld_first (ft : Foot nameB newB initB tl) (T : OexG X.K C newB tl) (I : Inv X pins σ H s) (ea : H a = some (exo a C none)) (free : PySem.W.findIn X.K (.ref C) fld = some none) (ry : RelV y u)
    (fin : ∀ d2 s2, H d2 = none → d2 ≠ a → Inv X pins σ (upd (upd H d2 (exd d2 [(fld, y)])) a (exo a C (some d2))) s2 → Q () s2) : wpAny (model X.prog X.w) A (setAttr (.ref a) fld u) Q E s := by
  obtain ⟨cda, cin, rf, hasD⟩ := T.data
  obtain ⟨tp, there⟩ := exo_at I.hok ea
  obtain ⟨hh, gs, dr, tk0, oss⟩ := s
  refine PySem.W.set_plain (od := none) I.kIn ⟨there, rfl, rfl, trivial⟩ T.sets ?_
  refine exg_first I.kIn there cin rf ft.objT ft.lets hasD free fun h2 tk2 d2 kept ge ne at2 ns2 => ?_
  have nd2 : H d2 = none := I.hok.fresh ge
  have offD : ∀ {b : Addr} {o : Obj}, hh.get? b = some o → b ≠ d2 := fun {b o} z => Nat.ne_of_lt (Nat.lt_of_lt_of_le (Heap.lt_size z) ge)
  have offA : ∀ {b : Addr}, H b = none → b ≠ a := fun {b} z e => by
    rw [e, ea] at z
    cases z
  have same : ∀ {b : Addr}, b ≠ a → b ≠ d2 → upd (upd H d2 (exd d2 [(fld, y)])) a (exo a C (some d2)) b = H b := fun {b} h1 h2 => by rw [upd_ne h1, upd_ne h2]
  have un : Un X.fs [] H (upd (upd H d2 (exd d2 [(fld, y)])) a (exo a C (some d2))) hh h2 := by
    refine ⟨fun b o z n _ _ => kept b o (offA n) z, fun b o z n _ _ => ⟨o.slots, kept b o (offA n) z⟩, fun b o z n _ => (same (offA n) (offD z)).trans n, fun b o z _ => ?_, fun b xs z => ?_, fun b o v z => ?_, fun b ps z => ⟨#[], ?_⟩⟩
    · by_cases e : b = a
      · exact ⟨_, e ▸ at2⟩
      · exact ⟨o, kept b o e z⟩
    · exact (same (at_ne ea z exo_tup) (ne_of_none z nd2)).trans z
    · exact (same (at_ne ea z exo_frz) (ne_of_none z nd2)).trans z
    · rw [same (at_ne ea z exo_tbl) (ne_of_none z nd2), z, Array.append_empty]
  refine fin d2 _ nd2 ne (I.un (t' := tk2) un fun b o z => ?_)
  by_cases e1 : b = a
  · subst e1
    rw [upd_same] at z
    cases z
    exact exo_ok at2
  rw [upd_ne e1] at z
  by_cases e2 : b = d2
  · subst e2
    rw [upd_same] at z
    cases z
    exact exd_ok ns2 (relO_put (fs := []) ry fun _ => trivial)
  rw [upd_ne e2] at z
  refine (I.hok b o z).stay (fun c v hc w => kept c v (fun e => ?_) w) (fun c hc => (same (at_ne ea hc exo_own) (ne_of_none hc nd2)).trans hc) fun c xs hc => (same (at_ne ea hc exo_tup) (ne_of_none hc nd2)).trans hc
  rcases hc with hc | hc
  · exact e1 (hc ▸ e)
  · exact at_ne ea hc exo_own e
/-- a further field -/
theorem fld_more (ft : Foot nameB newB initB tl) (T : OexG X.K C newB tl) (I : Inv X pins σ H s) (ea : H a = some (exo a C (some dx))) (ed : H dx = some (exd dx fs)) (few : fs.length ≤ 900) (free : PySem.W.findIn X.K (.ref C) fld = some none) (ry : RelV y u)
    (fin : ∀ s2, Inv X pins σ (upd H dx (exd dx ((fld, y) :: fs))) s2 → Q () s2) : wpAny (model X.prog X.w) A (setAttr (.ref a) fld u) Q E s := by
  obtain ⟨cda, cin, rf, hasD⟩ := T.data
  obtain ⟨tp, there⟩ := exo_at I.hok ea
  obtain ⟨mA, ns1, rel⟩ := exd_at I.hok ed
  obtain ⟨hh, gs, dr, tk0, oss⟩ := s
  have wi := within_of rel
  obtain ⟨od, _, _, eod, _, _⟩ := ns1.count wi
  refine PySem.W.set_plain (od := some od) I.kIn ⟨there, rfl, rfl, eod⟩ T.sets ?_
  refine exg_more I.kIn there ns1 wi (by rw [List.length_map]; omega) cin rf ft.objT ft.lets hasD free fun h2 tk2 kept ns2 => ?_
  have is2 : ∃ o, h2.get? dx = some o := let ⟨o, _, _, e, _⟩ := ns2; ⟨o, e⟩
  exact fin _ (I.write (t' := tk2) (x := dx) (e := dx) (o := exd dx ((fld, y) :: fs)) (by rw [ed]; trivial) (.inl rfl) kept is2 (exd_ok ns2 (relO_put ry rel)))
end
/-- self.f = e in such an __init__ -/
def tFld (K : PySem.W.Frag) (newB : String) (tl : List Value) (f : Str) (to te : TE) : TS := fun D σ H => te σ H fun y H1 => to σ H1 fun x H2 => ∃ a C : Addr, x = .ref a ∧ OexG K C newB tl ∧ PySem.W.findIn K (.ref C) f = some none ∧
  ((H2 a = some (exo a C none) ∧ ∀ d2, H2 d2 = none → d2 ≠ a → D.nx σ (upd (upd H2 d2 (exd d2 [(f, y)])) a (exo a C (some d2)))) ∨
    ∃ (d2 : Addr) (fs : List (Str × V)), H2 a = some (exo a C (some d2)) ∧ H2 d2 = some (exd d2 fs) ∧ fs.length ≤ 900 ∧ D.nx σ (upd H2 d2 (exd d2 ((f, y) :: fs))))
section
variable {X : Cx} {o e : Expr} {es : List Expr} {to te : TE} {ta : TA} {f : Str} {p p' pos : Pos} {nameB newB initB : String} {tl : List Value}
theorem ps_fld (ft : Foot nameB newB initB tl) (ho : PE X o to) (he : PE X e te) (hs : swapsWith e (some (.Attribute o f p')) pos.line X.env = pure false := by rfl) : PS X (.Assign [.Attribute o f p'] e pos) (tFld X.K newB tl f to te) := by
  refine ⟨fun pins s σ H D I h => ?_⟩
  refine plainObj_wpAny_Assign_Attribute (thn (he.run pins s σ H _ I h) fun v s1 ⟨y, H1, I1, r1, q1⟩ => ?_) hs
  refine thn (ho.run pins s1 σ H1 _ I1 q1) fun u s2 ⟨x, H2, I2, r2, a, C, ex, T, free, q⟩ => ?_
  subst ex
  obtain rfl : u = Value.ref a := r2
  rcases q with ⟨ea, q⟩ | ⟨d2, fs, ea, ed, few, q⟩
  · exact fld_first ft T I2 ea free r1 fun d2 s' n ne J => ⟨σ, _, J, q d2 n ne⟩
  · exact fld_more ft T I2 ea ed few free r1 fun s' J => ⟨σ, _, J, q⟩
theorem mk_oexG {CX : CXT} {C fI : Addr} {k : Nat} {fd : FuncData} {ps : List Str} {sp : Sp} {ds : List Value} {dvs : List V} (ft : Foot nameB newB initB tl) (T : OexG X.K C newB tl) (iC : PySem.W.findIn X.K (.ref C) "__init__" = some (some (.ref fI))) (tI : PySem.W.typeIn X.K (.ref fI) = some (.type "function"))
    (G : FnOk X.prog X.w X.K X.mg X.base CX k fI fd ps sp) (hr : Room (k + 1) X.A) (hb : Binds X.K fd ps ds) (hd : Vals dvs ds) (hx : Passes CX X (fun _ _ _ => False)) {us : List Value} {vs : List V} {pins : List (Addr × Obj)} {σ : L2.St} {H1 : Hp} {Q : XK} {s1 : Shared} (I1 : Inv X pins σ H1 s1) (r1 : Vals vs us) (few : vs.length ≤ 1000)
    (q1 : ∀ a, H1 a = none → sp (.ref a :: (vs ++ dvs)) (upd H1 a (exo a C none)) (fun v H2 => v = .non ∧ ∃ (d : Addr) (fs : List (Str × V)), H2 a = some (exo a C (some d)) ∧ H2 d = some (exd d fs) ∧ H1 d = none ∧ Q (.ref C) (some d) (upd (del H2 a) d (.xd fs))) (fun _ _ _ => False)) :
    wpAny (model X.prog X.w) X.A (call (.ref C) us) (MkP X pins σ Q) X.xe s1 := by
  obtain ⟨nm, q, N, bs, bm, sn, sub, ab, col, dd, k0, k1, k2, k3, k5, look, rf⟩ := T.obj
  obtain ⟨hh, gs, dr, tk0, oss⟩ := s1
  have ge : hh.objs.size ≤ hh.objs.size + 1 := Nat.le_succ _
  have prom := q1 (hh.objs.size + 1) (I1.hok.fresh ge)
  have kept : ∀ b o, hh.get? b = some o → ((hh.push (PySem.W.kdv_tup us)).push (PySem.HandSPX.excO C hh.objs.size)).get? b = some o := fun b o z => Heap.get?_push_of_some _ (Heap.get?_push_of_some _ z)
  have here : ((hh.push (PySem.W.kdv_tup us)).push (PySem.HandSPX.excO C hh.objs.size)).get? (hh.objs.size + 1) = some (PySem.HandSPX.excO C hh.objs.size) := by heap_get
  have I2 := I1.laid (t' := tk0) (a := hh.objs.size + 1) (o := exo (hh.objs.size + 1) C none) (h' := (hh.push (PySem.W.kdv_tup us)).push (PySem.HandSPX.excO C hh.objs.size)) kept ge (exo_ok here)
  have rAll : Vals (V.ref (hh.objs.size + 1) :: (vs ++ dvs)) (Value.ref (hh.objs.size + 1) :: (us ++ ds)) := .cons rfl (r1.append hd)
  have many : (Value.ref (hh.objs.size + 1) :: us ++ ds).length = ps.length := by
    have z := rAll.length
    rw [G.len _ _ _ _ prom] at z
    exact z.symm
  have short : us.length ≤ sizeLine := by
    rw [← Paired.length r1, sizeLine_eq]
    omega
  have runs := G.run _ X.stack _ _ ⟨Value.ref (hh.objs.size + 1) :: us, []⟩ (Value.ref (hh.objs.size + 1) :: (us ++ ds)) _ _ (fun _ _ _ => False) (hr.make C us []) (I2.env0.make C us []) (hb _ (Value.ref (hh.objs.size + 1) :: us) I2.kIn many) rAll prom
  refine wpAny_call (PySem.HandSPX.call_own ft.base (fun Y => rf.has Y) (I1.kIn _ _ look) (PySem.W.looks_findIn I1.kIn iC) (fun self => PySem.W.bind_fn I1.kIn self tI) short (codeAny_mono runs fun r s2 hq => ?_))
  cases r with
  | error er => exact hx pins σ _ _ er s2 I2 hq
  | ok fl =>
    cases fl with
    | next => exact False.elim hq
    | brk => exact False.elim hq
    | cont => exact False.elim hq
    | ret u =>
      obtain ⟨v, H2, os2, bare2, un2, hok2, rv, ev, d, fs, ea, ed, hd1, q2⟩ := hq
      subst ev
      obtain ⟨h2, g2, d2, t2, os'⟩ := s2
      exact ⟨rv, mk_end (raises_own T.isE T.ty) I1 ge kept un2 hok2 os2 bare2 ea ed hd1 q2⟩
theorem pmk_G {CX : CXT} {x : Str} {C fI : Addr} {k : Nat} {fd : FuncData} {ps : List Str} {sp : Sp} {ds : List Value} {dvs : List V} (ft : Foot nameB newB initB tl) (T : OexG X.K C newB tl) (iC : PySem.W.findIn X.K (.ref C) "__init__" = some (some (.ref fI))) (tI : PySem.W.typeIn X.K (.ref fI) = some (.type "function"))
    (G : FnOk X.prog X.w X.K X.mg X.base CX k fI fd ps sp) (hr : Room (k + 1) X.A) (hb : Binds X.K fd ps ds) (hd : Vals dvs ds) (hx : Passes CX X (fun _ _ _ => False)) (hg : Gl X x) (hm : X.mg x = some (.ref C)) (ha : PA X (e :: es) ta)
    (hdb : (x == ("__debug__" : Str)) = false := by decide) (he : starEach (e :: es) X.env = (false, eval e X.env) :: starEach es X.env := by rfl) (hpl : (backTo pos (starEach es X.env)).any (·.1) = false := by rfl) : PMk X (.Call (.Name x p) (e :: es) [] pos) (tMkO C sp dvs ta) := by
  intro pins s σ H Q I h
  refine wpAny_Call_Name_kw (ld_glob I hg hm ?_ hdb)
  exact PySem.W.callWith_K (h₀ := X.base) I.ok.mod.kin T.kp (thn (ha.run pos pins s σ H _ I h) fun us s1 ⟨vs, H1, I1, r1, few, q1⟩ => ⟨I1.kIn, mk_oexG ft T iC tI G hr hb hd hx I1 r1 few q1⟩) he hpl
end
end Mi
namespace Mi
open PySem L2 Evl NdefX
open PyProof.Rows (envOfC)
/-- what the written part says of such a class and of its __init__ at f -/
structure SupG (K : PySem.W.Frag) (prog : Program) (C f : Addr) (F : NF) (fd : FuncData) (cc : Addr) (nameB newB initB : String) (tl : List Value) : Prop where
  ft : Foot nameB newB initB tl
  oex : OexG K C newB tl
  fdE : ∃ kV doc pm ct an, fd = PySem.W.fnX F.name F.qual F.params F.body F.scope [(("__class__" : Str), cc)] .none kV doc pm an (.ref F.c) ct
  look : ∃ oc od osl, K.lookup f = some ⟨oc, od, .func fd, osl⟩
  cl : F.cl = [(("__class__" : Str), cc)]
  cd : PySem.W.codeIn K (.ref F.c) F.qual = true
  cell : ∃ cl cld csl, K.lookup cc = some ⟨cl, cld, .cell (some (.ref C)), csl⟩
  code : ∃ ccl cdd vs ccs file tf, K.lookup F.c = some ⟨ccl, cdd, .fields vs, ccs⟩ ∧ vs[2]? = some (.str file tf) ∧ ((prog.main.file : Str) == file) = true
  opq : PySem.W.nsIn K cStatics "thirdparty.any" = some none
  along : PySem.W.ks_superIn K C C "__init__" = some (some (.builtin initB))
  sub : PySem.W.subIn K (.ref C) (.type nameB) = some true
  mro : PySem.W.mroIn K C (.ref C) = some true
  sup : PySem.W.nsIn K mainGlobals "super" = some none
  top : (prog.main.scope.names.lookup ("super" : Str)).isSome = false
section
variable {P : Program} {w : World} {K : PySem.W.Frag} {mg : Str → Option Value} {base : Heap} {C f cc : Addr} {F : NF} {fd : FuncData} {N ps : List Str} {nameB newB initB : String} {tl : List Value}
theorem super_initG {A : Around} {outer : List PySem.Env} {s0 s : Shared} {H0 H : Hp} {E : XK} {σ : L2.St} {a : Addr} {t : Str} {j : Nat} {p0 p1 p2 p3 p4 pos : Pos} {rest : List Stmt} {Q : Flow → Shared → Prop} {ar : Arg}
    (T : SupG K P C f F fd cc nameB newB initB tl) (hsup : mg "super" = none)
    (I : Inv (ncx CX0 P w K mg base N F f A outer s0 H0 E) [] σ H s) (h0 : N[0]? = some ar.arg) (hs0 : σ[0]? = some (some (.ref a))) (ha : H a = some (exo a C none)) (har : (F.params.posonlyargs ++ F.params.args).head? = some ar)
    (hsc1 : F.scope.names.lookup ("super" : Str) = some .globalImplicit) (hsc2 : F.scope.names.lookup ("__class__" : Str) = some .free) (hsc3 : F.scope.names.lookup ar.arg = some .local)
    {pl : Sem Bool} (he : eval (.Call (.Attribute (.Call (.Name "super" p0) [] [] p1) "__init__" p2) [.Constant (.str t) j p3] [] p4) (envF F f s0.heap.objs.size) = (do
      let ov ← attributeBase (.Call (.Name "super" p0) [] [] p1) "__init__" (envF F f s0.heap.objs.size) (eval (.Call (.Name "super" p0) [] [] p1) (envF F f s0.heap.objs.size))
      standAt p2.atName
      let (f', first) ← holding [ov] (getMethod ov "__init__" pl)
      callWith p4 f' first (backTo p4 (starEach [.Constant (.str t) j p3] (envF F f s0.heap.objs.size))) []))
    (hint : interactive (envF F f s0.heap.objs.size) = false) (hsw : swapsWith (.Call (.Attribute (.Call (.Name "super" p0) [] [] p1) "__init__" p2) [.Constant (.str t) j p3] [] p4) none pos.line (envF F f s0.heap.objs.size) = pure false)
    (hk : ∀ s', Inv (ncx CX0 P w K mg base N F f A outer s0 H0 E) [] σ H s' → wpAny (model P w) (A.deeper (envF F f s0.heap.objs.size)) (execs rest (envF F f s0.heap.objs.size)) Q (ncx CX0 P w K mg base N F f A outer s0 H0 E).xe s') :
    wpAt (model P w) (A.deeper (envF F f s0.heap.objs.size)) (.func F.body (envF F f s0.heap.objs.size))
      (execs (.Expr (.Call (.Attribute (.Call (.Name "super" p0) [] [] p1) "__init__" p2) [.Constant (.str t) j p3] [] p4) pos :: rest) (envF F f s0.heap.objs.size)) Q (ncx CX0 P w K mg base N F f A outer s0 H0 E).xe s := by
  obtain ⟨oc, od, osl, hf⟩ := T.look
  obtain ⟨kV, doc, pm, ct, an, efd⟩ := T.fdE
  obtain ⟨cl, cld, csl, hcell⟩ := T.cell
  obtain ⟨ccl, cdd, vs, ccs, file, tf, hcode, hvs, hfile⟩ := T.code
  obtain ⟨nm, q, NN, bs, bm, sn, sub, ab, col, dd, k0, k1, k2, k3, k5, hC, hbm⟩ := T.oex.obj
  have X := I.kIn
  have hclC : PySem.W.clsIn K C = some { name := nm, bases := bs, mro := .ref C :: bm, ns := NN, qualname := q, hasDict := true, slotNames := sn, subclasses := sub, abstract := ab, collection := col, hasDel := false } := by unfold PySem.W.clsIn; rw [hC] <;> rfl
  refine PySem.ks_wpAt_execs_cons (PySem.ks_wpAt_Expr_any (PySem.ks_wpAt_MethodCall (pl := pl) ?_ he) hint hsw)
  refine PySem.ks_wpAt_super_base (f := f) (cc := F.c) (fd := fd) (ar := ar) (vs := vs) (file := file) (tf := tf) hsc1 hsc2 (by decide) rfl (X _ _ hf) rfl (by rw [efd]; exact har) rfl (X _ _ hcode) rfl hvs hfile T.top ?_
  refine loadName_blt (X := ncx CX0 P w K mg base N F f A outer s0 H0 E) I hsc1 hsup (by decide +kernel) ⟨rfl, ?_⟩
  have hcl : (envF F f s0.heap.objs.size).cells.lookup ("__class__" : Str) = some cc := by
    show F.cl.lookup _ = _
    rw [T.cl]
    rfl
  refine wpAny_loadName_free I.ok.kind hsc2 hcl ⟨_, X _ _ hcell, rfl⟩ ?_
  obtain ⟨m, hns, hl⟩ := I.loc
  obtain ⟨u, ru, lu⟩ := hl 0 ar.arg (.ref a) h0 hs0 (.inl hsc3)
  obtain rfl : u = Value.ref a := ru
  have hma : m ar.arg = some (.ref a) := by
    rcases lu with ⟨_, z⟩ | ⟨z, _⟩
    · exact z
    · rcases z with z | z <;> rw [show (ncx CX0 P w K mg base N F f A outer s0 H0 E).env.kindOf ar.arg = some .local from hsc3] at z <;> cases z
  refine wpAny_loadName_local I.ok.kind hsc3 hns hma ?_
  obtain ⟨t1, ho⟩ := exo_at I.hok ha
  have hD := X _ _ hC
  obtain ⟨hp, g, d, tk, os⟩ := s
  refine PySem.ks_wpAny_isType_cls hD rfl ⟨rfl, ?_⟩
  refine PySem.ks_wpAny_call_super hD rfl ho rfl (fun c e => by cases e) (PySem.W.looks_mroIn X T.mro) fun h1 e1 k1 => ?_
  have I1 := I.kept (t' := tk) (h' := h1) k1
  have X1 := I1.kIn
  have ho1 := k1 _ _ ho
  have hno : PySem.W.Looks (model P w) h1 (opaqueClassAbove (.ref C)) none := PySem.W.looks_opaque X1 T.opq
  have J1 : PySem.W.InstAt h1 a ({ cls := .ref C, dict := none, data := .fields #[.ref t1, .none, .none, .none, .bool false, .none] } : Obj) C none := ⟨ho1, rfl, rfl, trivial⟩
  have hm1 : PySem.W.Looks (model P w) h1 (mroOf (.ref C)) (.ref C :: bm) := fun A Q E s k q => wpAny_bind ((PySem.W.looks_clsIn X1 hclC) A _ E s k (wpAny_pure q))
  have hal := T.along
  unfold PySem.W.ks_superIn at hal
  rw [hclC] at hal
  refine PySem.W.kxs_getMethod T.ft.kxs e1 hno hm1 rfl X1 hal (J1.type.andThen (PySem.W.looks_subIn X1 T.sub)) (PySem.W.ks_ne X1 J1 hclC) (by decide) ?_
  have k2 : ∀ b o, h1.get? b = some o → (h1.push (PySem.W.kxs_mw initB a)).get? b = some o := fun b o e => Heap.get?_push_of_some _ e
  have I2 := I1.kept (t' := tk + 1) k2
  have hu2 : (h1.push (PySem.W.kxs_mw initB a)).get? h1.objs.size = some (PySem.W.kxs_mw initB a) := Heap.get?_push_size _ rfl
  have hst : starEach [Expr.Constant (.str t) j p3] (envF F f s0.heap.objs.size) = (false, eval (Expr.Constant (.str t) j p3) (envF F f s0.heap.objs.size)) :: starEach [] (envF F f s0.heap.objs.size) := rfl
  show wpAny _ _ (callWith p4 (.ref h1.objs.size) [] _ []) _ _ _
  rw [hst]
  refine PySem.W.kxs_callWith (i := initB) (x := a) rfl (Calls.evalArgs_plain ?_)
  have PAc : PA (ncx CX0 P w K mg base N F f A outer s0 H0 E) [Expr.Constant (.str t) j p3] (tCons (tC (.str t)) tNil) := pa_cons pe_str pa_nil
  have hun : H h1.objs.size = none := I1.hok.fresh (Nat.le_refl _)
  have I2p : Inv (ncx CX0 P w K mg base N F f A outer s0 H0 E) [(h1.objs.size, PySem.W.kxs_mw initB a)] σ H ⟨h1.push (PySem.W.kxs_mw initB a), g, d, tk + 1, os⟩ := I2.pins_of fun p hp => by
    rw [List.mem_singleton.mp hp]
    refine ⟨hu2, hun, fun z => ?_, fun z => ?_, fun v => by intro z; cases z⟩
    · exact absurd I1.lt (by rw [← show h1.objs.size = _ from z]; exact Nat.lt_irrefl _)
    · exact I1.nofs (Nat.le_refl _) z
  refine wpAny_mono (PAc.run p4 [(h1.objs.size, PySem.W.kxs_mw initB a)] _ σ H (fun vs H1 => vs = [.str t] ∧ H1 = H) I2p ⟨rfl, rfl⟩) (fun us s3 ⟨vs3, H3, I3, r3, ev3, eH3⟩ => ?_) ?_
  · subst ev3 eH3
    have hu3 := (I3.pin (h1.objs.size, PySem.W.kxs_mw initB a) (List.mem_append_right _ List.mem_cons_self)).1
    obtain ⟨t3, ho3⟩ := exo_at I3.hok ha
    have hC3 := I3.kIn _ _ hC
    have I4 : Inv (ncx CX0 P w K mg base N F f A outer s0 H0 E) [] σ H3 s3 := I3.pins_of fun p hp => by cases hp
    have hlen : us.length ≤ sizeLine := by
      rw [← Paired.length r3]
      show 1 ≤ sizeLine
      rw [sizeLine_eq]
      omega
    obtain ⟨hp3, g3, d3, tk3, os3⟩ := s3
    refine ⟨hu3, ?_⟩
    show wpAny _ _ (call (.ref h1.objs.size) us) _ _ _
    refine wpAny_call (codeAny_of_tree ?_)
    show wpAny _ (A.deeper (envF F f s0.heap.objs.size)).in1 (callAny (.ref h1.objs.size) ⟨us, []⟩) _ _ _
    simp only [callAny]
    refine wpAny_bind (wpAny_load hu3 ?_)
    simp only [PySem.W.kxs_mw, show (Value.type "method-wrapper" == Value.type "method" || Value.type "method-wrapper" == Value.type "builtin_function_or_method" || Value.type "method-wrapper" == Value.type "method-wrapper") = true by decide, if_true]
    refine PySem.W.KFB.if_so (by decide) ?_
    refine wpAny_bind (PySem.W.check_bound_init T.ft.base.toExcCallFacts hC3 ho3 rfl ?_)
    refine wpAny_bind (wpAny_pure (wpAny_pure ?_))
    refine ⟨plainId_quiet T.ft.base.init.plain _, codeAny_builtin T.ft.base.initEntry ?_⟩
    refine PySem.W.exc_init_tree (cls := .ref C) (t0 := t3) (dv := none) (c2 := .none) (c3 := .none) (b4 := .bool false) ho3 hlen fun h' k e' t' => ?_
    have J := I4.write (t' := tk3) (x := a) (e := a) (o := exo a C none) (by rw [ha]; exact True.intro) (.inl rfl) k ⟨_, e'⟩ (exo_ok e')
    have eu : upd H3 a (exo a C none) = H3 := by
      funext b
      by_cases hb : b = a
      · rw [hb, upd_same, ha]
      · rw [upd_ne hb]
    rw [eu] at J
    exact wpAt_of_wpAny (hk _ J)
  · exact fun _ _ x => x
/-- the start of such a def -/
theorem exc_enterG {sp : Sp} {ar : Arg} (T : SupG K P C f F fd cc nameB newB initB tl) (S : NScope N ps ["__class__"] F.scope) (hps : ps[0]? = some ar.arg) (har : (F.params.posonlyargs ++ F.params.args).head? = some ar) (hnil : ∀ y ∈ F.scope.names, y.2 ≠ .cell)
    (len : ∀ vs H Q E, sp vs H Q E → vs.length = ps.length)
    (body : ∀ (A : Around) (outer : List PySem.Env) (s0 : Shared) (H : Hp) (vs : List V) (Q : VK) (E : XK), sp vs H Q E → ∀ s, Inv (ncx CX0 P w K mg base N F f A outer s0 H E) [] (startF N vs [none]) H s →
      wpAt (model P w) (A.deeper (envF F f s0.heap.objs.size)) (.func F.body (envF F f s0.heap.objs.size)) (execs F.body (envF F f s0.heap.objs.size)) (SP (ncx CX0 P w K mg base N F f A outer s0 H E) [] { nx := fun _ H' => Q .non H', rt := Q }) (ncx CX0 P w K mg base N F f A outer s0 H E).xe s) :
    FnOk P w K mg base CX0 1 f fd ps sp := by
  refine ⟨len, fun A outer s H args us vs Q E hr e0 hb r hsp => ?_⟩
  have hl := len _ _ _ _ hsp
  obtain ⟨oc, od, osl, hf⟩ := T.look
  obtain ⟨kV, doc, pm, ct, an, efd⟩ := T.fdE
  obtain ⟨cl, cld, csl, hcell⟩ := T.cell
  have hk0 : ∀ b o, base.get? b = some o → s.heap.get? b = some o := fun b o e => (e0.bs b o e).1
  have KX := e0.mod.kin.keeps hk0
  have hce : callEnv fd s.heap.objs.size f = envF F f s.heap.objs.size := by
    rw [efd]
    show PySem.W.envX _ _ _ _ _ [(("__class__" : Str), cc)] = PySem.W.envX _ _ _ _ _ F.cl
    rw [T.cl]
  refine PySem.ks_codeAny_call_defAt (fd := fd) (body := F.body) (binds := ps.zip us) hr.depth (KX _ _ hf) rfl (e0.mod.nolimit.keeps hk0) (by rw [efd]; exact PySem.W.codeRec_of KX T.cd) (by rw [efd]) hb (by rw [efd]; exact S.nocell)
    (fun ⟨n, _⟩ hy => by rw [efd]; exact S.par n (List.of_mem_zip hy).1) (fun h₁ hns kp => ?_) (by rw [efd]; exact S.co) (by rw [efd]; exact S.gen) (by rw [efd]; exact S.kind)
  rw [hce]
  have hcc : base.get? cc = some ⟨cl, cld, .cell (some (.ref C)), csl⟩ := e0.mod.kin _ _ hcell
  have CA : CellsAt F.cl ["__class__"] [none] s.heap H := by
    rw [T.cl]
    refine ⟨rfl, fun y c e => ?_, fun x y c e1 e2 => ?_, fun i y e => ?_⟩
    · have e' : c = cc := by
        rw [List.lookup_cons] at e
        split at e
        · cases e
          rfl
        · cases e
      subst e'
      exact ⟨(e0.bs _ _ hcc).2, _, _, (e0.bs _ _ hcc).1, rfl⟩
    · rw [List.lookup_cons] at e1 e2
      split at e1
      · split at e2
        · rename_i _ a _ b
          exact (beq_iff_eq.mp a).trans (beq_iff_eq.mp b).symm
        · cases e2
      · cases e1
    · cases i with
      | zero =>
        cases e
        exact ⟨cc, rfl, fun v hv => by cases hv⟩
      | succ i => cases e
  have I : Inv (ncx CX0 P w K mg base N F f A outer s H E) [] (startF N vs [none]) H { s with heap := h₁, toks := s.toks + (ps.zip us).length } := inv_startN S hr.hd e0 hl r CA hns kp
  refine PySem.ks_wpAt_mono (body A outer s H vs Q E hsp _ I) (fun fl s' hs => ?_) fun e s' hs => hs
  have fin : ∀ {σ' : L2.St} {H' : Hp} {v : V} {u : Value}, Inv (ncx CX0 P w K mg base N F f A outer s H E) [] σ' H' s' → L2.RelV v u → Q v H' → CE outer P w H s Q u s' :=
    fun {σ' H' v u} J rv q => ⟨v, H', J.os, J.bare, J.base, J.hok, rv, q⟩
  cases fl with
  | ret u =>
    obtain ⟨v, σ', H', J, rv, q⟩ := hs
    exact fin J rv q
  | next =>
    obtain ⟨σ', H', J, q⟩ := hs
    exact fin (v := V.non) (u := Value.none) J rfl q
  | brk =>
    obtain ⟨_, _, _, q⟩ := hs
    exact False.elim q
  | cont =>
    obtain ⟨_, _, _, q⟩ := hs
    exact False.elim q
end
section
variable {P : Program} {w : World} {K : PySem.W.Frag} {mg : Str → Option Value} {base : Heap} {C f cc : Addr} {F : NF} {fd : FuncData} {N ps : List Str} {nameB newB initB : String} {tl : List Value}
theorem exc_fn1G {f1 code t xn : Str} {e : Expr} {i1 : Nat} {q0 q1 q2 q3 q4 q5 q6 q7 q8 : Pos} {ar : Arg} (T : SupG K P C f F fd cc nameB newB initB tl) (S : NScope N [ar.arg, xn] ["__class__"] F.scope) (hsup : mg "super" = none) (har : (F.params.posonlyargs ++ F.params.args).head? = some ar)
    (hb : F.body = [.Expr e q0, .Assign [.Attribute (.Name ar.arg q1) f1 q2] (.Name xn q3) q4, .Assign [.Attribute (.Name ar.arg q5) "code" q6] (.Constant (.str code) i1 q7) q8]) (he : SupOk F f e t q0)
    (hs1 : F.scope.names.lookup ("super" : Str) = some .globalImplicit) (hs2 : F.scope.names.lookup ("__class__" : Str) = some .free)
    (d1 : (ar.arg == ("__debug__" : Str)) = false) (d2 : (ar.arg == ("__classdict__" : Str)) = false) (d3 : (xn == ("__debug__" : Str)) = false) (d4 : (xn == ("__classdict__" : Str)) = false)
    (n1 : PySem.W.findIn K (.ref C) f1 = some none) (n2 : PySem.W.findIn K (.ref C) "code" = some none)
    (w1 : ∀ L, swapsWith (.Name xn q3) (some (.Attribute (.Name ar.arg q1) f1 q2)) q4.line (envF F f L) = pure false) (w2 : ∀ L, swapsWith (.Constant (.str code) i1 q7) (some (.Attribute (.Name ar.arg q5) "code" q6)) q8.line (envF F f L) = pure false) :
    FnOk P w K mg base CX0 1 f fd [ar.arg, xn] (spE1 C f1 code) := by
  have hpre : N.take 3 = [ar.arg, xn, "__class__"] := S.pre
  have hN0 : N[0]? = some ar.arg := by
    have := congrArg (fun l : List Str => l[0]?) hpre
    simpa [List.getElem?_take] using this
  have hN1 : N[1]? = some xn := by
    have := congrArg (fun l : List Str => l[1]?) hpre
    simpa [List.getElem?_take] using this
  have v1 : F.scope.names.lookup ar.arg = some .local := S.par _ (by simp)
  have v2 : F.scope.names.lookup xn = some .local := S.par _ (by simp)
  refine exc_enterG T S rfl har S.nocell (fun vs H Q E ⟨a, x, e, _⟩ => by rw [e]; rfl) fun A outer s0 H vs Q E ⟨a, x, ev, ha, hq⟩ s I => ?_
  obtain ⟨j, p0, p1, p2, p3, p4, ee, hh⟩ := he.ok
  obtain ⟨⟨pl, h1⟩, h2, h3⟩ := hh s0.heap.objs.size
  subst ee ev
  have hbody : wpAt (model P w) (A.deeper (envF F f s0.heap.objs.size)) (.func F.body (envF F f s0.heap.objs.size))
      (execs (.Expr (.Call (.Attribute (.Call (.Name "super" p0) [] [] p1) "__init__" p2) [.Constant (.str t) j p3] [] p4) q0 :: [.Assign [.Attribute (.Name ar.arg q1) f1 q2] (.Name xn q3) q4, .Assign [.Attribute (.Name ar.arg q5) "code" q6] (.Constant (.str code) i1 q7) q8]) (envF F f s0.heap.objs.size))
      (SP (ncx CX0 P w K mg base N F f A outer s0 H E) [] { nx := fun _ H' => Q .non H', rt := Q }) (ncx CX0 P w K mg base N F f A outer s0 H E).xe s := by
    refine super_initG T hsup I hN0 rfl ha har hs1 hs2 v1 h1 h2 h3 fun s' J => ?_
    have hps : PSs (ncx CX0 P w K mg base N F f A outer s0 H E) [.Assign [.Attribute (.Name ar.arg q1) f1 q2] (.Name xn q3) q4, .Assign [.Attribute (.Name ar.arg q5) "code" q6] (.Constant (.str code) i1 q7) q8] _ :=
      pss_cons (ps_fld T.ft (pe_var (i := 0) hN0 (.inl v1) d1 d2) (pe_var (i := 1) hN1 (.inl v2) d3 d4) (w1 _)) (pss_one (ps_fld T.ft (pe_var (i := 0) hN0 (.inl v1) d1 d2) pe_str (w2 _)))
    refine hps.run [] s' _ H _ J ?_
    refine ⟨x, rfl, .ref a, rfl, a, C, rfl, T.oex, n1, .inl ⟨ha, fun dx hdx hne => ?_⟩⟩
    refine ⟨.ref a, rfl, a, C, rfl, T.oex, n2, .inr ⟨dx, [(f1, x)], upd_same, ?_, by simp, hq dx hdx hne⟩⟩
    rw [upd_ne hne, upd_same]
  rw [← hb] at hbody
  exact hbody
end
end Mi
namespace Mi
open PySem L2 Evl NdefX
open PyProof.Rows (envOfC)
def refsB (tl : List Value) : List Value → Bool
  | .ref c :: r => refsB tl r
  | l => l == tl
theorem refs_by {tl : List Value} : ∀ {l : List Value}, refsB tl l = true → Refs tl l := by
  intro l
  induction l with
  | nil =>
    intro h
    exact ⟨[], (beq_iff_eq.mp h).trans rfl⟩
  | cons a r ih =>
    intro h
    cases a with
    | ref c => exact (ih h).cons c
    | _ => exact ⟨[], (beq_iff_eq.mp h).trans rfl⟩
section
variable {X : Cx} {B : Bs} {env : Env} {os : Os} {tb : ETab} {pos p pos2 : Pos} {α β : Type} {r : Rp α} {e : Expr} {rest : List Stmt} {post : Post β} {x : Str} {f C : Addr} {fd : FuncData} {nameB newB initB : String} {tl : List Value}
theorem b_raise1G {w : W α} {g : α → PyData} {n : Nat} {f1 : Str} {code : String} {xn : Str} {sn : Str} (ft : Foot nameB newB initB tl) (tk : Takes X (wB X.K tb B)) (hc : X.calm = true) (hmem : (code, C, some f1) ∈ tb) (hnc : f1 ≠ "code") (T : OexG X.K C newB tl) (iC : PySem.W.findIn X.K (.ref C) "__init__" = some (some (.ref f))) (tI : PySem.W.typeIn X.K (.ref f) = some (.type "function"))
    (G : FnOk X.prog X.w X.K X.mg X.base CX0 1 f fd [sn, xn] (spE1 C f1 (Str.ofString code))) (hr : Room 2 X.A) (hb : Binds X.K fd [sn, xn] []) (hm : X.mg x = some (.ref C)) (d : DD X.K r g n) (hn : n ≤ 30) (he : EE X B env os e r w)
    (hg : Gl X x := by rfl) (hdb : (x == ("__debug__" : Str)) = false := by decide) (hse : starEach [e] X.env = (false, eval e X.env) :: starEach [] X.env := by rfl) (hpl : (backTo pos (starEach [] X.env)).any (·.1) = false := by rfl) :
    BG X B env os (.Raise (some (.Call (.Name x p) [e] [] pos)) none pos2 :: rest) post (bnd w fun v => thr ⟨code, [g v]⟩) :=
  PSs.imp (pss_cons (ps_raise hc tk (pmk_G ft T iC tI G hr hb .nil pass0 hg hm (pa_cons he pa_nil hse) hdb hse hpl)) pss_never) fun D σ H ⟨F, P, S, hw, k⟩ => ⟨F, _, S, hw, fun y hy v F1 H1 S1 e1 ok => ⟨by show 1 ≤ 1000; omega, fun a ha => by
    have hd := d.ok ok
    refine ⟨a, v, rfl, upd_same, fun dx hdx hne => ⟨rfl, dx, [("code", .str (Str.ofString code)), (f1, v)], ?_, upd_same, ?_, ?_⟩⟩
    · rw [upd_ne (Ne.symm hne), upd_same]
    · rwa [upd_ne hne] at hdx
    have hdx1 : H1 dx = none := by rwa [upd_ne hne] at hdx
    have eH : upd (del (upd (upd (upd (upd H1 a (exo a C none)) dx (exd dx [(f1, v)])) a (exo a C (some dx))) dx (exd dx [("code", .str (Str.ofString code)), (f1, v)])) a) dx (.xd [("code", .str (Str.ofString code)), (f1, v)]) = upd H1 dx (.xd [("code", .str (Str.ofString code)), (f1, v)]) := by
      funext b
      by_cases h1 : b = dx
      · rw [h1, upd_same, upd_same]
      · rw [upd_ne h1, upd_ne h1]
        by_cases h2 : b = a
        · rw [h2, del_same, ha]
        · rw [del_ne h2, upd_ne h1, upd_ne h2, upd_ne h1, upd_ne h2]
    rw [eH]
    have gr : Grow F1 H1 (upd F1 dx (.xd [("code", .str (Str.ofString code)), (f1, v)])) (upd H1 dx (.xd [("code", .str (Str.ofString code)), (f1, v)])) := Grow.alloc S1.fh hdx1
    have S2 := S1.grow gr
    refine ⟨⟨code, [g y]⟩, _, hy, S2.fin.low, C, some f1, dx, _, hmem, rfl, rfl, upd_same, rfl, v, g y, rfl, ?_, (rD X.K).mono gr.f ⟨hd.1, hd.2.1, Nat.le_trans hd.2.2 hn⟩⟩
    rw [lookup_put, if_neg hnc, lookup_put, if_pos rfl]⟩⟩
end
end Mi
namespace Mi
open PySem L2 Evl
end Mi
namespace Mi
open PySem L2 Evl
end Mi
namespace Mi
open PySem L2 Evl
def so {α : Type} (r : Rp α) : Option α → Slot
  | none => sa
  | some x => sv r x
section
variable {X : Cx} {B : Bs} {env : Env} {os : Os} {pos p : Pos} {ρ : Type} {ro : Rp ρ} {k : Nat} {f : Addr} {fd : FuncData} {ps : List Str} {x : Str}
theorem e_callG0 {wf0 : Unit → W ρ} {osf : Unit → Os} (G : FnG X.prog X.w X.K X.mg X.base CX0 k f fd ps (spW (fun _ : Unit => []) osf wf0 ro)) (hgu : X.A.guards = some []) (hr : Room k X.A) (hm : X.mg x = some (.ref f)) (hk : PySem.W.keepIn X.K (.ref f) = true) (hb : Binds X.K fd ps [])
    (ho : ∀ i, OsLe os (osf i)) (hnd : ∀ i, ((osf i).map (·.1)).Nodup) (hg : Gl X x := by rfl) (hdb : (x == ("__debug__" : Str)) = false := by decide) : EE X B env os (.Call (.Name x p) [] [] pos) ro (noX (wf0 ())) := by
  refine ⟨fun pins s σ H Q I ⟨F, P, S, hw, k⟩ => ?_⟩
  refine wpAny_Call_Name_kw (ld_glob I hg hm ?_ hdb)
  refine PySem.W.callWith_K0 I.kIn hk (run_fnG (us := []) G hgu hr hb I .nil ?_)
  exact ⟨(), F, P, S.fh, .nil, fun p hp => by
    obtain ⟨h1, h2, _⟩ := S.ow p (ho () p hp)
    exact ⟨h1, h2⟩, hnd (), hw, fun y hy v F2 H2 fn ow okv => k y hy v F2 H2 (S.back (ho ()) fn ow) fn.bf okv⟩
end
end Mi
namespace PySem.W
open PySem PySem.Spec PySem.Calls PyProof.Rows
end PySem.W
namespace Mi
open PySem L2 Evl
end Mi
namespace PySem.HandSPX
open PySem PySem.Spec PySem.Calls PyProof.Rows
end PySem.HandSPX
namespace Mi
open PySem L2 Evl
end Mi
set_option exponentiation.threshold 2000
namespace Mi
open PySem L2 Evl
def Thr {α : Type} (w : W α) (e : Er) : Prop := ∀ (P : α → Prop) (E : Er → Prop), E e → w P E
theorem Thr.bnd {α β : Type} {m : W α} {f : α → W β} {e : Er} (h : Thr m e) : Thr (Mi.bnd m f) e := fun P E he => h _ E he
theorem Thr.afterP {α β : Type} {m : W α} {f : α → W β} {e : Er} {J : α → Prop} (h : Ok m J) (k : ∀ x, J x → Thr (f x) e) : Thr (Mi.bnd m f) e := fun P E he => h _ E fun y hy => k y hy P E he
theorem Thr.after {α β : Type} {m : W α} {f : α → W β} {e : Er} {x : α} (h : Ok m (· = x)) (k : Thr (f x) e) : Thr (Mi.bnd m f) e := Thr.afterP h fun y hy => by rw [hy]; exact k
theorem Thr.thr {α : Type} {e : Er} : Thr (Mi.thr e : W α) e := fun P E he => he
theorem Thr.retB {α β : Type} {f : α → W β} {e : Er} {x : α} (k : Thr (f x) e) : Thr (Mi.bnd (Mi.ret x) f) e := k
theorem join_okS (sep : Str) (hs : PyData.strOk sep = true) : ∀ (ys : List Str), (∀ y ∈ ys, PyData.strOk y = true) → PyData.strOk (Txt.join sep ys) = true := by
  have key : ∀ (ys : List Str) (acc : Array Nat), acc.all (· < 0x110000) = true → (∀ y ∈ ys, PyData.strOk y = true) → (ys.foldl (fun acc p => acc ++ sep.cps ++ p.cps) acc).all (· < 0x110000) = true := by
    intro ys
    induction ys with
    | nil => intro acc h _; exact h
    | cons y ys ih =>
      intro acc h hy
      refine ih _ ?_ fun z hz => hy z (List.mem_cons_of_mem _ hz)
      have h1 : y.cps.all (· < 0x110000) = true := hy y List.mem_cons_self
      have h2 : sep.cps.all (· < 0x110000) = true := hs
      rw [Array.all_append, Array.all_append, h, h1, h2]
      rfl
  intro ys h
  cases ys with
  | nil => exact key [] _ (by show Array.all #[] _ = true; simp) (fun _ z => by cases z)
  | cons y ys => exact key ys _ (h y List.mem_cons_self) fun z hz => h z (List.mem_cons_of_mem _ hz)
theorem shownAll_eq (ds : List PyData) : PyData.shownAll ds = ds.map PyData.shown := by
  induction ds with
  | nil => rfl
  | cons d ds ih => rw [PyData.shownAll, ih, List.map_cons]
theorem showableAll_of (ds : List PyData) (h : ∀ d ∈ ds, d.showable = true) : PyData.showableAll ds = true := by
  induction ds with
  | nil => rfl
  | cons d ds ih =>
    rw [PyData.showableAll, h d List.mem_cons_self, ih fun u hu => h u (List.mem_cons_of_mem _ hu)]
    rfl
theorem Shw.tup {ds : List PyData} {m n : Nat} (h : ∀ d ∈ ds, Shw d m) (hn : ds.length ≤ n) (h0 : ds ≠ []) : Shw (.tuple ds) (n * (m + 2) + 4) := by
  have l1 : (("(" : Str)).length = 1 := rfl
  refine ⟨by rw [PyData.showable]; exact showableAll_of ds fun d hd => (h d hd).s, ?_, ?_⟩
  · rw [PyData.shown, shownAll_eq]
    unfold tupleText
    rw [strLen_append, strLen_append]
    have j := join_length_add (ds.map PyData.shown) (by simpa using h0)
    have p := piled_le (ts := ds.map PyData.shown) (m := m) fun t ht => by
      obtain ⟨d, hd, rfl⟩ := List.mem_map.mp ht
      exact (h d hd).l
    rw [List.length_map] at p
    have q := Nat.mul_le_mul_right (m + 2) hn
    have lz : (Str.ofString (if (ds.map PyData.shown).length == 1 then ",)" else ")")).length ≤ 2 := by split <;> decide
    omega
  · rw [PyData.shown, shownAll_eq]
    unfold tupleText
    refine strOk_app (strOk_app (strOk_str _) ?_) (strOk_str _)
    rw [← StrLaws.glued_eq_join]
    exact join_okS _ (strOk_str _) _ fun t ht => by
      obtain ⟨d, hd, rfl⟩ := List.mem_map.mp ht
      exact (h d hd).o
theorem Shw.bool (b : Bool) : Shw (.bool b) 10 := by
  cases b <;> exact ⟨by decide +kernel, by decide +kernel, by decide +kernel⟩
theorem Shw.none : Shw .none 10 := ⟨by decide +kernel, by decide +kernel, by decide +kernel⟩
theorem Shw.pair {a b : PyData} {m : Nat} (h1 : Shw a m) (h2 : Shw b m) : Shw (.tuple [a, b]) (2 * (m + 2) + 4) := Shw.tup (fun d hd => by
  simp only [List.mem_cons, List.not_mem_nil, or_false] at hd
  rcases hd with rfl | rfl
  · exact h1
  · exact h2) (by simp) (by simp)
section
variable {κ α : Type} [DecidableEq κ]
theorem len_nodup : ∀ {xs ys : List κ}, xs.Nodup → (∀ x ∈ xs, x ∈ ys) → xs.length ≤ ys.length
  | [], _, _, _ => Nat.zero_le _
  | x :: xs, ys, nd, h => by
    obtain ⟨n1, n2⟩ := List.nodup_cons.mp nd
    have hx := h x List.mem_cons_self
    have ih := len_nodup (xs := xs) (ys := ys.erase x) n2 fun y hy => (List.mem_erase_of_ne (show y ≠ x from fun e => n1 (by rw [← e]; exact hy))).mpr (h y (List.mem_cons_of_mem _ hy))
    have := List.length_erase_of_mem hx
    have := List.length_pos_of_mem hx
    rw [List.length_cons]
    omega
theorem Ok.sortS {xs : List Str} {I : List Str → Prop} (h : xs.length < 64) (k : ∀ ys, ys.Perm xs → PyProof.Rows.sortedS ys = true → I ys) : Ok (Mi.sortS xs) I := fun P E hp => ⟨h, fun ys h1 h2 => hp ys (k ys h1 h2)⟩
end
def whole (d : PyData) : Bool := tyInt (tyD d) && !(tyD d == "bool")
def wholeW (a_value : PyData) : W Bool :=
  bnd (bnd (ret (tyInt (tyD a_value))) fun c1 => if c1 = true then (ret (!(tyD a_value == "bool"))) else ret false) fun z => ret z
theorem whole_ok (d : PyData) : Ok (wholeW d) (· = whole d) := by
  unfold wholeW whole
  refine Ok.bndE ?_ Ok.eq
  rw [bnd_ret]
  cases tyInt (tyD d) with
  | true => rw [if_pos rfl]; exact Ok.eq
  | false => rw [if_neg (by decide)]; exact Ok.eq
def fieldW (ftb : FTab) (a_law_e : Er) : W PyData :=
  bnd (ret (decide (Str.ofString a_law_e.cls ∈ ([("InvalidForm" : Str), ("InvalidRows" : Str), ("InvalidPoly" : Str), ("InvalidTable" : Str), ("InvalidSingles" : Str), ("InvalidDeed" : Str)])))) fun b1 => if b1 = true then (bnd (excF ftb a_law_e "at") fun z => ret z) else (bnd (ret (decide (Str.ofString a_law_e.cls ∈ ([("DuplicateName" : Str), ("UnknownName" : Str), ("TooMany" : Str), ("TooDeep" : Str)])))) fun b3 => if b3 = true then (bnd (bnd (ret (decide (Str.ofString a_law_e.cls ∈ ([("DuplicateName" : Str), ("UnknownName" : Str)])))) fun c => if c = true then excF ftb a_law_e "name" else excF ftb a_law_e "most") fun z => ret z) else (bnd (ret (decide (Str.ofString a_law_e.cls ∈ ([("InvalidText" : Str), ("OtherParameters" : Str), ("NothingLeft" : Str)])))) fun b7 => if b7 = true then (bnd (ret ((fun _ => .none) (()))) fun z => ret z) else (bnd (ret (decide (Str.ofString a_law_e.cls ∈ ([("InvalidPage" : Str), ("InUse" : Str)])))) fun b8 => if b8 = true then (bnd (bnd (ret (decide (Str.ofString a_law_e.cls = ("InvalidPage" : Str)))) fun c => if c = true then excF ftb a_law_e "line" else excF ftb a_law_e "user") fun z => ret z) else (bnd (ret (decide (Str.ofString a_law_e.cls ∈ ([("Full" : Str), ("NotEnough" : Str)])))) fun b12 => if b12 = true then (bnd (bnd (ret (decide (Str.ofString a_law_e.cls = ("Full" : Str)))) fun c => if c = true then excF ftb a_law_e "limit" else excF ftb a_law_e "number") fun z => ret z) else (bnd (excF ftb a_law_e "given") fun z => ret z)))))
def gotW (ftb : FTab) (ask : W PyData) : W (Str × PyData) := tryW (bnd ask fun x => ret (("" : Str), x)) fun e => bnd (noX (fieldW ftb e)) fun x => ret (Str.ofString e.cls, x)
theorem got_thr {ftb : FTab} {w : W PyData} {e : Er} {x : PyData} (h : Thr w e) (hf : Ok (fieldW ftb e) (· = x)) : Ok (noX (gotW ftb w)) (· = (Str.ofString e.cls, x)) := by
  refine Ok.noX fun P E hp => ?_
  show Mi.bnd w (fun x => ret (("" : Str), x)) P fun e => (bnd (noX (fieldW ftb e)) fun x => ret (Str.ofString e.cls, x)) P E
  refine (Thr.bnd h) P _ ?_
  exact (Ok.bndE (Ok.noX hf) Ok.eq : Ok (bnd (noX (fieldW ftb e)) fun x => ret (Str.ofString e.cls, x)) (· = (Str.ofString e.cls, x))) P E hp
abbrev smallS : Str := "abcdefghijklmnopqrstuvwxyz"
def nameS (s : Str) : Bool := decide (1 ≤ s.length) && decide (s.length ≤ 6) && !decide (s ∈ (["n", "sum"] : List Str)) && s.cps.toList.all fun c => decide (c ∈ smallS.cps.toList)
def nameB : PyData → Bool
  | .str s => nameS s
  | _ => false
def nameW (a_value : PyData) : W Bool :=
  bnd (bnd (ret (!(tyD a_value == "str"))) fun c6 => if c6 = true then ret true else (bnd (bnd (bnd (lenD a_value) fun t1 => if (fun x y => decide (x ≤ y)) ((1 : Int)) t1 = true then (ret ((fun x y => decide (x ≤ y)) t1 ((6 : Int)))) else ret false) fun c3 => ret (!c3)) fun c5 => if c5 = true then ret true else (bnd (asStr a_value) fun t4 => ret (decide (t4 ∈ ((["n", "sum"] : List Str))))))) fun b8 => if b8 = true then (bnd (ret (false)) fun z => ret z) else (bnd (bnd (asStr a_value) fun t9 => bnd (mapW (fun (x10 : Str) => ret (hasS x10 (("abcdefghijklmnopqrstuvwxyz" : Str)))) (lettersW t9)) fun ys11 => ret (ys11.all id)) fun z => ret z)
theorem hasS_letter (c : Nat) (z : Str) : hasS ⟨#[c]⟩ z = decide (c ∈ z.cps.toList) := StrLaws.found_one z c
theorem name_ok {d : PyData} (h : ∀ s, d = .str s → s.length ≤ sizeLine) : Ok (nameW d) (· = nameB d) := by
  cases d with
  | str s =>
    have hs := h s rfl
    unfold nameW
    have e0 : (!(tyD (.str s) == "str")) = false := rfl
    rw [e0]
    have b : (Ok (bnd (ret false) fun c6 => if c6 = true then ret true else (bnd (bnd (bnd (lenD (.str s)) fun t1 => if (fun x y => decide (x ≤ y)) ((1 : Int)) t1 = true then (ret ((fun x y => decide (x ≤ y)) t1 ((6 : Int)))) else ret false) fun c3 => ret (!c3)) fun c5 => if c5 = true then ret true else (bnd (asStr (.str s)) fun t4 => ret (decide (t4 ∈ ((["n", "sum"] : List Str))))))) (· = !(decide (1 ≤ s.length) && decide (s.length ≤ 6) && !decide (s ∈ (["n", "sum"] : List Str))))) := by
      rw [bnd_ret, if_neg (by decide)]
      refine Ok.bndE (x := !(decide (1 ≤ s.length) && decide (s.length ≤ 6))) ?_ ?_
      · refine Ok.bndE (x := decide (1 ≤ s.length) && decide (s.length ≤ 6)) ?_ Ok.eq
        refine Ok.bndE (x := (s.length : Int)) (Ok.chk hs Ok.eq) ?_
        by_cases h1 : 1 ≤ s.length
        · have : (1 : Int) ≤ (s.length : Int) := by omega
          simp only [this, decide_true, if_true, h1, Bool.true_and]
          refine Ok.ret ?_
          rw [Bool.eq_iff_iff, decide_eq_true_eq, decide_eq_true_eq]
          omega
        · have : ¬ (1 : Int) ≤ (s.length : Int) := by omega
          simp only [this, decide_false, h1, Bool.false_and, Bool.false_eq_true, if_false]
          exact Ok.eq
      · by_cases hb : (decide (1 ≤ s.length) && decide (s.length ≤ 6)) = true
        · rw [hb]
          rw [if_neg (by decide)]
          refine Ok.bndE (x := s) (Ok.chk hs Ok.eq) (Ok.ret ?_)
          simp
        · rw [Bool.not_eq_true] at hb
          rw [hb]
          rw [if_pos (by decide)]
          exact Ok.ret (by simp)
    refine Ok.bndE b ?_
    show Ok _ (· = nameS s)
    unfold nameS
    by_cases hb : (decide (1 ≤ s.length) && decide (s.length ≤ 6) && !decide (s ∈ (["n", "sum"] : List Str))) = true
    · rw [hb]
      rw [if_neg (by decide)]
      refine Ok.bndE ?_ Ok.eq
      refine Ok.bndE (x := s) (Ok.chk hs Ok.eq) ?_
      refine Ok.bndE (Ok.map (g := fun y : Str => hasS y smallS) fun y _ => Ok.eq) (Ok.ret ?_)
      rw [Bool.true_and]
      unfold lettersW
      rw [List.map_map, List.all_map]
      refine List.all_congr rfl ?_
      intro c
      show id (hasS ⟨#[c]⟩ smallS) = _
      rw [hasS_letter]
      rfl
    · rw [Bool.not_eq_true] at hb
      rw [hb]
      rw [if_pos (by decide)]
      exact Ok.ret (by simp)
  | _ =>
    unfold nameW
    dsimp only [tyD]
    rw [bnd_ret, if_pos (by decide), bnd_ret, if_pos rfl]
    exact Ok.eq
abbrev lettersS : Str := "abcdefghijklmopqrstuvwxyz"
structure GName (s : Str) : Prop where
  l : s.length = 1 ∨ s.length = 2 ∨ s.length = 4 ∨ s.length = 6
  c : ∀ c ∈ s.cps.toList, c ∈ lettersS.cps.toList
theorem GName.name {s : Str} (h : GName s) : nameS s = true := by
  have hl := h.l
  unfold nameS
  have h1 : decide (1 ≤ s.length) = true := decide_eq_true (by omega)
  have h2 : decide (s.length ≤ 6) = true := decide_eq_true (by omega)
  have h3 : decide (s ∈ (["n", "sum"] : List Str)) = false := decide_eq_false fun hm => by
    simp only [List.mem_cons, List.not_mem_nil, or_false] at hm
    rcases hm with rfl | rfl
    · exact absurd (h.c 110 (by decide +kernel)) (by decide +kernel)
    · exact absurd hl (by decide +kernel)
  rw [h1, h2, h3]
  simp only [Bool.not_false, Bool.and_true, Bool.true_and, List.all_eq_true, decide_eq_true_eq]
  intro c hc
  have : ∀ c ∈ lettersS.cps.toList, c ∈ smallS.cps.toList := by decide +kernel
  exact this c (h.c c hc)
theorem GName.ok {s : Str} (h : GName s) : PyData.strOk s = true := by
  unfold PyData.strOk
  rw [← Array.all_toList, List.all_eq_true]
  intro c hc
  have : ∀ c ∈ lettersS.cps.toList, c < 0x110000 := by decide +kernel
  exact decide_eq_true (this c (h.c c hc))
theorem GName.len {s : Str} (h : GName s) : s.length ≤ 6 := by
  have := h.l
  omega
theorem GName.line {s : Str} (h : GName s) : s.length ≤ sizeLine := Nat.le_trans h.len (by decide)
end Mi
namespace Mi
open PySem L2 Evl PyProof.Rows
def leS (a b : Str) : Prop := a.cps.toList ≤ b.cps.toList
def leB (a b : Str) : Bool := decide (a.cps.toList ≤ b.cps.toList)
theorem leS_trans {a b c : Str} (h : leS a b) (k : leS b c) : leS a c := List.le_trans h k
theorem leS_anti {a b : Str} (h : leS a b) (k : leS b a) : a = b := by
  have e := List.le_antisymm h k
  obtain ⟨⟨a⟩⟩ := a
  obtain ⟨⟨b⟩⟩ := b
  simp only at e
  rw [e]
theorem leS_of {a b : Str} (h : (!Spec.ltCps b.cps.toList a.cps.toList) = true) : leS a b := by
  rw [ltCps_eq, Bool.not_eq_true', decide_eq_false_iff_not] at h
  exact List.not_lt.mp h
theorem rising_pw : ∀ {l : List Str} {p : Str}, risingS p l = true → (p :: l).Pairwise leS
  | [], _, _ => by simp
  | x :: r, p, h => by
    unfold risingS at h
    obtain ⟨h1, h2⟩ := Bool.and_eq_true_iff.mp h
    have ih := rising_pw h2
    have h1 := leS_of h1
    refine List.pairwise_cons.mpr ⟨fun y hy => ?_, ih⟩
    rcases List.mem_cons.mp hy with rfl | hy
    · exact h1
    · exact leS_trans h1 ((List.pairwise_cons.mp ih).1 y hy)
theorem sorted_pw {l : List Str} (h : sortedS l = true) : l.Pairwise leS := by
  cases l with
  | nil => exact List.Pairwise.nil
  | cons x r => exact rising_pw h
theorem pw_uniq {l m : List Str} (h1 : l.Pairwise leS) (h2 : m.Pairwise leS) (h : l.Perm m) : l = m := List.Perm.eq_of_pairwise (fun _ _ _ _ h k => leS_anti h k) h1 h2 h
def srt (xs : List Str) : List Str := xs.mergeSort leB
theorem srt_perm (xs : List Str) : (srt xs).Perm xs := List.mergeSort_perm xs leB
theorem srt_pw (xs : List Str) : (srt xs).Pairwise leS := by
  have := List.pairwise_mergeSort (le := leB) (fun a b c h k => by
    unfold leB at *
    exact decide_eq_true (List.le_trans (of_decide_eq_true h) (of_decide_eq_true k))) (fun a b => by
    unfold leB
    rcases List.le_total a.cps.toList b.cps.toList with h | h
    · rw [decide_eq_true h]; rfl
    · rw [decide_eq_true h, Bool.or_true]) xs
  exact this.imp fun h => of_decide_eq_true h
theorem srt_of {xs ys : List Str} (h : ys.Perm xs) (hs : sortedS ys = true) : ys = srt xs := pw_uniq (sorted_pw hs) (srt_pw xs) (h.trans (srt_perm xs).symm)
theorem srt_sorted {xs : List Str} (hs : sortedS xs = true) : srt xs = xs := (srt_of (List.Perm.refl _) hs).symm
theorem Ok.sortE {xs : List Str} (h : xs.length < 64) : Ok (Mi.sortS xs) (· = srt xs) := Ok.sortS h fun ys h1 h2 => srt_of h1 h2
end Mi
namespace Mi
open PySem L2 Evl
end Mi
namespace Mi
open PySem L2 Evl
end Mi
namespace PySem.W
open PySem PySem.Spec PySem.Calls PyProof.Rows
end PySem.W
namespace Mi
open PySem L2 Evl
open PyProof.Rows (Call_)
end Mi
namespace Mi
open PySem L2 Evl
section
variable {X : Cx} {B : Bs} {env : Env} {os : Os} {α β : Type} {r : Rp α} {t : Rp β} {n m : Nat}
/-- the state behind a comparison -/
def EqAfter (X : Cx) (B : Bs) (env : Env) (os : Os) (pins : List (Addr × Obj)) (σ σ0 : L2.St) (F : Hp) (s' : Shared) : Prop := ∃ F' H', Inv X pins σ H' s' ∧ Sit B F' H' σ0 env os ∧ Ex F F'
def EqS (X : Cx) (n : Nat) (B : Bs) (env : Env) (os : Os) (r : Rp α) (g : α → α → Bool) : Prop :=
  ∀ (A : Around) (pins : List (Addr × Obj)) (s : Shared) (σ σ0 : L2.St) (F H : Hp) (u v : Value) (vx vy : V) (x y : α), Sub X n A → Inv X pins σ H s → Sit B F H σ0 env os → RelV vx u → RelV vy v → r.ok F vx x → r.ok F vy y →
    wpAny (model X.prog X.w) A (eqBool u v) (fun c s' => c = g x y ∧ EqAfter X B env os pins σ σ0 F s') X.xe s
theorem EqS.mono {g : α → α → Bool} (h : EqS X n B env os r g) (hn : n ≤ m) : EqS X m B env os r g := fun A pins s σ σ0 F H u v vx vy x y sb => h A pins s σ σ0 F H u v vx vy x y (sb.mono hn)
end
end Mi
namespace Mi
open PySem L2 Evl
open PyProof.Rows (Call_)
end Mi
namespace Mi
open PySem L2 Evl
end Mi
namespace Mi
open PySem L2 Evl
section
variable {X : Cx} {B : Bs} {env : Env} {os : Os} {pos pos' : Pos} {j : Nat} {α β : Type} {r : Rp α} {e : Expr}
/-- what says whether a value is None -/
def IsN (r : Rp α) (f : α → Bool) : Prop := ∀ F v x, r.ok F v x → decide (v = V.non) = f x
theorem isn_int : IsN rInt (fun _ => false) := fun F v x h => by
  have h : v = .int x := h
  subst h
  rfl
theorem sem_isN {f : α → Bool} (h : IsN r f) : R2T (fun x y H Q => y = .non ∧ Q (.bl (decide (x = .non))) H) r rNon rBool (fun x _ => ret (f x)) := fun F H v u x y P E Q fh o1 o2 hw k => by
  refine ⟨o2, ?_⟩
  rw [h F v x o1]
  exact k _ hw (.bl _) F H (Grow.refl fh) rfl
theorem e_isN {f : α → Bool} {w : W α} (h : IsN r f) (ha : EE X B env os e r w) : EE X B env os (.Compare e [.Is] [.Constant .none j pos'] pos) rBool (bnd w fun x => bnd (ret ()) fun _ => ret (f x)) := e_cmp op_isN (sem_isN h) (nomark _) ha fun _ => e_non
end
end Mi
namespace Mi
open PySem L2 Evl
end Mi
namespace Mi
open PySem L2 Evl
end Mi
namespace Mi
open PySem L2 Evl
end Mi
namespace Mi
open PySem L2 Evl
open PyProof.Rows (envOfC)
end Mi
namespace Mi
open PySem L2 Evl
end Mi
set_option exponentiation.threshold 20000
namespace Mi
open PySem L2 Evl
def Prm (p : Nat) : Prop := 2 ≤ p ∧ ∀ d, d ∣ p → d = 1 ∨ d = p
def divsL (m : Nat) : List Nat := (List.range (m + 1)).filter fun d => decide (0 < d ∧ d ∣ m)
theorem mem_divsL {m d : Nat} (hm : 0 < m) : d ∈ divsL m ↔ d ∣ m := by
  unfold divsL
  rw [List.mem_filter, List.mem_range, decide_eq_true_eq]
  constructor
  · exact fun h => h.2.2
  · intro h
    have := Nat.le_of_dvd hm h
    have h0 : 0 < d := Nat.pos_of_dvd_of_pos h hm
    exact ⟨by omega, h0, h⟩
theorem divsL_sorted (m : Nat) : (divsL m).Pairwise (· < ·) := List.pairwise_lt_range.filter _
theorem divsL_nodup (m : Nat) : (divsL m).Nodup := (divsL_sorted m).imp fun h => Nat.ne_of_lt h
/-- the state of the search: found below low; no number from 2 to low - 1 divides rest -/
structure PInv (m : Nat) (ps : List Nat) (rest low : Nat) : Prop where
  low2 : 2 ≤ low
  rest0 : 0 < rest
  dv : rest ∣ m
  asc : ps.Pairwise (· < ·)
  prm : ∀ p ∈ ps, Prm p ∧ p ∣ m ∧ p < low
  all : ∀ p, Prm p → p ∣ m → p ∈ ps ∨ p ∣ rest
  no : ∀ d, 2 ≤ d → d < low → ¬ d ∣ rest
theorem PInv.len {m rest low : Nat} {ps : List Nat} (h : PInv m ps rest low) : ps.length ≤ low := by
  have := len_nodup (xs := ps) (ys := List.range low) (h.asc.imp fun h => Nat.ne_of_lt h) fun x hx => by
    rw [List.mem_range]
    exact (h.prm x hx).2.2
  rwa [List.length_range] at this
theorem PInv.low {m rest low : Nat} {ps : List Nat} (h : PInv m ps rest low) (hd : low ∣ rest) : Prm low := ⟨h.low2, fun d hd' => by
  refine Classical.byContradiction fun q => ?_
  have hle := Nat.le_of_dvd (by have := h.low2; omega) hd'
  have h0 : d ≠ 0 := by
    rintro rfl
    have := Nat.eq_zero_of_zero_dvd hd'
    have := h.low2
    omega
  have h1 : d ≠ 1 := fun e => q (.inl e)
  have h2 : d ≠ low := fun e => q (.inr e)
  exact h.no d (by omega) (by omega) (Nat.dvd_trans hd' hd)⟩
end Mi
set_option exponentiation.threshold 20000
namespace Mi
open PySem L2 Evl
theorem divsL_few {m : Nat} (hm : 0 < m) (hb : m < 2 ^ 40) : (divsL m).length ≤ 2 ^ 21 := by
  have h1 : ((divsL m).filter fun d => decide (d * d ≤ m)).length ≤ 2 ^ 20 := by
    have := len_nodup (xs := (divsL m).filter fun d => decide (d * d ≤ m)) (ys := List.range (2 ^ 20)) ((divsL_nodup m).filter _) fun x hx => by
      rw [List.mem_filter, decide_eq_true_eq] at hx
      rw [List.mem_range]
      refine Nat.lt_of_not_le fun h => ?_
      have : 2 ^ 20 * 2 ^ 20 ≤ x * x := Nat.mul_le_mul h h
      have e : 2 ^ 20 * 2 ^ 20 = 2 ^ 40 := by decide
      omega
    rwa [List.length_range] at this
  have h2 : ((divsL m).filter fun d => !decide (d * d ≤ m)).length ≤ 2 ^ 20 := by
    have nd : (((divsL m).filter fun d => !decide (d * d ≤ m)).map fun d => m / d).Nodup := by
      rw [List.Nodup, List.pairwise_map]
      refine (List.Pairwise.imp_of_mem ?_ ((divsL_nodup m).filter _))
      intro a b ha hb' hab e
      rw [List.mem_filter] at ha hb'
      have da := (mem_divsL hm).mp ha.1
      have db := (mem_divsL hm).mp hb'.1
      refine hab ?_
      have q1 : m / (m / a) = a := Nat.div_div_self da (by omega)
      have q2 : m / (m / b) = b := Nat.div_div_self db (by omega)
      rw [← q1, ← q2, e]
    have := len_nodup (ys := List.range (2 ^ 20)) nd fun x hx => by
      obtain ⟨d, hd, rfl⟩ := List.mem_map.mp hx
      rw [List.mem_filter] at hd
      have dd := (mem_divsL hm).mp hd.1
      have hlt : m < d * d := by
        have := hd.2
        simpa using this
      rw [List.mem_range]
      obtain ⟨e, he⟩ := dd
      have hd0 : 0 < d := Nat.pos_of_ne_zero fun z => by subst z; omega
      have hq : m / d = e := by rw [he]; exact Nat.mul_div_cancel_left e hd0
      rw [hq]
      have hed : e < d := by
        refine Nat.lt_of_not_le fun h => ?_
        have := Nat.mul_le_mul_left d h
        omega
      refine Nat.lt_of_not_le fun h => ?_
      have : 2 ^ 20 * 2 ^ 20 ≤ d * e := Nat.mul_le_mul (by omega) h
      have e : 2 ^ 20 * 2 ^ 20 = 2 ^ 40 := by decide
      omega
    rwa [List.length_map, List.length_range] at this
  have h3 : (divsL m).length = ((divsL m).filter fun d => decide (d * d ≤ m)).length + ((divsL m).filter fun d => !decide (d * d ≤ m)).length := by
    rw [← List.length_append]
    exact ((List.filter_append_perm (fun d => decide (d * d ≤ m)) (divsL m)).length_eq).symm
  have e : 2 ^ 20 + 2 ^ 20 = 2 ^ 21 := by decide
  omega
structure DivOf (found : List Int) (n : Nat) : Prop where
  nd : found.Nodup
  mem : ∀ x : Int, x ∈ found ↔ ∃ d : Nat, x = (d : Int) ∧ d ∣ n
theorem DivOf.len {found : List Int} {n : Nat} (h : DivOf found n) (hn : 0 < n) (hb : n < 2 ^ 40) : found.length ≤ 2 ^ 21 := by
  refine Nat.le_trans (len_nodup (ys := (divsL n).map fun d : Nat => (d : Int)) h.nd fun x hx => ?_) (by rw [List.length_map]; exact divsL_few hn hb)
  obtain ⟨d, rfl, hd⟩ := (h.mem x).mp hx
  exact List.mem_map_of_mem ((mem_divsL hn).mpr hd)
abbrev dvs (m : Nat) : List Int := (divsL m).map fun d : Nat => (d : Int)
end Mi
namespace Mi
open PySem L2 Evl PyProof.Rows
end Mi
namespace Mi
open PySem L2 Evl
open PyProof.Rows (envOfC)
end Mi
namespace Mi
open PySem L2 Evl PyProof.Rows
open PyProof.Rows (envOfC)
theorem OsLe.cons {os l : Os} {p : Addr × Own} (h : p ∈ os) (t : OsLe os l) : OsLe os (p :: l) := fun q hq => by
  rcases List.mem_cons.mp hq with e | hq
  · rw [e]
    exact h
  · exact t q hq
end Mi
namespace Mi
open PySem L2 Evl
end Mi
namespace Mi
open PySem L2 Evl
def rawD (P : Program) (w : World) (D : Addr) (xs : List (NestedKey × Addr × Value)) (h : Heap) : Prop :=
  ∃ o es ep, h.get? D = some o ∧ o.ExactDict ∧ o.data = .dict es ep ∧ es.toList = xs.map (entryOfKey (nestedKind P w)) ∧ (xs.map (·.1)).Nodup ∧ (D == sysModules) = false
theorem rawD.stay {P : Program} {w : World} {D : Addr} {xs : List (NestedKey × Addr × Value)} : ∀ h1 h2 : Heap, rawD P w D xs h1 → (∀ o, h1.get? D = some o → h2.get? D = some o) → rawD P w D xs h2 :=
  fun h1 h2 ⟨o, es, ep, a1, a2⟩ k => ⟨o, es, ep, k o a1, a2⟩
theorem rawD.ok {P : Program} {w : World} {H : Hp} {h : Heap} {D : Addr} {xs : List (NestedKey × Addr × Value)} (r : rawD P w D xs h) : ObjOk P w H h D (.ext (rawD P w D xs)) := by
  obtain ⟨o, es, ep, h1, h2⟩ := id r
  exact ⟨r, ⟨o, h1⟩, rawD.stay⟩
/-- a tuple of whole numbers and None, as a key -/
def PartK (v : V) (k : NestedKey) : Prop := (∃ i, v = .int i ∧ k = .num i) ∨ (v = .non ∧ k = .none)
def RowAt (K : PySem.W.Frag) (H : Hp) (k : NestedKey) (b : Addr) : Prop := ∃ vs ks, SqT K H b vs ∧ k = .tup ks ∧ Paired PartK vs ks
theorem RowAt.mono {K : PySem.W.Frag} {H H' : Hp} {k : NestedKey} {b : Addr} (e : Ex H H') : RowAt K H k b → RowAt K H' k b := fun ⟨vs, ks, h, r⟩ => ⟨vs, ks, ex_t e h, r⟩
end Mi
namespace Mi
open PySem PySem.Spec PyProof.Rows L2 Evl
/-- the new dict -/
theorem rawD.new {X : Cx} {pins : List (Addr × Obj)} {σ : L2.St} {H : Hp} {s : Shared} (I : Inv X pins σ H s) : Inv X pins σ (upd H s.heap.objs.size (.ext (rawD X.prog X.w s.heap.objs.size []))) { s with heap := s.heap.push { cls := .type "dict", data := .dict #[] } } := by
  refine I.laid (t' := s.toks) (fun b o e => Heap.get?_push_of_some _ e) (Nat.le_refl _) (rawD.ok ?_)
  obtain ⟨o, es, ep, h1, h2, h3, h4, _, h6⟩ := Heap.DictOfH.new (knd := nestedKind X.prog X.w) s.heap
  exact ⟨o, es, ep, h1, h2, h3, h4, h6, beq_eq_false_iff_ne.mpr (Nat.ne_of_gt I.big)⟩
end Mi
namespace Mi
open PySem L2 Evl
abbrev Row3 := Int × Int × Option Int
abbrev rRow (K : PySem.W.Frag) : Rp Row3 := rT3 K rInt rInt (rOpt rInt)
def optK : Option Int → NestedKey
  | none => .none
  | some i => .num i
def rowKey (x : Row3) : NestedKey := .tup [.num x.1, .num x.2.1, optK x.2.2]
def RowP (K : PySem.W.Frag) (F : Hp) (p : NestedKey × Addr × Value) (x : Row3) : Prop := p.1 = rowKey x ∧ p.2.2 = .bool true ∧ (rRow K).ok F (.ref p.2.1) x
theorem RowP.mono {K : PySem.W.Frag} {F F' : Hp} (e : Ex F F') {p : NestedKey × Addr × Value} {x : Row3} : RowP K F p x → RowP K F' p x := fun ⟨h1, h2, h3⟩ => ⟨h1, h2, (rRow K).mono e h3⟩
end Mi
namespace Mi
open PySem L2 Evl
end Mi
namespace Mi
open PySem L2 Evl
end Mi
namespace Mi
open PySem L2 Evl
def Itr (P : Program) (w : World) (d : Addr) (o : Obj) (xs : List (NestedKey × Addr × Value)) : It :=
  ⟨fun i H => H d = some (.frz o (.ext (rawD P w d xs))) ∧ i < xs.length, fun i H x H' => H' = H ∧ ∃ p, xs[i]? = some p ∧ x = .ref p.2.1, fun i H => H d = some (.frz o (.ext (rawD P w d xs))) ∧ xs.length ≤ i⟩
end Mi
namespace Mi
open PySem L2 Evl
end Mi
namespace Mi
open PySem L2 Evl
end Mi
namespace Mi
open PySem L2 Evl PyProof.Rows PySem.W
end Mi
namespace Mi
open PySem L2 Evl PyProof.Rows PySem.W
open PyProof.Rows (envOfC)
end Mi
namespace Mi
open PySem L2 Evl
end Mi
namespace Mi
open PySem L2 Evl
end Mi
namespace Mi
open PySem L2 Evl
end Mi
namespace Mi
open PySem L2 Evl
end Mi
namespace Mi
open PySem L2 Evl
open PyProof.Rows (envOfC)
end Mi
namespace Mi
open PySem L2 Evl LamX
open PyProof.Rows (envOfC)
end Mi
namespace Mi
open PySem L2 Evl LamX
open PyProof.Rows (envOfC IntsAre AllBare)
theorem law_runTs {P : Program} {w : World} {K : PySem.W.Frag} {mg mb : Str → Option Value} {k : Nat} {fa a : Addr} {Ts : List (Addr × Addr)} {fd : FuncData} {x : Str} {sp : Sp} {s : Shared} {vs : List Value}
    (KX : K.In s.heap) (hns : s.heap.Ns mainGlobals mg) (hb : s.heap.Ns builtinsNs mb) (hbb : ∀ x : Str, x ≠ "__name__" → mb x = bootBuiltins x) (hlim : s.heap.NoLimit) (hg : s.gens = #[])
    (hT : ∀ p ∈ Ts, s.heap.get? p.2 = some { cls := .none, data := .fields #[] }) (nT : ∀ p ∈ Ts, K.lookup p.2 = none) (C : ∀ p ∈ Ts, PySem.W.CodeHd s.heap p.1 p.2)
    (hbm : ∃ (bm : Addr) (ob : Obj), mg "__builtins__" = some (.ref bm) ∧ bm ≠ builtinsNs ∧ s.heap.get? bm = some ob ∧ ob.cls = .type "module" ∧ ob.dict = some builtinsNs ∧ ob.data = .plain)
    (ha : s.heap.get? a = some { cls := .type "list", data := .seq vs.toArray }) (hr : Room k callerA)
    (F : ∀ base : Heap, K.In base → base.Ns mainGlobals mg → (∀ p ∈ Ts, TabB base mg p.1 p.2) → FnG P w K mg base CX0 k fa fd [x] sp) (hbind : ∀ (s : Shared) (u : Value), BindsTo s fd ⟨[u], []⟩ [(x, u)])
    {H : Hp} (hH : ∀ p ∈ Ts, H p.2 = some (.tbl #[])) (hO : ∀ b, H b = none ∨ (∃ p ∈ Ts, b = p.2) ∨ ∃ o xs, H b = some (.frz o (.lst xs))) (hok : HOk P w H s.heap) (hA : ∀ b, H b ≠ none → (∃ p ∈ Ts, b = p.2) ∨ b = a ∧ K.lookup a = none) (hsp : sp [.ref a] H (fun v _ => v = .bl true) fun _ _ _ => False) :
    codeAny (model P w) callerA (.call (.ref fa) ⟨[.ref a], []⟩) (fun r s' => r = .ok (.ret (.bool true)) ∧ OldK s.heap s'.heap ∧ s'.os = s.os ∧ AllBare s'.gens) s := by
  have noD : ∀ {b : Addr} {o : Obj}, s.heap.get? b = some o → (∀ vs n, o.data ≠ .seq vs n) → o.data ≠ .fields #[] → H b = none := fun {b o} e h1 h2 => by
    cases q : H b with
    | none => rfl
    | some u =>
      rcases hA b (by rw [q]; simp) with ⟨p, hp, e'⟩ | ⟨e', _⟩
      · rw [e', hT p hp] at e
        cases e
        exact (h2 rfl).elim
      · rw [e', ha] at e
        cases e
        exact (h1 _ _ rfl).elim
  have here : ∀ {b : Addr} {o : Obj}, s.heap.get? b = some o → H b = none → (hidT s.heap H).get? b = some o := fun e n => hidT_get e n
  have ns_ : ∀ {b : Addr} {m : Str → Option Value}, s.heap.Ns b m → (hidT s.heap H).Ns b m := fun {b m} ⟨o, es, ep, e, d, r⟩ => by
    refine ⟨o, es, ep, here e (noD e (fun vs n z => ?_) fun z => ?_), d, r⟩ <;> rw [d] at z <;> cases z
  have kin : K.In (hidT s.heap H) := fun b o e => here (KX b o e) (by
    cases q : H b with
    | none => rfl
    | some u =>
      rcases hA b (by rw [q]; simp) with ⟨p, hp, e'⟩ | ⟨e', n⟩
      · rw [e', nT p hp] at e
        cases e
      · rw [e', n] at e
        cases e)
  have md : L2.Mod K mg (hidT s.heap H) := ⟨kin, ns_ hns, ⟨mb, ns_ hb, hbb⟩, hlim.elim fun mc hm => ⟨mc, ns_ hm.1, hm.2⟩⟩
  have TB : ∀ p ∈ Ts, TabB (hidT s.heap H) mg p.1 p.2 := fun p hp => by
    have hT := hT p hp
    have C := C p hp
    refine ⟨?_, ?_, fun z => ?_⟩
    · obtain ⟨o, us, file, tf, flags, tg, inF, text, tt, e1, r1, r2, r3, r4, r5, r6, r7, r8, hne⟩ := C
      refine ⟨o, us, file, tf, flags, tg, inF, text, tt, here e1 (noD e1 (fun vs n z => ?_) fun z => ?_), r1, r2, r3, r4, r5, r6, r7, r8, hne⟩
      · rw [r2] at z
        cases z
      · rw [r2] at z
        cases z
        simp at r3
    · obtain ⟨bm, ob, b1, b2, b3, b4, b5, b6⟩ := hbm
      have nG : bm ≠ mainGlobals := fun q => by
        obtain ⟨o, es, ep, e, hd, _⟩ := hns
        rw [q, e] at b3
        cases b3
        rw [hd] at b6
        cases b6
      have nP : bm ≠ p.2 := fun q => by
        rw [q, hT] at b3
        cases b3
        cases b6
      refine ⟨bm, ob, b1, b2, nG, nP, here b3 (noD b3 (fun vs n z => ?_) fun z => ?_), b4, b5, b6⟩ <;> rw [b6] at z <;> cases z
    · obtain ⟨o, es, ep, e, hd, _⟩ := hns
      rw [z, hT] at e
      cases e
      cases hd
  have e0 : Env0 P w K mg (hidT s.heap H) callerA [] s H :=
    { frames := rfl, mod := md, bs := fun b o e => of_hidT e, bsz := Nat.le_of_eq (hidT_size _ _), funs := trivial, frf := fun b hb => (by cases hb), hok := hok, bare := .of_eq hg }
  refine codeAny_mono ((F _ kin (ns_ hns) TB).go callerA [] s H ⟨[.ref a], []⟩ [.ref a] [.ref a] _ _ rfl hr e0 (hbind s (.ref a)) (.cons rfl .nil) hsp) fun r s' h => ?_
  cases r with
  | error e => exact False.elim h
  | ok fl =>
    cases fl with
    | next => exact False.elim h
    | brk => exact False.elim h
    | cont => exact False.elim h
    | ret u =>
      obtain ⟨v, H', os, bare, un, hok', rv, q⟩ := h
      have q : v = .bl true := q
      subst q
      have rv : u = Value.bool true := rv
      subst rv
      have key : ∀ b o, (∀ p ∈ Ts, b ≠ p.2) → s.heap.get? b = some o → s'.heap.get? b = some o := fun b o nb e => by
        cases q : H b with
        | none => exact un.keep b o e q (fun z => by cases z) (fun z => by cases z)
        | some u =>
          rcases hO b with z | ⟨p, hp, z⟩ | ⟨ob, xs, z⟩
          · rw [q] at z
            cases z
          · exact absurd z (nb p hp)
          · have e1 := (hok b _ z).1
            have e2 := (hok' b _ (un.frzs b ob _ z)).1
            rw [e] at e1
            cases e1
            exact e2
      have hm : ∀ p ∈ Ts, ∃ more : Array Value, s'.heap.get? p.2 = some { cls := .none, data := .fields more } := fun p hp => by
        obtain ⟨more, z⟩ := un.tbls p.2 #[] (hH p hp)
        exact ⟨_, hok' p.2 _ z⟩
      refine ⟨rfl, ⟨fun b o e => ?_, fun b o e => ?_⟩, os, bare⟩
      · by_cases hb : ∃ p ∈ Ts, b = p.2
        · obtain ⟨p, hp, hb⟩ := hb
          subst hb
          obtain ⟨more, hm⟩ := hm p hp
          have hT := hT p hp
          rw [hT] at e
          cases e
          exact .inr (.inl ⟨((C p hp).tab hT).isCodeTable, rfl, #[], more, rfl, by rw [Array.empty_append]; exact hm⟩)
        · exact .inl (key b o (fun p hp z => hb ⟨p, hp, z⟩) e)
      · by_cases hb : ∃ p ∈ Ts, b = p.2
        · obtain ⟨p, hp, hb⟩ := hb
          subst hb
          obtain ⟨more, hm⟩ := hm p hp
          exact ⟨_, hm⟩
        · exact ⟨o, key b o (fun p hp z => hb ⟨p, hp, z⟩) e⟩
theorem law_callGTs {P : Program} {w : World} {K : PySem.W.Frag} {mg mb : Str → Option Value} {k : Nat} {fa a : Addr} {Ts : List (Addr × Addr)} {fd : FuncData} {x : Str} {sp : Sp} {s : Shared} {vs : List Value} {ns : List Int}
    (KX : K.In s.heap) (hns : s.heap.Ns mainGlobals mg) (hb : s.heap.Ns builtinsNs mb) (hbb : ∀ x : Str, x ≠ "__name__" → mb x = bootBuiltins x) (hlim : s.heap.NoLimit) (hg : s.gens = #[])
    (hT : ∀ p ∈ Ts, s.heap.get? p.2 = some { cls := .none, data := .fields #[] }) (nT : ∀ p ∈ Ts, K.lookup p.2 = none) (C : ∀ p ∈ Ts, PySem.W.CodeHd s.heap p.1 p.2)
    (hbm : ∃ (bm : Addr) (ob : Obj), mg "__builtins__" = some (.ref bm) ∧ bm ≠ builtinsNs ∧ s.heap.get? bm = some ob ∧ ob.cls = .type "module" ∧ ob.dict = some builtinsNs ∧ ob.data = .plain)
    (ha : s.heap.get? a = some { cls := .type "list", data := .seq vs.toArray }) (hi : IntsAre vs ns) (hl : ns.length ≤ sizeLine) (hr : Room k callerA)
    (F : ∀ base : Heap, K.In base → base.Ns mainGlobals mg → (∀ p ∈ Ts, TabB base mg p.1 p.2) → FnG P w K mg base CX0 k fa fd [x] sp) (hbind : ∀ (s : Shared) (u : Value), BindsTo s fd ⟨[u], []⟩ [(x, u)])
    (hsp : ∀ H : Hp, (∀ p ∈ Ts, H p.2 = some (.tbl #[])) → SqL K H a (ns.map V.int) → sp [.ref a] H (fun v _ => v = .bl true) fun _ _ _ => False) :
    codeAny (model P w) callerA (.call (.ref fa) ⟨[.ref a], []⟩) (fun r s' => r = .ok (.ret (.bool true)) ∧ OldK s.heap s'.heap ∧ s'.os = s.os ∧ AllBare s'.gens) s := by
  have rv := vals_ints hi
  have lenV := hi.length
  have aT : ∀ p ∈ Ts, a ≠ p.2 := fun p hp z => by
    have hT := hT p hp
    rw [← z, ha] at hT
    have z' : Data.seq vs.toArray _ = Data.fields #[] := congrArg Obj.data (Option.some.inj hT)
    cases z'
  have dec : ∀ b : Addr, Decidable (∃ p ∈ Ts, b = p.2) := fun b => Classical.propDecidable _
  cases hk : K.lookup a with
  | some o =>
    have e := (KX a o hk).symm.trans ha
    have e' := Option.some.inj e
    subst e'
    obtain ⟨H, eH⟩ : ∃ H : Hp, H = fun b => @ite _ (∃ p ∈ Ts, b = p.2) (dec b) (some (HO.tbl #[])) none := ⟨_, rfl⟩
    have at_1 : ∀ b, (∃ p ∈ Ts, b = p.2) → H b = some (HO.tbl #[]) := fun b h => by rw [eH]; exact if_pos h
    have at_0 : ∀ b, ¬ (∃ p ∈ Ts, b = p.2) → H b = none := fun b h => by rw [eH]; exact if_neg h
    have at_T : ∀ p ∈ Ts, H p.2 = some (.tbl #[]) := fun p hp => at_1 _ ⟨p, hp, rfl⟩
    refine law_runTs KX hns hb hbb hlim hg hT nT C hbm ha hr F hbind at_T (fun b => ?_) (fun b u z => ?_) (fun b z => ?_) (hsp _ at_T (.inr ⟨_, vs.toArray, _, hk, rfl, rfl, rfl, ?_, ?_⟩))
    · by_cases h : ∃ p ∈ Ts, b = p.2
      · exact .inr (.inl h)
      · exact .inl (at_0 b h)
    · by_cases h : ∃ p ∈ Ts, b = p.2
      · cases (at_1 b h).symm.trans z
        obtain ⟨p, hp, h⟩ := h
        rw [h]
        exact hT p hp
      · cases (at_0 b h).symm.trans z
    · by_cases h : ∃ p ∈ Ts, b = p.2
      · exact .inl h
      · exact absurd (at_0 b h) z
    · rw [List.size_toArray, lenV]
      exact hl
    · exact rv
  | none =>
    obtain ⟨H, eH⟩ : ∃ H : Hp, H = fun b => if b = a then some (HO.frz { cls := .type "list", data := .seq vs.toArray } (.lst (ns.map V.int))) else @ite _ (∃ p ∈ Ts, b = p.2) (dec b) (some (HO.tbl #[])) none := ⟨_, rfl⟩
    have at_a : H a = some (HO.frz { cls := .type "list", data := .seq vs.toArray } (.lst (ns.map V.int))) := by rw [eH]; exact if_pos rfl
    have at_1 : ∀ b, b ≠ a → (∃ p ∈ Ts, b = p.2) → H b = some (HO.tbl #[]) := fun b n h => by rw [eH]; exact (if_neg n).trans (if_pos h)
    have at_0 : ∀ b, b ≠ a → ¬ (∃ p ∈ Ts, b = p.2) → H b = none := fun b n h => by rw [eH]; exact (if_neg n).trans (if_neg h)
    have at_T : ∀ p ∈ Ts, H p.2 = some (.tbl #[]) := fun p hp => at_1 _ (Ne.symm (aT p hp)) ⟨p, hp, rfl⟩
    refine law_runTs KX hns hb hbb hlim hg hT nT C hbm ha hr F hbind at_T (fun b => ?_) (fun b u z => ?_) (fun b z => ?_) (hsp _ at_T (.inl (.inr ⟨_, at_a⟩)))
    · by_cases h : b = a
      · exact .inr (.inr ⟨_, _, by rw [h]; exact at_a⟩)
      · by_cases h2 : ∃ p ∈ Ts, b = p.2
        · exact .inr (.inl h2)
        · exact .inl (at_0 b h h2)
    · by_cases h : b = a
      · subst h
        cases at_a.symm.trans z
        exact ⟨ha, by rw [List.length_map]; exact hl, vs, _, rv, ha⟩
      · by_cases h2 : ∃ p ∈ Ts, b = p.2
        · cases (at_1 b h h2).symm.trans z
          obtain ⟨p, hp, h2⟩ := h2
          rw [h2]
          exact hT p hp
        · cases (at_0 b h h2).symm.trans z
    · by_cases h : b = a
      · exact .inr ⟨h, hk⟩
      · by_cases h2 : ∃ p ∈ Ts, b = p.2
        · exact .inl h2
        · exact absurd (at_0 b h h2) z
/-- the goal that the head leaves -/
theorem walk_GTs {l : PySem.W.OpenLaw} {n k : Nat} {q : Program} {loose : List Str} {XP : (Str → Option Value) → Heap → Prop} {YP : World → Heap → Prop} {d : DefRec} {K : Params → PySem.W.Frag} {sp : PySem.W.Frag → List (Addr × Addr) → Sp} {x : Str} {ts : List Addr}
    (hn : l.most = some n) (hn2 : n ≤ sizeLine) (hdf : d.params.defaults = []) (hr : Room k callerA) (hY : ∀ (w : World) (h : Heap), YP w h → (K w.params).In h ∧ ∀ P ∈ ts, h.get? P = some { cls := .none, data := .fields #[] })
    (F : ∀ (w : World) (mg : Str → Option Value) (fa : Addr) (h : Heap), (K w.params).In h → h.Ns mainGlobals mg → mg d.name = some (.ref fa) →
      ∃ (fd : FuncData) (Ts : List (Addr × Addr)), (∀ p ∈ Ts, p.2 ∈ ts ∧ PySem.W.codeHdIn (K w.params) p.1 p.2 = true ∧ (K w.params).lookup p.2 = none) ∧ (Ts.map (·.2)).Nodup ∧ (∀ (s : Shared) (u : Value), BindsTo s fd ⟨[u], []⟩ [(x, u)]) ∧ ∀ base : Heap, (K w.params).In base → base.Ns mainGlobals mg → (∀ p ∈ Ts, TabB base mg p.1 p.2) → FnG l.prog w (K w.params) mg base CX0 k fa fd [x] (sp (K w.params) Ts))
    (hsp : ∀ (K : PySem.W.Frag) (H : Hp) (a : Addr) (Ts : List (Addr × Addr)) (ns : List Int), (Ts.map (·.2)).Nodup → ns.length ≤ n → (∀ p ∈ Ts, H p.2 = some (.tbl #[])) → SqL K H a (ns.map V.int) → sp K Ts [.ref a] H (fun v _ => v = .bl true) fun _ _ _ => False) :
    PySem.W.WalkO q loose XP YP l.row.toRowW d [] (fun f vs => PySem.call f vs) :=
  Att.attach_callB hn hdf fun w s₀ s₁ mg mb fa o pm cd doc a vs ns G Y ho hd hcd hmg hobj hints hlen hbits hg => by
    obtain ⟨KX, ht⟩ := hY w _ Y
    obtain ⟨fd, Ts, hm, nd, hb, hF⟩ := F w mg fa _ KX G.T.g hmg
    exact law_callGTs KX G.T.g G.T.b G.T.builtins G.T.nolimit hg (fun p hp => ht p.2 (hm p hp).1) (fun p hp => (hm p hp).2.2) (fun p hp => PySem.W.codeHd_of_K KX (hm p hp).2.1) G.T.bmain hobj hints (Nat.le_trans hlen hn2) hr hF hb fun H hH hS => hsp _ H a Ts ns nd hlen hH hS
/-- the law's promise, two tables beside the script -/
theorem sp_tabs {K : PySem.W.Frag} {H : Hp} {a T U : Addr} {ns : List Int} {q q2 : Str} {wf : List Int → W Bool} (hTU : T ≠ U) (hl : ns.length ≤ 63) (hT : H T = some (.tbl #[])) (hU : H U = some (.tbl #[])) (hS : SqL K H a (ns.map V.int)) (ht : wf ns (fun x => x = true) fun _ => False) :
    spW (fun i : List Int × Unit => [sv (rScr K) i.1]) (fun _ => [(T, oTab q), (U, oTab q2)]) (fun i => wf i.1) rBool [.ref a] H (fun v _ => v = .bl true) fun _ _ _ => False :=
  have hU1 : del H T U = some (.tbl #[]) := (del_ne (Ne.symm hTU)).trans hU
  ⟨(ns, ()), del (del H T) U, fun x => x = true, fun b u e => by
    by_cases h : b = U
    · subst h
      rw [del_same] at e
      cases e
    · rw [del_ne h] at e
      by_cases h2 : b = T
      · subst h2
        rw [del_same] at e
        cases e
      · rw [del_ne h2] at e
        exact e, .cons ⟨_, rfl, a, rfl, sqL_but hU1 (sqL_but hT hS), Nat.le_trans hl (by decide)⟩ .nil, fun p hp => by
    simp only [List.mem_cons, List.not_mem_nil, or_false] at hp
    rcases hp with e | e
    · subst e
      exact ⟨(del_ne hTU).trans del_same, _, hT, #[], rfl, trivial, fun pos cv h => by cases h⟩
    · subst e
      exact ⟨del_same, _, hU, #[], rfl, trivial, fun pos cv h => by cases h⟩, by simp [hTU], ht, fun x hx v F' H' _ _ ok => by subst hx; exact ok⟩
end Mi
namespace Mi
open PySem L2 Evl LamX
def osTs (q q2 : Str) : List (Addr × Addr) → Os
  | [(_, T), (_, U)] => [(T, oTab q), (U, oTab q2)]
  | _ => []
def spTs (K : PySem.W.Frag) (q q2 : Str) (wf : List Int → W Bool) (Ts : List (Addr × Addr)) : Sp := spW (fun i : List Int × Unit => [sv (rScr K) i.1]) (fun _ => osTs q q2 Ts) (fun i => wf i.1) rBool
theorem sp_ts {K : PySem.W.Frag} {H : Hp} {a : Addr} {Ts : List (Addr × Addr)} {ns : List Int} {q q2 : Str} {wf : List Int → W Bool} (nd : (Ts.map (·.2)).Nodup) (hl : ns.length ≤ 63) (hT : ∀ p ∈ Ts, H p.2 = some (.tbl #[])) (hS : SqL K H a (ns.map V.int)) (ht : wf ns (fun x => x = true) fun _ => False) :
    spTs K q q2 wf Ts [.ref a] H (fun v _ => v = .bl true) fun _ _ _ => False := by
  have plain : ∀ {os : Os}, os = [] → spW (fun i : List Int × Unit => [sv (rScr K) i.1]) (fun _ => os) (fun i => wf i.1) rBool [.ref a] H (fun v _ => v = .bl true) fun _ _ _ => False := fun {os} e => by
    subst e
    exact ⟨(ns, ()), H, fun x => x = true, Ex.refl H, .cons ⟨_, rfl, a, rfl, hS, Nat.le_trans hl (by decide)⟩ .nil, (fun p hp => nomatch hp), List.nodup_nil, ht, fun x hx v F' H' _ _ ok => by subst hx; exact ok⟩
  match Ts, nd, hT with
  | [], _, _ => exact plain rfl
  | [_], _, _ => exact plain rfl
  | [(c, T), (d, U)], nd, hT =>
    have hne : T ≠ U := fun z => by
      subst z
      simp at nd
    exact sp_tabs hne hl (hT (c, T) List.mem_cons_self) (hT (d, U) (List.mem_cons_of_mem _ List.mem_cons_self)) hS ht
  | _ :: _ :: _ :: _, _, _ => exact plain rfl
end Mi
namespace GenFr
open PySem
open Sem (wp)
/-- the same to look at, never to be resumed -/
def kill : GenState → GenState
  | .suspended _ l c p fs cl => .suspended (fun _ => .unsupported "") l c p fs cl
  | x => x
theorem kill_bare (x : GenState) : (kill x).bare = x.bare := by cases x <;> rfl
def Frame.isGen : Frame → Bool
  | .gen .. => true
  | _ => false
def NoG (fs : List Frame) : Prop := ∀ F ∈ fs, Frame.isGen F = false
def NoS : GenState → Prop
  | .suspended _ _ _ _ fs _ => NoG fs
  | _ => True
abbrev Fz := Nat → Option GenState
/-- what f tells of is suspended and killed in s; all else that is suspended holds no other generator's frame -/
structure Kd (f : Fz) (s : Shared) : Prop where
  dead : ∀ i X, f i = some X → s.gens[i]? = some (kill X) ∧ ∃ k l c p fs cl, X = .suspended k l c p fs cl
  wf : ∀ i x, f i = none → s.gens[i]? = some x → NoS x
def back (f : Fz) (s : Shared) : Shared := { s with gens := s.gens.mapIdx fun i x => (f i).getD x }
section
variable {f : Fz} {s : Shared} {g : Nat} {x y : GenState}
theorem back_size : (back f s).gens.size = s.gens.size := by simp [back]
theorem back_at (h : s.gens[g]? = some x) : (back f s).gens[g]? = some ((f g).getD x) := by
  simp [back, h]
theorem Kd.free (K : Kd f s) (h : s.gens[g]? = some x) (hx : ∀ k l c p fs cl, x ≠ .suspended k l c p fs cl) : f g = none := by
  cases q : f g with
  | none => rfl
  | some X =>
    obtain ⟨e, k, l, c, p, fs, cl, e2⟩ := K.dead g X q
    subst e2
    rw [h] at e
    exact (hx _ _ _ _ _ _ (Option.some.inj e)).elim
theorem Kd.set (K : Kd f s) (h : f g = none) (hy : NoS y) : Kd f (s.setGen g y) := ⟨fun i X e => by
  obtain ⟨e1, e2⟩ := K.dead i X e
  refine ⟨?_, e2⟩
  have q : g ≠ i := fun z => by
    subst z
    rw [h] at e
    cases e
  show (s.gens.setIfInBounds g y)[i]? = _
  rw [Array.getElem?_setIfInBounds_ne q]
  exact e1, fun i x e ex => by
  have ex : (s.gens.setIfInBounds g y)[i]? = some x := ex
  by_cases q : g = i
  · subst q
    rw [Array.getElem?_setIfInBounds] at ex
    split at ex
    · split at ex
      · cases ex
        exact hy
      · cases ex
    · exact K.wf g x e ex
  · rw [Array.getElem?_setIfInBounds_ne q] at ex
    exact K.wf i x e ex⟩
theorem Kd.push (K : Kd f s) (c : Code) : Kd f ({ s with gens := s.gens.push (.fresh c) } : Shared) := ⟨fun i X e => by
  obtain ⟨e1, e2⟩ := K.dead i X e
  have hl := (Array.getElem?_eq_some_iff.mp e1).1
  refine ⟨?_, e2⟩
  show (s.gens.push (.fresh c))[i]? = _
  rw [Array.getElem?_push_lt hl, ← e1, Array.getElem?_eq_getElem hl], fun i x e ex => by
  have ex : (s.gens.push (.fresh c))[i]? = some x := ex
  rw [Array.getElem?_push] at ex
  split at ex
  · cases ex
    trivial
  · exact K.wf i x e ex⟩
theorem Kd.heap (K : Kd f s) {s' : Shared} (h : s'.gens = s.gens) : Kd f s' := ⟨fun i X e => by rw [h]; exact K.dead i X e, fun i x e ex => K.wf i x e (by rw [← h]; exact ex)⟩
end
end GenFr
namespace Mi
open PySem L2 Evl GenFr
open PyProof.Rows (AllBare)
theorem bare_back {f : Fz} {s : Shared} (K : Kd f s) (h : AllBare s.gens) : AllBare (back f s).gens := fun y hy => by
  obtain ⟨i, hi, e⟩ := Array.getElem_of_mem hy
  have hl : i < s.gens.size := by
    have := hi
    rwa [back_size] at this
  have z := back_at (f := f) (Array.getElem?_eq_getElem hl)
  rw [Array.getElem?_eq_getElem hi, e] at z
  have z := Option.some.inj z
  cases q : f i with
  | none =>
    rw [q, Option.getD_none] at z
    rw [z]
    exact h _ (Array.getElem_mem hl)
  | some X =>
    rw [q, Option.getD_some] at z
    have k := (K.dead i X q).1
    rw [Array.getElem?_eq_getElem hl] at k
    have k := Option.some.inj k
    have b := h _ (Array.getElem_mem hl)
    rw [k, kill_bare] at b
    rw [z]
    exact b
section
variable {X : Cx} {pins : List (Addr × Obj)} {σ : L2.St} {H : Hp} {s : Shared}
theorem _root_.L2.Inv.back {f : Fz} (I : L2.Inv X pins σ H s) (K : Kd f s) : L2.Inv X pins σ H (back f s) := ⟨I.ok, I.os, bare_back K I.bare, I.base, I.loc, I.cell, I.free, I.freeC, I.pin, I.hok, I.len⟩
/-- every suspended generator of s stands as it stood -/
def Stand (s s' : Shared) : Prop := ∀ (g : Nat) k l c p fs cl, s.gens[g]? = some (.suspended k l c p fs cl) → s'.gens[g]? = some (.suspended k l c p fs cl)
theorem Stand.refl (s : Shared) : Stand s s := fun _ _ _ _ _ _ _ h => h
theorem Stand.trans {s s1 s2 : Shared} (a : Stand s s1) (b : Stand s1 s2) : Stand s s2 := fun g k l c p fs cl h => b _ _ _ _ _ _ _ (a _ _ _ _ _ _ _ h)
end
end Mi
namespace GenFor
open PySem PySem.Spec PyProof.Rows GenW L2
end GenFor
namespace Gen1
open PySem PySem.Spec PyProof.Rows GenW L2 GenFor
abbrev Done1 := Result → Shared → Prop
abbrev Out1 := Value → Shared → (Resume → Sem PySem.Fin) → Code → List Frame → Prop
def End1 (R : Done1) (Z : Out1) (e : End) (s : Shared) : Prop := match e with
  | .ret r => R r s
  | .susp v g l k c p fs => (End.susp v g l k c p fs).quiet = true ∧ Z v s k c fs
def Seg1 (M : Model) (A : Around) (R : Done1) (Z : Out1) (c : Code) (t : Sem PySem.Fin) (fs : List Frame) (s : Shared) : Prop :=
  ∀ Γ p, Γ.code = c → Γ.Woken A → ∃ e s', Runs M Γ p t fs s e s' ∧ End1 R Z e s'
section
variable {M : Model} {A : Around} {R : Done1} {Z : Out1} {c : Code} {fs : List Frame} {s : Shared} {env : Env}
  {K : Flow → Sem PySem.Fin} {J : Value → Sem PySem.Fin} {gd : Bool → Bool} {lv : List Value → List Value}
theorem one_call {c' : Code} {h g l} {k : Result → Sem PySem.Fin} (hc : ∀ p, Seg1 M A R Z c' (M.den c') (.ret k h g l c p [] :: fs) s) : Seg1 M A R Z c (.call c' h g l k) fs s := by
  rintro Γ p rfl hΓ
  obtain ⟨e, s', hr, he⟩ := hc p (Γ.goto c') p rfl (hΓ.goto c')
  exact ⟨e, s', runs_call_seg hr, he⟩
end
end Gen1
namespace Gen1
open PySem PySem.Spec PyProof.Rows GenW L2 GenFor
end Gen1
namespace Gen1
open PySem PySem.Spec PyProof.Rows GenW L2 GenFor
/-- the loop's code: x runs over the list's iterator at `it` -/
structure Lp where
  x : Str
  it : Addr
  li : Addr
  env : Env
  p0 : Pos
  p1 : Pos
  p2 : Pos
  p3 : Pos
abbrev Lp.code (L : Lp) : Code := .forLoop (.Name L.x L.p0) (.ref L.it) [.Expr (.Yield (some (.Name L.x L.p1)) L.p2) L.p3] [] L.env
/-- what the loop needs of its frame -/
structure Lp.Ok (L : Lp) : Prop where
  kind : L.env.scope.kind = .function
  loc : L.env.kindOf L.x = some .local
  co : L.env.scope.isCoroutine = false
  plain : (L.env.scope.kind == .class || (L.env.scope.kind == .module && L.env.locals != L.env.globals)) = false
  debug : (L.x == ("__debug__" : Str)) = false
  inter : interactive L.env = false
/-- what the suspended loop needs of the heap -/
structure Lp.At (L : Lp) (its : Array Value) (i : Nat) (h : Heap) : Prop where
  iter : h.IsListIter L.it L.li i
  list : h.IsList L.li its
  ns : ∃ m, h.Ns L.env.locals m
/-- suspended in the loop -/
def Sus (M : Model) (L : Lp) (fs : List Frame) (gs : GenState) : Prop := ∃ k l p, gs = .suspended k l L.code p fs false ∧
  ∀ (A : Around) (R : Done1) (Z : Out1) (s : Shared), Seg1 M A R Z L.code (.pure (.again L.code)) fs s → Seg1 M A R Z L.code (k (.send .none)) fs s
end Gen1
namespace Gen1
open PySem PySem.Spec PyProof.Rows GenW L2 GenFor
end Gen1
namespace Gen1
open PySem PySem.Spec PyProof.Rows GenW L2 GenFor
/-- what is dead stays dead -/
structure Dead (h h' : Heap) : Prop where
  sz : h.objs.size ≤ h'.objs.size
  dead : ∀ b, b < h.objs.size → h.get? b = none → h'.get? b = none
theorem Dead.refl (h : Heap) : Dead h h := ⟨Nat.le_refl _, fun _ _ e => e⟩
theorem Dead.trans {h h1 h2 : Heap} (a : Dead h h1) (b : Dead h1 h2) : Dead h h2 := ⟨Nat.le_trans a.sz b.sz, fun c hc e => b.dead c (Nat.lt_of_lt_of_le hc a.sz) (a.dead c hc e)⟩
theorem Dead.push {h : Heap} {o : Obj} : Dead h (h.push o) := ⟨by rw [Heap.size_push]; exact Nat.le_succ _, fun b hb e => by
  rw [← e]
  unfold Heap.get?
  rw [show (h.push o).objs = h.objs.push o from rfl, Array.getElem?_push_lt hb, Array.getElem?_eq_getElem hb]⟩
/-- what lies below the mark is as it was -/
def Below (h h' : Heap) : Prop := ∀ b, b < h.objs.size → h'.get? b = h.get? b
theorem Below.push (h : Heap) (o : Obj) : Below h (h.push o) := fun b hb => by
  unfold Heap.get?
  rw [show (h.push o).objs = h.objs.push o from rfl, Array.getElem?_push_lt hb, Array.getElem?_eq_getElem hb]
theorem Below.trans {h h1 h2 : Heap} (a : Below h h1) (b : Below h1 h2) (hs : h.objs.size ≤ h1.objs.size) : Below h h2 := fun c hc => (b c (Nat.lt_of_lt_of_le hc hs)).trans (a c hc)
theorem Below.cells : ∀ (names : List (Str × NameKind)) (h : Heap), Below h (pushCells h names)
  | [], _ => fun _ _ => rfl
  | (_, kind) :: r, h => by
    unfold pushCells
    split
    · exact (Below.push h _).trans (Below.cells r _) (by rw [Heap.size_push]; exact Nat.le_succ _)
    · exact Below.cells r h
end Gen1
namespace Gen1
open PySem PySem.Spec PyProof.Rows GenW L2 GenFor
/-- it raises nothing -/
abbrev E0 : XK := fun _ _ _ => False
end Gen1
namespace Gen1
open PySem PySem.Spec PyProof.Rows GenW L2 GenFor
end Gen1
namespace Gen1
open PySem PySem.Spec PyProof.Rows GenW L2 GenFor GenFr
end Gen1
namespace Gen1
open PySem PySem.Spec PyProof.Rows GenW L2 GenFor GenFr
/-- the loop's state: the generator is suspended at i, nobody looks at its objects -/
structure SSt (B : Cx) (L : Lp) (fs : List Frame) (a : Addr) (g : Nat) (its : Array Value) (i : Nat) (H : Hp) (s : Shared) : Prop where
  sus : ∃ gs, s.gens[g]? = some gs ∧ Sus (model B.prog B.w) L fs gs
  pos : L.At its i s.heap
  gen : s.heap.IsGen a g
  fp : ∀ b ∈ [a, L.env.locals, L.it, L.li], FpOk B [] H b
theorem SSt.obj {B : Cx} {L : Lp} {fs : List Frame} {a : Addr} {g : Nat} {its : Array Value} {i : Nat} {h : Heap} (hp : L.At its i h) (hg : h.IsGen a g) : ∀ b ∈ [a, L.env.locals, L.it, L.li], ∃ o, h.get? b = some o ∧ ∀ v, o.data ≠ .cell v := fun b hb => by
  have hb : b = a ∨ b = L.env.locals ∨ b = L.it ∨ b = L.li := by simpa using hb
  rcases hb with z | z | z | z <;> rw [z]
  · obtain ⟨o, _, _, e, _, d, _⟩ := hg
    exact ⟨o, e, fun v y => by rw [d] at y; cases y⟩
  · obtain ⟨m, o, es, ep, e, d, _⟩ := hp.ns
    exact ⟨o, e, fun v y => by rw [d] at y; cases y⟩
  · obtain ⟨o, e, _, d⟩ := hp.iter
    exact ⟨o, e, fun v y => by rw [d] at y; cases y⟩
  · obtain ⟨o, e, _, n, d⟩ := hp.list
    exact ⟨o, e, fun v y => by rw [d] at y; cases y⟩
end Gen1
namespace Mi
open PySem L2
open PySem.W HeadRun in
theorem pairO {α β γ δ : Type} {o : Option α} {f : α → β} {g : α → γ} {h : α → δ} {b : β} {c : γ} {d : δ} (e1 : o.map f = some b) (e2 : o.map g = some c) (e3 : o.map h = some d) : o.map (fun x => (f x, g x, h x)) = some (b, c, d) := by
  cases o with
  | none => cases e1
  | some x =>
    cases e1
    cases e2
    cases e3
    rfl
open PySem.W HeadRun in
theorem pair2 {α γ δ : Type} {o : Option α} {g : α → γ} {h : α → δ} {c : γ} {d : δ} (e2 : o.map g = some c) (e3 : o.map h = some d) : o.map (fun x => (g x, h x)) = some (c, d) := by
  cases o with
  | none => cases e2
  | some x =>
    cases e2
    cases e3
    rfl
section
open PySem.W HeadRun PySem.Calls
variable {r : OpenRow} {q : Program} {K : Params → Frag} {as ts : List Addr} {ek : ∀ P, as = (K P).map (·.1)} {loose : List PySem.Str} {d : DefRec} {kwd : List (PySem.Str × PySem.Expr)}
abbrev obT (as ts : List Addr) (s : SharedT) : List (Option Obj) × List (Option Obj) := (as.map (getT s), ts.map (getT s))
theorem obT_eq (s : SharedT) : obT as ts s = (kmHook K as ek ts).obs s.abs := by
  show (as.map (getT s), ts.map (getT s)) = (as.map s.abs.heap.get?, ts.map s.abs.heap.get?)
  rw [show (getT s) = s.abs.heap.get? from funext (getT_eq s)]
/-- a law of a plain program -/
theorem head_p (N : Nat) (e : opening r.prog = plainProg r.prog.main.scope.names) (f : ∀ s, fenceModules? r.prog s = some s)
    (r1 : ∀ (w : World) (os : OsState), (endF (stepQ (denQ tabQ) r.prog w) N r.prog w os).map (fun x => looksF r.prog (boot_heap w.params) x.abs) = some true)
    (r2 : ∀ (w : World) (os : OsState), (endF (stepQ (denQ tabQ) r.prog w) N r.prog w os).map (fun x => seenQ q loose (importedModules r.prog.main.body) (fun s => xlAt q [] s && recOk r.toRowW.records s) x.abs) = some (openGood q loose))
    (r3 : ∀ (w : World) (os : OsState), (endF (stepQ (denQ tabQ) r.prog w) N r.prog w os).map (fun x => as.map (getT x)) = some ((K w.params).map fun p => some p.2))
    (r4 : ∀ (w : World) (os : OsState), (endF (stepQ (denQ tabQ) r.prog w) N r.prog w os).map (fun x => ts.map (getT x)) = some (ts.map fun _ => some (tabObj #[])))
    (hdef : defOf q r.name = some (d, kwd)) (hp : r.prog.theDef r.name = some (d.params, d.body, d.scope)) (hk : kwWritten? d.params.kwonlyargs d.params.kw_defaults = some kwd)
    (hwr : (!r.writes || r.records.isEmpty) = true) (k1 : r.wellSaid = true) (ok : (chainsOk q && opensWell r.prog && (frees r.toRowW && r.within.isEmpty)) = true) (hb : r.prog.bare) (hw : r.toRowW.promised)
    (call : WalkO q loose (XL q []) (kmHook K as ek ts).says r.toRowW d kwd fun f vs => PySem.call f vs) : r.Holds :=
  head_any (H := kmHook K as ek ts) (ob := obT as ts) (M := N) (fun s => obT_eq s) e f (fun w os => pairO (r1 w os) (r2 w os) (pair2 (r3 w os) (r4 w os))) hdef hp hk hwr k1 ok hb hw call
end
end Mi
namespace Gen1
open PySem PySem.Spec PyProof.Rows GenW L2 GenFor GenFr
end Gen1
namespace Mi
open PySem L2 Evl Gen1
open PyProof.Rows (envOfC)
end Mi
namespace Mi
open PySem L2 Evl
end Mi
namespace Mi
open PySem L2 Evl
end Mi
namespace ZipG
open PySem
open PySem.Sem (wp)
abbrev nx (u : Value) : Sem Value := Builtin.SmallTypes.nextOf u
section
variable {P : Program} {w : World} {A : Around} {E : Value → Shared → Prop} {s : Shared} {z TI TO T : Addr} {u1 u2 : Value}
/-- what is wanted where an inner one raises while the zip's own tuple is in use -/
def ErZ (z TI TO : Addr) (E : Value → Shared → Prop) : Value → Shared → Prop := fun e s' => IsZip s'.heap z TI TO .ellipsis ∧ ∀ h', IsZip h' z TI TO .none → Heap.SameBut z s'.heap h' → E e { s' with heap := h' }
theorem erz {m : Sem α} {Q : α → Shared → Prop} (h : wpAny (model P w) A m Q (ErZ z TI TO E) s) : wpAny (model P w) A (m.onRaise fun _ => setField (.ref z) 0 .none) Q E s :=
  wpAny_onRaise (wpAny_mono h (fun _ _ q => q) fun e s' ⟨hz, q⟩ => wpAny_setField_rec hz (by simp) fun h' hz' hs' => q h' hz' hs')
/-- the first tuple of a zip, or one behind a tuple that is gone -/
theorem zip_first {Q : Value → Shared → Prop} (hz : IsZip s.heap z TI TO .none) (hTI : IsPair s.heap TI u1 u2) (hne : TO ≠ z)
    (h : ∀ k1, IsZip k1 z TI TO .ellipsis → Heap.SameBut z s.heap k1 → wpAny (model P w) A (nx u1) (fun x s2 => ∃ a b, IsPair s2.heap TO a b ∧ IsZip s2.heap z TI TO .ellipsis ∧ ∀ k3, IsPair k3 TO x b → Heap.SameBut TO s2.heap k3 →
      wpAny (model P w) A (nx u2) (fun y s4 => IsPair s4.heap TO x b ∧ IsZip s4.heap z TI TO .ellipsis ∧ ∀ k6, IsZip k6 z TI TO (rawInt s4.heap.objs.size) → IsPair k6 TO x y → IsPair k6 s4.heap.objs.size x y → k6.objs.size = s4.heap.objs.size + 1 →
        (∀ c o, c ≠ z → c ≠ TO → s4.heap.get? c = some o → k6.get? c = some o) → Q (.ref s4.heap.objs.size) { s4 with heap := k6 }) (ErZ z TI TO E) { s2 with heap := k3 }) (ErZ z TI TO E) { s with heap := k1 }) :
    wpAny (model P w) A (Builtin.«zip.__next__» ⟨[.ref z], []⟩) (fun fin s' => ∃ v, fin = .done (.ret v) ∧ Q v s') E s := by
  show wpAny _ _ (field (.ref z) 2 >>= _) _ _ _
  refine wpAny_bind (wpAny_field hz rfl (x := .bool false) rfl ?_)
  show wpAny _ _ (field (.ref z) 3 >>= _) _ _ _
  refine wpAny_bind (wpAny_field hz rfl (x := .ref TI) rfl (wpAny_bind (wpAny_seqItems hTI rfl ?_)))
  show wpAny _ _ (Builtin.SmallTypes.ownedTupleIsFree (.ref z) >>= _) _ _ _
  refine wpAny_bind ?_
  unfold Builtin.SmallTypes.ownedTupleIsFree
  refine wpAny_bind (wpAny_field hz rfl (x := .none) rfl (wpAny_pure ?_))
  simp only [if_true]
  refine wpAny_bind (wpAny_rule (wpAny_bind (wpAny_field hz rfl (x := .ref TO) rfl (wpAny_bind (wpAny_setField_rec hz (by simp) fun k1 z1 b1 => ?_)))))
  have z1 : IsZip k1 z TI TO .ellipsis := z1
  refine wpAny_bind ?_
  simp only [List.zipIdx_cons, List.zipIdx_nil, List.forIn_cons, List.forIn_nil]
  refine wpAny_bind (wpAny_bind (erz (TI := TI) (TO := TO) ?_))
  show wpAny _ _ (nx u1 >>= _) _ _ _
  refine wpAny_bind (wpAny_mono (h k1 z1 b1) (fun x s2 ⟨a, b, p2, z2, q2⟩ => wpAny_pure ?_) fun _ _ e => e)
  refine wpAny_bind (wpAny_seqItems p2 rfl (wpAny_bind (wpAny_updateSeq_pair p2 fun k3 p3 b3 => wpAny_bind (wpAny_letGo (wpAny_pure ?_)))))
  have p3 : IsPair k3 TO x b := p3
  refine wpAny_bind (wpAny_bind (erz (TI := TI) (TO := TO) ?_))
  show wpAny _ _ (nx u2 >>= _) _ _ _
  refine wpAny_bind (wpAny_mono (q2 k3 p3 b3) (fun y s4 ⟨p4, z4, q4⟩ => wpAny_pure ?_) fun _ _ e => e)
  refine wpAny_bind (wpAny_seqItems p4 rfl (wpAny_bind (wpAny_updateSeq_pair p4 fun k5 p5 b5 => wpAny_bind (wpAny_letGo (wpAny_pure (wpAny_pure ?_))))))
  have p5 : IsPair k5 TO x y := p5
  have sz : k5.objs.size = s4.heap.objs.size := b5.1
  have z5 : IsZip k5 z TI TO .ellipsis := b5.extBut _ _ (Ne.symm hne) z4
  refine wpAny_bind (wpAny_seqItems p5 rfl (wpAny_bind (wpAny_newTuple ?_)))
  show wpAny _ _ (Builtin.SmallTypes.ownedTupleHandOut (.ref z) (.ref k5.objs.size) >>= _) _ _ _
  refine wpAny_bind ?_
  unfold Builtin.SmallTypes.ownedTupleHandOut
  have z6 : IsZip (k5.push { cls := .type "tuple", data := .seq #[x, y] }) z TI TO .ellipsis := Heap.get?_push_of_some _ z5
  refine wpAny_bind (wpAny_setField_rec z6 (by simp) fun k7 z7 b7 => ?_)
  have z7 : IsZip k7 z TI TO (rawInt k5.objs.size) := z7
  refine wpAny_setField_rec z7 (by simp) fun k8 z8 b8 => wpAny_pure ⟨_, rfl, ?_⟩
  have z8 : IsZip k8 z TI TO (rawInt k5.objs.size) := z8
  have up : ∀ c o, c ≠ z → k5.get? c = some o → k8.get? c = some o := fun c o c1 e => b8.extBut _ _ c1 (b7.extBut _ _ c1 (Heap.get?_push_of_some _ e))
  have zl : k5.objs.size ≠ z := Nat.ne_of_gt (Heap.lt_size z5)
  have t8 : IsPair k8 k5.objs.size x y := b8.extBut _ _ zl (b7.extBut _ _ zl (Heap.get?_push_size _ rfl))
  have s8 : k8.objs.size = k5.objs.size + 1 := by rw [b8.1, b7.1, Heap.size_push]
  rw [sz] at z8 t8 s8
  show Q (.ref k5.objs.size) _
  rw [sz]
  exact q4 k8 z8 (up _ _ hne p5) t8 s8 fun c o c1 c2 e => up c o c1 (b5.extBut _ _ c2 e)
/-- a later tuple of a zip, the one before still there -/
theorem zip_later {f : Bool} {oT : Obj} {Q : Value → Shared → Prop} (hz : IsZipHeld s.heap z TI TO T f) (hT : s.heap.get? T = some oT) (hTI : IsPair s.heap TI u1 u2)
    (h : ∀ k1, IsZipHeld k1 z TI TO T true → Heap.SameBut z s.heap k1 → wpAny (model P w) A (nx u1) (fun x s2 => wpAny (model P w) A (nx u2) (fun y s3 => Q (.ref s3.heap.objs.size) { s3 with heap := s3.heap.push { cls := .type "tuple", data := .seq #[x, y] } }) E s2) E { s with heap := k1 }) :
    wpAny (model P w) A (Builtin.«zip.__next__» ⟨[.ref z], []⟩) (fun fin s' => ∃ v, fin = .done (.ret v) ∧ Q v s') E s := by
  show wpAny _ _ (field (.ref z) 2 >>= _) _ _ _
  refine wpAny_bind (wpAny_field hz rfl (x := .bool false) rfl ?_)
  show wpAny _ _ (field (.ref z) 3 >>= _) _ _ _
  refine wpAny_bind (wpAny_field hz rfl (x := .ref TI) rfl (wpAny_bind (wpAny_seqItems hTI rfl ?_)))
  show wpAny _ _ (Builtin.SmallTypes.ownedTupleIsFree (.ref z) >>= _) _ _ _
  refine wpAny_bind (wpAny_tupleHeld_zip hz hT fun k1 z1 b1 => ?_)
  simp only [Bool.false_eq_true, if_false]
  refine wpAny_bind ?_
  rw [← Array.forIn_toList]
  simp only [List.forIn_cons, List.forIn_nil]
  refine wpAny_bind (wpAny_bind (wpAny_holding ?_))
  show wpAny _ _ (nx u1 >>= _) _ _ _
  refine wpAny_bind (wpAny_mono (h k1 z1 b1) (fun x s2 q2 => wpAny_pure (wpAny_pure (wpAny_bind (wpAny_bind (wpAny_holding ?_))))) fun _ _ e => e)
  show wpAny _ _ (nx u2 >>= _) _ _ _
  refine wpAny_bind (wpAny_mono q2 (fun y s3 q3 => wpAny_pure (wpAny_pure (wpAny_pure ?_))) fun _ _ e => e)
  show wpAny _ _ (newTuple [x, y] >>= _) _ _ _
  exact wpAny_bind (wpAny_newTuple (wpAny_pure ⟨_, rfl, q3⟩))
/-- next of a zip -/
theorem next_zip {Q : Option Value → Shared → Prop} (hTy : s.TypeIs (.ref z) "zip")
    (h : wpAny (model P w) A.in1 (Builtin.«zip.__next__» ⟨[.ref z], []⟩) (fun fin s' => ∃ v, fin = .done (.ret v) ∧ Q (some v) s') (fun e s' => ∃ a o, e = .ref a ∧ s'.heap.get? a = some o ∧ o.cls = .type "StopIteration" ∧ Q none s') s) :
    wpAny (model P w) A (pyNext (.ref z)) Q E s := by
  unfold pyNext
  refine wpAny_bind (wpAny_attempt (wpAny_callSpecial?_slot (name := Str.ofString "__next__") hTy F.slot_zip_next
    (wpAny_call_entry F.slot_zip_next hTy F.entry_zip_next (wpAny_mono h (fun fin s' ⟨v, e, q⟩ => ⟨v, e, wpAny_pure q⟩) fun e s' ⟨a, o, ea, ho, hc, q⟩ => ?_) (F.args_zip_next_1 _))))
  subst ea
  exact wpAny_bind (wpAny_isInstance (T := "StopIteration") (b := true) ⟨o, ho, hc⟩ isSubtype_stop (wpAny_pure q))
end
/-- one of the two inner ones: u walks over what stands at l -/
structure Src (P : Program) (w : World) (u l : Addr) (xs : Array Value) (St : Nat → Heap → Prop) : Prop where
  objU : ∀ {i h}, St i h → ∃ o, h.get? u = some o
  objL : ∀ {i h}, St i h → ∃ o, h.get? l = some o
  keep : ∀ {i h h'}, St i h → (∀ o, h.get? u = some o → h'.get? u = some o) → (∀ o, h.get? l = some o → h'.get? l = some o) → St i h'
  item : ∀ {A : Around} {s : Shared} {i : Nat} {x : Value} {Q : Value → Shared → Prop} {E : Value → Shared → Prop}, St i s.heap → xs[i]? = some x → (∀ h', St (i + 1) h' → Heap.SameBut u s.heap h' → Q x { s with heap := h' }) → wpAny (model P w) A (nx (.ref u)) Q E s
  done : ∀ {A : Around} {s : Shared} {i : Nat} {Q : Value → Shared → Prop} {E : Value → Shared → Prop}, A.handled = none → St i s.heap → xs[i]? = none → (∀ h' e, Heap.ExtBut u s.heap h' → (∃ o, h'.get? e = some o ∧ o.cls = .type "StopIteration") → E (.ref e) { s with heap := h' }) → wpAny (model P w) A (nx (.ref u)) Q E s
section
variable {P : Program} {w : World} {A : Around} {E : Value → Shared → Prop} {s : Shared} {z TI TO T i1 i2 l1 l2 : Addr} {xs ys : Array Value} {S1 S2 : Nat → Heap → Prop} {k : Nat}
/-- where a walk over a zip stands -/
structure At (S1 S2 : Nat → Heap → Prop) (z TI TO i1 i2 : Addr) (k : Nat) (h : Heap) : Prop where
  ti : IsPair h TI (.ref i1) (.ref i2)
  s1 : S1 k h
  s2 : S2 k h
def Fresh (z TI TO : Addr) (h : Heap) : Prop := IsZip h z TI TO .none ∧ ∃ a b, IsPair h TO a b
theorem first_item {x y : Value} {Q : Option Value → Shared → Prop} (D : ZipApart z TI TO i1 i2 l1 l2) (R1 : Src P w i1 l1 xs S1) (R2 : Src P w i2 l2 ys S2) (a : At S1 S2 z TI TO i1 i2 k s.heap) (f : Fresh z TI TO s.heap) (hx : xs[k]? = some x) (hy : ys[k]? = some y)
    (hQ : ∀ h', At S1 S2 z TI TO i1 i2 (k + 1) h' → IsZipHeld h' z TI TO s.heap.objs.size false → IsPair h' s.heap.objs.size x y → h'.objs.size = s.heap.objs.size + 1 → (∀ c o, c ≠ z → c ≠ TO → c ≠ i1 → c ≠ i2 → s.heap.get? c = some o → h'.get? c = some o) → Q (some (.ref s.heap.objs.size)) { s with heap := h' }) :
    wpAny (model P w) A (pyNext (.ref z)) Q E s := by
  obtain ⟨hz, pa, pb, hTO⟩ := f
  refine next_zip ⟨_, hz, rfl⟩ (zip_first (Q := fun v s' => Q (some v) s') hz a.ti D.TOz fun k1 z1 b1 => ?_)
  have g1 : S1 k k1 := R1.keep a.s1 (fun o => b1.extBut _ o D.i1z) (fun o => b1.extBut _ o D.l1z)
  have g2 : S2 k k1 := R2.keep a.s2 (fun o => b1.extBut _ o D.i2z) (fun o => b1.extBut _ o D.l2z)
  refine R1.item (s := { s with heap := k1 }) g1 hx fun k2 n1 b2 => ⟨pa, pb, b2.extBut _ _ D.TOi1 (b1.extBut _ _ D.TOz hTO), b2.extBut _ _ (Ne.symm D.i1z) z1, fun k3 p3 b3 => ?_⟩
  have g3 : S2 k k3 := R2.keep (R2.keep g2 (fun o => b2.extBut _ o (Ne.symm D.i12)) (fun o => b2.extBut _ o D.l2i1)) (fun o => b3.extBut _ o (Ne.symm D.TOi2)) (fun o => b3.extBut _ o D.l2TO)
  refine R2.item (s := { s with heap := k3 }) g3 hy fun k4 n2 b4 => ⟨b4.extBut _ _ D.TOi2 p3, b4.extBut _ _ (Ne.symm D.i2z) (b3.extBut _ _ (Ne.symm D.TOz) (b2.extBut _ _ (Ne.symm D.i1z) z1)), fun k6 z6 q6 t6 sz6 up => ?_⟩
  have sz : k4.objs.size = s.heap.objs.size := by
    have e1 := b1.1
    have e2 := b2.1
    have e3 := b3.1
    have e4 := b4.1
    exact e4.trans (e3.trans (e2.trans e1))
  have z6 : IsZip k6 z TI TO (rawInt k4.objs.size) := z6
  have t6 : IsPair k6 k4.objs.size x y := t6
  have sz6 : k6.objs.size = k4.objs.size + 1 := sz6
  rw [sz] at z6 t6 sz6
  show Q (some (.ref k4.objs.size)) _
  rw [sz]
  have up4 : ∀ c o, c ≠ z → c ≠ TO → c ≠ i1 → c ≠ i2 → s.heap.get? c = some o → k6.get? c = some o := fun c o c1 c2 c3 c4 e => up c o c1 c2 (b4.extBut _ _ c4 (b3.extBut _ _ c2 (b2.extBut _ _ c3 (b1.extBut _ _ c1 e))))
  refine hQ k6 ⟨up4 _ _ D.TIz D.TITO D.TIi1 D.TIi2 a.ti, ?_, ?_⟩ z6 t6 sz6 up4
  · refine R1.keep n1 (fun o e => up _ o D.i1z (Ne.symm D.TOi1) (b4.extBut _ _ D.i12 (b3.extBut _ _ (Ne.symm D.TOi1) e))) (fun o e => up _ o D.l1z D.l1TO (b4.extBut _ _ D.l1i2 (b3.extBut _ _ D.l1TO e)))
  · exact R2.keep n2 (fun o e => up _ o D.i2z (Ne.symm D.TOi2) e) (fun o e => up _ o D.l2z D.l2TO e)
theorem later_item {f : Bool} {oT : Obj} {x y : Value} {Q : Option Value → Shared → Prop} (D : ZipApart z TI TO i1 i2 l1 l2) (R1 : Src P w i1 l1 xs S1) (R2 : Src P w i2 l2 ys S2) (a : At S1 S2 z TI TO i1 i2 k s.heap) (hz : IsZipHeld s.heap z TI TO T f) (hT : s.heap.get? T = some oT) (hx : xs[k]? = some x) (hy : ys[k]? = some y)
    (hQ : ∀ h', At S1 S2 z TI TO i1 i2 (k + 1) h' → IsZipHeld h' z TI TO T true → IsPair h' s.heap.objs.size x y → h'.objs.size = s.heap.objs.size + 1 → (∀ c o, c ≠ z → c ≠ i1 → c ≠ i2 → s.heap.get? c = some o → h'.get? c = some o) → Q (some (.ref s.heap.objs.size)) { s with heap := h' }) :
    wpAny (model P w) A (pyNext (.ref z)) Q E s := by
  refine next_zip ⟨_, hz, rfl⟩ (zip_later (Q := fun v s' => Q (some v) s') hz hT a.ti fun k1 z1 b1 => ?_)
  have g1 : S1 k k1 := R1.keep a.s1 (fun o => b1.extBut _ o D.i1z) (fun o => b1.extBut _ o D.l1z)
  have g2 : S2 k k1 := R2.keep a.s2 (fun o => b1.extBut _ o D.i2z) (fun o => b1.extBut _ o D.l2z)
  refine R1.item (s := { s with heap := k1 }) g1 hx fun k2 n1 b2 => ?_
  have g3 : S2 k k2 := R2.keep g2 (fun o => b2.extBut _ o (Ne.symm D.i12)) (fun o => b2.extBut _ o D.l2i1)
  refine R2.item (s := { s with heap := k2 }) g3 hy fun k3 n2 b3 => ?_
  have sz : k3.objs.size = s.heap.objs.size := by
    have e1 := b1.1
    have e2 := b2.1
    have e3 := b3.1
    exact e3.trans (e2.trans e1)
  have up : ∀ c o, c ≠ z → c ≠ i1 → c ≠ i2 → s.heap.get? c = some o → (k3.push { cls := .type "tuple", data := .seq #[x, y] }).get? c = some o := fun c o c1 c3 c4 e => Heap.get?_push_of_some _ (b3.extBut _ _ c4 (b2.extBut _ _ c3 (b1.extBut _ _ c1 e)))
  have tp : IsPair (k3.push { cls := .type "tuple", data := .seq #[x, y] }) k3.objs.size x y := Heap.get?_push_size _ rfl
  have sp : (k3.push { cls := .type "tuple", data := .seq #[x, y] }).objs.size = k3.objs.size + 1 := Heap.size_push ..
  show Q (some (.ref k3.objs.size)) _
  rw [sz] at tp sp ⊢
  refine hQ _ ⟨up _ _ D.TIz D.TIi1 D.TIi2 a.ti, ?_, ?_⟩ (Heap.get?_push_of_some _ (b3.extBut _ _ (Ne.symm D.i2z) (b2.extBut _ _ (Ne.symm D.i1z) z1))) tp sp up
  · exact R1.keep n1 (fun o e => Heap.get?_push_of_some _ (b3.extBut _ _ D.i12 e)) (fun o e => Heap.get?_push_of_some _ (b3.extBut _ _ D.l1i2 e))
  · exact R2.keep n2 (fun o e => Heap.get?_push_of_some _ e) (fun o e => Heap.get?_push_of_some _ e)
theorem first_end {Q : Option Value → Shared → Prop} (hh : A.handled = none) (D : ZipApart z TI TO i1 i2 l1 l2) (R1 : Src P w i1 l1 xs S1) (R2 : Src P w i2 l2 ys S2) (a : At S1 S2 z TI TO i1 i2 k s.heap) (f : Fresh z TI TO s.heap) (hend : xs[k]? = none ∨ ys[k]? = none)
    (hQ : ∀ h', (∀ c o, c ≠ z → c ≠ TO → c ≠ i1 → c ≠ i2 → s.heap.get? c = some o → h'.get? c = some o) → Q none { s with heap := h' }) : wpAny (model P w) A (pyNext (.ref z)) Q E s := by
  obtain ⟨hz, pa, pb, hTO⟩ := f
  refine next_zip ⟨_, hz, rfl⟩ (zip_first (Q := fun v s' => Q (some v) s') hz a.ti D.TOz fun k1 z1 b1 => ?_)
  have g1 : S1 k k1 := R1.keep a.s1 (fun o => b1.extBut _ o D.i1z) (fun o => b1.extBut _ o D.l1z)
  have g2 : S2 k k1 := R2.keep a.s2 (fun o => b1.extBut _ o D.i2z) (fun o => b1.extBut _ o D.l2z)
  have stop : ∀ (h2 : Heap) (e : Addr), IsZip h2 z TI TO .ellipsis → (∃ o, h2.get? e = some o ∧ o.cls = .type "StopIteration") → (∀ c o, c ≠ z → c ≠ TO → c ≠ i1 → c ≠ i2 → s.heap.get? c = some o → h2.get? c = some o) →
      ErZ z TI TO (fun e s' => ∃ a o, e = .ref a ∧ s'.heap.get? a = some o ∧ o.cls = .type "StopIteration" ∧ Q none s') (.ref e) { s with heap := h2 } := fun h2 e z2 ⟨o, ho, hc⟩ up => by
    refine ⟨z2, fun h' z' b' => ⟨e, o, rfl, b'.extBut _ _ (fun ez => ?_) ho, hc, hQ h' fun c o c1 c2 c3 c4 q => b'.extBut _ _ c1 (up c o c1 c2 c3 c4 q)⟩⟩
    have z2 : h2.get? z = some _ := z2
    rw [ez, z2] at ho
    cases ho
    simp at hc
  cases hx : xs[k]? with
  | none => exact R1.done (s := { s with heap := k1 }) hh g1 hx fun h2 e b2 he => stop h2 e (b2 _ _ (Ne.symm D.i1z) z1) he fun c o c1 _ c3 _ q => b2 _ _ c3 (b1.extBut _ _ c1 q)
  | some x =>
    have hy : ys[k]? = none := by rcases hend with h | h; rw [hx] at h; cases h; exact h
    refine R1.item (s := { s with heap := k1 }) g1 hx fun k2 n1 b2 => ⟨pa, pb, b2.extBut _ _ D.TOi1 (b1.extBut _ _ D.TOz hTO), b2.extBut _ _ (Ne.symm D.i1z) z1, fun k3 p3 b3 => ?_⟩
    have g3 : S2 k k3 := R2.keep (R2.keep g2 (fun o => b2.extBut _ o (Ne.symm D.i12)) (fun o => b2.extBut _ o D.l2i1)) (fun o => b3.extBut _ o (Ne.symm D.TOi2)) (fun o => b3.extBut _ o D.l2TO)
    exact R2.done (s := { s with heap := k3 }) hh g3 hy fun h4 e b4 he => stop h4 e (b4 _ _ (Ne.symm D.i2z) (b3.extBut _ _ (Ne.symm D.TOz) (b2.extBut _ _ (Ne.symm D.i1z) z1))) he fun c o c1 c2 c3 c4 q => b4 _ _ c4 (b3.extBut _ _ c2 (b2.extBut _ _ c3 (b1.extBut _ _ c1 q)))
theorem later_end {f : Bool} {oT : Obj} {Q : Option Value → Shared → Prop} (hh : A.handled = none) (D : ZipApart z TI TO i1 i2 l1 l2) (R1 : Src P w i1 l1 xs S1) (R2 : Src P w i2 l2 ys S2) (a : At S1 S2 z TI TO i1 i2 k s.heap) (hz : IsZipHeld s.heap z TI TO T f) (hT : s.heap.get? T = some oT) (hend : xs[k]? = none ∨ ys[k]? = none)
    (hQ : ∀ h', (∀ c o, c ≠ z → c ≠ i1 → c ≠ i2 → s.heap.get? c = some o → h'.get? c = some o) → Q none { s with heap := h' }) : wpAny (model P w) A (pyNext (.ref z)) Q E s := by
  refine next_zip ⟨_, hz, rfl⟩ (zip_later (Q := fun v s' => Q (some v) s') hz hT a.ti fun k1 z1 b1 => ?_)
  have g1 : S1 k k1 := R1.keep a.s1 (fun o => b1.extBut _ o D.i1z) (fun o => b1.extBut _ o D.l1z)
  have g2 : S2 k k1 := R2.keep a.s2 (fun o => b1.extBut _ o D.i2z) (fun o => b1.extBut _ o D.l2z)
  cases hx : xs[k]? with
  | none => exact R1.done (s := { s with heap := k1 }) hh g1 hx fun h2 e b2 ⟨o, ho, hc⟩ => ⟨e, o, rfl, ho, hc, hQ h2 fun c o c1 c3 _ q => b2 _ _ c3 (b1.extBut _ _ c1 q)⟩
  | some x =>
    have hy : ys[k]? = none := by rcases hend with h | h; rw [hx] at h; cases h; exact h
    refine R1.item (s := { s with heap := k1 }) g1 hx fun k2 n1 b2 => ?_
    have g3 : S2 k k2 := R2.keep g2 (fun o => b2.extBut _ o (Ne.symm D.i12)) (fun o => b2.extBut _ o D.l2i1)
    exact R2.done (s := { s with heap := k2 }) hh g3 hy fun h4 e b4 ⟨o, ho, hc⟩ => ⟨e, o, rfl, ho, hc, hQ h4 fun c o c1 c3 c4 q => b4 _ _ c4 (b2.extBut _ _ c3 (b1.extBut _ _ c1 q))⟩
/-- such a zip as what dict() reads -/
theorem arg (D : ZipApart z TI TO i1 i2 l1 l2) (R1 : Src P w i1 l1 xs S1) (R2 : Src P w i2 l2 ys S2) :
    PairArg P w "zip" z [z, TI, TO, i1, i2, l1, l2] [z, TO, i1, i2] (min xs.size ys.size) (fun i k v => xs[i]? = some k ∧ ys[i]? = some v) (fun h => At S1 S2 z TI TO i1 i2 0 h ∧ Fresh z TI TO h) where
  type := fun s ok => ⟨_, ok.2.1, rfl⟩
  notDict := by decide
  keep := fun h h' ⟨a, f⟩ hk => ⟨⟨hk _ _ a.ti, R1.keep a.s1 (hk _) (hk _), R2.keep a.s2 (hk _) (hk _)⟩, hk _ _ f.1, let ⟨x, y, q⟩ := f.2; ⟨x, y, hk _ _ q⟩⟩
  there := fun h ⟨a, f⟩ b hb => by
    obtain ⟨x, y, q⟩ := f.2
    simp only [List.mem_cons, List.not_mem_nil, or_false] at hb
    rcases hb with e | e | e | e | e | e | e <;> rw [e]
    · exact ⟨_, f.1⟩
    · exact ⟨_, a.ti⟩
    · exact ⟨_, q⟩
    · exact R1.objU a.s1
    · exact R2.objU a.s2
    · exact R1.objL a.s1
    · exact R2.objL a.s2
  sub := fun b hb => by simp at hb ⊢; rcases hb with e | e | e | e <;> simp [e]
  noKeys := fun A s Q E hA ok h => getAttrOr_miss_zip ok.2.1 rfl rfl rfl zip_no_keys (by decide +kernel) hA h
  iter := fun A s d Q E hA ⟨a, f⟩ hd hdf h => by
    simp only [List.mem_cons, List.not_mem_nil, or_false, not_or] at hdf
    obtain ⟨dz, dTI, dTO, di1, di2, dl1, dl2⟩ := hdf
    refine wpAny_pyIter_zip f.1 (h z [z, TO, i1, i2] (fun i h => At S1 S2 z TI TO i1 i2 i h ∧ (Fresh z TI TO h ∨ ∃ T f oT, IsZipHeld h z TI TO T f ∧ h.get? T = some oT ∧ T ≠ z ∧ T ≠ i1 ∧ T ≠ i2 ∧ T ≠ d)) s.heap s.toks ?_ ⟨a, .inl f⟩ (fun _ _ e => e) fun b hb => .inl hb)
    refine ⟨fun hm => ?_, fun i h1 h2 ⟨a, zz⟩ hk => ⟨⟨hk _ _ (Ne.symm dTI) a.ti, R1.keep a.s1 (fun o => hk _ o (Ne.symm di1)) (fun o => hk _ o (Ne.symm dl1)), R2.keep a.s2 (fun o => hk _ o (Ne.symm di2)) (fun o => hk _ o (Ne.symm dl2))⟩, ?_⟩, fun i s1 Q1 E1 hi ⟨a, zz⟩ hds hQ => ?_, fun s1 Q1 E1 ⟨a, zz⟩ hQ => ?_⟩
    · simp only [List.mem_cons, List.not_mem_nil, or_false] at hm
      rcases hm with e | e | e | e
      · exact dz e
      · exact dTO e
      · exact di1 e
      · exact di2 e
    · rcases zz with ⟨hz, x, y, q⟩ | ⟨T, f, oT, hz, hT, r1, r2, r3, r4⟩
      · exact .inl ⟨hk _ _ (Ne.symm dz) hz, x, y, hk _ _ (Ne.symm dTO) q⟩
      · exact .inr ⟨T, f, oT, hk _ _ (Ne.symm dz) hz, hk _ _ r4 hT, r1, r2, r3, r4⟩
    · have ex := Array.getElem?_eq_getElem (Nat.lt_of_lt_of_le hi (Nat.min_le_left ..))
      have ey := Array.getElem?_eq_getElem (Nat.lt_of_lt_of_le hi (Nat.min_le_right ..))
      have lt : ∀ {c o}, s1.heap.get? c = some o → s1.heap.objs.size ≠ c := fun e => Nat.ne_of_gt (Heap.lt_size e)
      have n1 : s1.heap.objs.size ≠ i1 := let ⟨_, e⟩ := R1.objU a.s1; lt e
      have n2 : s1.heap.objs.size ≠ i2 := let ⟨_, e⟩ := R2.objU a.s2; lt e
      rcases zz with f | ⟨T, f, oT, hz, hT, r1, r2, r3, r4⟩
      · exact first_item D R1 R2 a f ex ey fun h' a' z' t' _ hk => hQ _ _ _ h' s1.toks ⟨ex, ey⟩ (.inl ⟨_, t', rfl, _, rfl⟩) ⟨a', .inr ⟨_, false, _, z', t', lt f.1, n1, n2, Nat.ne_of_gt hds⟩⟩ fun c o hc e => hk c o (fun x => hc (by simp [x])) (fun x => hc (by simp [x])) (fun x => hc (by simp [x])) (fun x => hc (by simp [x])) e
      · exact later_item D R1 R2 a hz hT ex ey fun h' a' z' t' _ hk => hQ _ _ _ h' s1.toks ⟨ex, ey⟩ (.inl ⟨_, t', rfl, _, rfl⟩) ⟨a', .inr ⟨T, true, oT, z', hk _ _ r1 r2 r3 hT, r1, r2, r3, r4⟩⟩ fun c o hc e => hk c o (fun x => hc (by simp [x])) (fun x => hc (by simp [x])) (fun x => hc (by simp [x])) e
    · have hend : xs[min xs.size ys.size]? = none ∨ ys[min xs.size ys.size]? = none := by
        rcases Nat.le_total xs.size ys.size with h | h
        · exact .inl (Array.getElem?_eq_none (by omega))
        · exact .inr (Array.getElem?_eq_none (by omega))
      rcases zz with f | ⟨T, f, oT, hz, hT, r1, r2, r3, r4⟩
      · exact first_end hA D R1 R2 a f hend fun h' hk => hQ h' s1.toks fun c o hc e => hk c o (fun x => hc (by simp [x])) (fun x => hc (by simp [x])) (fun x => hc (by simp [x])) (fun x => hc (by simp [x])) e
      · exact later_end hA D R1 R2 a hz hT hend fun h' hk => hQ h' s1.toks fun c o hc e => hk c o (fun x => hc (by simp [x])) (fun x => hc (by simp [x])) (fun x => hc (by simp [x])) e
end
end ZipG
namespace Mi
open PySem L2 Evl
end Mi
namespace Gen1
open PySem PySem.Spec PyProof.Rows GenW L2 GenFor
end Gen1
namespace SetTx
open PySem PySem.Spec PyProof.Rows L2
open PySem.Froz (SD sObj TxOk addTx tailTx add_x add_ok is_str)
open PySem.F (called_set sub_list_set sub_list_frozenset)
/-- the set of the texts l at a; its table can be walked -/
def SetS (P : Program) (w : World) (h : Heap) (a : Addr) (l : List Str) : Prop :=
  ∃ D : SD, h.get? a = some (sObj "set" D) ∧ TxOk P w D l ∧ l.Nodup ∧ Ris D.2.2.place.toList ∧ (w.params.followText "set-order" = true ∨ D.2.2.led = true) ∧ l.length < scanBound
section
variable {P : Program} {w : World} {h h' : Heap} {a : Addr} {l : List Str}
theorem SetS.at (R : SetS P w h a l) (k : ∀ o, h.get? a = some o → h'.get? a = some o) : SetS P w h' a l := by
  obtain ⟨D, ho, r⟩ := R
  exact ⟨D, k _ ho, r⟩
end
end SetTx
namespace SetTx
open PySem PySem.Spec PyProof.Rows L2
end SetTx
namespace Mi
open PySem L2 Evl SetTx
end Mi
namespace Mi
open PySem L2 Evl
end Mi
namespace Mi
open PySem L2 Evl
open PySem.SeqAt (RcAt RcNeAt)
end Mi
namespace Mi
open PySem L2 Evl
end Mi
namespace Mi
open PySem L2 Evl
end Mi
namespace Mi
end Mi
namespace Mi
open PySem L2 Evl LamX
open PyProof.Rows (envOfC)
end Mi
namespace Mi
open PySem L2 Evl LamX
open PyProof.Rows (envOfC)
end Mi
namespace Mi
open PySem L2 Evl LamX
end Mi
namespace Mi
open PySem L2 Evl
inductive Mx (α : Type) where
  | dat (d : PyData)
  | obj (x : α)
  | lst (xs : List α)
def Mx.ty {α : Type} (C : Addr) : Mx α → Value
  | .dat d => .type (tyD d)
  | .obj _ => .ref C
  | .lst _ => .type "list"
section
variable {X : Cx} {B : Bs} {env : Env} {os : Os} {pos : Pos} {α β γ : Type} {r : Rp α} {s : Rp β} {a e : Expr} {C : Addr} {fl : γ → List (Str × Slot)}
theorem e_weak {g : α → β} {w : W α} (h : ∀ F v x, r.ok F v x → s.ok F v (g x)) (ha : EE X B env os e r w) : EE X B env os e s (bnd w fun x => ret (g x)) := PE.imp ha fun σ H Q ⟨F, P, S, hw, k⟩ => ⟨F, _, S, hw, fun x hx v F' H' S' e' ok => k (g x) hx v F' H' S' e' (h F' v x ok)⟩
end
end Mi
namespace Mi
open PySem L2 Evl
end Mi
namespace Mi
open PySem L2 Evl
end Mi
namespace Mi
open PySem L2 Evl
end Mi
namespace Mi
open PySem L2 Evl
section
variable {X : Cx} {B : Bs} {env : Env} {os : Os} {pos : Pos} {a b : Expr} {D1 D2 : List (LamD × Bool)} {u1 u2 : Unit}
theorem e_catLam (ha : EE X B env os a (rLamL D1) (ret u1)) (hb : EE X B env os b (rLamL D2) (ret u2)) (hz : (D1 ++ D2).length ≤ sizeLine) : EE X B env os (.BinOp a .Add b pos) (rLamL (D1 ++ D2)) (ret ()) :=
  PE.imp (pe_op op_cat ha (PE.ex (fun _ : Unit => hb))) fun σ H Q ⟨F, P, S, hw, k⟩ => ⟨F, fun _ => P (), S, hw, fun x hx v F1 H1 S1 e1 ⟨p1, vs, q1, h1, z1, ok1⟩ => ⟨x, F1, fun _ => P (), S1, hx, fun y hy u F2 H2 S2 e2 ⟨p2, us, q2, h2, z2, ok2⟩ => by
    have hl : vs.length + us.length ≤ sizeLine := by rw [ok1.length, ok2.length, ← List.length_append]; exact hz
    exact ⟨p1, p2, vs, us, q1, q2, S2.fh _ _ (e2 _ _ h1), S2.fh _ _ h2, hl, fun p hp => by
      obtain ⟨F3, o, e3, g1, ⟨vs', g2, g3, g4⟩, S3⟩ := (S2.newOwn (ow := oLams (D1 ++ D2)) hp ⟨vs ++ us, rfl, by rw [List.length_append]; exact hl, Paired.app (LamsOk.mono e2 ok1) ok2⟩).freeze
      subst g2
      exact k () hy (.ref p) F3 _ S3 ((e1.trans e2).trans e3) ⟨p, vs', rfl, g1, g3, g4⟩⟩⟩⟩
theorem e_catLam3 {d1 d2 d3 : LamD × Bool} (ha : EE X B env os a (rLamL [d1, d2, d3]) (ret u1)) (hb : EE X B env os b (rLamL D2) (ret u2)) (hz : (d1 :: d2 :: d3 :: D2).length ≤ sizeLine) : EE X B env os (.BinOp a .Add b pos) (rLamL (d1 :: d2 :: d3 :: D2)) (ret ()) := e_catLam ha hb hz
end
theorem bg_env {X : Cx} {B : Bs} {env env' : Env} {os : Os} {blk : List Stmt} {β : Type} {post : Post β} {w : W β} (h : env = env') (k : BG X B env' os blk post w) : BG X B env os blk post w := h ▸ k
end Mi
namespace Mi
open PySem L2 Evl
abbrev Fam (α : Type) := List (Nat × Addr × (α → List (Str × Slot)))
theorem lookup_mem {α β : Type} [BEq α] [LawfulBEq α] : ∀ {T : List (α × β)} {t : α} {p : β}, T.lookup t = some p → (t, p) ∈ T
  | (u, q) :: T, t, p, h => by
    rw [List.lookup_cons] at h
    split at h
    · rename_i e
      cases h
      rw [eq_of_beq e]
      exact List.mem_cons_self
    · exact List.mem_cons_of_mem _ (lookup_mem h)
def rFam {α : Type} (T : Fam α) : Rp (Nat × α) := ⟨fun F v x => ∃ p, T.lookup x.1 = some p ∧ (rObj p.1 p.2).ok F v x.2, fun e ⟨p, h1, h2⟩ => ⟨p, h1, (rObj p.1 p.2).mono e h2⟩⟩
/-- data, or such an object -/
inductive Dn (α : Type) where
  | dat (d : PyData)
  | nod (x : α)
def rDn (K : PySem.W.Frag) {α : Type} (r : Rp α) : Rp (Dn α) :=
  ⟨fun F v m => match m with | .dat d => (rD K).ok F v d | .nod x => r.ok F v x, fun {F F' v m} e h => by
    cases m with
    | dat d => exact (rD K).mono e h
    | nod x => exact r.mono e h⟩
def asNod {α : Type} : Dn α → W α
  | .nod x => ret x
  | .dat _ => fail
def asDat {α : Type} : Dn α → W PyData
  | .dat d => ret d
  | .nod _ => fail
def Dn.isNod {α : Type} (k : α → Bool) : Dn α → Bool
  | .nod x => k x
  | .dat _ => false
section
variable {X : Cx} {B : Bs} {env : Env} {os : Os} {pos : Pos} {α β γ : Type} {r : Rp α} {s : Rp β} {a e : Expr} {C : Addr} {T : Fam γ} {fl : γ → List (Str × Slot)} {f : Str}
theorem fam_obj {t : Nat} (h : T.lookup t = some (C, fl)) : ∀ F v (x : γ), (rObj C fl).ok F v x → (rFam T).ok F v (t, x) := fun F v x ok => ⟨(C, fl), h, ok⟩
theorem e_fam {w : W γ} {t : Nat} (h : T.lookup t = some (C, fl)) (ha : EE X B env os e (rObj C fl) w) : EE X B env os e (rFam T) (bnd w fun x => ret (t, x)) := e_weak (fam_obj h) ha
theorem e_dnD {w : W PyData} (ha : EE X B env os e (rD X.K) w) : EE X B env os e (rDn X.K r) (bnd w fun x => ret (.dat x)) := e_weak (fun _ _ _ h => h) ha
theorem e_dnN {w : W α} (ha : EE X B env os e r w) : EE X B env os e (rDn X.K r) (bnd w fun x => ret (.nod x)) := e_weak (fun _ _ _ h => h) ha
theorem e_asNod {w : W (Dn α)} (ha : EE X B env os e (rDn X.K r) w) : EE X B env os e r (bnd w asNod) := PE.imp ha fun σ H Q ⟨F, P, S, hw, k⟩ => ⟨F, _, S, hw, fun x hx v F' H' S' e' ok => by
  cases x with
  | nod x => exact k x hx v F' H' S' e' ok
  | dat d => exact False.elim hx⟩
theorem e_asDat {w : W (Dn α)} (ha : EE X B env os e (rDn X.K r) w) : EE X B env os e (rD X.K) (bnd w asDat) := PE.imp ha fun σ H Q ⟨F, P, S, hw, k⟩ => ⟨F, _, S, hw, fun x hx v F' H' S' e' ok => by
  cases x with
  | dat d => exact k d hx v F' H' S' e' ok
  | nod x => exact False.elim hx⟩
/-- e.f, e of such a class -/
theorem e_fldF {w : W (Nat × γ)} {g : γ → β} (hT : ∀ p ∈ T, Cls X.K p.2.1 ∧ NoAttr X.K p.2.1 f ∧ ∀ x, (p.2.2 x).lookup f = some (sv s (g x))) (he : EE X B env os e (rFam T) w) (hb : attributeBase e f X.env (eval e X.env) = eval e X.env := by rfl) :
    EE X B env os (.Attribute e f pos) s (bnd w fun x => ret (g x.2)) :=
  PE.imp (pe_fld he hb) fun σ H Q ⟨F, P, S, hw, k⟩ => ⟨F, _, S, hw, fun x hx v F1 H1 S1 e1 ⟨p, hp, a, dx, vs, ev, ha, hf⟩ => by
    obtain ⟨c, n, hg⟩ := hT _ (lookup_mem hp)
    obtain ⟨u, h1, u', h2, h3⟩ := hf.get (hg x.2)
    cases h2
    exact ⟨a, p.1, dx, vs, _, ev, S1.fh _ _ ha, c, n, h1, k _ hx _ F1 H1 S1 e1 h3⟩⟩
/-- isinstance(e, D), e of such a class -/
theorem e_isFam {w : W (Nat × γ)} {x : Str} {D : Addr} {k : Nat → Bool} {p1 p2 : Pos} (hc : ∀ p ∈ T, C8.InsC X.K p.2.1) (hk : ∀ p ∈ T, PySem.W.kitOne X.K (.ref p.2.1) (.ref D) = some (k p.1)) (ha : EE X B env os a (rFam T) w) (hm : X.mg "isinstance" = none) (hx : X.mg x = some (.ref D)) (hd : (x == ("__debug__" : Str)) = false := by decide)
    (hg : Gl X "isinstance" := by rfl) (hgx : Gl X x := by rfl) (hs : starEach [a, .Name x p2] X.env = (false, eval a X.env) :: starEach [.Name x p2] X.env := by rfl) (hs2 : starEach [.Name x p2] X.env = (false, eval (.Name x p2) X.env) :: starEach [] X.env := by rfl) (hpl : (backTo pos (starEach [.Name x p2] X.env)).any (·.1) = false := by rfl) :
    EE X B env os (.Call (.Name "isinstance" p1) [a, .Name x p2] [] pos) rBool (bnd w fun d => ret (k d.1)) :=
  PE.imp (pe_callB call_isi hg hm (by decide +kernel) (pa_cons ha (pa_cons (pe_glob (v := .ref D) hgx hx rfl hd) pa_nil hs2) hs) (by decide) (by decide) hs hpl) fun σ H Q ⟨F, P, S, hw, kk⟩ => ⟨F, _, S, hw, fun d hd v F1 H1 S1 e1 ⟨p, hp, ok⟩ =>
    ⟨v, .ref D, _, .ref D, k d.1, rfl, .own D, ty_obj (hc _ (lookup_mem hp)) F1 H1 v d.2 ok S1.fh, hk _ (lookup_mem hp), kk _ hd (.bl _) F1 H1 S1 e1 rfl⟩⟩
/-- .. e data or of such a class -/
theorem e_isDn {w : W (Dn (Nat × γ))} {x : Str} {D : Addr} {k : Nat → Bool} {p1 p2 : Pos} (hD : ∀ d : PyData, PySem.W.kitOne X.K (.type (tyD d)) (.ref D) = some false) (hc : ∀ p ∈ T, C8.InsC X.K p.2.1) (hk : ∀ p ∈ T, PySem.W.kitOne X.K (.ref p.2.1) (.ref D) = some (k p.1)) (ha : EE X B env os a (rDn X.K (rFam T)) w) (hm : X.mg "isinstance" = none) (hx : X.mg x = some (.ref D)) (hd : (x == ("__debug__" : Str)) = false := by decide)
    (hg : Gl X "isinstance" := by rfl) (hgx : Gl X x := by rfl) (hs : starEach [a, .Name x p2] X.env = (false, eval a X.env) :: starEach [.Name x p2] X.env := by rfl) (hs2 : starEach [.Name x p2] X.env = (false, eval (.Name x p2) X.env) :: starEach [] X.env := by rfl) (hpl : (backTo pos (starEach [.Name x p2] X.env)).any (·.1) = false := by rfl) :
    EE X B env os (.Call (.Name "isinstance" p1) [a, .Name x p2] [] pos) rBool (bnd w fun d => ret (d.isNod fun y => k y.1)) :=
  PE.imp (pe_callB call_isi hg hm (by decide +kernel) (pa_cons ha (pa_cons (pe_glob (v := .ref D) hgx hx rfl hd) pa_nil hs2) hs) (by decide) (by decide) hs hpl) fun σ H Q ⟨F, P, S, hw, kk⟩ => ⟨F, _, S, hw, fun d hd v F1 H1 S1 e1 ok => by
    cases d with
    | dat d => exact ⟨v, .ref D, _, .ref D, false, rfl, .own D, ty_D ok S1.fh, hD d, kk _ hd (.bl _) F1 H1 S1 e1 rfl⟩
    | nod d =>
      obtain ⟨p, hp, ok⟩ := ok
      exact ⟨v, .ref D, _, .ref D, k d.1, rfl, .own D, ty_obj (hc _ (lookup_mem hp)) F1 H1 v d.2 ok S1.fh, hk _ (lookup_mem hp), kk _ hd (.bl _) F1 H1 S1 e1 rfl⟩⟩
end
section
variable {X : Cx} {B : Bs} {env : Env} {os : Os} {pos pos' apos p2 : Pos} {α β ι ρ : Type} {e : Expr} {es : List Expr} {rest : List Stmt} {post : Post β} {tb : ETab} {k : Nat} {f C a : Addr} {fd : FuncData} {ps : List Str} {args : ι → Env} {wf : ι → W ρ} {fl : ρ → List (Str × Slot)} {m x : Str} {w : W ι} {w2 : ρ → W β}
theorem b_take {pl : Sem Bool} (i : Nat) (G : FnOk X.prog X.w X.K X.mg X.base (L2.CX X.prog X.w) k f fd ps (spIX X.K tb C args wf fl)) (tk : Takes X (wB X.K tb B)) (hr : Room k X.A) (cl : Cls X.K C) (hm : Meth X.K C m f) (hb : Binds X.K fd ps [])
    (hi : env[i]? = some (sv (rAdr a) ())) (ha : AA X B env ((a, oObj C []) :: os) (e :: es) args w) (hrest : ∀ r, BG X B env ((a, oObj C (fl r)) :: os) rest post (w2 r))
    (hN : X.N[i]? = some x := by rfl) (hv : Vis X.env.scope x := by first | exact Or.inl rfl | exact Or.inr (Or.inl rfl) | exact Or.inr (Or.inr rfl)) (hd : (x == ("__debug__" : Str)) = false := by decide) (hcd : (x == ("__classdict__" : Str)) = false := by decide)
    (hst : starEach (e :: es) X.env = (false, eval e X.env) :: starEach es X.env := by rfl) (hpl : (backTo pos (starEach es X.env)).any (·.1) = false := by rfl)
    (ht : eval (.Call (.Attribute (.Name x p2) m apos) (e :: es) [] pos) X.env = (do
      let ov ← eval (.Name x p2) X.env
      standAt apos.atName
      let (f, first) ← holding [ov] (getMethod ov m pl)
      callWith pos f first (backTo pos (starEach (e :: es) X.env)) (backToKw pos (keywordEach [] X.env))) := by rfl)
    (hs : swapsWith (.Call (.Attribute (.Name x p2) m apos) (e :: es) [] pos) none pos'.line X.env = pure false := by rfl) :
    BG X B env ((a, oObj C []) :: os) (.Expr (.Call (.Attribute (.Name x p2) m apos) (e :: es) [] pos) pos' :: rest) post (bnd w fun i => bnd (wf i) w2) :=
  PSs.imp (pss_cons (ps_expr (pe_meth (pl := pl) (pe_var hN hv hd hcd) cl hm G hr hb .nil (passB tk) ha hst hpl ht) hs) (PSs.ex hrest)) fun D σ H ⟨F, P, S, hw, kk⟩ => by
    obtain ⟨g1, g2, dx, vs, g3, g5⟩ := S.obj (j := 0) hi rfl
    refine ⟨.ref a, g1, a, dx, vs, rfl, g3, g5.none rfl, F, _, S, hw, fun y hy us F2 H2 S2 e2 ok => ?_⟩
    obtain ⟨_, h2, dx2, vs2, h3, h5⟩ := S2.obj (j := 0) hi rfl
    have ev : vs2 = [] := by cases h5; rfl
    subst ev
    refine ⟨y, F2, _, B.E0, a, dx2, us, by rw [List.append_nil], S2.fh, h2, h3, ok, hy, fun r hr F' H' fn ow => ⟨r, F', P, S2.backI fn ow, hr, kk⟩, fun e he cls d F' H' fn er => ⟨e, F', he, S2.backE (fun p hp => ?_) fn, er⟩⟩
    rw [List.mem_singleton.mp hp]
    exact List.mem_cons_self
end
end Mi
namespace Mi
open PySem L2 Evl NdefX
open PyProof.Rows (envOfC)
/-- what the written part says of the __init__ at f, written in the class at D -/
structure SupD (K : PySem.W.Frag) (prog : Program) (D f : Addr) (F : NF) (fd : FuncData) (cc : Addr) : Prop where
  fdE : ∃ kV doc pm ct an, fd = PySem.W.fnX F.name F.qual F.params F.body F.scope [(("__class__" : Str), cc)] .none kV doc pm an (.ref F.c) ct
  look : ∃ oc od osl, K.lookup f = some ⟨oc, od, .func fd, osl⟩
  cl : F.cl = [(("__class__" : Str), cc)]
  cd : PySem.W.codeIn K (.ref F.c) F.qual = true
  cell : ∃ cl cld csl, K.lookup cc = some ⟨cl, cld, .cell (some (.ref D)), csl⟩
  code : ∃ ccl cdd vs ccs file tf, K.lookup F.c = some ⟨ccl, cdd, .fields vs, ccs⟩ ∧ vs[2]? = some (.str file tf) ∧ ((prog.main.file : Str) == file) = true
  cls : ∃ cd, PySem.W.clsIn K D = some cd
  sup : PySem.W.nsIn K mainGlobals "super" = some none
  top : (prog.main.scope.names.lookup ("super" : Str)).isSome = false
/-- .. of the class at C of the object: above D comes the __init__ at g -/
structure SupR (K : PySem.W.Frag) (D C g : Addr) : Prop where
  opq : PySem.W.nsIn K cStatics "thirdparty.any" = some none
  along : PySem.W.ks_superIn K C D "__init__" = some (some (.ref g))
  ty : PySem.W.typeIn K (.ref g) = some (.type "function")
  fi : PySem.W.fnIn K g = true
  mro : PySem.W.mroIn K C (.ref D) = some true
theorem clsIn_at {K : PySem.W.Frag} {D : Addr} {cd : ClassData} {h : Heap} (X : K.In h) (hD : PySem.W.clsIn K D = some cd) : ∃ oD, h.get? D = some oD ∧ oD.data = .cls cd := by
  unfold PySem.W.clsIn at hD
  split at hD
  · rename_i c d cd' sl ho
    cases hD
    exact ⟨_, X _ _ ho, rfl⟩
  · cases hD
def PSa (X : Cx) (body blk : List Stmt) (t : TS) : Prop := ∀ (pins : List (Addr × Obj)) (s : Shared) (σ : L2.St) (H : Hp) (D : Ends), Inv X pins σ H s → t D σ H → wpAt (model X.prog X.w) X.A (.func body X.env) (execs blk X.env) (SP X pins D) X.xe s
section
variable {X : Cx} {body blk rest : List Stmt} {st : Stmt} {t u : TS}
theorem psa_of (h : PSs X blk t) : PSa X body blk t := fun pins s σ H D I q => wpAt_of_wpAny (h.run pins s σ H D I q)
theorem psa_imp {t' : TS} (h : PSa X body blk t) (i : ∀ D σ H, t' D σ H → t D σ H) : PSa X body blk t' := fun pins s σ H D I q => h pins s σ H D I (i _ _ _ q)
theorem psa_ex {ι : Type} {t : ι → TS} (h : ∀ i, PSa X body blk (t i)) : PSa X body blk (fun D σ H => ∃ i, t i D σ H) := fun pins s σ H D I ⟨i, q⟩ => h i pins s σ H D I q
theorem psa_cons (h1 : PS X st t) (h2 : PSa X body rest u) : PSa X body (st :: rest) (tSeq t u) := fun pins s σ H D I q =>
  PySem.ks_wpAt_execs_cons (wpAt_of_wpAny (thn (h1.run pins s σ H { D with nx := u D } I q) fun f s1 q => by
    cases f with
    | next =>
      obtain ⟨σ', H', I', q⟩ := q
      exact h2 pins s1 σ' H' D I' q
    | ret v => exact q
    | brk => exact q
    | cont => exact q))
end
def BGa (X : Cx) (body : List Stmt) (B : Bs) (env : Env) (os : Os) (blk : List Stmt) {β : Type} (post : Post β) (w : W β) : Prop := PSa X body blk (tBG B env os post w)
section
variable {X : Cx} {body : List Stmt} {B : Bs} {env : Env} {os : Os} {pos : Pos} {α β : Type} {r : Rp α} {e c : Expr} {rest blkA : List Stmt} {post : Post β}
theorem bga_of {blk : List Stmt} {w : W β} (h : BG X B env os blk post w) : BGa X body B env os blk post w := psa_of h
theorem bga_expr {w1 : W α} {w2 : W β} (he : EE X B env os e r w1) (hr : BGa X body B env os rest post w2) (hs : swapsWith e none pos.line X.env = pure false := by rfl) : BGa X body B env os (.Expr e pos :: rest) post (bnd w1 fun _ => w2) :=
  psa_imp (psa_cons (ps_expr he hs) hr) fun D σ H ⟨F, P, S, hw, k⟩ => ⟨F, _, S, hw, fun y hy v F' H' S' _ ok => ⟨F', P, S', hy, k⟩⟩
theorem bga_ifA {wc : W Bool} {w1 w2 : W β} (hc : ET X B env os c wc) (hA : BG X B env os blkA (pX post) w1) (hr : BGa X body B env os rest post w2) : BGa X body B env os (.If c blkA [] pos :: rest) post (bnd wc fun b => if b = true then w1 else w2) :=
  psa_imp (psa_cons (ps_if hc hA pss_nil) hr) fun D σ H ⟨F, P, S, hw, k⟩ => ⟨F, _, S, hw, fun b hb F' H' S' _ => by
    cases b with
    | true => exact ⟨F', P, S', hb, fun x hx => ⟨D.nx, k x hx⟩⟩
    | false => exact ⟨F', P, S', hb, k⟩⟩
end
section
variable {P : Program} {w : World} {K : PySem.W.Frag} {mg : Str → Option Value} {base : Heap} {D C f g cc : Addr} {F : NF} {fd : FuncData} {N ps : List Str} {CX : CXT}
/-- super().__init__(..): what is asked -/
def tSup (C : Addr) (sp : Sp) (E : XK) (t : TA) (u : TS) : TS := fun D σ H => ∃ (a dx : Addr) (fs : List (Str × V)), σ[0]? = some (some (.ref a)) ∧ H a = some (.ins C dx fs) ∧ t σ H fun vs H1 => sp (.ref a :: vs) H1 (fun _ H' => u D σ H') E
theorem psa_super {A : Around} {outer : List PySem.Env} {s0 : Shared} {H0 : Hp} {E E' : XK} {p0 p1 p2 p4 pos : Pos} {es : List Expr} {rest : List Stmt} {ar : Arg} {sp : Sp} {t : TA} {u : TS} {k : Nat} {pl : Sem Bool}
    (T : SupD K P D f F fd cc) (R : SupR K D C g) (hsup : mg "super" = none) (G : FnR P w K mg base CX k g sp) (hx : Passes CX (ncx CX P w K mg base N F f A outer s0 H0 E) E') (hr : Room k (A.deeper (envF F f s0.heap.objs.size)))
    (h0 : N[0]? = some ar.arg) (har : (F.params.posonlyargs ++ F.params.args).head? = some ar)
    (hsc1 : F.scope.names.lookup ("super" : Str) = some .globalImplicit) (hsc2 : F.scope.names.lookup ("__class__" : Str) = some .free) (hsc3 : F.scope.names.lookup ar.arg = some .local)
    (ha : PA (ncx CX P w K mg base N F f A outer s0 H0 E) es t) (hes : (es = [] ∧ ∀ σ H Q, t σ H Q → Q [] H) ∨ ∃ e es', es = e :: es' ∧ starEach (e :: es') (envF F f s0.heap.objs.size) = (false, eval e (envF F f s0.heap.objs.size)) :: starEach es' (envF F f s0.heap.objs.size) ∧ (backTo p4 (starEach es' (envF F f s0.heap.objs.size))).any (·.1) = false)
    (he : eval (.Call (.Attribute (.Call (.Name "super" p0) [] [] p1) "__init__" p2) es [] p4) (envF F f s0.heap.objs.size) = (do
      let ov ← attributeBase (.Call (.Name "super" p0) [] [] p1) "__init__" (envF F f s0.heap.objs.size) (eval (.Call (.Name "super" p0) [] [] p1) (envF F f s0.heap.objs.size))
      standAt p2.atName
      let (f', first) ← holding [ov] (getMethod ov "__init__" pl)
      callWith p4 f' first (backTo p4 (starEach es (envF F f s0.heap.objs.size))) []))
    (hint : interactive (envF F f s0.heap.objs.size) = false) (hsw : swapsWith (.Call (.Attribute (.Call (.Name "super" p0) [] [] p1) "__init__" p2) es [] p4) none pos.line (envF F f s0.heap.objs.size) = pure false)
    (hrest : PSa (ncx CX P w K mg base N F f A outer s0 H0 E) F.body rest u) :
    PSa (ncx CX P w K mg base N F f A outer s0 H0 E) F.body (.Expr (.Call (.Attribute (.Call (.Name "super" p0) [] [] p1) "__init__" p2) es [] p4) pos :: rest) (tSup C sp E' t u) := by
  intro pins s σ H DD I ⟨a, dx, fs, hs0, hHa, hq⟩
  obtain ⟨oc, od, osl, hf⟩ := T.look
  obtain ⟨kV, doc, pm, ct, an, efd⟩ := T.fdE
  obtain ⟨cl, cld, csl, hcell⟩ := T.cell
  obtain ⟨ccl, cdd, vs, ccs, file, tf, hcode, hvs, hfile⟩ := T.code
  obtain ⟨cdD, hclD⟩ := T.cls
  have X := I.kIn
  refine PySem.ks_wpAt_execs_cons (PySem.ks_wpAt_Expr_any (PySem.ks_wpAt_MethodCall (pl := pl) ?_ he) hint hsw)
  refine PySem.ks_wpAt_super_base (f := f) (cc := F.c) (fd := fd) (ar := ar) (vs := vs) (file := file) (tf := tf) hsc1 hsc2 (by decide) rfl (X _ _ hf) rfl (by rw [efd]; exact har) rfl (X _ _ hcode) rfl hvs hfile T.top ?_
  refine loadName_blt (X := ncx CX P w K mg base N F f A outer s0 H0 E) I hsc1 hsup (by decide +kernel) ⟨rfl, ?_⟩
  have hcl : (envF F f s0.heap.objs.size).cells.lookup ("__class__" : Str) = some cc := by
    show F.cl.lookup _ = _
    rw [T.cl]
    rfl
  refine wpAny_loadName_free I.ok.kind hsc2 hcl ⟨_, X _ _ hcell, rfl⟩ ?_
  obtain ⟨m, hns, hl⟩ := I.loc
  obtain ⟨u', ru, lu⟩ := hl 0 ar.arg (.ref a) h0 hs0 (.inl hsc3)
  obtain rfl : u' = Value.ref a := ru
  have hma : m ar.arg = some (.ref a) := by
    rcases lu with ⟨_, z⟩ | ⟨z, _⟩
    · exact z
    · rcases z with z | z <;> rw [show (ncx CX P w K mg base N F f A outer s0 H0 E).env.kindOf ar.arg = some .local from hsc3] at z <;> cases z
  refine wpAny_loadName_local I.ok.kind hsc3 hns hma ?_
  obtain ⟨mA, J, _⟩ := ins_get I.hok hHa
  obtain ⟨odx, J, _⟩ := J.look
  obtain ⟨oD, hD, hDd⟩ := clsIn_at X hclD
  obtain ⟨hp, gg, d, tk, os⟩ := s
  refine PySem.ks_wpAny_isType_cls hD hDd ⟨rfl, ?_⟩
  refine PySem.ks_wpAny_call_super hD hDd J.at_ J.cls (fun c e => ?_) (PySem.W.looks_mroIn X R.mro) fun h1 e1 k1 => ?_
  · have := J.no
    unfold PySem.W.notCls at this
    rw [e] at this
    exact Bool.noConfusion this
  have I1 := I.kept (t' := tk) (h' := h1) k1
  have X1 := I1.kIn
  obtain ⟨mA1, J1, _⟩ := ins_get I1.hok hHa
  obtain ⟨odx1, J1, _⟩ := J1.look
  have hal := R.along
  cases hc : PySem.W.clsIn K C with
  | none => unfold PySem.W.ks_superIn at hal; rw [hc] at hal; cases hal
  | some cdC =>
    unfold PySem.W.ks_superIn at hal
    rw [hc] at hal
    obtain ⟨of, hof, hofc⟩ : ∃ of, h1.get? g = some of ∧ of.cls = .type "function" := by
      have ht' : (K.lookup g).map (·.cls) = some (.type "function") := R.ty
      cases z : K.lookup g with
      | none => rw [z] at ht'; cases ht'
      | some of => rw [z] at ht'; exact ⟨of, X1 _ _ z, Option.some.inj ht'⟩
    refine PySem.ks_wpAny_getMethod_super e1 (PySem.W.looks_opaque X1 R.opq) (l₀ := cdC.mro) (fun A Q E s k q => wpAny_bind ((PySem.W.looks_clsIn X1 hc) A _ E s k (wpAny_pure q))) rfl X1 hal hof hofc (PySem.W.ks_ne X1 J1 hc) (by decide) ?_
    have I2 := ClX.met_new (g := g) (C := a) I1
    have fin : ∀ {v : Value} {s4 : Shared}, EP (ncx CX P w K mg base N F f A outer s0 H0 E) pins σ (fun _ H' => u DD σ H') v s4 → wpAt (model P w) (A.deeper (envF F f s0.heap.objs.size)) (.func F.body (envF F f s0.heap.objs.size)) (execs rest (envF F f s0.heap.objs.size)) (SP (ncx CX P w K mg base N F f A outer s0 H0 E) pins DD) (ncx CX P w K mg base N F f A outer s0 H0 E).xe s4 :=
      fun {v s4} ⟨vv, H', I', rv, q⟩ => hrest pins s4 σ H' DD I' q
    show wpAny _ _ (callWith p4 (.ref h1.objs.size) [] _ []) _ _ _
    rcases hes with ⟨rfl, ht⟩ | ⟨e, es', rfl, hst, hpl⟩
    · have hq2 := ht σ H _ hq
      refine PySem.W.callWith_M0 (K := K) (g := g) (self := .ref a) ⟨ClX.pin_at I2, I2.kIn⟩ R.fi ?_
      exact thn (ClX.run_cm (X := ncx CX P w K mg base N F f A outer s0 H0 E) (us := []) (vs := []) G hr hx I2 .nil hq2) fun v s4 q => fin q
    · refine ClX.callwith_cm (X := ncx CX P w K mg base N F f A outer s0 H0 E) I2 (ClX.base_none I1 (Nat.le_refl _)) R.fi (thn (ha.run p4 _ _ σ H _ I2 hq) fun us s3 ⟨vs3, H2, I3, rv, q2⟩ => ⟨⟨ClX.pin_at I3, I3.kIn⟩, ?_⟩) hst hpl
      exact thn (ClX.run_cm (X := ncx CX P w K mg base N F f A outer s0 H0 E) G hr hx I3 rv q2) fun v s4 q => fin q
end
end Mi
namespace Mi
open PySem L2 Evl NdefX
open PyProof.Rows (envOfC)
section
variable {P : Program} {w : World} {K : PySem.W.Frag} {mg : Str → Option Value} {base : Heap} {D C f g cc a : Addr} {F : NF} {fd : FuncData} {N ps : List Str} {tb : ETab} {α β ι ρ : Type} {r : Rp α} {fl : ρ → List (Str × Slot)} {wl : List α → W ρ} {B : Bs} {env : Env} {os : Os} {post : Post β} {w2 : ρ → W β}
theorem bga_super {A : Around} {outer : List PySem.Env} {s0 : Shared} {H0 : Hp} {E : XK} {p0 p1 p2 p4 pos : Pos} {e : Expr} {es : List Expr} {blk : List Stmt} {ar : Arg} {k : Nat} {pl : Sem Bool} {w1 : W (List α)}
    (T : SupD K P D f F fd cc) (R : SupR K D C g) (hsup : mg "super" = none) (G : FnR P w K mg base (L2.CX P w) k g (spISX K tb C r wl fl)) (tk : Takes (ncx (L2.CX P w) P w K mg base N F f A outer s0 H0 E) (wB K tb B)) (hr : Room k (A.deeper (envF F f s0.heap.objs.size)))
    (hi : env[0]? = some (sv (rAdr a) ())) (ha : AL (ncx (L2.CX P w) P w K mg base N F f A outer s0 H0 E) B env ((a, oObj C []) :: os) (e :: es) r w1) (hrest : ∀ z, BGa (ncx (L2.CX P w) P w K mg base N F f A outer s0 H0 E) F.body B env ((a, oObj C (fl z)) :: os) blk post (w2 z))
    (hz : (e :: es).length ≤ sizeLine := by decide) (har : (F.params.posonlyargs ++ F.params.args).head? = some ar := by rfl) (h0 : N[0]? = some ar.arg := by rfl)
    (hsc1 : F.scope.names.lookup ("super" : Str) = some .globalImplicit := by rfl) (hsc2 : F.scope.names.lookup ("__class__" : Str) = some .free := by rfl) (hsc3 : F.scope.names.lookup ar.arg = some .local := by rfl)
    (hst : starEach (e :: es) (envF F f s0.heap.objs.size) = (false, eval e (envF F f s0.heap.objs.size)) :: starEach es (envF F f s0.heap.objs.size) := by rfl) (hpl : (backTo p4 (starEach es (envF F f s0.heap.objs.size))).any (·.1) = false := by rfl)
    (he : eval (.Call (.Attribute (.Call (.Name "super" p0) [] [] p1) "__init__" p2) (e :: es) [] p4) (envF F f s0.heap.objs.size) = (do
      let ov ← attributeBase (.Call (.Name "super" p0) [] [] p1) "__init__" (envF F f s0.heap.objs.size) (eval (.Call (.Name "super" p0) [] [] p1) (envF F f s0.heap.objs.size))
      standAt p2.atName
      let (f', first) ← holding [ov] (getMethod ov "__init__" pl)
      callWith p4 f' first (backTo p4 (starEach (e :: es) (envF F f s0.heap.objs.size))) []) := by rfl)
    (hint : interactive (envF F f s0.heap.objs.size) = false := by rfl) (hsw : swapsWith (.Call (.Attribute (.Call (.Name "super" p0) [] [] p1) "__init__" p2) (e :: es) [] p4) none pos.line (envF F f s0.heap.objs.size) = pure false := by rfl) :
    BGa (ncx (L2.CX P w) P w K mg base N F f A outer s0 H0 E) F.body B env ((a, oObj C []) :: os) (.Expr (.Call (.Attribute (.Call (.Name "super" p0) [] [] p1) "__init__" p2) (e :: es) [] p4) pos :: blk) post (bnd w1 fun xs => bnd (wl xs) w2) :=
  psa_imp (psa_super (sp := spISX K tb C r wl fl) T R hsup G (passB tk) hr h0 har hsc1 hsc2 hsc3 ha (.inr ⟨e, es, rfl, hst, hpl⟩) he hint hsw (psa_ex hrest)) fun DD σ H ⟨Fh, P0, S, hw, kk⟩ => by
    obtain ⟨g1, g2, dx, vs, g3, g5⟩ := S.obj (j := 0) hi rfl
    refine ⟨a, dx, vs, g1, g3, Fh, _, S, hw, fun xs hxs us F2 H2 S2 e2 ok hl => ?_⟩
    obtain ⟨_, h2, dx2, vs2, h3, h5⟩ := S2.obj (j := 0) hi rfl
    have ev : vs2 = [] := by cases h5; rfl
    subst ev
    refine ⟨xs, F2, _, B.E0, a, dx2, us, rfl, S2.fh, h2, h3, ok, by rw [← ok.length, hl]; exact hz, hxs, fun y hy F' H' fn ow => ⟨y, F', P0, S2.backI fn ow, hy, kk⟩, fun x he cls d F' H' fn er => ⟨x, F', he, S2.backE (fun p hp => ?_) fn, er⟩⟩
    rw [List.mem_singleton.mp hp]
    exact List.mem_cons_self
theorem bga_super0 {A : Around} {outer : List PySem.Env} {s0 : Shared} {H0 : Hp} {E : XK} {p0 p1 p2 p4 pos : Pos} {blk : List Stmt} {ar : Arg} {k : Nat} {pl : Sem Bool}
    (T : SupD K P D f F fd cc) (R : SupR K D C g) (hsup : mg "super" = none) (G : FnR P w K mg base (L2.CX P w) k g (spISX K tb C r wl fl)) (tk : Takes (ncx (L2.CX P w) P w K mg base N F f A outer s0 H0 E) (wB K tb B)) (hr : Room k (A.deeper (envF F f s0.heap.objs.size)))
    (hi : env[0]? = some (sv (rAdr a) ())) (hrest : ∀ z, BGa (ncx (L2.CX P w) P w K mg base N F f A outer s0 H0 E) F.body B env ((a, oObj C (fl z)) :: os) blk post (w2 z))
    (har : (F.params.posonlyargs ++ F.params.args).head? = some ar := by rfl) (h0 : N[0]? = some ar.arg := by rfl)
    (hsc1 : F.scope.names.lookup ("super" : Str) = some .globalImplicit := by rfl) (hsc2 : F.scope.names.lookup ("__class__" : Str) = some .free := by rfl) (hsc3 : F.scope.names.lookup ar.arg = some .local := by rfl)
    (he : eval (.Call (.Attribute (.Call (.Name "super" p0) [] [] p1) "__init__" p2) [] [] p4) (envF F f s0.heap.objs.size) = (do
      let ov ← attributeBase (.Call (.Name "super" p0) [] [] p1) "__init__" (envF F f s0.heap.objs.size) (eval (.Call (.Name "super" p0) [] [] p1) (envF F f s0.heap.objs.size))
      standAt p2.atName
      let (f', first) ← holding [ov] (getMethod ov "__init__" pl)
      callWith p4 f' first (backTo p4 (starEach [] (envF F f s0.heap.objs.size))) []) := by rfl)
    (hint : interactive (envF F f s0.heap.objs.size) = false := by rfl) (hsw : swapsWith (.Call (.Attribute (.Call (.Name "super" p0) [] [] p1) "__init__" p2) [] [] p4) none pos.line (envF F f s0.heap.objs.size) = pure false := by rfl) :
    BGa (ncx (L2.CX P w) P w K mg base N F f A outer s0 H0 E) F.body B env ((a, oObj C []) :: os) (.Expr (.Call (.Attribute (.Call (.Name "super" p0) [] [] p1) "__init__" p2) [] [] p4) pos :: blk) post (bnd (wl []) w2) :=
  psa_imp (psa_super (sp := spISX K tb C r wl fl) (t := tNil) T R hsup G (passB tk) hr h0 har hsc1 hsc2 hsc3 pa_nil (.inl ⟨rfl, fun σ H Q h => h⟩) he hint hsw (psa_ex hrest)) fun DD σ H ⟨Fh, P0, S, hw, kk⟩ => by
    obtain ⟨g1, g2, dx, vs, g3, g5⟩ := S.obj (j := 0) hi rfl
    have ev : vs = [] := by cases g5; rfl
    subst ev
    refine ⟨a, dx, [], g1, g3, ?_⟩
    show spISX K tb C r wl fl (V.ref a :: []) H (fun x H' => (fun D σ H => ∃ i, tBG B env ((a, oObj C (fl i)) :: os) post (w2 i) D σ H) DD σ H') (eB K tb B)
    refine ⟨[], Fh, _, B.E0, a, dx, [], rfl, S.fh, g2, g3, .nil, Nat.zero_le _, hw, fun y hy F' H' fn ow => ⟨y, F', P0, S.backI fn ow, hy, kk⟩, fun x he cls d F' H' fn er => ⟨x, F', he, S.backE (fun p hp => ?_) fn, er⟩⟩
    rw [List.mem_singleton.mp hp]
    exact List.mem_cons_self
end
section
variable {P : Program} {w : World} {K : PySem.W.Frag} {mg : Str → Option Value} {base : Heap} {D C f cc : Addr} {F : NF} {fd : FuncData} {N ps : List Str} {tb : ETab} {ι ρ : Type} {args : ι → Env} {wf : ι → W ρ} {fl : ρ → List (Str × Slot)} {k : Nat}
/-- an __init__ that says super().__init__(..) -/
theorem initSup (T : SupD K P D f F fd cc) (S : NScope N ps ["__class__"] F.scope) (hl : ∀ i, (args i).length + 1 = ps.length)
    (body : ∀ (A : Around) (outer : List PySem.Env) (s : Shared) (H : Hp) (E : XK) (B : Bs) (a : Addr) (i : ι), Room k (A.deeper (envF F f s.heap.objs.size)) → Takes (ncx (L2.CX P w) P w K mg base N F f A outer s H E) (wB K tb B) →
      BGa (ncx (L2.CX P w) P w K mg base N F f A outer s H E) F.body B (entry (sv (rAdr a) () :: args i) (N.length - ps.length)) [(a, oObj C [])] F.body (pIn B C a fl) (wf i)) : FnOk P w K mg base (L2.CX P w) (k + 1) f fd ps (spIX K tb C args wf fl) := by
  have len : ∀ vs H Q E, spIX K tb C args wf fl vs H Q E → vs.length = ps.length := fun vs H Q E ⟨i, F, P, PE, x, dx, us, ev, _, _, _, he, _⟩ => by
    have := he.len
    rw [List.length_map] at this
    rw [ev, List.length_cons, ← this, hl i]
  refine ⟨len, fun A outer s H args0 us vs Q E hr e0 hb r hsp => ?_⟩
  have hln := len _ _ _ _ hsp
  obtain ⟨oc, od, osl, hf⟩ := T.look
  obtain ⟨kV, doc, pm, ct, an, efd⟩ := T.fdE
  obtain ⟨cl, cld, csl, hcell⟩ := T.cell
  have hk0 : ∀ b o, base.get? b = some o → s.heap.get? b = some o := fun b o e => (e0.bs b o e).1
  have KX := e0.mod.kin.keeps hk0
  have hce : callEnv fd s.heap.objs.size f = envF F f s.heap.objs.size := by
    rw [efd]
    show PySem.W.envX _ _ _ _ _ [(("__class__" : Str), cc)] = PySem.W.envX _ _ _ _ _ F.cl
    rw [T.cl]
  refine PySem.ks_codeAny_call_defAt (fd := fd) (body := F.body) (binds := ps.zip us) hr.depth (KX _ _ hf) rfl (e0.mod.nolimit.keeps hk0) (by rw [efd]; exact PySem.W.codeRec_of KX T.cd) (by rw [efd]) hb (by rw [efd]; exact S.nocell)
    (fun ⟨n, _⟩ hy => by rw [efd]; exact S.par n (List.of_mem_zip hy).1) (fun h₁ hns kp => ?_) (by rw [efd]; exact S.co) (by rw [efd]; exact S.gen) (by rw [efd]; exact S.kind)
  rw [hce]
  have hcc : base.get? cc = some ⟨cl, cld, .cell (some (.ref D)), csl⟩ := e0.mod.kin _ _ hcell
  have CA : CellsAt F.cl ["__class__"] [none] s.heap H := by
    rw [T.cl]
    refine ⟨rfl, fun y c e => ?_, fun x y c e1 e2 => ?_, fun i y e => ?_⟩
    · have e' : c = cc := by
        rw [List.lookup_cons] at e
        split at e
        · cases e
          rfl
        · cases e
      subst e'
      exact ⟨(e0.bs _ _ hcc).2, _, _, (e0.bs _ _ hcc).1, rfl⟩
    · rw [List.lookup_cons] at e1 e2
      split at e1
      · split at e2
        · rename_i _ a _ b
          exact (beq_iff_eq.mp a).trans (beq_iff_eq.mp b).symm
        · cases e2
      · cases e1
    · cases i with
      | zero =>
        cases e
        exact ⟨cc, rfl, fun v hv => by cases hv⟩
      | succ i => cases e
  have I : Inv (ncx (L2.CX P w) P w K mg base N F f A outer s H E) [] (startF N vs [none]) H { s with heap := h₁, toks := s.toks + (ps.zip us).length } := inv_startN S hr.hd e0 hln r CA hns kp
  have hN : ps.length + 1 ≤ N.length := by
    have q := congrArg List.length S.pre
    rw [List.length_take, List.length_append] at q
    simp only [List.length_cons, List.length_nil] at q
    omega
  have hst : startF N vs [none] = L2.start N vs := by
    unfold startF L2.start
    congr 1
    rw [hln]
    obtain ⟨n, hn⟩ : ∃ n, N.length - ps.length = n + 1 := ⟨N.length - ps.length - 1, by omega⟩
    rw [hn]
    simp [List.replicate_succ]
  obtain ⟨i, F0, P0, PE, a, dx, us', ev, fh, fa, ha, he, hw, hk, hx⟩ := hsp
  subst ev
  have ow : ∀ p ∈ ([(a, oObj C [])] : Os), F0 p.1 = none ∧ ∃ o, H p.1 = some o ∧ p.2.ok F0 o := fun p hp => by
    rw [List.mem_singleton.mp hp]
    exact ⟨fa, _, ha, dx, [], rfl, .nil⟩
  have bodyH := body A outer s H E { bs0 F0 H [(a, oObj C [])] with E0 := PE } a i (hr.deeper _) ((takes_of rfl rfl rfl rfl).imp fun cls d σ H' ⟨e, F', h1, h2, h3⟩ => hx e h1 cls d F' H' ⟨h2.fh, h2.bf, h2.mrk, h2.bb, h2.ios, h2.keep⟩ h3)
  have sit : Sit { bs0 F0 H [(a, oObj C [])] with E0 := PE } F0 H (L2.start N (.ref a :: us')) (entry (sv (rAdr a) () :: args i) (N.length - ps.length)) [(a, oObj C [])] := by
    refine ⟨?_, ?_, fun p hp => ?_, by simp⟩
    · have z := bs0_start fh ow
      exact ⟨z.fh, z.bf, z.mrk, z.bb, z.ios, z.keep⟩
    · rw [← hln]
      exact entry_ok (.cons ⟨_, rfl, rfl⟩ he)
    · obtain ⟨h1, o, h2, h3⟩ := ow p hp
      exact ⟨h1, ⟨o, h2, h3⟩, .inr (List.mem_map_of_mem hp)⟩
  rw [hst] at I
  refine PySem.ks_wpAt_mono (bodyH [] _ _ H { nx := fun _ H' => Q .non H', rt := Q } I ⟨F0, P0, sit, hw, fun y hy => ⟨fun F' H' fn ow => hk y hy F' H' ⟨fn.fh, fn.bf, fn.mrk, fn.bb, fn.ios, fn.keep⟩ ow, fun σ F' H' fn ow => hk y hy F' H' ⟨fn.fh, fn.bf, fn.mrk, fn.bb, fn.ios, fn.keep⟩ ow⟩⟩) (fun fl' s' hs => ?_) fun e s' hs => hs
  have fin : ∀ {σ' : L2.St} {H' : Hp} {v : V} {u : Value}, Inv (ncx (L2.CX P w) P w K mg base N F f A outer s H E) [] σ' H' s' → L2.RelV v u → Q v H' → CE outer P w H s Q u s' :=
    fun {σ' H' v u} J rv q => ⟨v, H', J.os, J.bare, J.base, J.hok, rv, q⟩
  cases fl' with
  | ret u =>
    obtain ⟨v, σ', H', J, rv, q⟩ := hs
    exact fin J rv q
  | next =>
    obtain ⟨σ', H', J, q⟩ := hs
    exact fin (v := V.non) (u := Value.none) J rfl q
  | brk =>
    obtain ⟨_, _, _, q⟩ := hs
    exact False.elim q
  | cont =>
    obtain ⟨_, _, _, q⟩ := hs
    exact False.elim q
end
end Mi
namespace Mi
open PySem L2 Evl
def FsLe : List (Str × Slot) → List (Str × Slot) → Prop
  | [], [] => True
  | (n, s) :: r, (m, t) :: q => n = m ∧ (t = s ∨ t = sa) ∧ FsLe r q
  | _, _ => False
theorem FsLe.of {F : Hp} : ∀ {fs gs : List (Str × Slot)} {vs : List (Str × V)}, FsLe fs gs → Flds F fs vs → Flds F gs vs
  | [], [], _, _, h => h
  | (n, s) :: r, (m, t) :: q, (n', v) :: vs, ⟨e, h1, h2⟩, .cons ⟨e2, h3⟩ h4 => by
    subst e
    refine .cons ⟨e2, ?_⟩ (FsLe.of h2 h4)
    rcases h1 with rfl | rfl
    · exact h3
    · exact trivial
  | [], _ :: _, _, h, _ => h.elim
  | _ :: _, [], _, h, _ => h.elim
theorem obj_le {C : Addr} {fs gs : List (Str × Slot)} (h : FsLe fs gs) : ∀ F o, (oObj C fs).ok F o → (oObj C gs).ok F o := fun F o ⟨dx, vs, h1, h2⟩ => ⟨dx, vs, h1, h.of h2⟩
section
variable {X : Cx} {B : Bs} {env : Env} {os : Os} {pos p : Pos} {ρ α : Type} {r : Rp α} {wf : List α → W ρ} {fl : ρ → List (Str × Slot)} {x : Str} {k : Nat} {f C : Addr} {tb : ETab}
theorem e_makeSX0 (M : Mk X.K C f) (G : FnR X.prog X.w X.K X.mg X.base (L2.CX X.prog X.w) k f (spISX X.K tb C r wf fl)) (tk : Takes X (wB X.K tb B)) (hr : Room (k + 1) X.A) (hm : X.mg x = some (.ref C)) (hg : Gl X x := by rfl) (hdb : (x == ("__debug__" : Str)) = false := by decide) :
    EE X B env os (.Call (.Name x p) [] [] pos) (rObj C fl) (wf []) := by
  have z : PE X (.Call (.Name x p) [] [] pos) (StX.tMakeR C (spISX X.K tb C r wf fl) (eB X.K tb B) tNil) := by
    refine ⟨fun pins s σ H Q I h => ?_⟩
    refine wpAny_Call_Name_kw (ld_glob I hg hm ?_ hdb)
    exact PySem.W.callWith_K0 I.kIn M.kp (StX.run_makeR (us := []) M G hr (passB tk) I .nil h)
  exact PE.imp z fun σ H Q ⟨F, P, S, hw, k⟩ => fun y dy h1 h2 h3 => madeSX S .nil (Nat.zero_le _) hw (fun z hz v F' H' S' e' ok' => k z hz v F' H' S' e' ok') y dy h1 h2 h3
end
theorem pair_erase {R : V → α → Prop} : ∀ {vs : List V} {xs : List α}, Paired R vs xs → ∀ n, Paired R (vs.eraseIdx n) (xs.eraseIdx n)
  | _, _, .nil, n => by simp; exact .nil
  | _, _, .cons h t, 0 => t
  | _, _, .cons h t, n + 1 => .cons h (pair_erase t n)
def popW {α : Type} (xs : List α) (i : Int) : W (α × List α) := chk (0 ≤ i ∧ i < (xs.length : Int) ∧ xs.length < 2 ^ 62) (match xs[i.toNat]? with | some y => ret (y, xs.eraseIdx i.toNat) | none => fail)
section
variable {X : Cx} {B : Bs} {env : Env} {os : Os} {pos pos' : Pos} {α β γ δ κ : Type} {r : Rp α} {s : Rp κ} {e : Expr} {rest : List Stmt} {post : Post β}
def bndP {α β γ : Type} (w : W (α × γ)) (f : α → γ → W β) : W β := bnd w fun p => f p.1 p.2
theorem Ok.bndP {α β γ : Type} {w : W (α × γ)} {f : α → γ → W β} {I : β → Prop} {J : α × γ → Prop} (h : Ok w J) (k : ∀ x y, J (x, y) → Ok (f x y) I) : Ok (Mi.bndP w f) I := Ok.bnd h fun p hp => k p.1 p.2 hp
def EPop (X : Cx) (B : Bs) (env : Env) (os : Os) (e : Expr) (r : Rp α) (os' : γ → Os) (w : W (α × γ)) : Prop := PE X e fun σ H Q => ∃ F P, Sit B F H σ env os ∧ w P B.E0 ∧ ∀ p, P p → ∀ v F' H', Sit B F' H' σ env (os' p.2) → Ex F F' → r.ok F' v p.1 → Q v H'
theorem eo_pop (i j : Nat) {x : Str} {p1 p2 p3 : Pos} {a : Addr} {xs : List α} {w : W Int} (hi : env[i]? = some (sv (rAdr a) ())) (hj : os[j]? = some (a, oLst r xs)) (he : EE X B env os e rInt w)
    (hN : X.N[i]? = some x := by rfl)
    (hv : Vis X.env.scope x := by first | exact Or.inl rfl | exact Or.inr (Or.inl rfl) | exact Or.inr (Or.inr rfl)) (hd : (x == ("__debug__" : Str)) = false := by decide) (hcd : (x == ("__classdict__" : Str)) = false := by decide)
    (hbase : attributeBase (.Name x p1) "pop" X.env (eval (.Name x p1) X.env) = eval (.Name x p1) X.env := by rfl)
    (hfew : ((backTo p3 (starEach [e] X.env)).all (fun x => !x.1) && (backToKw p3 (keywordEach [] X.env)).all (fun x => x.1.isSome) && decide (([e] : List Expr).length + ([] : List Keyword).length + (if ([] : List Keyword).isEmpty then 0 else 1) < 30)) = true := by rfl)
    (hline : (p2.endLine == p3.line) = true := by rfl) (hs : starEach [e] X.env = (false, eval e X.env) :: starEach [] X.env := by rfl) (hplain : (backTo p3 (starEach [] X.env)).any (·.1) = false := by rfl) :
    EPop X B env os (.Call (.Attribute (.Name x p1) "pop" p2) [e] [] p3) r (fun ys : List α => os.set j (a, oLst r ys)) (bnd w fun k => popW xs k) :=
  PE.imp (pe_bm PySem.F.plainAttrs_list PySem.F.slot_list_pop PySem.F.type_list_pop mt_popAt (pe_var hN hv hd hcd) (pa_cons he pa_nil hs) hbase hfew hline hs hplain) fun σ H Q ⟨F, P, S, hw, k⟩ => by
  obtain ⟨g1, g2, vs, g3, g4, g5⟩ := S.own hi hj
  refine ⟨.ref a, g1, .inl ⟨rfl, vs, SqL.of g3⟩, F, _, S, hw, fun y ⟨⟨c1, c2, c3⟩, hy⟩ v F1 H1 S1 e1 ok => ?_⟩
  obtain ⟨_, g2, vs', g3', g4', g5'⟩ := S1.own hi hj
  have hv : v = .int y := ok
  subst hv
  have hn : y.toNat < xs.length := by omega
  have hy : (match xs[y.toNat]? with | some z => ret (z, xs.eraseIdx y.toNat) | none => (fail : W (α × List α))) P B.E0 := hy
  rw [List.getElem?_eq_getElem hn] at hy
  have hl := g5'.length
  obtain ⟨u, hu, okx⟩ := Paired.get g5' (List.getElem?_eq_getElem hn)
  have hix : seqIndex? y vs'.length = some y.toNat := by
    unfold seqIndex?
    rw [if_neg (show ¬ y < 0 by omega)]
    simp
    omega
  refine ⟨a, vs', y, y.toNat, _, rfl, rfl, g3', by omega, by omega, hix, hu, ?_⟩
  refine k _ hy _ F1 _ (S1.change hj ⟨_, rfl, ?_, ?_⟩) e1 okx
  · have := List.length_eraseIdx_le vs' y.toNat
    omega
  · exact pair_erase g5' _
theorem b_setO (t : Nat) {x : Str} {os' : γ → Os} {w : W (α × γ)} {w2 : α → γ → W β} (he : EPop X B env os e r os' w) (hr : ∀ y g, BG X B (env.set t (sv r y)) (os' g) rest post (w2 y g)) (hN : X.N.Nodup) (hi : X.N[t]? = some x := by rfl)
    (hx : Loc X.env.scope x := by first | exact Or.inl rfl | exact Or.inr rfl) (hs : swapsWith e (some (.Name x pos')) pos.line X.env = pure false := by rfl) (hf : X.fn x = true ∨ X.env.scope.names.lookup x = some .local := by first | exact .inl rfl | exact .inr rfl | assumption) :
    BG X B env os (.Assign [.Name x pos'] e pos :: rest) post (bndP w w2) :=
  PSs.imp (pss_cons (ps_set hN hi hx he hs hf) (PSs.ex fun p : α × γ => hr p.1 p.2)) fun D σ H ⟨F, P, S, hw, k⟩ => ⟨F, _, S, hw, fun p hp v F' H' S' _ ok => ⟨p, F', P, S'.store ⟨v, rfl, ok⟩, hp, k⟩⟩
theorem b_parO {t u : Nat} {x y : Str} {a b : Expr} {px py pt : Pos} {kt k2 : Nat} {pt2 : Pos} {os1 : γ → Os} {os2 : δ → Os} {w1 : W (α × γ)} {w2 : γ → W (κ × δ)} {w3 : α → κ → δ → W β} (ha : EPop X B env os a r os1 w1) (hb : ∀ g, EPop X B env (os1 g) b s os2 (w2 g))
    (cc : ∀ {ta : TA}, PA X [a, b] ta → PS X (.Assign [.Tuple [.Name x px, .Name y py] kt pt] (.Tuple [a, b] k2 pt2) pos) (tPar t u ta)) (hr : ∀ y z g, BG X B ((env.set t (sv r y)).set u (sv s z)) (os2 g) rest post (w3 y z g))
    (hs : starEach [a, b] X.env = (false, eval a X.env) :: starEach [b] X.env := by rfl) (hs2 : starEach [b] X.env = (false, eval b X.env) :: starEach [] X.env := by rfl) :
    BG X B env os (.Assign [.Tuple [.Name x px, .Name y py] kt pt] (.Tuple [a, b] k2 pt2) pos :: rest) post (bndP w1 fun y g => bndP (w2 g) fun z h => w3 y z h) :=
  PSs.imp (pss_cons (cc (pa_cons ha (pa_cons (PE.ex hb) pa_nil hs2) hs)) (PSs.ex fun p : α × κ × δ => hr p.1 p.2.1 p.2.2)) fun D σ H ⟨F, P, S, hw, k⟩ => ⟨F, _, S, hw, fun p hp v1 F1 H1 S1 e1 ok1 => ⟨p.2, F1, _, S1, hp, fun q hq v2 F2 H2 S2 e2 ok2 =>
    ⟨v1, v2, rfl, (p.1, q.1, q.2), F2, P, (S2.store (sl := sv r p.1) ⟨v1, rfl, r.mono e2 ok1⟩).store (sl := sv s q.1) ⟨v2, rfl, ok2⟩, hq, k⟩⟩⟩
end
theorem FsLe.nil : FsLe [] [] := trivial
theorem FsLe.same {n : Str} {s : Slot} {r q : List (Str × Slot)} (h : FsLe r q) : FsLe ((n, s) :: r) ((n, s) :: q) := ⟨rfl, .inl rfl, h⟩
theorem FsLe.any {n : Str} {s : Slot} {r q : List (Str × Slot)} (h : FsLe r q) : FsLe ((n, s) :: r) ((n, sa) :: q) := ⟨rfl, .inr rfl, h⟩
section
variable {X : Cx} {B : Bs} {env : Env} {os : Os} {pos pos' apos p2 : Pos} {α β ι ρ κ : Type} {r : Rp α} {s : Rp κ} {e : Expr} {es : List Expr} {rest : List Stmt} {post : Post β} {tb : ETab} {k : Nat} {f C a : Addr} {fd : FuncData} {ps : List Str} {args : ι → Env} {wf : ι → W ρ} {fl : ρ → List (Str × Slot)} {m x : Str} {w : W ι} {w' : W ρ} {w2 : ρ → W β}
theorem al_conv {w w' : W (List α)} (h : AL X B env os es r w) (q : w' = w) : AL X B env os es r w' := q ▸ h
theorem b_take' {pl : Sem Bool} (i : Nat) (G : FnOk X.prog X.w X.K X.mg X.base (L2.CX X.prog X.w) k f fd ps (spIX X.K tb C args wf fl)) (tk : Takes X (wB X.K tb B)) (hr : Room k X.A) (cl : Cls X.K C) (hm : Meth X.K C m f) (hb : Binds X.K fd ps [])
    (hi : env[i]? = some (sv (rAdr a) ())) (ha : AA X B env ((a, oObj C []) :: os) (e :: es) args w) (q : w' = bnd w wf) (hrest : ∀ r, BG X B env ((a, oObj C (fl r)) :: os) rest post (w2 r))
    (hN : X.N[i]? = some x := by rfl) (hv : Vis X.env.scope x := by first | exact Or.inl rfl | exact Or.inr (Or.inl rfl) | exact Or.inr (Or.inr rfl)) (hd : (x == ("__debug__" : Str)) = false := by decide) (hcd : (x == ("__classdict__" : Str)) = false := by decide)
    (hst : starEach (e :: es) X.env = (false, eval e X.env) :: starEach es X.env := by rfl) (hpl : (backTo pos (starEach es X.env)).any (·.1) = false := by rfl)
    (ht : eval (.Call (.Attribute (.Name x p2) m apos) (e :: es) [] pos) X.env = (do
      let ov ← eval (.Name x p2) X.env
      standAt apos.atName
      let (f, first) ← holding [ov] (getMethod ov m pl)
      callWith pos f first (backTo pos (starEach (e :: es) X.env)) (backToKw pos (keywordEach [] X.env))) := by rfl)
    (hs : swapsWith (.Call (.Attribute (.Name x p2) m apos) (e :: es) [] pos) none pos'.line X.env = pure false := by rfl) :
    BG X B env ((a, oObj C []) :: os) (.Expr (.Call (.Attribute (.Name x p2) m apos) (e :: es) [] pos) pos' :: rest) post (bnd w' w2) := by
  subst q
  exact b_conv (b_take i G tk hr cl hm hb hi ha hrest hN hv hd hcd hst hpl ht hs) rfl
/-- x, y = a new list of one's own, e -/
theorem b_parN {t u : Nat} {x y : Str} {a b : Expr} {px py pt : Pos} {kt k2 : Nat} {pt2 : Pos} {w1 : W (List α)} {w2 : List α → W κ} {w3 : List α → κ → W β} (ha : EN X B env os a r w1) (hb : ∀ D xs, EE X B env ((D, oLst r xs) :: os) b s (w2 xs))
    (cc : ∀ {ta : TA}, PA X [a, b] ta → PS X (.Assign [.Tuple [.Name x px, .Name y py] kt pt] (.Tuple [a, b] k2 pt2) pos) (tPar t u ta)) (hr : ∀ D xs z, BG X B ((env.set t (sv (rAdr D) ())).set u (sv s z)) ((D, oLst r xs) :: os) rest post (w3 xs z))
    (hs : starEach [a, b] X.env = (false, eval a X.env) :: starEach [b] X.env := by rfl) (hs2 : starEach [b] X.env = (false, eval b X.env) :: starEach [] X.env := by rfl) :
    BG X B env os (.Assign [.Tuple [.Name x px, .Name y py] kt pt] (.Tuple [a, b] k2 pt2) pos :: rest) post (bnd w1 fun xs => bnd (w2 xs) fun z => w3 xs z) :=
  PSs.imp (pss_cons (cc (pa_cons ha (pa_cons (PE.ex fun p : Addr × List α => hb p.1 p.2) pa_nil hs2) hs)) (PSs.ex fun p : Addr × List α × κ => hr p.1 p.2.1 p.2.2)) fun D σ H ⟨F, P, S, hw, k⟩ => ⟨F, _, S, hw, fun xs hxs q F1 H1 S1 e1 => ⟨(q, xs), F1, _, S1, hxs, fun z hz v2 F2 H2 S2 e2 ok2 =>
    ⟨.ref q, v2, rfl, (q, xs, z), F2, P, (S2.store (sl := sv (rAdr q) ()) ⟨.ref q, rfl, rfl⟩).store (sl := sv s z) ⟨v2, rfl, ok2⟩, hz, k⟩⟩⟩
end
section
variable {X : Cx} {B : Bs} {env : Env} {os : Os} {pos : Pos} {α β γ δ κ : Type} {r : Rp α} {s : Rp κ} {rest : List Stmt} {post : Post β}
/-- the same where the tuple is made -/
theorem b_parNT {t u : Nat} {x y : Str} {a b : Expr} {px py pt : Pos} {kt k2 : Nat} {pt2 : Pos} {w1 : W (List α)} {w2 : List α → W κ} {w3 : List α → κ → W β} (ha : EN X B env os a r w1) (hb : ∀ D xs, EE X B env ((D, oLst r xs) :: os) b s (w2 xs))
    (cc : ∀ {ta : TA}, PA X [a, b] ta → PS X (.Assign [.Tuple [.Name x px, .Name y py] kt pt] (.Tuple [a, b] k2 pt2) pos) (tAsg (tTup ta) (gTup X.K 2 (gCons (gName t) (gCons (gName u) gNil))))) (hr : ∀ D xs z, BG X B ((env.set t (sv (rAdr D) ())).set u (sv s z)) ((D, oLst r xs) :: os) rest post (w3 xs z))
    (hs : starEach [a, b] X.env = (false, eval a X.env) :: starEach [b] X.env := by rfl) (hs2 : starEach [b] X.env = (false, eval b X.env) :: starEach [] X.env := by rfl) :
    BG X B env os (.Assign [.Tuple [.Name x px, .Name y py] kt pt] (.Tuple [a, b] k2 pt2) pos :: rest) post (bnd w1 fun xs => bnd (w2 xs) fun z => w3 xs z) :=
  PSs.imp (pss_cons (cc (pa_cons ha (pa_cons (PE.ex fun p : Addr × List α => hb p.1 p.2) pa_nil hs2) hs)) (PSs.ex fun p : Addr × List α × κ => hr p.1 p.2.1 p.2.2)) fun D σ H ⟨F, P, S, hw, k⟩ => ⟨F, _, S, hw, fun xs hxs q F1 H1 S1 e1 => ⟨(q, xs), F1, _, S1, hxs, fun z hz v2 F2 H2 S2 e2 ok2 =>
    ⟨(by show 2 ≤ sizeLine; decide), fun p hp => by
      have g : Grow F2 H2 (upd F2 p (.tup [.ref q, v2])) (upd H2 p (.tup [.ref q, v2])) := Grow.alloc S2.fh hp
      have S3 := S2.grow g
      exact ⟨p, [.ref q, v2], rfl, SqT.of upd_same, rfl, .ref q, [v2], rfl, v2, [], rfl, rfl, (q, xs, z), _, P, (S3.store (sl := sv (rAdr q) ()) ⟨.ref q, rfl, rfl⟩).store (sl := sv s z) ⟨v2, rfl, s.mono g.f ok2⟩, hz, k⟩⟩⟩⟩
theorem b_parOT {t u : Nat} {x y : Str} {a b : Expr} {px py pt : Pos} {kt k2 : Nat} {pt2 : Pos} {os1 : γ → Os} {os2 : δ → Os} {w1 : W (α × γ)} {w2 : γ → W (κ × δ)} {w3 : α → κ → δ → W β} (ha : EPop X B env os a r os1 w1) (hb : ∀ g, EPop X B env (os1 g) b s os2 (w2 g))
    (cc : ∀ {ta : TA}, PA X [a, b] ta → PS X (.Assign [.Tuple [.Name x px, .Name y py] kt pt] (.Tuple [a, b] k2 pt2) pos) (tAsg (tTup ta) (gTup X.K 2 (gCons (gName t) (gCons (gName u) gNil))))) (hr : ∀ y z g, BG X B ((env.set t (sv r y)).set u (sv s z)) (os2 g) rest post (w3 y z g))
    (hs : starEach [a, b] X.env = (false, eval a X.env) :: starEach [b] X.env := by rfl) (hs2 : starEach [b] X.env = (false, eval b X.env) :: starEach [] X.env := by rfl) :
    BG X B env os (.Assign [.Tuple [.Name x px, .Name y py] kt pt] (.Tuple [a, b] k2 pt2) pos :: rest) post (bndP w1 fun y g => bndP (w2 g) fun z h => w3 y z h) :=
  PSs.imp (pss_cons (cc (pa_cons ha (pa_cons (PE.ex hb) pa_nil hs2) hs)) (PSs.ex fun p : α × κ × δ => hr p.1 p.2.1 p.2.2)) fun D σ H ⟨F, P, S, hw, k⟩ => ⟨F, _, S, hw, fun p hp v1 F1 H1 S1 e1 ok1 => ⟨p.2, F1, _, S1, hp, fun q hq v2 F2 H2 S2 e2 ok2 =>
    ⟨(by show 2 ≤ sizeLine; decide), fun a1 ha1 => by
      have g : Grow F2 H2 (upd F2 a1 (.tup [v1, v2])) (upd H2 a1 (.tup [v1, v2])) := Grow.alloc S2.fh ha1
      have S3 := S2.grow g
      exact ⟨a1, [v1, v2], rfl, SqT.of upd_same, rfl, v1, [v2], rfl, v2, [], rfl, rfl, (p.1, q.1, q.2), _, P, (S3.store (sl := sv r p.1) ⟨v1, rfl, r.mono (e2.trans g.f) ok1⟩).store (sl := sv s q.1) ⟨v2, rfl, s.mono g.f ok2⟩, hq, k⟩⟩⟩⟩
end
section
variable {K : PySem.W.Frag} {B : Bs} {env : Env} {os : Os} {tb : ETab} {ι ρ : Type} {args : ι → Env} {wf : ι → W ρ} {C : Addr} {fl : ρ → List (Str × Slot)}
theorem spm_XN2 : SpM (spIX K tb C args wf fl) E0 B env os C args (fun i => noX (wf i)) fl := ⟨fun {F H σ vs i P Q} S ok hw k x dx hx hdx hne => by
  have g : Grow F H (upd F dx (.own x)) (upd H dx (.own x)) := Grow.alloc S.fh hdx
  have S1 := S.grow g
  have hx1 : upd H dx (.own x) x = none := by rw [upd_ne (Ne.symm hne)]; exact hx
  have S2 := S1.newOwn (o := .ins C dx []) (ow := oObj C []) hx1 ⟨dx, [], rfl, .nil⟩
  refine ⟨i, upd F dx (.own x), P, fun _ => False, x, dx, vs, rfl, S2.fh, ?_, upd_same, ok.mono g.f, hw, fun r hr F' H' fn ow => ⟨rfl, ?_⟩, fun e he => False.elim he⟩
  · exact (S2.ow (x, oObj C []) List.mem_cons_self).1
  · obtain ⟨F2, o, e2, h1, ⟨dx', vs', h2, h3⟩, S4⟩ := (S2.backI fn ow).freeze
    subst h2
    exact k r hr (.ref x) F2 H' S4 ((g.f.trans fn.bf).trans e2) ⟨x, dx', vs', rfl, h1, h3⟩⟩
end
section
variable {K : PySem.W.Frag} {B : Bs} {env env' : Env} {os : Os} {tb : ETab} {ι ρ : Type} {args : ι → Env} {wf : ι → W ρ} {C : Addr} {fl : ρ → List (Str × Slot)}
theorem spm_X2 : SpM (spIX K tb C args wf fl) (eB K tb B) B env os C args wf fl := ⟨fun {F H σ vs i P Q} S ok hw k x dx hx hdx hne => by
  have g : Grow F H (upd F dx (.own x)) (upd H dx (.own x)) := Grow.alloc S.fh hdx
  have S1 := S.grow g
  have hx1 : upd H dx (.own x) x = none := by rw [upd_ne (Ne.symm hne)]; exact hx
  have S2 := S1.newOwn (o := .ins C dx []) (ow := oObj C []) hx1 ⟨dx, [], rfl, .nil⟩
  refine ⟨i, upd F dx (.own x), P, B.E0, x, dx, vs, rfl, S2.fh, ?_, upd_same, ok.mono g.f, hw, fun r hr F' H' fn ow => ⟨rfl, ?_⟩, fun e he cls d F' H' fn er => ⟨e, F', he, S2.backEI (S1.fin.fresh hx1) fn, er⟩⟩
  · exact (S2.ow (x, oObj C []) List.mem_cons_self).1
  · obtain ⟨F2, o, e2, h1, ⟨dx', vs', h2, h3⟩, S4⟩ := (S2.backI fn ow).freeze
    subst h2
    exact k r hr (.ref x) F2 H' S4 ((g.f.trans fn.bf).trans e2) ⟨x, dx', vs', rfl, h1, h3⟩⟩
/-- slots may be forgotten -/
theorem bg_le {X : Cx} {blk : List Stmt} {β : Type} {post : Post β} {w : W β} (h : EnvLe env env') (k : BG X B env' os blk post w) : BG X B env os blk post w := PSs.imp k fun D σ H ⟨F, P, S, hw, q⟩ => ⟨F, P, S.le h, hw, q⟩
end
end Mi
local macro_rules | `(tactic| walk_at "wn") => `(tactic| first | with_reducible rfl | simp only [Mi.wn_bb, Mi.wn_br, Mi.wn_rb])
local macro_rules | `(tactic| walk_at "lev") => `(tactic| first | decide | exact Nat.le_refl _ | exact Nat.le_trans (by decide) (Nat.le_add_right _ _))
local macro_rules | `(tactic| walk_at "loc") => `(tactic| first | exact Or.inl rfl | exact Or.inr rfl)
namespace K26
open PySem L2 Evl Mi
def topS (i : Nat) : Stmt := PySem.Challenge.pw_anydial_k26_bounds_of_values.main.body.getD i (.Pass ⟨0, 0, 0, 0⟩)
abbrev s_is_whole : Stmt := topS 17
abbrev N_is_whole : List Str := ["value"]
theorem sc_is_whole : FnScope N_is_whole ["value"] (defScope s_is_whole) := ⟨rfl, rfl, rfl, by decide +kernel, rfl, by decide +kernel, by decide +kernel⟩
abbrev s_is_number : Stmt := topS 18
abbrev N_is_number : List Str := ["value", "least", "most"]
theorem sc_is_number : FnScope N_is_number ["value", "least", "most"] (defScope s_is_number) := ⟨rfl, rfl, rfl, by decide +kernel, rfl, by decide +kernel, by decide +kernel⟩
abbrev s_need_number : Stmt := topS 19
abbrev N_need_number : List Str := ["value", "least", "most"]
theorem sc_need_number : FnScope N_need_number ["value", "least", "most"] (defScope s_need_number) := ⟨rfl, rfl, rfl, by decide +kernel, rfl, by decide +kernel, by decide +kernel⟩
abbrev s_is_name : Stmt := topS 20
abbrev N_is_name : List Str := ["value", "sign"]
theorem sc_is_name : FnScope N_is_name ["value"] (defScope s_is_name) := ⟨rfl, rfl, rfl, by decide +kernel, rfl, by decide +kernel, by decide +kernel⟩
abbrev s_is_term : Stmt := topS 22
abbrev N_is_term : List Str := ["value"]
theorem sc_is_term : FnScope N_is_term ["value"] (defScope s_is_term) := ⟨rfl, rfl, rfl, by decide +kernel, rfl, by decide +kernel, by decide +kernel⟩
abbrev s_gathered_terms : Stmt := topS 24
abbrev N_gathered_terms : List Str := ["terms", "found", "at", "term"]
theorem sc_gathered_terms : FnScope N_gathered_terms ["terms"] (defScope s_gathered_terms) := ⟨rfl, rfl, rfl, by decide +kernel, rfl, by decide +kernel, by decide +kernel⟩
abbrev s_Form_init : Stmt := inClass (topS 23) 0
abbrev N_Form_init : List Str := ["self", "terms", "constant", "known", "name"]
theorem sc_Form_init : FnScope N_Form_init ["self", "terms", "constant"] (defScope s_Form_init) := ⟨rfl, rfl, rfl, by decide +kernel, rfl, by decide +kernel, by decide +kernel⟩
abbrev s_Form_constant : Stmt := inClass (topS 23) 2
abbrev N_Form_constant : List Str := ["self"]
theorem sc_Form_constant : FnScope N_Form_constant ["self"] (defScope s_Form_constant) := ⟨rfl, rfl, rfl, by decide +kernel, rfl, by decide +kernel, by decide +kernel⟩
abbrev s_Form_terms : Stmt := inClass (topS 23) 3
abbrev N_Form_terms : List Str := ["self", "name"]
theorem sc_Form_terms : FnScope N_Form_terms ["self"] (defScope s_Form_terms) := ⟨rfl, rfl, rfl, by decide +kernel, rfl, by decide +kernel, by decide +kernel⟩
abbrev s_is_small : Stmt := topS 33
abbrev N_is_small : List Str := ["form", "coef", "name"]
theorem sc_is_small : FnScope N_is_small ["form"] (defScope s_is_small) := ⟨rfl, rfl, rfl, by decide +kernel, rfl, by decide +kernel, by decide +kernel⟩
abbrev s_Value_take : Stmt := inClass (topS 34) 1
abbrev N_Value_take : List Str := ["self", "parts", "part"]
theorem sc_Value_take : FnScope N_Value_take ["self", "parts"] (defScope s_Value_take) := ⟨rfl, rfl, rfl, by decide +kernel, rfl, by decide +kernel, by decide +kernel⟩
abbrev s_Value_init : Stmt := inClass (topS 34) 0
abbrev N_Value_init : List Str := ["self", "parts", "part"]
theorem sc_Value_init : FnScope N_Value_init ["self", "parts"] (defScope s_Value_init) := ⟨rfl, rfl, rfl, by decide +kernel, rfl, by decide +kernel, by decide +kernel⟩
abbrev s_Number_init : Stmt := inClass (topS 35) 0
abbrev N_Number_init : List Str := ["self", "number", "__class__"]
theorem ns_Number_init : NdefX.NScope N_Number_init ["self", "number"] ["__class__"] (defScope s_Number_init) := NdefX.nscope_by (by decide +kernel)
abbrev s_Pair_init : Stmt := inClass (topS 37) 1
abbrev N_Pair_init : List Str := ["self", "one", "other", "__class__"]
theorem ns_Pair_init : NdefX.NScope N_Pair_init ["self", "one", "other"] ["__class__"] (defScope s_Pair_init) := NdefX.nscope_by (by decide +kernel)
abbrev s_Total_init : Stmt := inClass (topS 41) 0
abbrev N_Total_init : List Str := ["self", "name", "one", "__class__"]
theorem ns_Total_init : NdefX.NScope N_Total_init ["self", "name", "one"] ["__class__"] (defScope s_Total_init) := NdefX.nscope_by (by decide +kernel)
abbrev s_need_tests : Stmt := topS 45
abbrev N_need_tests : List Str := ["parts", "part"]
theorem sc_need_tests : FnScope N_need_tests ["parts"] (defScope s_need_tests) := ⟨rfl, rfl, rfl, by decide +kernel, rfl, by decide +kernel, by decide +kernel⟩
abbrev s_Round_init : Stmt := inClass (topS 46) 0
abbrev N_Round_init : List Str := ["self", "form", "__class__"]
theorem ns_Round_init : NdefX.NScope N_Round_init ["self", "form"] ["__class__"] (defScope s_Round_init) := NdefX.nscope_by (by decide +kernel)
abbrev s_Divides_init : Stmt := inClass (topS 47) 0
abbrev N_Divides_init : List Str := ["self", "number", "__class__"]
theorem ns_Divides_init : NdefX.NScope N_Divides_init ["self", "number"] ["__class__"] (defScope s_Divides_init) := NdefX.nscope_by (by decide +kernel)
abbrev s_Not_init : Stmt := inClass (topS 48) 0
abbrev N_Not_init : List Str := ["self", "one", "__class__"]
theorem ns_Not_init : NdefX.NScope N_Not_init ["self", "one"] ["__class__"] (defScope s_Not_init) := NdefX.nscope_by (by decide +kernel)
abbrev s_And_init : Stmt := inClass (topS 49) 0
abbrev N_And_init : List Str := ["self", "one", "other", "__class__"]
theorem ns_And_init : NdefX.NScope N_And_init ["self", "one", "other"] ["__class__"] (defScope s_And_init) := NdefX.nscope_by (by decide +kernel)
abbrev s_Or_init : Stmt := inClass (topS 50) 0
abbrev N_Or_init : List Str := ["self", "one", "other", "__class__"]
theorem ns_Or_init : NdefX.NScope N_Or_init ["self", "one", "other"] ["__class__"] (defScope s_Or_init) := NdefX.nscope_by (by decide +kernel)
abbrev s_law_bag : Stmt := topS 52
abbrev N_law_bag : List Str := ["_law_script", "_law_mark", "_law_cell"]
theorem sc_law_bag : FnScope N_law_bag ["_law_script"] (defScope s_law_bag) := ⟨rfl, rfl, rfl, by decide +kernel, rfl, by decide +kernel, by decide +kernel⟩
abbrev s_law_draw : Stmt := topS 53
abbrev N_law_draw : List Str := ["_law_bag_here", "_law_most", "_law_cell", "_law_digit", "_law_base", "_law_late"]
theorem sc_law_draw : FnScope N_law_draw ["_law_bag_here", "_law_most"] (defScope s_law_draw) := ⟨rfl, rfl, rfl, by decide +kernel, rfl, by decide +kernel, by decide +kernel⟩
abbrev s_law_any : Stmt := topS 54
abbrev N_law_any : List Str := ["_law_bag_here", "_law_some"]
theorem sc_law_any : FnScope N_law_any ["_law_bag_here", "_law_some"] (defScope s_law_any) := ⟨rfl, rfl, rfl, by decide +kernel, rfl, by decide +kernel, by decide +kernel⟩
abbrev s_law_same : Stmt := topS 55
abbrev N_law_same : List Str := ["_law_found", "_law_due"]
theorem sc_law_same : FnScope N_law_same ["_law_found", "_law_due"] (defScope s_law_same) := ⟨rfl, rfl, rfl, by decide +kernel, rfl, by decide +kernel, by decide +kernel⟩
abbrev s_law_field : Stmt := topS 56
abbrev N_law_field : List Str := ["_law_e"]
theorem sc_law_field : FnScope N_law_field ["_law_e"] (defScope s_law_field) := ⟨rfl, rfl, rfl, by decide +kernel, rfl, by decide +kernel, by decide +kernel⟩
abbrev s_law_got : Stmt := topS 57
abbrev N_law_got : List Str := ["_law_ask", "_law_e"]
theorem sc_law_got : FnScope N_law_got ["_law_ask"] (defScope s_law_got) := ⟨rfl, rfl, rfl, by decide +kernel, rfl, by decide +kernel, by decide +kernel⟩
abbrev s_law_all_got : Stmt := topS 58
abbrev N_law_all_got : List Str := ["_law_asks", "_law_ask"]
theorem sc_law_all_got : FnScope N_law_all_got ["_law_asks"] (defScope s_law_all_got) := ⟨rfl, rfl, rfl, by decide +kernel, rfl, by decide +kernel, by decide +kernel⟩
abbrev s_law_tests_so : Stmt := topS 59
abbrev N_law_tests_so : List Str := ["_law_whole", "_law_tall", "_law_k", "_law_one", "_law_other", "_law_made", "_law_asks"]
theorem sc_law_tests_so : FnScope N_law_tests_so [] (defScope s_law_tests_so) := ⟨rfl, rfl, rfl, by decide +kernel, rfl, by decide +kernel, by decide +kernel⟩
abbrev s_law : Stmt := topS 60
abbrev N_law : List Str := ["_law_script", "_law_bag_here", "_law_turn", "_law_made", "_law_k", "_law_way", "_law_tall", "_law_asks", "_law_rows", "_law_at", "_law_one", "_law_other", "_law_whole", "_law_full", "_law_deep", "_law_flat"]
theorem sc_law : FnScope N_law ["_law_script"] (defScope s_law) := ⟨rfl, rfl, rfl, by decide +kernel, rfl, by decide +kernel, by decide +kernel⟩
/-- where the defs stand -/
structure Ad where
  f_is_whole : Addr
  d_is_whole : FuncData
  f_is_number : Addr
  d_is_number : FuncData
  f_need_number : Addr
  d_need_number : FuncData
  f_is_name : Addr
  d_is_name : FuncData
  f_is_term : Addr
  d_is_term : FuncData
  f_gathered_terms : Addr
  d_gathered_terms : FuncData
  f_Form_init : Addr
  d_Form_init : FuncData
  f_Form_constant : Addr
  d_Form_constant : FuncData
  f_Form_terms : Addr
  d_Form_terms : FuncData
  f_is_small : Addr
  d_is_small : FuncData
  f_Value_take : Addr
  d_Value_take : FuncData
  f_Value_init : Addr
  d_Value_init : FuncData
  f_Number_init : Addr
  d_Number_init : FuncData
  f_Pair_init : Addr
  d_Pair_init : FuncData
  f_Total_init : Addr
  d_Total_init : FuncData
  f_need_tests : Addr
  d_need_tests : FuncData
  f_Round_init : Addr
  d_Round_init : FuncData
  f_Divides_init : Addr
  d_Divides_init : FuncData
  f_Not_init : Addr
  d_Not_init : FuncData
  f_And_init : Addr
  d_And_init : FuncData
  f_Or_init : Addr
  d_Or_init : FuncData
  f_law_bag : Addr
  d_law_bag : FuncData
  f_law_draw : Addr
  d_law_draw : FuncData
  f_law_any : Addr
  d_law_any : FuncData
  f_law_same : Addr
  d_law_same : FuncData
  f_law_field : Addr
  d_law_field : FuncData
  f_law_got : Addr
  d_law_got : FuncData
  f_law_all_got : Addr
  d_law_all_got : FuncData
  f_law_tests_so : Addr
  d_law_tests_so : FuncData
  f_law : Addr
  d_law : FuncData
  c_And : Addr
  c_Divides : Addr
  c_Form : Addr
  c_Marks : Addr
  c_Minus : Addr
  c_Not : Addr
  c_Number : Addr
  c_Or : Addr
  c_Pair : Addr
  c_Plus : Addr
  c_Round : Addr
  c_Test : Addr
  c_Times : Addr
  c_Total : Addr
  c_Value : Addr
  p_Form_constant : Addr
  c_DialError : Addr
  c_InvalidForm : Addr
  c_InvalidName : Addr
  c_InvalidNumber : Addr
  c_InvalidTest : Addr
  c_InvalidValue : Addr
  c_Missing : Addr
  c_TooDeep : Addr
  c_TooMany : Addr
  fx_InvalidNumber : Addr
  cc_InvalidNumber : Addr
  kx_InvalidNumber : Addr
  d_xInvalidNumber : FuncData
  fx_InvalidName : Addr
  cc_InvalidName : Addr
  kx_InvalidName : Addr
  d_xInvalidName : FuncData
  fx_InvalidForm : Addr
  cc_InvalidForm : Addr
  kx_InvalidForm : Addr
  d_xInvalidForm : FuncData
  fx_InvalidTest : Addr
  cc_InvalidTest : Addr
  kx_InvalidTest : Addr
  d_xInvalidTest : FuncData
  fx_InvalidValue : Addr
  cc_InvalidValue : Addr
  kx_InvalidValue : Addr
  d_xInvalidValue : FuncData
  fx_TooMany : Addr
  cc_TooMany : Addr
  kx_TooMany : Addr
  d_xTooMany : FuncData
  fx_TooDeep : Addr
  cc_TooDeep : Addr
  kx_TooDeep : Addr
  d_xTooDeep : FuncData
  cs_Number : Addr
  ks_Number : Addr
  cs_Pair : Addr
  ks_Pair : Addr
  cs_Total : Addr
  ks_Total : Addr
  cs_Round : Addr
  ks_Round : Addr
  cs_Divides : Addr
  ks_Divides : Addr
  cs_Not : Addr
  ks_Not : Addr
  cs_And : Addr
  ks_And : Addr
  cs_Or : Addr
  ks_Or : Addr
  g_WORDS : Addr
  e_Form_init_0 : Addr
abbrev tbl (ad : Ad) : ETab := [("InvalidNumber", ad.c_InvalidNumber, some "given"), ("InvalidName", ad.c_InvalidName, some "given"), ("InvalidForm", ad.c_InvalidForm, some "at"), ("InvalidTest", ad.c_InvalidTest, some "given"), ("InvalidValue", ad.c_InvalidValue, some "given"), ("TooMany", ad.c_TooMany, some "most"), ("TooDeep", ad.c_TooDeep, some "most")]
abbrev ftb : FTab := [("InvalidNumber", some "given"), ("InvalidName", some "given"), ("InvalidForm", some "at"), ("InvalidTest", some "given"), ("InvalidValue", some "given"), ("TooMany", some "most"), ("TooDeep", some "most")]
abbrev sx_InvalidNumber : Stmt := inClass (topS 4) 0
abbrev nf_InvalidNumber (ad : Ad) : NdefX.NF := { name := "__init__", qual := "InvalidNumber.__init__", params := defArgs sx_InvalidNumber, body := defBody sx_InvalidNumber, scope := defScope sx_InvalidNumber, cl := [("__class__", ad.cc_InvalidNumber)], c := ad.kx_InvalidNumber }
theorem ns_InvalidNumber : NdefX.NScope ["self", "given", "__class__"] ["self", "given"] ["__class__"] (defScope sx_InvalidNumber) := NdefX.nscope_by (by decide +kernel)
theorem sa_InvalidNumber : (defScope sx_InvalidNumber).names.lookup ("super" : Str) = some .globalImplicit := by decide +kernel
theorem sb_InvalidNumber : (defScope sx_InvalidNumber).names.lookup ("__class__" : Str) = some .free := by decide +kernel
abbrev sx_InvalidName : Stmt := inClass (topS 5) 0
abbrev nf_InvalidName (ad : Ad) : NdefX.NF := { name := "__init__", qual := "InvalidName.__init__", params := defArgs sx_InvalidName, body := defBody sx_InvalidName, scope := defScope sx_InvalidName, cl := [("__class__", ad.cc_InvalidName)], c := ad.kx_InvalidName }
theorem ns_InvalidName : NdefX.NScope ["self", "given", "__class__"] ["self", "given"] ["__class__"] (defScope sx_InvalidName) := NdefX.nscope_by (by decide +kernel)
theorem sa_InvalidName : (defScope sx_InvalidName).names.lookup ("super" : Str) = some .globalImplicit := by decide +kernel
theorem sb_InvalidName : (defScope sx_InvalidName).names.lookup ("__class__" : Str) = some .free := by decide +kernel
abbrev sx_InvalidForm : Stmt := inClass (topS 6) 0
abbrev nf_InvalidForm (ad : Ad) : NdefX.NF := { name := "__init__", qual := "InvalidForm.__init__", params := defArgs sx_InvalidForm, body := defBody sx_InvalidForm, scope := defScope sx_InvalidForm, cl := [("__class__", ad.cc_InvalidForm)], c := ad.kx_InvalidForm }
theorem ns_InvalidForm : NdefX.NScope ["self", "at", "__class__"] ["self", "at"] ["__class__"] (defScope sx_InvalidForm) := NdefX.nscope_by (by decide +kernel)
theorem sa_InvalidForm : (defScope sx_InvalidForm).names.lookup ("super" : Str) = some .globalImplicit := by decide +kernel
theorem sb_InvalidForm : (defScope sx_InvalidForm).names.lookup ("__class__" : Str) = some .free := by decide +kernel
abbrev sx_InvalidTest : Stmt := inClass (topS 7) 0
abbrev nf_InvalidTest (ad : Ad) : NdefX.NF := { name := "__init__", qual := "InvalidTest.__init__", params := defArgs sx_InvalidTest, body := defBody sx_InvalidTest, scope := defScope sx_InvalidTest, cl := [("__class__", ad.cc_InvalidTest)], c := ad.kx_InvalidTest }
theorem ns_InvalidTest : NdefX.NScope ["self", "given", "__class__"] ["self", "given"] ["__class__"] (defScope sx_InvalidTest) := NdefX.nscope_by (by decide +kernel)
theorem sa_InvalidTest : (defScope sx_InvalidTest).names.lookup ("super" : Str) = some .globalImplicit := by decide +kernel
theorem sb_InvalidTest : (defScope sx_InvalidTest).names.lookup ("__class__" : Str) = some .free := by decide +kernel
abbrev sx_InvalidValue : Stmt := inClass (topS 8) 0
abbrev nf_InvalidValue (ad : Ad) : NdefX.NF := { name := "__init__", qual := "InvalidValue.__init__", params := defArgs sx_InvalidValue, body := defBody sx_InvalidValue, scope := defScope sx_InvalidValue, cl := [("__class__", ad.cc_InvalidValue)], c := ad.kx_InvalidValue }
theorem ns_InvalidValue : NdefX.NScope ["self", "given", "__class__"] ["self", "given"] ["__class__"] (defScope sx_InvalidValue) := NdefX.nscope_by (by decide +kernel)
theorem sa_InvalidValue : (defScope sx_InvalidValue).names.lookup ("super" : Str) = some .globalImplicit := by decide +kernel
theorem sb_InvalidValue : (defScope sx_InvalidValue).names.lookup ("__class__" : Str) = some .free := by decide +kernel
abbrev sx_TooMany : Stmt := inClass (topS 9) 0
abbrev nf_TooMany (ad : Ad) : NdefX.NF := { name := "__init__", qual := "TooMany.__init__", params := defArgs sx_TooMany, body := defBody sx_TooMany, scope := defScope sx_TooMany, cl := [("__class__", ad.cc_TooMany)], c := ad.kx_TooMany }
theorem ns_TooMany : NdefX.NScope ["self", "most", "__class__"] ["self", "most"] ["__class__"] (defScope sx_TooMany) := NdefX.nscope_by (by decide +kernel)
theorem sa_TooMany : (defScope sx_TooMany).names.lookup ("super" : Str) = some .globalImplicit := by decide +kernel
theorem sb_TooMany : (defScope sx_TooMany).names.lookup ("__class__" : Str) = some .free := by decide +kernel
abbrev sx_TooDeep : Stmt := inClass (topS 10) 0
abbrev nf_TooDeep (ad : Ad) : NdefX.NF := { name := "__init__", qual := "TooDeep.__init__", params := defArgs sx_TooDeep, body := defBody sx_TooDeep, scope := defScope sx_TooDeep, cl := [("__class__", ad.cc_TooDeep)], c := ad.kx_TooDeep }
theorem ns_TooDeep : NdefX.NScope ["self", "most", "__class__"] ["self", "most"] ["__class__"] (defScope sx_TooDeep) := NdefX.nscope_by (by decide +kernel)
theorem sa_TooDeep : (defScope sx_TooDeep).names.lookup ("super" : Str) = some .globalImplicit := by decide +kernel
theorem sb_TooDeep : (defScope sx_TooDeep).names.lookup ("__class__" : Str) = some .free := by decide +kernel
abbrev nf_Number_init (ad : Ad) : NdefX.NF := { name := "__init__", qual := "Number.__init__", params := defArgs s_Number_init, body := defBody s_Number_init, scope := defScope s_Number_init, cl := [("__class__", ad.cs_Number)], c := ad.ks_Number }
abbrev nf_Pair_init (ad : Ad) : NdefX.NF := { name := "__init__", qual := "Pair.__init__", params := defArgs s_Pair_init, body := defBody s_Pair_init, scope := defScope s_Pair_init, cl := [("__class__", ad.cs_Pair)], c := ad.ks_Pair }
abbrev nf_Total_init (ad : Ad) : NdefX.NF := { name := "__init__", qual := "Total.__init__", params := defArgs s_Total_init, body := defBody s_Total_init, scope := defScope s_Total_init, cl := [("__class__", ad.cs_Total)], c := ad.ks_Total }
abbrev nf_Round_init (ad : Ad) : NdefX.NF := { name := "__init__", qual := "Round.__init__", params := defArgs s_Round_init, body := defBody s_Round_init, scope := defScope s_Round_init, cl := [("__class__", ad.cs_Round)], c := ad.ks_Round }
abbrev nf_Divides_init (ad : Ad) : NdefX.NF := { name := "__init__", qual := "Divides.__init__", params := defArgs s_Divides_init, body := defBody s_Divides_init, scope := defScope s_Divides_init, cl := [("__class__", ad.cs_Divides)], c := ad.ks_Divides }
abbrev nf_Not_init (ad : Ad) : NdefX.NF := { name := "__init__", qual := "Not.__init__", params := defArgs s_Not_init, body := defBody s_Not_init, scope := defScope s_Not_init, cl := [("__class__", ad.cs_Not)], c := ad.ks_Not }
abbrev nf_And_init (ad : Ad) : NdefX.NF := { name := "__init__", qual := "And.__init__", params := defArgs s_And_init, body := defBody s_And_init, scope := defScope s_And_init, cl := [("__class__", ad.cs_And)], c := ad.ks_And }
abbrev nf_Or_init (ad : Ad) : NdefX.NF := { name := "__init__", qual := "Or.__init__", params := defArgs s_Or_init, body := defBody s_Or_init, scope := defScope s_Or_init, cl := [("__class__", ad.cs_Or)], c := ad.ks_Or }
structure Form_ where
  own_terms : (List (Str × Int))
  own_constant : Int
abbrev fl_Form (K : PySem.W.Frag) (ad : Ad) (x : Form_) : List (Str × Slot) := [("own_terms", sv (rDct rStr Sum.inr rInt) x.own_terms), ("own_constant", sv rInt x.own_constant)]
structure Value_ where
  depth : Int
  size : Int
abbrev fl_Value (K : PySem.W.Frag) (ad : Ad) (x : Value_) : List (Str × Slot) := [("depth", sv rInt x.depth), ("size", sv rInt x.size), ("own_parts", sa)]
abbrev fl_Number (K : PySem.W.Frag) (ad : Ad) (x : Value_) : List (Str × Slot) := [("depth", sv rInt x.depth), ("size", sv rInt x.size), ("own_parts", sa), ("number", sa)]
abbrev fl_Pair (K : PySem.W.Frag) (ad : Ad) (x : Value_) : List (Str × Slot) := [("depth", sv rInt x.depth), ("size", sv rInt x.size), ("own_parts", sa), ("one", sa), ("other", sa)]
abbrev fl_Total (K : PySem.W.Frag) (ad : Ad) (x : Value_) : List (Str × Slot) := [("depth", sv rInt x.depth), ("size", sv rInt x.size), ("own_parts", sa), ("name", sa), ("one", sa)]
abbrev fl_Round (K : PySem.W.Frag) (ad : Ad) (x : Value_) : List (Str × Slot) := [("depth", sv rInt x.depth), ("size", sv rInt x.size), ("own_parts", sa), ("form", sa)]
abbrev fl_Divides (K : PySem.W.Frag) (ad : Ad) (x : Value_) : List (Str × Slot) := [("depth", sv rInt x.depth), ("size", sv rInt x.size), ("own_parts", sa), ("number", sa)]
abbrev fl_Not (K : PySem.W.Frag) (ad : Ad) (x : Value_) : List (Str × Slot) := [("depth", sv rInt x.depth), ("size", sv rInt x.size), ("own_parts", sa), ("one", sa)]
abbrev fl_And (K : PySem.W.Frag) (ad : Ad) (x : Value_) : List (Str × Slot) := [("depth", sv rInt x.depth), ("size", sv rInt x.size), ("own_parts", sa), ("one", sa), ("other", sa)]
abbrev fl_Or (K : PySem.W.Frag) (ad : Ad) (x : Value_) : List (Str × Slot) := [("depth", sv rInt x.depth), ("size", sv rInt x.size), ("own_parts", sa), ("one", sa), ("other", sa)]
abbrev fam (K : PySem.W.Frag) (ad : Ad) : Fam Value_ := [(0, ad.c_Number, fl_Number K ad), (1, ad.c_Marks, fl_Value K ad), (2, ad.c_Plus, fl_Pair K ad), (3, ad.c_Minus, fl_Pair K ad), (4, ad.c_Times, fl_Pair K ad), (5, ad.c_Total, fl_Total K ad), (6, ad.c_Round, fl_Round K ad), (7, ad.c_Divides, fl_Divides K ad), (8, ad.c_Not, fl_Not K ad), (9, ad.c_And, fl_And K ad), (10, ad.c_Or, fl_Or K ad)]
def fk_Test (t : Nat) : Bool := decide (t ∈ ([6, 7, 8, 9, 10] : List Nat))
def fk_Value (t : Nat) : Bool := decide (t ∈ ([0, 1, 2, 3, 4, 5, 6, 7, 8, 9, 10] : List Nat))
structure Txt (P : Program) (K : PySem.W.Frag) (mg : Str → Option Value) (ad : Ad) : Prop where
  b_abs : mg "abs" = none
  b_all : mg "all" = none
  b_bool : mg "bool" = none
  b_dict : mg "dict" = none
  b_enumerate : mg "enumerate" = none
  b_int : mg "int" = none
  b_isinstance : mg "isinstance" = none
  b_len : mg "len" = none
  b_list : mg "list" = none
  b_max : mg "max" = none
  b_range : mg "range" = none
  b_repr : mg "repr" = none
  b_sorted : mg "sorted" = none
  b_str : mg "str" = none
  b_sum : mg "sum" = none
  b_super : mg "super" = none
  b_tuple : mg "tuple" = none
  m_is_whole : mg "is_whole" = some (.ref ad.f_is_whole)
  F_is_whole : Fun K "is_whole" "is_whole" s_is_whole ad.f_is_whole ad.d_is_whole
  bd_is_whole : Binds K ad.d_is_whole ["value"] []
  m_is_number : mg "is_number" = some (.ref ad.f_is_number)
  F_is_number : Fun K "is_number" "is_number" s_is_number ad.f_is_number ad.d_is_number
  bd_is_number : Binds K ad.d_is_number ["value", "least", "most"] []
  m_need_number : mg "need_number" = some (.ref ad.f_need_number)
  F_need_number : Fun K "need_number" "need_number" s_need_number ad.f_need_number ad.d_need_number
  bd_need_number : Binds K ad.d_need_number ["value", "least", "most"] []
  m_is_name : mg "is_name" = some (.ref ad.f_is_name)
  F_is_name : Fun K "is_name" "is_name" s_is_name ad.f_is_name ad.d_is_name
  bd_is_name : Binds K ad.d_is_name ["value"] []
  m_is_term : mg "is_term" = some (.ref ad.f_is_term)
  F_is_term : Fun K "is_term" "is_term" s_is_term ad.f_is_term ad.d_is_term
  bd_is_term : Binds K ad.d_is_term ["value"] []
  m_gathered_terms : mg "gathered_terms" = some (.ref ad.f_gathered_terms)
  F_gathered_terms : Fun K "gathered_terms" "gathered_terms" s_gathered_terms ad.f_gathered_terms ad.d_gathered_terms
  bd_gathered_terms : Binds K ad.d_gathered_terms ["terms"] []
  F_Form_init : FunE K "__init__" "Form.__init__" s_Form_init ad.f_Form_init ad.d_Form_init
  F_Form_constant : Fun K "constant" "Form.constant" s_Form_constant ad.f_Form_constant ad.d_Form_constant
  bd_Form_constant : Binds K ad.d_Form_constant ["self"] []
  F_Form_terms : Fun K "terms" "Form.terms" s_Form_terms ad.f_Form_terms ad.d_Form_terms
  bd_Form_terms : Binds K ad.d_Form_terms ["self"] []
  m_is_small : mg "is_small" = some (.ref ad.f_is_small)
  F_is_small : Fun K "is_small" "is_small" s_is_small ad.f_is_small ad.d_is_small
  bd_is_small : Binds K ad.d_is_small ["form"] []
  F_Value_take : Fun K "take" "Value.take" s_Value_take ad.f_Value_take ad.d_Value_take
  bd_Value_take : Binds K ad.d_Value_take ["self", "parts"] []
  F_Value_init : Fun K "__init__" "Value.__init__" s_Value_init ad.f_Value_init ad.d_Value_init
  bs_Value_init : BindStar K ad.d_Value_init "self" "parts"
  sd_Number : SupD K P ad.c_Number ad.f_Number_init (nf_Number_init ad) ad.d_Number_init ad.cs_Number
  bd_Number_init : Binds K ad.d_Number_init ["self", "number"] []
  sd_Pair : SupD K P ad.c_Pair ad.f_Pair_init (nf_Pair_init ad) ad.d_Pair_init ad.cs_Pair
  bd_Pair_init : Binds K ad.d_Pair_init ["self", "one", "other"] []
  sd_Total : SupD K P ad.c_Total ad.f_Total_init (nf_Total_init ad) ad.d_Total_init ad.cs_Total
  bd_Total_init : Binds K ad.d_Total_init ["self", "name", "one"] []
  m_need_tests : mg "need_tests" = some (.ref ad.f_need_tests)
  F_need_tests : Fun K "need_tests" "need_tests" s_need_tests ad.f_need_tests ad.d_need_tests
  bd_need_tests : Binds K ad.d_need_tests ["parts"] []
  sd_Round : SupD K P ad.c_Round ad.f_Round_init (nf_Round_init ad) ad.d_Round_init ad.cs_Round
  bd_Round_init : Binds K ad.d_Round_init ["self", "form"] []
  sd_Divides : SupD K P ad.c_Divides ad.f_Divides_init (nf_Divides_init ad) ad.d_Divides_init ad.cs_Divides
  bd_Divides_init : Binds K ad.d_Divides_init ["self", "number"] []
  sd_Not : SupD K P ad.c_Not ad.f_Not_init (nf_Not_init ad) ad.d_Not_init ad.cs_Not
  bd_Not_init : Binds K ad.d_Not_init ["self", "one"] []
  sd_And : SupD K P ad.c_And ad.f_And_init (nf_And_init ad) ad.d_And_init ad.cs_And
  bd_And_init : Binds K ad.d_And_init ["self", "one", "other"] []
  sd_Or : SupD K P ad.c_Or ad.f_Or_init (nf_Or_init ad) ad.d_Or_init ad.cs_Or
  bd_Or_init : Binds K ad.d_Or_init ["self", "one", "other"] []
  m_law_bag : mg "_law_bag" = some (.ref ad.f_law_bag)
  F_law_bag : Fun K "_law_bag" "_law_bag" s_law_bag ad.f_law_bag ad.d_law_bag
  bd_law_bag : Binds K ad.d_law_bag ["_law_script"] []
  m_law_draw : mg "_law_draw" = some (.ref ad.f_law_draw)
  F_law_draw : Fun K "_law_draw" "_law_draw" s_law_draw ad.f_law_draw ad.d_law_draw
  bd_law_draw : Binds K ad.d_law_draw ["_law_bag_here", "_law_most"] []
  m_law_any : mg "_law_any" = some (.ref ad.f_law_any)
  F_law_any : Fun K "_law_any" "_law_any" s_law_any ad.f_law_any ad.d_law_any
  bd_law_any : Binds K ad.d_law_any ["_law_bag_here", "_law_some"] []
  m_law_same : mg "_law_same" = some (.ref ad.f_law_same)
  F_law_same : Fun K "_law_same" "_law_same" s_law_same ad.f_law_same ad.d_law_same
  bd_law_same : Binds K ad.d_law_same ["_law_found", "_law_due"] []
  m_law_field : mg "_law_field" = some (.ref ad.f_law_field)
  F_law_field : Fun K "_law_field" "_law_field" s_law_field ad.f_law_field ad.d_law_field
  bd_law_field : Binds K ad.d_law_field ["_law_e"] []
  m_law_got : mg "_law_got" = some (.ref ad.f_law_got)
  F_law_got : Fun K "_law_got" "_law_got" s_law_got ad.f_law_got ad.d_law_got
  bd_law_got : Binds K ad.d_law_got ["_law_ask"] []
  m_law_all_got : mg "_law_all_got" = some (.ref ad.f_law_all_got)
  F_law_all_got : Fun K "_law_all_got" "_law_all_got" s_law_all_got ad.f_law_all_got ad.d_law_all_got
  bd_law_all_got : Binds K ad.d_law_all_got ["_law_asks"] []
  m_law_tests_so : mg "_law_tests_so" = some (.ref ad.f_law_tests_so)
  F_law_tests_so : Fun K "_law_tests_so" "_law_tests_so" s_law_tests_so ad.f_law_tests_so ad.d_law_tests_so
  bd_law_tests_so : Binds K ad.d_law_tests_so [] []
  m_law : mg "law" = some (.ref ad.f_law)
  F_law : Fun K "law" "law" s_law ad.f_law ad.d_law
  bd_law : Binds K ad.d_law ["_law_script"] []
  gc_MOST_COEF : ∃ t, mg "MOST_COEF" = some (.int (6) t)
  gc_MOST_CONSTANT : ∃ t, mg "MOST_CONSTANT" = some (.int (99) t)
  gc_MOST_DEPTH : ∃ t, mg "MOST_DEPTH" = some (.int (20) t)
  gc_MOST_DIVISOR : ∃ t, mg "MOST_DIVISOR" = some (.int (60) t)
  gc_MOST_NAME : ∃ t, mg "MOST_NAME" = some (.int (6) t)
  gc_MOST_NUMBER : ∃ t, mg "MOST_NUMBER" = some (.int (9999) t)
  gc_MOST_SIZE : ∃ t, mg "MOST_SIZE" = some (.int (60) t)
  gc_MOST_TERMS : ∃ t, mg "MOST_TERMS" = some (.int (4) t)
  gc_SMALL : ∃ t, mg "SMALL" = some (.str "abcdefghijklmnopqrstuvwxyz" t)
  gc_WORDS : mg "WORDS" = some (.ref ad.g_WORDS)
  gt_WORDS : TupS K ad.g_WORDS ["n", "sum"]
  et_Form_init_0 : ∃ (o : Obj) (its : Array Value) (n : Nat), K.lookup ad.e_Form_init_0 = some o ∧ o.cls = .type "tuple" ∧ o.data = .seq its n ∧ its.size ≤ sizeLine ∧ Vals [] its.toList
  cb_And_init_2 : CB K ad.d_And_init ["self", "one", "other"] 1 2 [] [0, 1] []
  cb_Divides_init_1 : CB K ad.d_Divides_init ["self", "number"] 1 1 [] [0] []
  cb_Form_init_0 : CB K ad.d_Form_init ["self", "terms", "constant"] 1 0 [] [0, 1] [.ref ad.e_Form_init_0, .int 0]
  cb_Form_terms_0 : CB K ad.d_Form_terms ["self"] 1 0 [] [] []
  cb_Not_init_1 : CB K ad.d_Not_init ["self", "one"] 1 1 [] [0] []
  cb_Number_init_1 : CB K ad.d_Number_init ["self", "number"] 1 1 [] [0] []
  cb_Or_init_2 : CB K ad.d_Or_init ["self", "one", "other"] 1 2 [] [0, 1] []
  cb_Pair_init_2 : CB K ad.d_Pair_init ["self", "one", "other"] 1 2 [] [0, 1] []
  cb_Round_init_1 : CB K ad.d_Round_init ["self", "form"] 1 1 [] [0] []
  cb_Total_init_2 : CB K ad.d_Total_init ["self", "name", "one"] 1 2 [] [0, 1] []
  cb_gathered_terms_1 : CB K ad.d_gathered_terms ["terms"] 0 1 [] [0] []
  cb_need_tests_1 : CB K ad.d_need_tests ["parts"] 0 1 [] [0] []
  n_And : mg "And" = some (.ref ad.c_And)
  cl_And : Cls K ad.c_And
  n_Divides : mg "Divides" = some (.ref ad.c_Divides)
  cl_Divides : Cls K ad.c_Divides
  n_Form : mg "Form" = some (.ref ad.c_Form)
  cl_Form : Cls K ad.c_Form
  n_Marks : mg "Marks" = some (.ref ad.c_Marks)
  cl_Marks : Cls K ad.c_Marks
  n_Minus : mg "Minus" = some (.ref ad.c_Minus)
  cl_Minus : Cls K ad.c_Minus
  n_Not : mg "Not" = some (.ref ad.c_Not)
  cl_Not : Cls K ad.c_Not
  n_Number : mg "Number" = some (.ref ad.c_Number)
  cl_Number : Cls K ad.c_Number
  n_Or : mg "Or" = some (.ref ad.c_Or)
  cl_Or : Cls K ad.c_Or
  n_Pair : mg "Pair" = some (.ref ad.c_Pair)
  cl_Pair : Cls K ad.c_Pair
  n_Plus : mg "Plus" = some (.ref ad.c_Plus)
  cl_Plus : Cls K ad.c_Plus
  n_Round : mg "Round" = some (.ref ad.c_Round)
  cl_Round : Cls K ad.c_Round
  n_Test : mg "Test" = some (.ref ad.c_Test)
  cl_Test : Cls K ad.c_Test
  n_Times : mg "Times" = some (.ref ad.c_Times)
  cl_Times : Cls K ad.c_Times
  n_Total : mg "Total" = some (.ref ad.c_Total)
  cl_Total : Cls K ad.c_Total
  n_Value : mg "Value" = some (.ref ad.c_Value)
  cl_Value : Cls K ad.c_Value
  mk_And : Mk K ad.c_And ad.f_And_init
  mk_Divides : Mk K ad.c_Divides ad.f_Divides_init
  mk_Form : Mk K ad.c_Form ad.f_Form_init
  mk_Marks : Mk K ad.c_Marks ad.f_Value_init
  mk_Minus : Mk K ad.c_Minus ad.f_Pair_init
  mk_Not : Mk K ad.c_Not ad.f_Not_init
  mk_Number : Mk K ad.c_Number ad.f_Number_init
  mk_Or : Mk K ad.c_Or ad.f_Or_init
  mk_Plus : Mk K ad.c_Plus ad.f_Pair_init
  mk_Round : Mk K ad.c_Round ad.f_Round_init
  mk_Times : Mk K ad.c_Times ad.f_Pair_init
  mk_Total : Mk K ad.c_Total ad.f_Total_init
  mt_Number_take : Meth K ad.c_Number "take" ad.f_Value_take
  sr_Number : SupR K ad.c_Number ad.c_Number ad.f_Value_init
  mt_Marks_take : Meth K ad.c_Marks "take" ad.f_Value_take
  mt_Plus_take : Meth K ad.c_Plus "take" ad.f_Value_take
  sr_Plus : SupR K ad.c_Pair ad.c_Plus ad.f_Value_init
  mt_Minus_take : Meth K ad.c_Minus "take" ad.f_Value_take
  sr_Minus : SupR K ad.c_Pair ad.c_Minus ad.f_Value_init
  mt_Times_take : Meth K ad.c_Times "take" ad.f_Value_take
  sr_Times : SupR K ad.c_Pair ad.c_Times ad.f_Value_init
  mt_Total_take : Meth K ad.c_Total "take" ad.f_Value_take
  sr_Total : SupR K ad.c_Total ad.c_Total ad.f_Value_init
  mt_Round_take : Meth K ad.c_Round "take" ad.f_Value_take
  sr_Round : SupR K ad.c_Round ad.c_Round ad.f_Value_init
  mt_Divides_take : Meth K ad.c_Divides "take" ad.f_Value_take
  sr_Divides : SupR K ad.c_Divides ad.c_Divides ad.f_Value_init
  mt_Not_take : Meth K ad.c_Not "take" ad.f_Value_take
  sr_Not : SupR K ad.c_Not ad.c_Not ad.f_Value_init
  mt_And_take : Meth K ad.c_And "take" ad.f_Value_take
  sr_And : SupR K ad.c_And ad.c_And ad.f_Value_init
  mt_Or_take : Meth K ad.c_Or "take" ad.f_Value_take
  sr_Or : SupR K ad.c_Or ad.c_Or ad.f_Value_init
  na_And_depth : NoAttr K ad.c_And "depth"
  na_And_one : NoAttr K ad.c_And "one"
  na_And_other : NoAttr K ad.c_And "other"
  na_And_own_parts : NoAttr K ad.c_And "own_parts"
  na_And_size : NoAttr K ad.c_And "size"
  na_Divides_depth : NoAttr K ad.c_Divides "depth"
  na_Divides_number : NoAttr K ad.c_Divides "number"
  na_Divides_own_parts : NoAttr K ad.c_Divides "own_parts"
  na_Divides_size : NoAttr K ad.c_Divides "size"
  na_Form_own_constant : NoAttr K ad.c_Form "own_constant"
  na_Form_own_terms : NoAttr K ad.c_Form "own_terms"
  na_Marks_depth : NoAttr K ad.c_Marks "depth"
  na_Marks_own_parts : NoAttr K ad.c_Marks "own_parts"
  na_Marks_size : NoAttr K ad.c_Marks "size"
  na_Minus_depth : NoAttr K ad.c_Minus "depth"
  na_Minus_one : NoAttr K ad.c_Minus "one"
  na_Minus_other : NoAttr K ad.c_Minus "other"
  na_Minus_own_parts : NoAttr K ad.c_Minus "own_parts"
  na_Minus_size : NoAttr K ad.c_Minus "size"
  na_Not_depth : NoAttr K ad.c_Not "depth"
  na_Not_one : NoAttr K ad.c_Not "one"
  na_Not_own_parts : NoAttr K ad.c_Not "own_parts"
  na_Not_size : NoAttr K ad.c_Not "size"
  na_Number_depth : NoAttr K ad.c_Number "depth"
  na_Number_number : NoAttr K ad.c_Number "number"
  na_Number_own_parts : NoAttr K ad.c_Number "own_parts"
  na_Number_size : NoAttr K ad.c_Number "size"
  na_Or_depth : NoAttr K ad.c_Or "depth"
  na_Or_one : NoAttr K ad.c_Or "one"
  na_Or_other : NoAttr K ad.c_Or "other"
  na_Or_own_parts : NoAttr K ad.c_Or "own_parts"
  na_Or_size : NoAttr K ad.c_Or "size"
  na_Pair_one : NoAttr K ad.c_Pair "one"
  na_Pair_other : NoAttr K ad.c_Pair "other"
  na_Plus_depth : NoAttr K ad.c_Plus "depth"
  na_Plus_one : NoAttr K ad.c_Plus "one"
  na_Plus_other : NoAttr K ad.c_Plus "other"
  na_Plus_own_parts : NoAttr K ad.c_Plus "own_parts"
  na_Plus_size : NoAttr K ad.c_Plus "size"
  na_Round_depth : NoAttr K ad.c_Round "depth"
  na_Round_form : NoAttr K ad.c_Round "form"
  na_Round_own_parts : NoAttr K ad.c_Round "own_parts"
  na_Round_size : NoAttr K ad.c_Round "size"
  na_Times_depth : NoAttr K ad.c_Times "depth"
  na_Times_one : NoAttr K ad.c_Times "one"
  na_Times_other : NoAttr K ad.c_Times "other"
  na_Times_own_parts : NoAttr K ad.c_Times "own_parts"
  na_Times_size : NoAttr K ad.c_Times "size"
  na_Total_depth : NoAttr K ad.c_Total "depth"
  na_Total_name : NoAttr K ad.c_Total "name"
  na_Total_one : NoAttr K ad.c_Total "one"
  na_Total_own_parts : NoAttr K ad.c_Total "own_parts"
  na_Total_size : NoAttr K ad.c_Total "size"
  na_Value_depth : NoAttr K ad.c_Value "depth"
  na_Value_own_parts : NoAttr K ad.c_Value "own_parts"
  na_Value_size : NoAttr K ad.c_Value "size"
  mt_Form_terms : Meth K ad.c_Form "terms" ad.f_Form_terms
  pr_Form_constant : PropOf K ad.c_Form "constant" ad.p_Form_constant ad.f_Form_constant
  ic_And : C8.InsC K ad.c_And
  ic_Divides : C8.InsC K ad.c_Divides
  ic_Form : C8.InsC K ad.c_Form
  ic_Marks : C8.InsC K ad.c_Marks
  ic_Minus : C8.InsC K ad.c_Minus
  ic_Not : C8.InsC K ad.c_Not
  ic_Number : C8.InsC K ad.c_Number
  ic_Or : C8.InsC K ad.c_Or
  ic_Plus : C8.InsC K ad.c_Plus
  ic_Round : C8.InsC K ad.c_Round
  ic_Times : C8.InsC K ad.c_Times
  ic_Total : C8.InsC K ad.c_Total
  k_And_Test : PySem.W.kitOne K (.ref ad.c_And) (.ref ad.c_Test) = some true
  k_And_Value : PySem.W.kitOne K (.ref ad.c_And) (.ref ad.c_Value) = some true
  k_Divides_Test : PySem.W.kitOne K (.ref ad.c_Divides) (.ref ad.c_Test) = some true
  k_Divides_Value : PySem.W.kitOne K (.ref ad.c_Divides) (.ref ad.c_Value) = some true
  k_Form_Form : PySem.W.kitOne K (.ref ad.c_Form) (.ref ad.c_Form) = some true
  k_Marks_Test : PySem.W.kitOne K (.ref ad.c_Marks) (.ref ad.c_Test) = some false
  k_Marks_Value : PySem.W.kitOne K (.ref ad.c_Marks) (.ref ad.c_Value) = some true
  k_Minus_Test : PySem.W.kitOne K (.ref ad.c_Minus) (.ref ad.c_Test) = some false
  k_Minus_Value : PySem.W.kitOne K (.ref ad.c_Minus) (.ref ad.c_Value) = some true
  k_NoneType_Test : PySem.W.kitOne K (.type "NoneType") (.ref ad.c_Test) = some false
  k_NoneType_Value : PySem.W.kitOne K (.type "NoneType") (.ref ad.c_Value) = some false
  k_Not_Test : PySem.W.kitOne K (.ref ad.c_Not) (.ref ad.c_Test) = some true
  k_Not_Value : PySem.W.kitOne K (.ref ad.c_Not) (.ref ad.c_Value) = some true
  k_Number_Test : PySem.W.kitOne K (.ref ad.c_Number) (.ref ad.c_Test) = some false
  k_Number_Value : PySem.W.kitOne K (.ref ad.c_Number) (.ref ad.c_Value) = some true
  k_Or_Test : PySem.W.kitOne K (.ref ad.c_Or) (.ref ad.c_Test) = some true
  k_Or_Value : PySem.W.kitOne K (.ref ad.c_Or) (.ref ad.c_Value) = some true
  k_Plus_Test : PySem.W.kitOne K (.ref ad.c_Plus) (.ref ad.c_Test) = some false
  k_Plus_Value : PySem.W.kitOne K (.ref ad.c_Plus) (.ref ad.c_Value) = some true
  k_Round_Test : PySem.W.kitOne K (.ref ad.c_Round) (.ref ad.c_Test) = some true
  k_Round_Value : PySem.W.kitOne K (.ref ad.c_Round) (.ref ad.c_Value) = some true
  k_Times_Test : PySem.W.kitOne K (.ref ad.c_Times) (.ref ad.c_Test) = some false
  k_Times_Value : PySem.W.kitOne K (.ref ad.c_Times) (.ref ad.c_Value) = some true
  k_Total_Test : PySem.W.kitOne K (.ref ad.c_Total) (.ref ad.c_Test) = some false
  k_Total_Value : PySem.W.kitOne K (.ref ad.c_Total) (.ref ad.c_Value) = some true
  k_bool_Test : PySem.W.kitOne K (.type "bool") (.ref ad.c_Test) = some false
  k_bool_Value : PySem.W.kitOne K (.type "bool") (.ref ad.c_Value) = some false
  k_dict_Test : PySem.W.kitOne K (.type "dict") (.ref ad.c_Test) = some false
  k_dict_Value : PySem.W.kitOne K (.type "dict") (.ref ad.c_Value) = some false
  k_int_Test : PySem.W.kitOne K (.type "int") (.ref ad.c_Test) = some false
  k_int_Value : PySem.W.kitOne K (.type "int") (.ref ad.c_Value) = some false
  k_list_Test : PySem.W.kitOne K (.type "list") (.ref ad.c_Test) = some false
  k_list_Value : PySem.W.kitOne K (.type "list") (.ref ad.c_Value) = some false
  k_str_Test : PySem.W.kitOne K (.type "str") (.ref ad.c_Test) = some false
  k_str_Value : PySem.W.kitOne K (.type "str") (.ref ad.c_Value) = some false
  k_tuple_Test : PySem.W.kitOne K (.type "tuple") (.ref ad.c_Test) = some false
  k_tuple_Value : PySem.W.kitOne K (.type "tuple") (.ref ad.c_Value) = some false
  kd_Test : ∀ d, PySem.W.kitOne K (.type (tyD d)) (.ref ad.c_Test) = some false
  kd_Value : ∀ d, PySem.W.kitOne K (.type (tyD d)) (.ref ad.c_Value) = some false
  n_DialError : mg "DialError" = some (.ref ad.c_DialError)
  n_InvalidForm : mg "InvalidForm" = some (.ref ad.c_InvalidForm)
  n_InvalidName : mg "InvalidName" = some (.ref ad.c_InvalidName)
  n_InvalidNumber : mg "InvalidNumber" = some (.ref ad.c_InvalidNumber)
  n_InvalidTest : mg "InvalidTest" = some (.ref ad.c_InvalidTest)
  n_InvalidValue : mg "InvalidValue" = some (.ref ad.c_InvalidValue)
  n_Missing : mg "Missing" = some (.ref ad.c_Missing)
  n_TooDeep : mg "TooDeep" = some (.ref ad.c_TooDeep)
  n_TooMany : mg "TooMany" = some (.ref ad.c_TooMany)
  ox_InvalidNumber : OexG K ad.c_InvalidNumber "ValueError.__new__" PySem.HandSPX.veTail
  ai_InvalidNumber : PySem.W.findIn K (.ref ad.c_InvalidNumber) "__init__" = some (some (.ref ad.fx_InvalidNumber))
  ti_InvalidNumber : PySem.W.typeIn K (.ref ad.fx_InvalidNumber) = some (.type "function")
  su_InvalidNumber : SupG K P ad.c_InvalidNumber ad.fx_InvalidNumber (nf_InvalidNumber ad) ad.d_xInvalidNumber ad.cc_InvalidNumber "ValueError" "ValueError.__new__" "ValueError.__init__" PySem.HandSPX.veTail
  xb_InvalidNumber : Binds K ad.d_xInvalidNumber ["self", "given"] []
  xc_InvalidNumber : PySem.W.findIn K (.ref ad.c_InvalidNumber) "code" = some none
  xn_InvalidNumber : PySem.W.findIn K (.ref ad.c_InvalidNumber) "given" = some none
  ox_InvalidName : OexG K ad.c_InvalidName "ValueError.__new__" PySem.HandSPX.veTail
  ai_InvalidName : PySem.W.findIn K (.ref ad.c_InvalidName) "__init__" = some (some (.ref ad.fx_InvalidName))
  ti_InvalidName : PySem.W.typeIn K (.ref ad.fx_InvalidName) = some (.type "function")
  su_InvalidName : SupG K P ad.c_InvalidName ad.fx_InvalidName (nf_InvalidName ad) ad.d_xInvalidName ad.cc_InvalidName "ValueError" "ValueError.__new__" "ValueError.__init__" PySem.HandSPX.veTail
  xb_InvalidName : Binds K ad.d_xInvalidName ["self", "given"] []
  xc_InvalidName : PySem.W.findIn K (.ref ad.c_InvalidName) "code" = some none
  xn_InvalidName : PySem.W.findIn K (.ref ad.c_InvalidName) "given" = some none
  ox_InvalidForm : OexG K ad.c_InvalidForm "ValueError.__new__" PySem.HandSPX.veTail
  ai_InvalidForm : PySem.W.findIn K (.ref ad.c_InvalidForm) "__init__" = some (some (.ref ad.fx_InvalidForm))
  ti_InvalidForm : PySem.W.typeIn K (.ref ad.fx_InvalidForm) = some (.type "function")
  su_InvalidForm : SupG K P ad.c_InvalidForm ad.fx_InvalidForm (nf_InvalidForm ad) ad.d_xInvalidForm ad.cc_InvalidForm "ValueError" "ValueError.__new__" "ValueError.__init__" PySem.HandSPX.veTail
  xb_InvalidForm : Binds K ad.d_xInvalidForm ["self", "at"] []
  xc_InvalidForm : PySem.W.findIn K (.ref ad.c_InvalidForm) "code" = some none
  xn_InvalidForm : PySem.W.findIn K (.ref ad.c_InvalidForm) "at" = some none
  ox_InvalidTest : OexG K ad.c_InvalidTest "ValueError.__new__" PySem.HandSPX.veTail
  ai_InvalidTest : PySem.W.findIn K (.ref ad.c_InvalidTest) "__init__" = some (some (.ref ad.fx_InvalidTest))
  ti_InvalidTest : PySem.W.typeIn K (.ref ad.fx_InvalidTest) = some (.type "function")
  su_InvalidTest : SupG K P ad.c_InvalidTest ad.fx_InvalidTest (nf_InvalidTest ad) ad.d_xInvalidTest ad.cc_InvalidTest "ValueError" "ValueError.__new__" "ValueError.__init__" PySem.HandSPX.veTail
  xb_InvalidTest : Binds K ad.d_xInvalidTest ["self", "given"] []
  xc_InvalidTest : PySem.W.findIn K (.ref ad.c_InvalidTest) "code" = some none
  xn_InvalidTest : PySem.W.findIn K (.ref ad.c_InvalidTest) "given" = some none
  ox_InvalidValue : OexG K ad.c_InvalidValue "ValueError.__new__" PySem.HandSPX.veTail
  ai_InvalidValue : PySem.W.findIn K (.ref ad.c_InvalidValue) "__init__" = some (some (.ref ad.fx_InvalidValue))
  ti_InvalidValue : PySem.W.typeIn K (.ref ad.fx_InvalidValue) = some (.type "function")
  su_InvalidValue : SupG K P ad.c_InvalidValue ad.fx_InvalidValue (nf_InvalidValue ad) ad.d_xInvalidValue ad.cc_InvalidValue "ValueError" "ValueError.__new__" "ValueError.__init__" PySem.HandSPX.veTail
  xb_InvalidValue : Binds K ad.d_xInvalidValue ["self", "given"] []
  xc_InvalidValue : PySem.W.findIn K (.ref ad.c_InvalidValue) "code" = some none
  xn_InvalidValue : PySem.W.findIn K (.ref ad.c_InvalidValue) "given" = some none
  ox_TooMany : OexG K ad.c_TooMany "ValueError.__new__" PySem.HandSPX.veTail
  ai_TooMany : PySem.W.findIn K (.ref ad.c_TooMany) "__init__" = some (some (.ref ad.fx_TooMany))
  ti_TooMany : PySem.W.typeIn K (.ref ad.fx_TooMany) = some (.type "function")
  su_TooMany : SupG K P ad.c_TooMany ad.fx_TooMany (nf_TooMany ad) ad.d_xTooMany ad.cc_TooMany "ValueError" "ValueError.__new__" "ValueError.__init__" PySem.HandSPX.veTail
  xb_TooMany : Binds K ad.d_xTooMany ["self", "most"] []
  xc_TooMany : PySem.W.findIn K (.ref ad.c_TooMany) "code" = some none
  xn_TooMany : PySem.W.findIn K (.ref ad.c_TooMany) "most" = some none
  ox_TooDeep : OexG K ad.c_TooDeep "ValueError.__new__" PySem.HandSPX.veTail
  ai_TooDeep : PySem.W.findIn K (.ref ad.c_TooDeep) "__init__" = some (some (.ref ad.fx_TooDeep))
  ti_TooDeep : PySem.W.typeIn K (.ref ad.fx_TooDeep) = some (.type "function")
  su_TooDeep : SupG K P ad.c_TooDeep ad.fx_TooDeep (nf_TooDeep ad) ad.d_xTooDeep ad.cc_TooDeep "ValueError" "ValueError.__new__" "ValueError.__init__" PySem.HandSPX.veTail
  xb_TooDeep : Binds K ad.d_xTooDeep ["self", "most"] []
  xc_TooDeep : PySem.W.findIn K (.ref ad.c_TooDeep) "code" = some none
  xn_TooDeep : PySem.W.findIn K (.ref ad.c_TooDeep) "most" = some none
  tbok : TbOk K (tbl ad) ftb
  xall : ∀ t ∈ tbl ad, PySem.W.exmAny K (.ref t.2.1) [.ref ad.c_DialError, .ref ad.c_Missing] = some true
structure Q_Value (K : PySem.W.Frag) (ad : Ad) (C : Addr) : Prop where
  cl : Cls K C
  depth : NoAttr K C "depth"
  size : NoAttr K C "size"
  own_parts : NoAttr K C "own_parts"
  mt_Value_take : Meth K C "take" ad.f_Value_take
structure Q_Pair (K : PySem.W.Frag) (ad : Ad) (C : Addr) : Prop where
  q : Q_Value K ad C
  one : NoAttr K C "one"
  other : NoAttr K C "other"
  sr : SupR K ad.c_Pair C ad.f_Value_init
section
variable {P : Program} {w : World} {K : PySem.W.Frag} {mg : Str → Option Value} {base : Heap} {ad : Ad}
theorem ex_InvalidNumber (T : Txt P K mg ad) : FnOk P w K mg base CX0 1 ad.fx_InvalidNumber ad.d_xInvalidNumber ["self", "given"] (spE1 ad.c_InvalidNumber "given" "InvalidNumber") :=
  exc_fn1G (N := ["self", "given", "__class__"]) T.su_InvalidNumber ns_InvalidNumber T.b_super rfl rfl ⟨_, _, _, _, _, _, rfl, fun L => ⟨⟨_, rfl⟩, rfl, rfl⟩⟩ sa_InvalidNumber sb_InvalidNumber (by decide) (by decide) (by decide) (by decide) T.xn_InvalidNumber T.xc_InvalidNumber (fun _ => rfl) (fun _ => rfl)
theorem ex_InvalidName (T : Txt P K mg ad) : FnOk P w K mg base CX0 1 ad.fx_InvalidName ad.d_xInvalidName ["self", "given"] (spE1 ad.c_InvalidName "given" "InvalidName") :=
  exc_fn1G (N := ["self", "given", "__class__"]) T.su_InvalidName ns_InvalidName T.b_super rfl rfl ⟨_, _, _, _, _, _, rfl, fun L => ⟨⟨_, rfl⟩, rfl, rfl⟩⟩ sa_InvalidName sb_InvalidName (by decide) (by decide) (by decide) (by decide) T.xn_InvalidName T.xc_InvalidName (fun _ => rfl) (fun _ => rfl)
theorem ex_InvalidForm (T : Txt P K mg ad) : FnOk P w K mg base CX0 1 ad.fx_InvalidForm ad.d_xInvalidForm ["self", "at"] (spE1 ad.c_InvalidForm "at" "InvalidForm") :=
  exc_fn1G (N := ["self", "at", "__class__"]) T.su_InvalidForm ns_InvalidForm T.b_super rfl rfl ⟨_, _, _, _, _, _, rfl, fun L => ⟨⟨_, rfl⟩, rfl, rfl⟩⟩ sa_InvalidForm sb_InvalidForm (by decide) (by decide) (by decide) (by decide) T.xn_InvalidForm T.xc_InvalidForm (fun _ => rfl) (fun _ => rfl)
theorem ex_InvalidTest (T : Txt P K mg ad) : FnOk P w K mg base CX0 1 ad.fx_InvalidTest ad.d_xInvalidTest ["self", "given"] (spE1 ad.c_InvalidTest "given" "InvalidTest") :=
  exc_fn1G (N := ["self", "given", "__class__"]) T.su_InvalidTest ns_InvalidTest T.b_super rfl rfl ⟨_, _, _, _, _, _, rfl, fun L => ⟨⟨_, rfl⟩, rfl, rfl⟩⟩ sa_InvalidTest sb_InvalidTest (by decide) (by decide) (by decide) (by decide) T.xn_InvalidTest T.xc_InvalidTest (fun _ => rfl) (fun _ => rfl)
theorem ex_InvalidValue (T : Txt P K mg ad) : FnOk P w K mg base CX0 1 ad.fx_InvalidValue ad.d_xInvalidValue ["self", "given"] (spE1 ad.c_InvalidValue "given" "InvalidValue") :=
  exc_fn1G (N := ["self", "given", "__class__"]) T.su_InvalidValue ns_InvalidValue T.b_super rfl rfl ⟨_, _, _, _, _, _, rfl, fun L => ⟨⟨_, rfl⟩, rfl, rfl⟩⟩ sa_InvalidValue sb_InvalidValue (by decide) (by decide) (by decide) (by decide) T.xn_InvalidValue T.xc_InvalidValue (fun _ => rfl) (fun _ => rfl)
theorem ex_TooMany (T : Txt P K mg ad) : FnOk P w K mg base CX0 1 ad.fx_TooMany ad.d_xTooMany ["self", "most"] (spE1 ad.c_TooMany "most" "TooMany") :=
  exc_fn1G (N := ["self", "most", "__class__"]) T.su_TooMany ns_TooMany T.b_super rfl rfl ⟨_, _, _, _, _, _, rfl, fun L => ⟨⟨_, rfl⟩, rfl, rfl⟩⟩ sa_TooMany sb_TooMany (by decide) (by decide) (by decide) (by decide) T.xn_TooMany T.xc_TooMany (fun _ => rfl) (fun _ => rfl)
theorem ex_TooDeep (T : Txt P K mg ad) : FnOk P w K mg base CX0 1 ad.fx_TooDeep ad.d_xTooDeep ["self", "most"] (spE1 ad.c_TooDeep "most" "TooDeep") :=
  exc_fn1G (N := ["self", "most", "__class__"]) T.su_TooDeep ns_TooDeep T.b_super rfl rfl ⟨_, _, _, _, _, _, rfl, fun L => ⟨⟨_, rfl⟩, rfl, rfl⟩⟩ sa_TooDeep sb_TooDeep (by decide) (by decide) (by decide) (by decide) T.xn_TooDeep T.xc_TooDeep (fun _ => rfl) (fun _ => rfl)
theorem fam_ic (T : Txt P K mg ad) : ∀ p ∈ fam K ad, C8.InsC K p.2.1 := (fm_cons T.ic_Number (fm_cons T.ic_Marks (fm_cons T.ic_Plus (fm_cons T.ic_Minus (fm_cons T.ic_Times (fm_cons T.ic_Total (fm_cons T.ic_Round (fm_cons T.ic_Divides (fm_cons T.ic_Not (fm_cons T.ic_And (fm_cons T.ic_Or fm_nil)))))))))))
theorem fam_k_Test (T : Txt P K mg ad) : ∀ p ∈ fam K ad, PySem.W.kitOne K (.ref p.2.1) (.ref ad.c_Test) = some (fk_Test p.1) := (fm_cons T.k_Number_Test (fm_cons T.k_Marks_Test (fm_cons T.k_Plus_Test (fm_cons T.k_Minus_Test (fm_cons T.k_Times_Test (fm_cons T.k_Total_Test (fm_cons T.k_Round_Test (fm_cons T.k_Divides_Test (fm_cons T.k_Not_Test (fm_cons T.k_And_Test (fm_cons T.k_Or_Test fm_nil)))))))))))
theorem fam_k_Value (T : Txt P K mg ad) : ∀ p ∈ fam K ad, PySem.W.kitOne K (.ref p.2.1) (.ref ad.c_Value) = some (fk_Value p.1) := (fm_cons T.k_Number_Value (fm_cons T.k_Marks_Value (fm_cons T.k_Plus_Value (fm_cons T.k_Minus_Value (fm_cons T.k_Times_Value (fm_cons T.k_Total_Value (fm_cons T.k_Round_Value (fm_cons T.k_Divides_Value (fm_cons T.k_Not_Value (fm_cons T.k_And_Value (fm_cons T.k_Or_Value fm_nil)))))))))))
theorem fam_depth (T : Txt P K mg ad) : ∀ p ∈ fam K ad, Cls K p.2.1 ∧ NoAttr K p.2.1 "depth" ∧ ∀ x, (p.2.2 x).lookup ("depth" : Str) = some (sv rInt x.depth) := (fm_cons ⟨T.cl_Number, T.na_Number_depth, fun _ => rfl⟩ (fm_cons ⟨T.cl_Marks, T.na_Marks_depth, fun _ => rfl⟩ (fm_cons ⟨T.cl_Plus, T.na_Plus_depth, fun _ => rfl⟩ (fm_cons ⟨T.cl_Minus, T.na_Minus_depth, fun _ => rfl⟩ (fm_cons ⟨T.cl_Times, T.na_Times_depth, fun _ => rfl⟩ (fm_cons ⟨T.cl_Total, T.na_Total_depth, fun _ => rfl⟩ (fm_cons ⟨T.cl_Round, T.na_Round_depth, fun _ => rfl⟩ (fm_cons ⟨T.cl_Divides, T.na_Divides_depth, fun _ => rfl⟩ (fm_cons ⟨T.cl_Not, T.na_Not_depth, fun _ => rfl⟩ (fm_cons ⟨T.cl_And, T.na_And_depth, fun _ => rfl⟩ (fm_cons ⟨T.cl_Or, T.na_Or_depth, fun _ => rfl⟩ fm_nil)))))))))))
theorem fam_size (T : Txt P K mg ad) : ∀ p ∈ fam K ad, Cls K p.2.1 ∧ NoAttr K p.2.1 "size" ∧ ∀ x, (p.2.2 x).lookup ("size" : Str) = some (sv rInt x.size) := (fm_cons ⟨T.cl_Number, T.na_Number_size, fun _ => rfl⟩ (fm_cons ⟨T.cl_Marks, T.na_Marks_size, fun _ => rfl⟩ (fm_cons ⟨T.cl_Plus, T.na_Plus_size, fun _ => rfl⟩ (fm_cons ⟨T.cl_Minus, T.na_Minus_size, fun _ => rfl⟩ (fm_cons ⟨T.cl_Times, T.na_Times_size, fun _ => rfl⟩ (fm_cons ⟨T.cl_Total, T.na_Total_size, fun _ => rfl⟩ (fm_cons ⟨T.cl_Round, T.na_Round_size, fun _ => rfl⟩ (fm_cons ⟨T.cl_Divides, T.na_Divides_size, fun _ => rfl⟩ (fm_cons ⟨T.cl_Not, T.na_Not_size, fun _ => rfl⟩ (fm_cons ⟨T.cl_And, T.na_And_size, fun _ => rfl⟩ (fm_cons ⟨T.cl_Or, T.na_Or_size, fun _ => rfl⟩ fm_nil)))))))))))
theorem qValue_Number (T : Txt P K mg ad) : Q_Value K ad ad.c_Number := ⟨T.cl_Number, T.na_Number_depth, T.na_Number_size, T.na_Number_own_parts, T.mt_Number_take⟩
theorem qValue_Marks (T : Txt P K mg ad) : Q_Value K ad ad.c_Marks := ⟨T.cl_Marks, T.na_Marks_depth, T.na_Marks_size, T.na_Marks_own_parts, T.mt_Marks_take⟩
theorem qValue_Plus (T : Txt P K mg ad) : Q_Value K ad ad.c_Plus := ⟨T.cl_Plus, T.na_Plus_depth, T.na_Plus_size, T.na_Plus_own_parts, T.mt_Plus_take⟩
theorem qValue_Minus (T : Txt P K mg ad) : Q_Value K ad ad.c_Minus := ⟨T.cl_Minus, T.na_Minus_depth, T.na_Minus_size, T.na_Minus_own_parts, T.mt_Minus_take⟩
theorem qValue_Times (T : Txt P K mg ad) : Q_Value K ad ad.c_Times := ⟨T.cl_Times, T.na_Times_depth, T.na_Times_size, T.na_Times_own_parts, T.mt_Times_take⟩
theorem qValue_Total (T : Txt P K mg ad) : Q_Value K ad ad.c_Total := ⟨T.cl_Total, T.na_Total_depth, T.na_Total_size, T.na_Total_own_parts, T.mt_Total_take⟩
theorem qValue_Round (T : Txt P K mg ad) : Q_Value K ad ad.c_Round := ⟨T.cl_Round, T.na_Round_depth, T.na_Round_size, T.na_Round_own_parts, T.mt_Round_take⟩
theorem qValue_Divides (T : Txt P K mg ad) : Q_Value K ad ad.c_Divides := ⟨T.cl_Divides, T.na_Divides_depth, T.na_Divides_size, T.na_Divides_own_parts, T.mt_Divides_take⟩
theorem qValue_Not (T : Txt P K mg ad) : Q_Value K ad ad.c_Not := ⟨T.cl_Not, T.na_Not_depth, T.na_Not_size, T.na_Not_own_parts, T.mt_Not_take⟩
theorem qValue_And (T : Txt P K mg ad) : Q_Value K ad ad.c_And := ⟨T.cl_And, T.na_And_depth, T.na_And_size, T.na_And_own_parts, T.mt_And_take⟩
theorem qValue_Or (T : Txt P K mg ad) : Q_Value K ad ad.c_Or := ⟨T.cl_Or, T.na_Or_depth, T.na_Or_size, T.na_Or_own_parts, T.mt_Or_take⟩
theorem qPair_Plus (T : Txt P K mg ad) : Q_Pair K ad ad.c_Plus := ⟨qValue_Plus T, T.na_Plus_one, T.na_Plus_other, T.sr_Plus⟩
theorem qPair_Minus (T : Txt P K mg ad) : Q_Pair K ad ad.c_Minus := ⟨qValue_Minus T, T.na_Minus_one, T.na_Minus_other, T.sr_Minus⟩
theorem qPair_Times (T : Txt P K mg ad) : Q_Pair K ad ad.c_Times := ⟨qValue_Times T, T.na_Times_one, T.na_Times_other, T.sr_Times⟩
def m_is_whole_v0 (a_value : Int) : W Bool :=
  bnd (bnd (ret (true)) fun c1 => if c1 = true then (ret (!false)) else ret false) fun z => ret z
theorem ok_is_whole_v0 (T : Txt P K mg ad) : FnOk P w K mg base CX0 1 ad.f_is_whole ad.d_is_whole ["value"] (spW (fun i : Int × Unit => [sv rInt i.1]) (fun _ => []) (fun i => m_is_whole_v0 i.1) rBool) := by
  refine okW T.F_is_whole sc_is_whole (fun _ => rfl) fun cdv A outer s0 H0 E0 B i hr => ?_
  obtain ⟨a_value, _⟩ := i
  have hu := hr.units
  have hu2 := room100 hr
  have hu8 := Nat.lt_of_le_of_lt (Nat.add_le_add_left (show 8 ≤ 100 by decide) _) hu2
  show BG _ _ _ _ _ _ (m_is_whole_v0 a_value)
  unfold m_is_whole_v0
  exact b_ret RtOk.fn OsW.nil (e_conv (e_and (e_isB (T := "int") (k := true) ty_int (kit_ty (by decide +kernel)) (e_name 0) T.b_isinstance T.b_int) (e_one (e_not (e_isB (T := "bool") (k := false) ty_int (kit_ty (by decide +kernel)) (e_name 0) T.b_isinstance T.b_bool)))) (by walk_at "wn"))
def m_is_whole_v1 (a_value : PyData) : W Bool :=
  bnd (bnd (ret (tyInt (tyD a_value))) fun c1 => if c1 = true then (ret (!(tyD a_value == "bool"))) else ret false) fun z => ret z
theorem ok_is_whole_v1 (T : Txt P K mg ad) : FnOk P w K mg base CX0 1 ad.f_is_whole ad.d_is_whole ["value"] (spW (fun i : PyData × Unit => [sv (rD K) i.1]) (fun _ => []) (fun i => m_is_whole_v1 i.1) rBool) := by
  refine okW T.F_is_whole sc_is_whole (fun _ => rfl) fun cdv A outer s0 H0 E0 B i hr => ?_
  obtain ⟨a_value, _⟩ := i
  have hu := hr.units
  have hu2 := room100 hr
  have hu8 := Nat.lt_of_le_of_lt (Nat.add_le_add_left (show 8 ≤ 100 by decide) _) hu2
  show BG _ _ _ _ _ _ (m_is_whole_v1 a_value)
  unfold m_is_whole_v1
  exact b_ret RtOk.fn OsW.nil (e_conv (e_and (e_isBD (T := "int") (k := tyInt) kd_int (e_name 0) T.b_isinstance T.b_int) (e_one (e_not (e_isBD (T := "bool") (k := fun t => t == "bool") kd_bool (e_name 0) T.b_isinstance T.b_bool)))) (by walk_at "wn"))
def m_is_number_v0 (a_value : Int) (a_least : Int) (a_most : Int) : W Bool :=
  bnd (bnd (noX (m_is_whole_v0 a_value)) fun c5 => if c5 = true then (bnd (ret (decide (a_least ≤ a_value))) fun c4 => if c4 = true then (bnd (ret (false)) fun c2 => if c2 = true then ret true else (ret (decide (a_value ≤ a_most)))) else ret false) else ret false) fun z => ret z
theorem ok_is_number_v0 (T : Txt P K mg ad) : FnOk P w K mg base CX0 2 ad.f_is_number ad.d_is_number ["value", "least", "most"] (spW (fun i : Int × Int × Int × Unit => [sv rInt i.1, sv rInt i.2.1, sv rInt i.2.2.1]) (fun _ => []) (fun i => m_is_number_v0 i.1 i.2.1 i.2.2.1) rBool) := by
  refine okW T.F_is_number sc_is_number (fun _ => rfl) fun cdv A outer s0 H0 E0 B i hr => ?_
  obtain ⟨a_value, a_least, a_most, _⟩ := i
  have hu := hr.units
  have hu2 := room100 hr
  have hu8 := Nat.lt_of_le_of_lt (Nat.add_le_add_left (show 8 ≤ 100 by decide) _) hu2
  show BG _ _ _ _ _ _ (m_is_number_v0 a_value a_least a_most)
  unfold m_is_number_v0
  exact b_ret RtOk.fn OsW.nil (e_conv (e_and (e_call (ok_is_whole_v0 T) (hr.mono (by walk_at "lev")) T.m_is_whole T.F_is_whole.kp T.bd_is_whole (aa_cons (e_name 0) fun _ => aa_nil) (fun _ => OsLe.none) (fun _ => List.nodup_nil)) (e_and (e_le (e_name 1) fun _ => (e_name 0)) (e_one (e_or (e_isN isn_int (e_name 2)) (e_one (e_le (e_name 0) fun _ => (e_name 2))))))) (by walk_at "wn"))
def m_need_number_v0 (a_value : Int) (a_least : Int) (a_most : Int) : W Unit :=
  bnd (bnd (noX (m_is_number_v0 a_value a_least a_most)) fun r1 => ret (!r1)) fun b2 => if b2 = true then (fail) else (ret ())
theorem ok_need_number_v0 (T : Txt P K mg ad) : FnOk P w K mg base CX0 3 ad.f_need_number ad.d_need_number ["value", "least", "most"] (spW (fun i : Int × Int × Int × Unit => [sv rInt i.1, sv rInt i.2.1, sv rInt i.2.2.1]) (fun _ => []) (fun i => m_need_number_v0 i.1 i.2.1 i.2.2.1) rNon) := by
  refine okW T.F_need_number sc_need_number (fun _ => rfl) fun cdv A outer s0 H0 E0 B i hr => ?_
  obtain ⟨a_value, a_least, a_most, _⟩ := i
  have hu := hr.units
  have hu2 := room100 hr
  have hu8 := Nat.lt_of_le_of_lt (Nat.add_le_add_left (show 8 ≤ 100 by decide) _) hu2
  show BG _ _ _ _ _ _ (m_need_number_v0 a_value a_least a_most)
  unfold m_need_number_v0
  refine b_ifA (t_conv (t_not (t_val (e_call (ok_is_number_v0 T) (hr.mono (by walk_at "lev")) T.m_is_number T.F_is_number.kp T.bd_is_number (aa_cons (e_name 0) fun _ => (aa_cons (e_name 1) fun _ => (aa_cons (e_name 2) fun _ => aa_nil))) (fun _ => OsLe.none) (fun _ => List.nodup_nil)))) (by walk_at "wn")) ?_ ?_
  · exact b_never
  · exact b_end (NxOk.fn OsW.nil)
def m_is_name (a_value : PyData) : W Bool :=
  bnd (bnd (ret (!(tyD a_value == "str"))) fun c6 => if c6 = true then ret true else (bnd (bnd (bnd (lenD a_value) fun t1 => if (fun x y => decide (x ≤ y)) ((1 : Int)) t1 = true then (ret ((fun x y => decide (x ≤ y)) t1 ((6 : Int)))) else ret false) fun c3 => ret (!c3)) fun c5 => if c5 = true then ret true else (bnd (asStr a_value) fun t4 => ret (decide (t4 ∈ ((["n", "sum"] : List Str))))))) fun b8 => if b8 = true then (bnd (ret (false)) fun z => ret z) else (bnd (bnd (asStr a_value) fun t9 => bnd (mapW (fun (x10 : Str) => ret (hasS x10 (("abcdefghijklmnopqrstuvwxyz" : Str)))) (lettersW t9)) fun ys11 => ret (ys11.all id)) fun z => ret z)
theorem ok_is_name (T : Txt P K mg ad) : FnOk P w K mg base CX0 1 ad.f_is_name ad.d_is_name ["value"] (spW (fun i : PyData × Unit => [sv (rD K) i.1]) (fun _ => []) (fun i => m_is_name i.1) rBool) := by
  refine okW T.F_is_name sc_is_name (fun _ => rfl) fun cdv A outer s0 H0 E0 B i hr => ?_
  obtain ⟨a_value, _⟩ := i
  have hu := hr.units
  have hu2 := room100 hr
  have hu8 := Nat.lt_of_le_of_lt (Nat.add_le_add_left (show 8 ≤ 100 by decide) _) hu2
  show BG _ _ _ _ _ _ (m_is_name a_value)
  unfold m_is_name
  refine b_ifA (t_conv (t_pw (w_or (t_not (t_val (e_isBD (T := "str") (k := fun t => t == "str") kd_str (e_name 0) T.b_isinstance T.b_str))) (w_or (t_not (t_chain (f := (fun x y => decide (x ≤ y))) (g := (fun x y => decide (x ≤ y))) op_le op_le (r2i fun _ _ _ => rfl) (r2i fun _ _ _ => rfl) e_int (fun _ => (e_lenD (e_name 0) T.b_len)) fun _ => (e_gIntE T.gc_MOST_NAME))) (w_or1 (t_inST (e_asStr (e_name 0)) fun _ => (e_gTup T.gc_WORDS T.gt_WORDS)))))) (by walk_at "wn")) ?_ ?_
  · exact b_ret (RtOk.x RtOk.fn) OsW.nil (e_conv e_bl (by walk_at "wn"))
  · exact b_ret RtOk.fn OsW.nil (e_conv (e_all rfl (e_new (n_comp (s := rBool) rfl sc_is_name.nd (s_str (e_asStr (e_name 0))) (blkOk_by (own := [("sign", 1)]) rfl) (tg_name (i := 1)) (fun _ _ _ _ _ => (pg_name (i := 1) sc_is_name.nd rfl (by walk_at "loc"))) (by decide) (fun _ _ _ _ _ _ _ _ _ => (e_inS (e_name 1) fun _ => (e_gStrE T.gc_SMALL))))) T.b_all) (by walk_at "wn"))
def m_is_term (a_value : PyData) : W Bool :=
  bnd (bnd (ret (tyD a_value == "tuple")) fun c9 => if c9 = true then (bnd (bnd (lenD a_value) fun t1 => ret (decide (t1 = (2 : Int)))) fun c8 => if c8 = true then (bnd (bnd (idxD a_value ((0 : Int))) fun t3 => noX (m_is_whole_v1 t3)) fun c7 => if c7 = true then (bnd (idxD a_value ((1 : Int))) fun t5 => noX (m_is_name t5)) else ret false) else ret false) else ret false) fun z => ret z
theorem ok_is_term (T : Txt P K mg ad) : FnOk P w K mg base CX0 2 ad.f_is_term ad.d_is_term ["value"] (spW (fun i : PyData × Unit => [sv (rD K) i.1]) (fun _ => []) (fun i => m_is_term i.1) rBool) := by
  refine okW T.F_is_term sc_is_term (fun _ => rfl) fun cdv A outer s0 H0 E0 B i hr => ?_
  obtain ⟨a_value, _⟩ := i
  have hu := hr.units
  have hu2 := room100 hr
  have hu8 := Nat.lt_of_le_of_lt (Nat.add_le_add_left (show 8 ≤ 100 by decide) _) hu2
  show BG _ _ _ _ _ _ (m_is_term a_value)
  unfold m_is_term
  exact b_ret RtOk.fn OsW.nil (e_conv (e_and (e_isBD (T := "tuple") (k := fun t => t == "tuple") kd_tuple (e_name 0) T.b_isinstance T.b_tuple) (e_and (e_eqI (e_lenD (e_name 0) T.b_len) fun _ => e_int) (e_and (e_call (ok_is_whole_v1 T) (hr.mono (by walk_at "lev")) T.m_is_whole T.F_is_whole.kp T.bd_is_whole (aa_cons (e_idxD (e_name 0) fun _ => e_int) fun _ => aa_nil) (fun _ => OsLe.none) (fun _ => List.nodup_nil)) (e_one (e_call (ok_is_name T) (hr.mono (by walk_at "lev")) T.m_is_name T.F_is_name.kp T.bd_is_name (aa_cons (e_idxD (e_name 0) fun _ => e_int) fun _ => aa_nil) (fun _ => OsLe.none) (fun _ => List.nodup_nil)))))) (by walk_at "wn"))
def m_gathered_terms_l1 (s6 : (List (Str × Int))) (x5 : (Int × PyData)) : W (List (Str × Int)) :=
  bnd (bnd (noX (m_is_term x5.2)) fun r7 => ret (!r7)) fun b8 => if b8 = true then (bnd (ret (x5.1)) fun v => thr ⟨"InvalidForm", [.int v]⟩) else (bnd (bnd (idxD x5.2 ((1 : Int))) fun t9 => bnd (asStr t9) fun t10 => bnd (idxD x5.2 ((0 : Int))) fun t11 => bnd (asInt t11) fun t12 => ret (((dget s6 t10).getD ((0 : Int))) + t12)) fun y16 => bnd (bnd (idxD x5.2 ((1 : Int))) fun t13 => asStr t13) fun k17 => chk (s6.length < sizeLine) (bnd (ret (dput s6 k17 y16)) fun found_15 => ret (found_15)))
def m_gathered_terms (a_terms : PyData) : W (List (Str × Int)) :=
  bnd (ret (!((tyD a_terms == "list" || tyD a_terms == "tuple")))) fun b1 => if b1 = true then (bnd (ret (-((1 : Int)))) fun v => thr ⟨"InvalidForm", [.int v]⟩) else (bnd (bnd (seqD a_terms) fun l4 => ret ((rangeI 0 l4.length).zip l4)) fun xs18 => bnd (forW m_gathered_terms_l1 (([] : (List (Str × Int)))) xs18) fun (s19 : (List (Str × Int))) => bnd (ret (s19)) fun z => ret z)
theorem ok_gathered_terms (T : Txt P K mg ad) : FnOk P w K mg base (L2.CX P w) 3 ad.f_gathered_terms ad.d_gathered_terms ["terms"] (spX K (tbl ad) (fun i : PyData × Unit => [sv (rD K) i.1]) (fun _ => []) (fun i => m_gathered_terms i.1) (rDct rStr Sum.inr rInt)) := by
  refine okX T.F_gathered_terms sc_gathered_terms (fun _ => rfl) fun cdv A outer s0 H0 E0 B i hr tk hpo => ?_
  obtain ⟨a_terms, _⟩ := i
  have hu := hr.units
  have hu2 := room100 hr
  have hu8 := Nat.lt_of_le_of_lt (Nat.add_le_add_left (show 8 ≤ 100 by decide) _) hu2
  show BG _ _ _ _ _ _ (m_gathered_terms a_terms)
  unfold m_gathered_terms
  refine b_ifA (t_conv (t_not (t_val (e_isTD (k := fun t => t == "list" || t == "tuple") kt_lt (e_name 0) T.b_isinstance T.b_list T.b_tuple))) (by walk_at "wn")) ?_ ?_
  · exact b_conv (b_raise1G foot_value tk rfl (List.Mem.tail _ (List.Mem.tail _ (List.Mem.head _))) (by decide) T.ox_InvalidForm T.ai_InvalidForm T.ti_InvalidForm (ex_InvalidForm T) (hr.mono (by walk_at "lev")) T.xb_InvalidForm T.n_InvalidForm dd_int (by decide) (e_conv (e_neg e_int) (by walk_at "wn"))) rfl
  · refine b_dnew 1 rStr Sum.inr rInt (fun p3 => ?_) sc_gathered_terms.nd
    refine b_for (S := (List (Str × Int))) (fun s => [sv (rD K) a_terms, sv (rAdr p3) (), sa, sa]) (fun s => [(p3, oDct rStr Sum.inr rInt s)]) (([] : (List (Str × Int))) : (List (Str × Int))) rfl (passes_of rfl) (s_conv (s_enumD (e_name 0) T.b_enumerate) (by walk_at "wn")) (tg_pair (i := 2) (j := 3)) (pg_tup rfl (pgs_cons (pg_name (i := 2) sc_gathered_terms.nd rfl (by walk_at "loc")) (pgs_cons (pg_name (i := 3) sc_gathered_terms.nd rfl (by walk_at "loc")) pgs_nil))) (fun M s6 x5 => ?_) (fun s19 => ?_) ⟨.inl rfl, .inl rfl, .inr rfl, .inr rfl, trivial⟩ rfl
    · unfold m_gathered_terms_l1
      refine b_ifA (t_conv (t_not (t_val (e_call (ok_is_term T) (hr.mono (by walk_at "lev")) T.m_is_term T.F_is_term.kp T.bd_is_term (aa_cons (e_name 3) fun _ => aa_nil) (fun _ => OsLe.none) (fun _ => List.nodup_nil)))) (by walk_at "wn")) ?_ ?_
      · exact b_conv (b_raise1G foot_value tk rfl (List.Mem.tail _ (List.Mem.tail _ (List.Mem.head _))) (by decide) T.ox_InvalidForm T.ai_InvalidForm T.ti_InvalidForm (ex_InvalidForm T) (hr.mono (by walk_at "lev")) T.xb_InvalidForm T.n_InvalidForm dd_int (by decide) (e_conv (e_name 2) (by walk_at "wn"))) rfl
      · refine b_dputB 1 0 key_str hu2 rfl rfl (e_conv (e_add (e_dgetO 1 0 key_str hu2 rfl rfl (e_asStr (e_idxD (e_name 3) fun _ => e_int)) fun _ => e_int) fun _ => (e_asInt (e_idxD (e_name 3) fun _ => e_int))) (by walk_at "wn")) (fun _ => e_conv (e_asStr (e_idxD (e_name 3) fun _ => e_int)) (by walk_at "wn")) (fun found_15 => ?_)
        exact b_end (NxOk.nxS (s := (found_15 : (List (Str × Int)))) ⟨.inl rfl, .inl rfl, .inr rfl, .inr rfl, trivial⟩ (.cons_cons _ .slnil))
    · refine b_dfreeze 1 0 rfl rfl ?_
      exact b_ret RtOk.fn OsW.nil (e_conv (e_name 1) (by walk_at "wn"))
def m_Form_init (a_terms : PyData) (a_constant : PyData) : W Form_ :=
  bnd (bnd (ret (false)) fun c => if c = true then fail else m_gathered_terms a_terms) fun known_1 => bnd (bnd (noX (m_is_whole_v1 a_constant)) fun r4 => ret (!r4)) fun b5 => if b5 = true then (bnd (ret (a_constant)) fun v => thr ⟨"InvalidNumber", [id v]⟩) else (bnd (bnd (sortS (known_1.map (·.1))) fun t6 => dcW (fun (x7 : Str) => bnd (optW (dget known_1 x7)) fun t10 => ret (!decide (t10 = (0 : Int)))) (fun (x7 : Str) => ret (x7)) (fun (x7 : Str) => optW (dget known_1 x7)) t6 []) fun own_terms_11 => bnd (asInt a_constant) fun own_constant_13 => ret (⟨own_terms_11, own_constant_13⟩ : Form_))
theorem ok_Form_init (T : Txt P K mg ad) : FnOk P w K mg base (L2.CX P w) 4 ad.f_Form_init ad.d_Form_init ["self", "terms", "constant"] (spIX K (tbl ad) ad.c_Form (fun i : PyData × PyData × Unit => [sv (rD K) i.1, sv (rD K) i.2.1]) (fun i => m_Form_init i.1 i.2.1) (fl_Form K ad)) := by
  refine initXE T.F_Form_init sc_Form_init (fun _ => rfl) fun cdv A outer s0 H0 E0 B self0 i hr tk => ?_
  obtain ⟨a_terms, a_constant, _⟩ := i
  have hu := hr.units
  have hu2 := room100 hr
  have hu8 := Nat.lt_of_le_of_lt (Nat.add_le_add_left (show 8 ≤ 100 by decide) _) hu2
  show BG _ _ _ _ _ _ (m_Form_init a_terms a_constant)
  unfold m_Form_init
  refine b_set 3 (e_conv (e_if (t_val (e_noDict (e_name 1) T.b_isinstance T.b_dict)) e_fail (er_V (e_callZ (conv := fun q : PyData × Unit => (q.1, ())) (dfl := []) (dvs := []) (ok_gathered_terms T) (passB tk) spf_X0 (hr.mono (by walk_at "lev")) T.m_gathered_terms T.F_gathered_terms.kp T.cb_gathered_terms_1 (fun _ => .nil) (hh_pos (aa_cons (e_name 1) fun _ => aa_nil) (fun _ => rfl)) (fun _ => rfl)))) (by walk_at "wn")) (fun known_1 => ?_) sc_Form_init.nd
  refine b_ifA (t_conv (t_not (t_val (e_call (ok_is_whole_v1 T) (hr.mono (by walk_at "lev")) T.m_is_whole T.F_is_whole.kp T.bd_is_whole (aa_cons (e_name 2) fun _ => aa_nil) (fun _ => OsLe.none) (fun _ => List.nodup_nil)))) (by walk_at "wn")) ?_ ?_
  · exact b_conv (b_raise1G foot_value tk rfl (List.Mem.head _) (by decide) T.ox_InvalidNumber T.ai_InvalidNumber T.ti_InvalidNumber (ex_InvalidNumber T) (hr.mono (by walk_at "lev")) T.xb_InvalidNumber T.n_InvalidNumber dd_D (by decide) (e_conv (e_name 2) (by walk_at "wn"))) rfl
  · refine b_fldO 0 0 T.cl_Form T.na_Form_own_terms rfl rfl (e_conv (e_newD (d_compF key_str rfl sc_Form_init.nd (s_list (e_new (n_sortedS (e_new (n_listD rfl (e_name 3) T.b_list)) T.b_sorted))) (blkOk_by (own := [("name", 4)]) rfl) (tg_name (i := 4)) (fun _ _ _ _ _ => (pg_name (i := 4) sc_Form_init.nd rfl (by walk_at "loc"))) (by decide) (fun _ _ _ _ _ _ _ _ _ => (t_neI (e_dget key_str hu2 (e_name 3) fun _ => (e_name 4)) fun _ => e_int)) (fun _ _ _ _ _ _ _ _ _ => (e_name 4)) (fun _ _ _ _ _ _ _ _ _ => (e_dget key_str hu2 (e_name 3) fun _ => (e_name 4))))) (by walk_at "wn")) (fun own_terms_11 => ?_)
    refine b_fldO 0 0 T.cl_Form T.na_Form_own_constant rfl rfl (e_conv (e_asInt (e_name 2)) (by walk_at "wn")) (fun own_constant_13 => ?_)
    exact b_end (NxOk.init (r := (⟨own_terms_11, own_constant_13⟩ : Form_)) (OsW.one fun _ _ h => h))
def m_Form_constant (a_self : Form_) : W Int :=
  bnd (ret (a_self.own_constant)) fun z => ret z
theorem ok_Form_constant (T : Txt P K mg ad) : FnOk P w K mg base CX0 1 ad.f_Form_constant ad.d_Form_constant ["self"] (spW (fun i : Form_ × Unit => [sv (rObj ad.c_Form (fl_Form K ad)) i.1]) (fun _ => []) (fun i => m_Form_constant i.1) rInt) := by
  refine okW T.F_Form_constant sc_Form_constant (fun _ => rfl) fun cdv A outer s0 H0 E0 B i hr => ?_
  obtain ⟨a_self, _⟩ := i
  have hu := hr.units
  have hu2 := room100 hr
  have hu8 := Nat.lt_of_le_of_lt (Nat.add_le_add_left (show 8 ≤ 100 by decide) _) hu2
  show BG _ _ _ _ _ _ (m_Form_constant a_self)
  unfold m_Form_constant
  exact b_ret RtOk.fn OsW.nil (e_conv (e_fld (g := fun q : Form_ => q.own_constant) T.cl_Form T.na_Form_own_constant (e_name 0)) (by walk_at "wn"))
def m_Form_terms (a_self : Form_) : W (List (Int × Str)) :=
  mapW (fun (x1 : Str) => bnd (optW (dget a_self.own_terms x1)) fun t2 => ret ((t2, x1))) (a_self.own_terms.map (·.1))
theorem ok_Form_terms (T : Txt P K mg ad) : FnOk P w K mg base CX0 1 ad.f_Form_terms ad.d_Form_terms ["self"] (spN (fun i : Form_ × Unit => [sv (rObj ad.c_Form (fl_Form K ad)) i.1]) (fun i => m_Form_terms i.1) (rT2 K rInt rStr)) := by
  refine okN T.F_Form_terms sc_Form_terms (fun _ => rfl) fun cdv A outer s0 H0 E0 B i hr hio => ?_
  obtain ⟨a_self, _⟩ := i
  have hu := hr.units
  have hu2 := room100 hr
  have hu8 := Nat.lt_of_le_of_lt (Nat.add_le_add_left (show 8 ≤ 100 by decide) _) hu2
  show BG _ _ _ _ _ _ (m_Form_terms a_self)
  unfold m_Form_terms
  exact b_retN hio (n_conv (n_comp (s := (rT2 K rInt rStr)) rfl sc_Form_terms.nd (s_keys (e_fld (g := fun q : Form_ => q.own_terms) T.cl_Form T.na_Form_own_terms (e_name 0))) (blkOk_by (own := [("name", 1)]) rfl) (tg_name (i := 1)) (fun _ _ _ _ _ => (pg_name (i := 1) sc_Form_terms.nd rfl (by walk_at "loc"))) (by decide) (fun _ _ _ _ _ _ _ _ _ => (e_tup2 (e_dget key_str hu2 (e_fld (g := fun q : Form_ => q.own_terms) T.cl_Form T.na_Form_own_terms (e_name 0)) fun _ => (e_name 1)) fun _ => (e_name 1)))) (by walk_at "wn"))
def m_is_small (a_form : Form_) : W Bool :=
  bnd (bnd (ret (!true)) fun c2 => if c2 = true then ret true else (bnd (noX (m_Form_terms a_form)) fun r1 => ret (decide (((4 : Int)) < ((r1.length : Int)))))) fun b4 => if b4 = true then (bnd (ret (false)) fun z => ret z) else (bnd (bnd (noX (m_Form_constant a_form)) fun r5 => bnd (noX (m_is_number_v0 r5 (-((99 : Int))) ((99 : Int)))) fun r6 => ret (!r6)) fun b7 => if b7 = true then (bnd (ret (false)) fun z => ret z) else (bnd (bnd (noX (m_Form_terms a_form)) fun r8 => bnd (mapW (fun (x9 : (Int × Str)) => ret (decide (((x9.1.natAbs : Int)) ≤ ((6 : Int))))) r8) fun ys10 => ret (ys10.all id)) fun z => ret z))
theorem ok_is_small (T : Txt P K mg ad) : FnOk P w K mg base CX0 3 ad.f_is_small ad.d_is_small ["form"] (spW (fun i : Form_ × Unit => [sv (rObj ad.c_Form (fl_Form K ad)) i.1]) (fun _ => []) (fun i => m_is_small i.1) rBool) := by
  refine okW T.F_is_small sc_is_small (fun _ => rfl) fun cdv A outer s0 H0 E0 B i hr => ?_
  obtain ⟨a_form, _⟩ := i
  have hu := hr.units
  have hu2 := room100 hr
  have hu8 := Nat.lt_of_le_of_lt (Nat.add_le_add_left (show 8 ≤ 100 by decide) _) hu2
  show BG _ _ _ _ _ _ (m_is_small a_form)
  unfold m_is_small
  refine b_ifA (t_conv (t_pw (w_or (t_not (t_val (e_isC (k := true) (ty_obj T.ic_Form) T.k_Form_Form (e_name 0) T.b_isinstance T.n_Form))) (w_or1 (t_gt (e_len (e_new (er_N (e_methZ (conv := fun q : Unit => (())) (dfl := []) (dvs := []) (fl := fl_Form K ad) (ok_Form_terms T) pass0 spf_N (hr.mono (by walk_at "lev")) T.cl_Form T.mt_Form_terms T.cb_Form_terms_0 (fun _ => .nil) (e_name 0) (fun _ => hh_none) (fun _ _ => rfl)))) T.b_len) fun _ => (e_gIntE T.gc_MOST_TERMS))))) (by walk_at "wn")) ?_ ?_
  · exact b_ret (RtOk.x RtOk.fn) OsW.nil (e_conv e_bl (by walk_at "wn"))
  · refine b_ifA (t_conv (t_not (t_val (e_call (ok_is_number_v0 T) (hr.mono (by walk_at "lev")) T.m_is_number T.F_is_number.kp T.bd_is_number (aa_cons (e_prop (ok_Form_constant T) (hr.mono (by walk_at "lev")) T.cl_Form T.pr_Form_constant T.bd_Form_constant (e_name 0)) fun _ => (aa_cons (e_neg (e_gIntE T.gc_MOST_CONSTANT)) fun _ => (aa_cons (e_gIntE T.gc_MOST_CONSTANT) fun _ => aa_nil))) (fun _ => OsLe.none) (fun _ => List.nodup_nil)))) (by walk_at "wn")) ?_ ?_
    · exact b_ret (RtOk.x RtOk.fn) OsW.nil (e_conv e_bl (by walk_at "wn"))
    · exact b_ret RtOk.fn OsW.nil (e_conv (e_all rfl (e_new (n_comp (s := rBool) rfl sc_is_small.nd (s_list (e_new (er_N (e_methZ (conv := fun q : Unit => (())) (dfl := []) (dvs := []) (fl := fl_Form K ad) (ok_Form_terms T) pass0 spf_N (hr.mono (by walk_at "lev")) T.cl_Form T.mt_Form_terms T.cb_Form_terms_0 (fun _ => .nil) (e_name 0) (fun _ => hh_none) (fun _ _ => rfl))))) (blkOk_by (own := [("coef", 1), ("name", 2)]) rfl) (tg_pair (i := 1) (j := 2)) (fun _ _ _ _ _ => (pg_tup rfl (pgs_cons (pg_name (i := 1) sc_is_small.nd rfl (by walk_at "loc")) (pgs_cons (pg_name (i := 2) sc_is_small.nd rfl (by walk_at "loc")) pgs_nil)))) (by decide) (fun _ _ _ _ _ _ _ _ _ => (e_le (e_abs (e_name 1) T.b_abs) fun _ => (e_gIntE T.gc_MOST_COEF))))) T.b_all) (by walk_at "wn"))
def m_Value_take (a_parts : (List (Dn (Nat × Value_)))) : W Value_ :=
  bnd (bnd (mapW (fun (x1 : (Dn (Nat × Value_))) => bnd (asNod x1) fun z2 => ret (z2.2.depth)) a_parts) fun ys3 => bnd (chk ((((0 : Int)) :: (ys3 ++ [])).length ≤ sizeLine) (ret (((0 : Int)) :: (ys3 ++ [])))) fun t4 => bnd (chk (t4 ≠ []) (ret (maxL t4))) fun t5 => ret (((1 : Int)) + t5)) fun depth_6 => bnd (bnd (mapW (fun (x7 : (Dn (Nat × Value_))) => bnd (asNod x7) fun z8 => ret (z8.2.size)) a_parts) fun ys9 => ret (((1 : Int)) + ys9.sum)) fun size_10 => bnd (ret (decide (((20 : Int)) < depth_6))) fun b11 => if b11 = true then (bnd (ret ((20 : Int))) fun v => thr ⟨"TooDeep", [.int v]⟩) else (bnd (ret (decide (((60 : Int)) < size_10))) fun b12 => if b12 = true then (bnd (ret ((60 : Int))) fun v => thr ⟨"TooMany", [.int v]⟩) else (bnd (ret (a_parts)) fun own_parts_13 => ret (⟨depth_6, size_10⟩ : Value_)))
theorem ok_Value_take (T : Txt P K mg ad) {C : Addr} (q : Q_Value K ad C) : FnOk P w K mg base (L2.CX P w) 3 ad.f_Value_take ad.d_Value_take ["self", "parts"] (spIX K (tbl ad) C (fun i : (List (Dn (Nat × Value_))) × Unit => [sv (rTup K (rDn K (rFam (fam K ad)))) i.1]) (fun i => m_Value_take i.1) (fl_Value K ad)) := by
  refine initX T.F_Value_take sc_Value_take (fun _ => rfl) fun cdv A outer s0 H0 E0 B self0 i hr tk => ?_
  obtain ⟨a_parts, _⟩ := i
  have hu := hr.units
  have hu2 := room100 hr
  have hu8 := Nat.lt_of_le_of_lt (Nat.add_le_add_left (show 8 ≤ 100 by decide) _) hu2
  show BG _ _ _ _ _ _ (m_Value_take a_parts)
  unfold m_Value_take
  refine b_fldO 0 0 q.cl q.depth rfl rfl (e_conv (e_add e_int fun _ => (e_max rfl (e_new (n_listS (ls_cons e_int (ls_star (e_new (n_comp (s := rInt) rfl sc_Value_take.nd (s_tup (e_name 1)) (blkOk_by (own := [("part", 2)]) rfl) (tg_name (i := 2)) (fun _ _ _ _ _ => (pg_name (i := 2) sc_Value_take.nd rfl (by walk_at "loc"))) (by decide) (fun _ _ _ _ _ _ _ _ _ => (e_fldF (g := fun q : Value_ => q.depth) (fam_depth T) (e_asNod (e_name 2)))))) ls_nil)))) T.b_max)) (by walk_at "wn")) (fun depth_6 => ?_)
  refine b_fldO 0 0 q.cl q.size rfl rfl (e_conv (e_add e_int fun _ => (e_sum rfl (e_new (n_comp (s := rInt) rfl sc_Value_take.nd (s_tup (e_name 1)) (blkOk_by (own := [("part", 2)]) rfl) (tg_name (i := 2)) (fun _ _ _ _ _ => (pg_name (i := 2) sc_Value_take.nd rfl (by walk_at "loc"))) (by decide) (fun _ _ _ _ _ _ _ _ _ => (e_fldF (g := fun q : Value_ => q.size) (fam_size T) (e_asNod (e_name 2)))))) T.b_sum)) (by walk_at "wn")) (fun size_10 => ?_)
  refine b_ifA (t_conv (t_gt (e_fldO 0 0 q.cl q.depth rfl rfl rfl) fun _ => (e_gIntE T.gc_MOST_DEPTH)) (by walk_at "wn")) ?_ ?_
  · exact b_conv (b_raise1G foot_value tk rfl (List.Mem.tail _ (List.Mem.tail _ (List.Mem.tail _ (List.Mem.tail _ (List.Mem.tail _ (List.Mem.tail _ (List.Mem.head _))))))) (by decide) T.ox_TooDeep T.ai_TooDeep T.ti_TooDeep (ex_TooDeep T) (hr.mono (by walk_at "lev")) T.xb_TooDeep T.n_TooDeep dd_int (by decide) (e_conv (e_gIntE T.gc_MOST_DEPTH) (by walk_at "wn"))) rfl
  · refine b_ifA (t_conv (t_gt (e_fldO 0 0 q.cl q.size rfl rfl rfl) fun _ => (e_gIntE T.gc_MOST_SIZE)) (by walk_at "wn")) ?_ ?_
    · exact b_conv (b_raise1G foot_value tk rfl (List.Mem.tail _ (List.Mem.tail _ (List.Mem.tail _ (List.Mem.tail _ (List.Mem.tail _ (List.Mem.head _)))))) (by decide) T.ox_TooMany T.ai_TooMany T.ti_TooMany (ex_TooMany T) (hr.mono (by walk_at "lev")) T.xb_TooMany T.n_TooMany dd_int (by decide) (e_conv (e_gIntE T.gc_MOST_SIZE) (by walk_at "wn"))) rfl
    · refine b_fldO 0 0 q.cl q.own_parts rfl rfl (e_conv (e_new (n_listT (e_name 1) T.b_list)) (by walk_at "wn")) (fun own_parts_13 => ?_)
      exact b_end (NxOk.init (r := (⟨depth_6, size_10⟩ : Value_)) (OsW.one (obj_le (.same (.same (.any .nil))))))
def m_Value_init_l1 (s2 : Unit) (x1 : (Dn (Nat × Value_))) : W Unit :=
  bnd (ret (!(x1.isNod fun y => fk_Value y.1))) fun b3 => if b3 = true then (bnd (asDat x1) fun v => thr ⟨"InvalidValue", [id v]⟩) else (ret (()))
def m_Value_init (a_parts : (List (Dn (Nat × Value_)))) : W Value_ :=
  bnd (ret (a_parts)) fun xs5 => bnd (forW m_Value_init_l1 (()) xs5) fun (s6 : Unit) => bnd (m_Value_take a_parts) fun r7 => ret (⟨r7.depth, r7.size⟩ : Value_)
theorem ok_Value_init (T : Txt P K mg ad) {C : Addr} (q : Q_Value K ad C) : FnR P w K mg base (L2.CX P w) 4 ad.f_Value_init (spISX K (tbl ad) C (rDn K (rFam (fam K ad))) m_Value_init (fl_Value K ad)) := by
  refine initSX T.F_Value_init sc_Value_init T.bs_Value_init fun cdv A outer s0 H0 E0 B self0 a_parts hr tk => ?_
  have hu := hr.units
  have hu2 := room100 hr
  have hu8 := Nat.lt_of_le_of_lt (Nat.add_le_add_left (show 8 ≤ 100 by decide) _) hu2
  show BG _ _ _ _ _ _ (m_Value_init a_parts)
  unfold m_Value_init
  refine b_for (S := Unit) (fun s => [sv (rAdr self0) (), sv (rTup K (rDn K (rFam (fam K ad)))) a_parts, sa]) (fun s => [(self0, oObj C [])]) (() : Unit) rfl (passes_of rfl) (s_conv (s_tup (e_name 1)) (by walk_at "wn")) (tg_name (i := 2)) (pg_name (i := 2) sc_Value_init.nd rfl (by walk_at "loc")) (fun M s2 x1 => ?_) (fun s6 => ?_) ⟨.inl rfl, .inl rfl, .inr rfl, trivial⟩ rfl
  · unfold m_Value_init_l1
    refine b_ifA (t_conv (t_not (t_val (e_isDn (k := fk_Value) T.kd_Value (fam_ic T) (fam_k_Value T) (e_name 2) T.b_isinstance T.n_Value))) (by walk_at "wn")) ?_ ?_
    · exact b_conv (b_raise1G foot_value tk rfl (List.Mem.tail _ (List.Mem.tail _ (List.Mem.tail _ (List.Mem.tail _ (List.Mem.head _))))) (by decide) T.ox_InvalidValue T.ai_InvalidValue T.ti_InvalidValue (ex_InvalidValue T) (hr.mono (by walk_at "lev")) T.xb_InvalidValue T.n_InvalidValue dd_D (by decide) (e_conv (e_asDat (e_name 2)) (by walk_at "wn"))) rfl
    · exact b_end (NxOk.nxS (s := (() : Unit)) ⟨.inl rfl, .inl rfl, .inr rfl, trivial⟩ (.cons_cons _ .slnil))
  · refine b_take' 0 (ok_Value_take T q) tk (hr.mono (by walk_at "lev")) q.cl q.mt_Value_take T.bd_Value_take rfl (aa_cons (e_name 1) fun _ => aa_nil) (by walk_at "wn") (fun r7 => ?_)
    exact b_end (NxOk.init (r := (⟨r7.depth, r7.size⟩ : Value_)) (OsW.one (obj_le (.same (.same (.same .nil))))))
def m_Number_init (a_number : Int) : W Value_ :=
  bnd (m_Value_init []) fun r1 => bnd (noX (m_need_number_v0 a_number (-((9999 : Int))) ((9999 : Int)))) fun _ => bnd (ret (a_number)) fun number_3 => ret (⟨r1.depth, r1.size⟩ : Value_)
theorem ok_Number_init (T : Txt P K mg ad) : FnOk P w K mg base (L2.CX P w) 5 ad.f_Number_init ad.d_Number_init ["self", "number"] (spIX K (tbl ad) ad.c_Number (fun i : Int × Unit => [sv rInt i.1]) (fun i => m_Number_init i.1) (fl_Number K ad)) := by
  refine initSup (F := nf_Number_init ad) T.sd_Number ns_Number_init (fun _ => rfl) fun A outer s0 H0 E0 B self0 i hr tk => ?_
  obtain ⟨a_number, _⟩ := i
  have hu := hr.units
  have hu2 := room100 hr
  have hu8 := Nat.lt_of_le_of_lt (Nat.add_le_add_left (show 8 ≤ 100 by decide) _) hu2
  show BGa _ _ _ _ _ _ _ (m_Number_init a_number)
  unfold m_Number_init
  refine bga_super0 T.sd_Number T.sr_Number T.b_super (ok_Value_init T (qValue_Number T)) tk (hr.mono (by walk_at "lev")) rfl (fun r1 => ?_)
  refine bga_of ?_
  refine b_expr (e_conv (e_call (ok_need_number_v0 T) (hr.mono (by walk_at "lev")) T.m_need_number T.F_need_number.kp T.bd_need_number (aa_cons (e_name 1) fun _ => (aa_cons (e_neg (e_gIntE T.gc_MOST_NUMBER)) fun _ => (aa_cons (e_gIntE T.gc_MOST_NUMBER) fun _ => aa_nil))) (fun _ => OsLe.none) (fun _ => List.nodup_nil)) (by walk_at "wn")) ?_
  refine b_fldO 0 0 T.cl_Number T.na_Number_number rfl rfl (e_conv (e_name 1) (by walk_at "wn")) (fun number_3 => ?_)
  exact b_end (NxOk.init (r := (⟨r1.depth, r1.size⟩ : Value_)) (OsW.one (obj_le (.same (.same (.same (.any .nil)))))))
def m_Pair_init (a_one : (Dn (Nat × Value_))) (a_other : (Dn (Nat × Value_))) : W Value_ :=
  bnd (ret ([a_one, a_other])) fun xs => bnd (m_Value_init xs) fun r1 => bnd (ret (a_one)) fun one_2 => bnd (ret (a_other)) fun other_3 => ret (⟨r1.depth, r1.size⟩ : Value_)
theorem ok_Pair_init (T : Txt P K mg ad) {C : Addr} (q : Q_Pair K ad C) : FnOk P w K mg base (L2.CX P w) 5 ad.f_Pair_init ad.d_Pair_init ["self", "one", "other"] (spIX K (tbl ad) C (fun i : (Dn (Nat × Value_)) × (Dn (Nat × Value_)) × Unit => [sv (rDn K (rFam (fam K ad))) i.1, sv (rDn K (rFam (fam K ad))) i.2.1]) (fun i => m_Pair_init i.1 i.2.1) (fl_Pair K ad)) := by
  refine initSup (F := nf_Pair_init ad) T.sd_Pair ns_Pair_init (fun _ => rfl) fun A outer s0 H0 E0 B self0 i hr tk => ?_
  obtain ⟨a_one, a_other, _⟩ := i
  have hu := hr.units
  have hu2 := room100 hr
  have hu8 := Nat.lt_of_le_of_lt (Nat.add_le_add_left (show 8 ≤ 100 by decide) _) hu2
  show BGa _ _ _ _ _ _ _ (m_Pair_init a_one a_other)
  unfold m_Pair_init
  refine bga_super T.sd_Pair q.sr T.b_super (ok_Value_init T q.q) tk (hr.mono (by walk_at "lev")) rfl (al_conv (al_cons (e_name 1) (al_cons (e_name 2) al_nil)) (by walk_at "wn")) (fun r1 => ?_)
  refine bga_of ?_
  refine b_fldO 0 0 q.q.cl q.one rfl rfl (e_conv (e_name 1) (by walk_at "wn")) (fun one_2 => ?_)
  refine b_fldO 0 0 q.q.cl q.other rfl rfl (e_conv (e_name 2) (by walk_at "wn")) (fun other_3 => ?_)
  exact b_end (NxOk.init (r := (⟨r1.depth, r1.size⟩ : Value_)) (OsW.one (obj_le (.same (.same (.same (.any (.any .nil))))))))
def m_Total_init (a_name : Str) (a_one : (Dn (Nat × Value_))) : W Value_ :=
  bnd (bnd (noX (m_is_name (.str a_name))) fun r1 => ret (!r1)) fun b2 => if b2 = true then (bnd (ret (a_name)) fun v => thr ⟨"InvalidName", [.str v]⟩) else (bnd (ret ([a_one])) fun xs => bnd (m_Value_init xs) fun r3 => bnd (ret (a_name)) fun name_4 => bnd (ret (a_one)) fun one_5 => ret (⟨r3.depth, r3.size⟩ : Value_))
theorem ok_Total_init (T : Txt P K mg ad) : FnOk P w K mg base (L2.CX P w) 5 ad.f_Total_init ad.d_Total_init ["self", "name", "one"] (spIX K (tbl ad) ad.c_Total (fun i : Str × (Dn (Nat × Value_)) × Unit => [sv rStr i.1, sv (rDn K (rFam (fam K ad))) i.2.1]) (fun i => m_Total_init i.1 i.2.1) (fl_Total K ad)) := by
  refine initSup (F := nf_Total_init ad) T.sd_Total ns_Total_init (fun _ => rfl) fun A outer s0 H0 E0 B self0 i hr tk => ?_
  obtain ⟨a_name, a_one, _⟩ := i
  have hu := hr.units
  have hu2 := room100 hr
  have hu8 := Nat.lt_of_le_of_lt (Nat.add_le_add_left (show 8 ≤ 100 by decide) _) hu2
  show BGa _ _ _ _ _ _ _ (m_Total_init a_name a_one)
  unfold m_Total_init
  refine bga_ifA (t_conv (t_not (t_val (e_call (ok_is_name T) (hr.mono (by walk_at "lev")) T.m_is_name T.F_is_name.kp T.bd_is_name (aa_cons (e_toD dd_str (e_name 1)) fun _ => aa_nil) (fun _ => OsLe.none) (fun _ => List.nodup_nil)))) (by walk_at "wn")) ?_ ?_
  · exact b_conv (b_raise1G foot_value tk rfl (List.Mem.tail _ (List.Mem.head _)) (by decide) T.ox_InvalidName T.ai_InvalidName T.ti_InvalidName (ex_InvalidName T) (hr.mono (by walk_at "lev")) T.xb_InvalidName T.n_InvalidName dd_str (by decide) (e_conv (e_name 1) (by walk_at "wn"))) rfl
  · refine bga_super T.sd_Total T.sr_Total T.b_super (ok_Value_init T (qValue_Total T)) tk (hr.mono (by walk_at "lev")) rfl (al_conv (al_cons (e_name 2) al_nil) (by walk_at "wn")) (fun r3 => ?_)
    refine bga_of ?_
    refine b_fldO 0 0 T.cl_Total T.na_Total_name rfl rfl (e_conv (e_name 1) (by walk_at "wn")) (fun name_4 => ?_)
    refine b_fldO 0 0 T.cl_Total T.na_Total_one rfl rfl (e_conv (e_name 2) (by walk_at "wn")) (fun one_5 => ?_)
    exact b_end (NxOk.init (r := (⟨r3.depth, r3.size⟩ : Value_)) (OsW.one (obj_le (.same (.same (.same (.any (.any .nil))))))))
def m_need_tests_l1 (s2 : Unit) (x1 : (Dn (Nat × Value_))) : W Unit :=
  bnd (ret (!(x1.isNod fun y => fk_Test y.1))) fun b3 => if b3 = true then (bnd (asDat x1) fun v => thr ⟨"InvalidTest", [id v]⟩) else (ret (()))
def m_need_tests (a_parts : (List (Dn (Nat × Value_)))) : W Unit :=
  bnd (ret (a_parts)) fun xs5 => bnd (forW m_need_tests_l1 (()) xs5) fun (s6 : Unit) => ret ()
theorem ok_need_tests (T : Txt P K mg ad) : FnOk P w K mg base (L2.CX P w) 3 ad.f_need_tests ad.d_need_tests ["parts"] (spX K (tbl ad) (fun i : (List (Dn (Nat × Value_))) × Unit => [sv (rLst (rDn K (rFam (fam K ad)))) i.1]) (fun _ => []) (fun i => m_need_tests i.1) rNon) := by
  refine okX T.F_need_tests sc_need_tests (fun _ => rfl) fun cdv A outer s0 H0 E0 B i hr tk hpo => ?_
  obtain ⟨a_parts, _⟩ := i
  have hu := hr.units
  have hu2 := room100 hr
  have hu8 := Nat.lt_of_le_of_lt (Nat.add_le_add_left (show 8 ≤ 100 by decide) _) hu2
  show BG _ _ _ _ _ _ (m_need_tests a_parts)
  unfold m_need_tests
  refine b_for (S := Unit) (fun s => [sv (rLst (rDn K (rFam (fam K ad)))) a_parts, sa]) (fun s => []) (() : Unit) rfl (passes_of rfl) (s_conv (s_list (e_name 0)) (by walk_at "wn")) (tg_name (i := 1)) (pg_name (i := 1) sc_need_tests.nd rfl (by walk_at "loc")) (fun M s2 x1 => ?_) (fun s6 => ?_) ⟨.inl rfl, .inr rfl, trivial⟩ rfl
  · unfold m_need_tests_l1
    refine b_ifA (t_conv (t_not (t_val (e_isDn (k := fk_Test) T.kd_Test (fam_ic T) (fam_k_Test T) (e_name 1) T.b_isinstance T.n_Test))) (by walk_at "wn")) ?_ ?_
    · exact b_conv (b_raise1G foot_value tk rfl (List.Mem.tail _ (List.Mem.tail _ (List.Mem.tail _ (List.Mem.head _)))) (by decide) T.ox_InvalidTest T.ai_InvalidTest T.ti_InvalidTest (ex_InvalidTest T) (hr.mono (by walk_at "lev")) T.xb_InvalidTest T.n_InvalidTest dd_D (by decide) (e_conv (e_asDat (e_name 1)) (by walk_at "wn"))) rfl
    · exact b_end (NxOk.nxS (s := (() : Unit)) ⟨.inl rfl, .inr rfl, trivial⟩ .slnil)
  · exact b_end (NxOk.fn OsW.nil)
def m_Round_init (a_form : Form_) : W Value_ :=
  bnd (m_Value_init []) fun r1 => bnd (bnd (noX (m_is_small a_form)) fun r2 => ret (!r2)) fun b3 => if b3 = true then (bnd (ret ((0 : Int))) fun v => thr ⟨"InvalidForm", [.int v]⟩) else (bnd (ret (a_form)) fun form_4 => ret (⟨r1.depth, r1.size⟩ : Value_))
theorem ok_Round_init (T : Txt P K mg ad) : FnOk P w K mg base (L2.CX P w) 5 ad.f_Round_init ad.d_Round_init ["self", "form"] (spIX K (tbl ad) ad.c_Round (fun i : Form_ × Unit => [sv (rObj ad.c_Form (fl_Form K ad)) i.1]) (fun i => m_Round_init i.1) (fl_Round K ad)) := by
  refine initSup (F := nf_Round_init ad) T.sd_Round ns_Round_init (fun _ => rfl) fun A outer s0 H0 E0 B self0 i hr tk => ?_
  obtain ⟨a_form, _⟩ := i
  have hu := hr.units
  have hu2 := room100 hr
  have hu8 := Nat.lt_of_le_of_lt (Nat.add_le_add_left (show 8 ≤ 100 by decide) _) hu2
  show BGa _ _ _ _ _ _ _ (m_Round_init a_form)
  unfold m_Round_init
  refine bga_super0 T.sd_Round T.sr_Round T.b_super (ok_Value_init T (qValue_Round T)) tk (hr.mono (by walk_at "lev")) rfl (fun r1 => ?_)
  refine bga_of ?_
  refine b_ifA (t_conv (t_not (t_val (e_call (ok_is_small T) (hr.mono (by walk_at "lev")) T.m_is_small T.F_is_small.kp T.bd_is_small (aa_cons (e_name 1) fun _ => aa_nil) (fun _ => OsLe.none) (fun _ => List.nodup_nil)))) (by walk_at "wn")) ?_ ?_
  · exact b_conv (b_raise1G foot_value tk rfl (List.Mem.tail _ (List.Mem.tail _ (List.Mem.head _))) (by decide) T.ox_InvalidForm T.ai_InvalidForm T.ti_InvalidForm (ex_InvalidForm T) (hr.mono (by walk_at "lev")) T.xb_InvalidForm T.n_InvalidForm dd_int (by decide) (e_conv e_int (by walk_at "wn"))) rfl
  · refine b_fldO 0 0 T.cl_Round T.na_Round_form rfl rfl (e_conv (e_name 1) (by walk_at "wn")) (fun form_4 => ?_)
    exact b_end (NxOk.init (r := (⟨r1.depth, r1.size⟩ : Value_)) (OsW.one (obj_le (.same (.same (.same (.any .nil)))))))
def m_Divides_init (a_number : Int) : W Value_ :=
  bnd (m_Value_init []) fun r1 => bnd (noX (m_need_number_v0 a_number ((1 : Int)) ((60 : Int)))) fun _ => bnd (ret (a_number)) fun number_3 => ret (⟨r1.depth, r1.size⟩ : Value_)
theorem ok_Divides_init (T : Txt P K mg ad) : FnOk P w K mg base (L2.CX P w) 5 ad.f_Divides_init ad.d_Divides_init ["self", "number"] (spIX K (tbl ad) ad.c_Divides (fun i : Int × Unit => [sv rInt i.1]) (fun i => m_Divides_init i.1) (fl_Divides K ad)) := by
  refine initSup (F := nf_Divides_init ad) T.sd_Divides ns_Divides_init (fun _ => rfl) fun A outer s0 H0 E0 B self0 i hr tk => ?_
  obtain ⟨a_number, _⟩ := i
  have hu := hr.units
  have hu2 := room100 hr
  have hu8 := Nat.lt_of_le_of_lt (Nat.add_le_add_left (show 8 ≤ 100 by decide) _) hu2
  show BGa _ _ _ _ _ _ _ (m_Divides_init a_number)
  unfold m_Divides_init
  refine bga_super0 T.sd_Divides T.sr_Divides T.b_super (ok_Value_init T (qValue_Divides T)) tk (hr.mono (by walk_at "lev")) rfl (fun r1 => ?_)
  refine bga_of ?_
  refine b_expr (e_conv (e_call (ok_need_number_v0 T) (hr.mono (by walk_at "lev")) T.m_need_number T.F_need_number.kp T.bd_need_number (aa_cons (e_name 1) fun _ => (aa_cons e_int fun _ => (aa_cons (e_gIntE T.gc_MOST_DIVISOR) fun _ => aa_nil))) (fun _ => OsLe.none) (fun _ => List.nodup_nil)) (by walk_at "wn")) ?_
  refine b_fldO 0 0 T.cl_Divides T.na_Divides_number rfl rfl (e_conv (e_name 1) (by walk_at "wn")) (fun number_3 => ?_)
  exact b_end (NxOk.init (r := (⟨r1.depth, r1.size⟩ : Value_)) (OsW.one (obj_le (.same (.same (.same (.any .nil)))))))
def m_Not_init (a_one : (Dn (Nat × Value_))) : W Value_ :=
  bnd (m_need_tests ([a_one])) fun _ => bnd (ret ([a_one])) fun xs => bnd (m_Value_init xs) fun r2 => bnd (ret (a_one)) fun one_3 => ret (⟨r2.depth, r2.size⟩ : Value_)
theorem ok_Not_init (T : Txt P K mg ad) : FnOk P w K mg base (L2.CX P w) 5 ad.f_Not_init ad.d_Not_init ["self", "one"] (spIX K (tbl ad) ad.c_Not (fun i : (Dn (Nat × Value_)) × Unit => [sv (rDn K (rFam (fam K ad))) i.1]) (fun i => m_Not_init i.1) (fl_Not K ad)) := by
  refine initSup (F := nf_Not_init ad) T.sd_Not ns_Not_init (fun _ => rfl) fun A outer s0 H0 E0 B self0 i hr tk => ?_
  obtain ⟨a_one, _⟩ := i
  have hu := hr.units
  have hu2 := room100 hr
  have hu8 := Nat.lt_of_le_of_lt (Nat.add_le_add_left (show 8 ≤ 100 by decide) _) hu2
  show BGa _ _ _ _ _ _ _ (m_Not_init a_one)
  unfold m_Not_init
  refine bga_expr (e_conv (er_V (e_callZ (conv := fun q : (List (Dn (Nat × Value_))) × Unit => (q.1, ())) (dfl := []) (dvs := []) (ok_need_tests T) (passB tk) spf_X0 (hr.mono (by walk_at "lev")) T.m_need_tests T.F_need_tests.kp T.cb_need_tests_1 (fun _ => .nil) (hh_pos (aa_cons (e_new (n_list (al_cons (e_name 1) al_nil))) fun _ => aa_nil) (fun _ => rfl)) (fun _ => rfl))) (by walk_at "wn")) ?_
  refine bga_super T.sd_Not T.sr_Not T.b_super (ok_Value_init T (qValue_Not T)) tk (hr.mono (by walk_at "lev")) rfl (al_conv (al_cons (e_name 1) al_nil) (by walk_at "wn")) (fun r2 => ?_)
  refine bga_of ?_
  refine b_fldO 0 0 T.cl_Not T.na_Not_one rfl rfl (e_conv (e_name 1) (by walk_at "wn")) (fun one_3 => ?_)
  exact b_end (NxOk.init (r := (⟨r2.depth, r2.size⟩ : Value_)) (OsW.one (obj_le (.same (.same (.same (.any .nil)))))))
def m_And_init (a_one : (Dn (Nat × Value_))) (a_other : (Dn (Nat × Value_))) : W Value_ :=
  bnd (m_need_tests ([a_one, a_other])) fun _ => bnd (ret ([a_one, a_other])) fun xs => bnd (m_Value_init xs) fun r2 => bnd (ret (a_one)) fun one_3 => bnd (ret (a_other)) fun other_4 => ret (⟨r2.depth, r2.size⟩ : Value_)
theorem ok_And_init (T : Txt P K mg ad) : FnOk P w K mg base (L2.CX P w) 5 ad.f_And_init ad.d_And_init ["self", "one", "other"] (spIX K (tbl ad) ad.c_And (fun i : (Dn (Nat × Value_)) × (Dn (Nat × Value_)) × Unit => [sv (rDn K (rFam (fam K ad))) i.1, sv (rDn K (rFam (fam K ad))) i.2.1]) (fun i => m_And_init i.1 i.2.1) (fl_And K ad)) := by
  refine initSup (F := nf_And_init ad) T.sd_And ns_And_init (fun _ => rfl) fun A outer s0 H0 E0 B self0 i hr tk => ?_
  obtain ⟨a_one, a_other, _⟩ := i
  have hu := hr.units
  have hu2 := room100 hr
  have hu8 := Nat.lt_of_le_of_lt (Nat.add_le_add_left (show 8 ≤ 100 by decide) _) hu2
  show BGa _ _ _ _ _ _ _ (m_And_init a_one a_other)
  unfold m_And_init
  refine bga_expr (e_conv (er_V (e_callZ (conv := fun q : (List (Dn (Nat × Value_))) × Unit => (q.1, ())) (dfl := []) (dvs := []) (ok_need_tests T) (passB tk) spf_X0 (hr.mono (by walk_at "lev")) T.m_need_tests T.F_need_tests.kp T.cb_need_tests_1 (fun _ => .nil) (hh_pos (aa_cons (e_new (n_list (al_cons (e_name 1) (al_cons (e_name 2) al_nil)))) fun _ => aa_nil) (fun _ => rfl)) (fun _ => rfl))) (by walk_at "wn")) ?_
  refine bga_super T.sd_And T.sr_And T.b_super (ok_Value_init T (qValue_And T)) tk (hr.mono (by walk_at "lev")) rfl (al_conv (al_cons (e_name 1) (al_cons (e_name 2) al_nil)) (by walk_at "wn")) (fun r2 => ?_)
  refine bga_of ?_
  refine b_fldO 0 0 T.cl_And T.na_And_one rfl rfl (e_conv (e_name 1) (by walk_at "wn")) (fun one_3 => ?_)
  refine b_fldO 0 0 T.cl_And T.na_And_other rfl rfl (e_conv (e_name 2) (by walk_at "wn")) (fun other_4 => ?_)
  exact b_end (NxOk.init (r := (⟨r2.depth, r2.size⟩ : Value_)) (OsW.one (obj_le (.same (.same (.same (.any (.any .nil))))))))
def m_Or_init (a_one : (Dn (Nat × Value_))) (a_other : (Dn (Nat × Value_))) : W Value_ :=
  bnd (m_need_tests ([a_one, a_other])) fun _ => bnd (ret ([a_one, a_other])) fun xs => bnd (m_Value_init xs) fun r2 => bnd (ret (a_one)) fun one_3 => bnd (ret (a_other)) fun other_4 => ret (⟨r2.depth, r2.size⟩ : Value_)
theorem ok_Or_init (T : Txt P K mg ad) : FnOk P w K mg base (L2.CX P w) 5 ad.f_Or_init ad.d_Or_init ["self", "one", "other"] (spIX K (tbl ad) ad.c_Or (fun i : (Dn (Nat × Value_)) × (Dn (Nat × Value_)) × Unit => [sv (rDn K (rFam (fam K ad))) i.1, sv (rDn K (rFam (fam K ad))) i.2.1]) (fun i => m_Or_init i.1 i.2.1) (fl_Or K ad)) := by
  refine initSup (F := nf_Or_init ad) T.sd_Or ns_Or_init (fun _ => rfl) fun A outer s0 H0 E0 B self0 i hr tk => ?_
  obtain ⟨a_one, a_other, _⟩ := i
  have hu := hr.units
  have hu2 := room100 hr
  have hu8 := Nat.lt_of_le_of_lt (Nat.add_le_add_left (show 8 ≤ 100 by decide) _) hu2
  show BGa _ _ _ _ _ _ _ (m_Or_init a_one a_other)
  unfold m_Or_init
  refine bga_expr (e_conv (er_V (e_callZ (conv := fun q : (List (Dn (Nat × Value_))) × Unit => (q.1, ())) (dfl := []) (dvs := []) (ok_need_tests T) (passB tk) spf_X0 (hr.mono (by walk_at "lev")) T.m_need_tests T.F_need_tests.kp T.cb_need_tests_1 (fun _ => .nil) (hh_pos (aa_cons (e_new (n_list (al_cons (e_name 1) (al_cons (e_name 2) al_nil)))) fun _ => aa_nil) (fun _ => rfl)) (fun _ => rfl))) (by walk_at "wn")) ?_
  refine bga_super T.sd_Or T.sr_Or T.b_super (ok_Value_init T (qValue_Or T)) tk (hr.mono (by walk_at "lev")) rfl (al_conv (al_cons (e_name 1) (al_cons (e_name 2) al_nil)) (by walk_at "wn")) (fun r2 => ?_)
  refine bga_of ?_
  refine b_fldO 0 0 T.cl_Or T.na_Or_one rfl rfl (e_conv (e_name 1) (by walk_at "wn")) (fun one_3 => ?_)
  refine b_fldO 0 0 T.cl_Or T.na_Or_other rfl rfl (e_conv (e_name 2) (by walk_at "wn")) (fun other_4 => ?_)
  exact b_end (NxOk.init (r := (⟨r2.depth, r2.size⟩ : Value_)) (OsW.one (obj_le (.same (.same (.same (.any (.any .nil))))))))
end
end K26
namespace K26
open PySem L2 Evl Mi
section
variable {P : Program} {w : World} {K : PySem.W.Frag} {mg : Str → Option Value} {base : Heap} {ad : Ad}
def m_law_bag_l1 (s : Int) (x : Int) : W Int :=
  bnd (bnd (mulI s 50147) fun t1 => bnd (modI x 2147483543) fun t2 => bnd (modI (t1 + t2 + 31) 2147483563) fun t3 => ret t3) fun m => ret m
def m_law_bag (ns : List Int) : W (List Int × Int) :=
  bnd (ret 12021) fun m => bnd (ret (cutL ns none (some 63))) fun xs => bnd (forW m_law_bag_l1 m xs) fun s : Int => bnd (ret (cutL ns none (some 63))) fun c => bnd (ret s) fun y => ret (c, y)
theorem ok_law_bag (T : Txt P K mg ad) : FnOk P w K mg base CX0 1 ad.f_law_bag ad.d_law_bag ["_law_script"] (spBag K) := by
  refine T.F_law_bag.ok sc_law_bag (fun vs H Q E ⟨a, ns, e, _⟩ => by rw [e]; rfl) fun cdv A outer s H vs Q E hr hsp => ?_
  obtain ⟨a, ns, rfl, hsq, hlen, hk⟩ := hsp
  refine ⟨_, (?_ : BG _ (bs0 H H []) [sv (rScr K) ns, sa, sa] [] _ (pBag (bs0 H H [])) (m_law_bag ns)), H, fun _ => True, ⟨bs0_start (Ex.refl H) (fun p hp => nomatch hp), .cons ⟨_, rfl, a, rfl, hsq, hlen⟩ (.cons trivial (.cons trivial .nil)), (fun p hp => nomatch hp), List.nodup_nil⟩, ?_, fun y hy b c H' h1 h2 h3 h4 h5 h6 h7 => hk b c _ _ H' h1 h2 h3 h4 h5 h6 h7⟩
  · unfold m_law_bag
    refine b_set 1 e_int (fun m => ?_) sc_law_bag.nd
    refine b_for (S := Int) (fun s => [sv (rScr K) ns, sv rInt s, sa]) (fun _ => []) (m : Int) rfl PassesOwn.never (s_conv (s_list (e_new (n_sliceScr (e_name 0) o_none (o_some e_int)))) (by walk_at "wn")) (tg_name (i := 2)) (pg_name (i := 2) sc_law_bag.nd rfl (by walk_at "loc")) (fun M s x => ?_) (fun s => ?_) ⟨.inl rfl, .inl rfl, .inr rfl, trivial⟩ rfl
    · unfold m_law_bag_l1
      refine b_set 1 (e_conv (e_mod (e_intI (e_add (e_add (e_mul (e_name 1) fun _ => e_int) fun _ => e_mod (e_intI (e_name 2) T.b_int) fun _ => e_int) fun _ => e_int) T.b_int) fun _ => e_int) (by walk_at "wn")) (fun m => ?_) sc_law_bag.nd
      exact b_end (NxOk.nxS (s := m) ⟨.inl rfl, .inl rfl, .inr rfl, trivial⟩ .slnil)
    · exact b_bagR (w1 := ret (cutL ns none (some 63))) (w2 := fun _ => ret s) (fun _ h => nomatch h) (n_conv (n_listL (e_new (n_sliceScr (e_name 0) o_none (o_some e_int))) T.b_list) (by walk_at "wn")) (fun _ _ => e_name 1)
  · unfold m_law_bag
    show forW m_law_bag_l1 12021 _ (fun _ => True) (fun _ => False)
    refine forW_of (I := fun _ => True) (fun s x Q _ h => ?_) trivial (fun _ _ => trivial)
    unfold m_law_bag_l1
    refine mulI_of (mul_small (by decide)) ?_
    refine modI_of (by decide) fun _ _ _ => ?_
    exact modI_of (by decide) fun _ _ _ => h _ trivial
theorem ok_law_draw (T : Txt P K mg ad) (b : Addr) (cells : List Int) : FnOk P w K mg base CX0 1 ad.f_law_draw ad.d_law_draw ["_law_bag_here", "_law_most"] (spW (fun i : Unit × Int × Unit => [sv (rAdr b) i.1, sv rInt i.2.1]) (fun _ => [(b, oBag cells)]) (fun i => drawW i.2.1) rInt) := by
  refine okW T.F_law_draw sc_law_draw (fun _ => rfl) fun cdv A outer s H E B i hr => ?_
  obtain ⟨_, most, _⟩ := i
  refine b_open 0 rfl bag_in fun p => ?_
  obtain ⟨n, d, m, k⟩ := p
  refine BG.imp (w := bnd (drC cells n d most) fun b => bnd (if b = true then drA cells n m else ret ()) fun _ : Unit => drawW most) ?_ ?_
  · unfold drC
    refine b_ifJ (S := Unit) (fun _ => [sv (rAdr b) (), sv rInt most, sa, sa, sa, sa]) (fun _ => [(b, oBag cells)])
      (t_conv (t_pw (w_and (t_lt (e_hidx 0 0 2 rfl rfl rfl) fun _ => e_name 1) (w_and1 (t_lt (e_hidx 0 0 1 rfl rfl rfl) fun _ => e_len (e_hidx 0 0 0 rfl rfl rfl) T.b_len)))) (by walk_at "wn")) ?_ ?_ (fun _ => ?_)
    · unfold drA
      refine b_set 2 (e_conv (e_idx (e_hidx 0 0 0 rfl rfl rfl) fun _ => e_hidx 0 0 1 rfl rfl rfl) (by walk_at "wn")) (fun cell => ?_) sc_law_draw.nd
      refine b_hput 0 0 1 rfl rfl (by show (1 : Nat) < 5; decide) (e_conv (e_add (e_hidx 0 0 1 rfl rfl rfl) fun _ => e_int) (by walk_at "wn")) (fun i1 => ?_)
      refine b_chk fun hi1 => ?_
      refine b_hput 0 0 3 rfl rfl (by show (3 : Nat) < 5; decide) (e_conv (e_mod (e_intI (e_add (e_add (e_mul (e_hidx 0 0 3 rfl rfl rfl) fun _ => e_int) fun _ => e_mod (e_intI (e_name 2) T.b_int) fun _ => e_int) fun _ => e_int) T.b_int) fun _ => e_int) (by walk_at "wn")) (fun m1 => ?_)
      refine b_hput 0 0 2 rfl rfl (by show (2 : Nat) < 5; decide) (e_conv (e_if (t_ge (e_name 2) fun _ => e_pow e_int fun _ => e_int) (e_name 2) e_int) (by walk_at "wn")) (fun d1 => ?_)
      exact b_end (NxOk.one rfl ⟨.inl rfl, .inl rfl, .inr rfl, .inr rfl, .inr rfl, .inr rfl, trivial⟩ (bag_out (n := n + 1) (by omega)))
    · exact b_end (NxOk.one rfl ⟨.inl rfl, .inl rfl, .inr rfl, .inr rfl, .inr rfl, .inr rfl, trivial⟩ (bag_out rfl))
    · refine b_open 0 rfl bag_in fun p => ?_
      obtain ⟨n, d, m, k⟩ := p
      refine BG.imp (w := bnd (ret (decide (most ≤ d))) fun b => if b = true then drB d most else drR m k most) ?_ ?_
      · refine b_ifA (t_conv (t_ge (e_hidx 0 0 2 rfl rfl rfl) fun _ => e_name 1) (by walk_at "wn")) ?_ ?_
        · unfold drB
          refine b_set 3 (e_conv (e_mod (e_intI (e_hidx 0 0 2 rfl rfl rfl) T.b_int) fun _ => e_name 1) (by walk_at "wn")) (fun digit => ?_) sc_law_draw.nd
          refine b_hput 0 0 2 rfl rfl (by show (2 : Nat) < 5; decide) (e_conv (e_div (e_hidx 0 0 2 rfl rfl rfl) fun _ => e_name 1) (by walk_at "wn")) (fun d1 => ?_)
          exact b_ret (RtOk.x RtOk.fn) (OsW.one (bag_out rfl)) (e_name 3)
        · unfold drR
          refine b_hput 0 0 4 rfl rfl (by show (4 : Nat) < 5; decide) (e_conv (e_add (e_hidx 0 0 4 rfl rfl rfl) fun _ => e_int) (by walk_at "wn")) (fun k1 => ?_)
          refine b_set 4 (e_conv (e_mod (e_intI (e_add (e_hidx 0 0 3 rfl rfl rfl) fun _ => e_mul (e_hidx 0 0 4 rfl rfl rfl) fun _ => e_int) T.b_int) fun _ => e_int) (by walk_at "wn")) (fun base => ?_) sc_law_draw.nd
          refine b_set 5 (e_conv (e_mul (e_mod (e_intI (e_mul (e_name 4) fun _ => e_name 4) T.b_int) fun _ => e_int) fun _ => e_add (e_mod (e_intI (e_name 4) T.b_int) fun _ => e_int) fun _ => e_int) (by walk_at "wn")) (fun late => ?_) sc_law_draw.nd
          refine b_hput 0 0 3 rfl rfl (by show (3 : Nat) < 5; decide) (e_conv (e_mod (e_intI (e_add (e_add (e_name 5) fun _ => e_mul e_int fun _ => e_name 4) fun _ => e_int) T.b_int) fun _ => e_int) (by walk_at "wn")) (fun m1 => ?_)
          exact b_ret RtOk.fn (OsW.one (bag_out rfl)) (e_conv (e_mod (e_intI (e_add (e_div (e_hidx 0 0 3 rfl rfl rfl) fun _ => e_int) fun _ => e_mul (e_mod (e_intI (e_hidx 0 0 3 rfl rfl rfl) T.b_int) fun _ => e_int) fun _ => e_int) T.b_int) fun _ => e_name 1) (by walk_at "wn"))
      · rintro P E ⟨h1, h2, h3⟩
        show (if decide (most ≤ d) = true then drB d most else drR m k most) P E
        split
        · exact drB_of h1 h2 h3
        · exact drR_of h1 h2 h3
  · intro P E h
    refine drC_of (fun hn => drA_of hn ?_) ?_
    · exact h
    · exact h
theorem ok_law_any {α : Type} (T : Txt P K mg ad) (b : Addr) (cells : List Int) (r : Rp α) : FnOk P w K mg base CX0 2 ad.f_law_any ad.d_law_any ["_law_bag_here", "_law_some"] (spW (fun i : Unit × List α × Unit => [sv (rAdr b) i.1, sv (rLst r) i.2.1]) (fun _ => [(b, oBag cells)]) (fun i => anyW i.2.1) r) := by
  refine okW T.F_law_any sc_law_any (fun _ => rfl) fun cdv A outer s H E B i hr => ?_
  obtain ⟨_, xs, _⟩ := i
  show BG _ _ _ _ _ _ (anyW xs)
  refine b_conv (b_ret RtOk.fn (OsW.of (OsLe.mem (List.Mem.head _))) (e_idx (e_name 1) fun _ => e_call (ok_law_draw T b cells) (hr.mono (by walk_at "lev")) T.m_law_draw T.F_law_draw.kp T.bd_law_draw (aa_cons (e_name 0) fun _ => aa_cons (e_len (e_name 1) T.b_len) fun _ => aa_nil) (fun _ => OsLe.mem (List.Mem.head _)) (fun _ => by simp))) ?_
  unfold anyW
  simp only [Mi.wn_bb, Mi.wn_br, Mi.wn_rb]
theorem ok_law_same {α β : Type} {r : Rp α} {s : Rp β} {f : α → PyData} {g : β → PyData} {n m : Nat} (T : Txt P K mg ad) (d : DD K r f n) (e : DD K s g m) (hn : n ≤ 64 := by decide) (hm : m ≤ 64 := by decide) :
    FnG P w K mg base CX0 1 ad.f_law_same ad.d_law_same ["_law_found", "_law_due"] (spW (fun i : α × β × Unit => [sv r i.1, sv s i.2.1]) (fun _ => []) (fun i => sameW f g i.1 i.2.1) rBool) := by
  refine fnW T.F_law_same sc_law_same (fun _ => rfl) fun cdv A outer s0 H E B i hr hgu0 => ?_
  obtain ⟨x, y, _⟩ := i
  have hu2 := room100 hr
  have hgu := guards_deeper (q := "_law_same") (sc := defScope s_law_same) (n := s0.heap.objs.size) (f := ad.f_law_same) (c := cdv) hgu0
  show BG _ _ _ _ _ _ (sameW f g x y)
  refine b_conv (b_ret RtOk.fn OsW.nil (e_eqS (e_repr hu2 hgu d (e_name 0) T.b_repr hn) fun _ => e_repr hu2 hgu e (e_name 1) T.b_repr hm)) ?_
  unfold sameW
  simp only [Mi.wn_bb, Mi.wn_br, Mi.wn_rb]
def m_law_field (a_law_e : Er) : W PyData :=
  bnd (ret (decide (Str.ofString a_law_e.cls ∈ ([("InvalidForm" : Str), ("InvalidRows" : Str), ("InvalidPoly" : Str), ("InvalidTable" : Str), ("InvalidSingles" : Str), ("InvalidDeed" : Str)])))) fun b1 => if b1 = true then (bnd (excF ftb a_law_e "at") fun z => ret z) else (bnd (ret (decide (Str.ofString a_law_e.cls ∈ ([("DuplicateName" : Str), ("UnknownName" : Str), ("TooMany" : Str), ("TooDeep" : Str)])))) fun b3 => if b3 = true then (bnd (bnd (ret (decide (Str.ofString a_law_e.cls ∈ ([("DuplicateName" : Str), ("UnknownName" : Str)])))) fun c => if c = true then excF ftb a_law_e "name" else excF ftb a_law_e "most") fun z => ret z) else (bnd (ret (decide (Str.ofString a_law_e.cls ∈ ([("InvalidText" : Str), ("OtherParameters" : Str), ("NothingLeft" : Str)])))) fun b7 => if b7 = true then (bnd (ret ((fun _ => .none) (()))) fun z => ret z) else (bnd (ret (decide (Str.ofString a_law_e.cls ∈ ([("InvalidPage" : Str), ("InUse" : Str)])))) fun b8 => if b8 = true then (bnd (bnd (ret (decide (Str.ofString a_law_e.cls = ("InvalidPage" : Str)))) fun c => if c = true then excF ftb a_law_e "line" else excF ftb a_law_e "user") fun z => ret z) else (bnd (ret (decide (Str.ofString a_law_e.cls ∈ ([("Full" : Str), ("NotEnough" : Str)])))) fun b12 => if b12 = true then (bnd (bnd (ret (decide (Str.ofString a_law_e.cls = ("Full" : Str)))) fun c => if c = true then excF ftb a_law_e "limit" else excF ftb a_law_e "number") fun z => ret z) else (bnd (excF ftb a_law_e "given") fun z => ret z)))))
theorem ok_law_field (T : Txt P K mg ad) : FnS P w K mg base 1 ad.f_law_field ad.d_law_field ["_law_e"] (fun p => spW (fun i : Er × Unit => [sv (rExc K (tbl ad) p) i.1]) (fun _ => []) (fun i => m_law_field i.1) (rD K)) := by
  refine okS T.F_law_field sc_law_field (fun _ _ => rfl) fun cdv A outer s0 H0 B p i => ?_
  obtain ⟨a_law_e, _⟩ := i
  show BG _ _ _ _ _ _ (m_law_field a_law_e)
  unfold m_law_field
  refine b_ifA (t_conv (t_inST (e_excCode 0 (List.Mem.head _) T.tbok) fun _ => (e_tupL (al_cons e_str (al_cons e_str (al_cons e_str (al_cons e_str (al_cons e_str (al_cons e_str al_nil)))))))) (by walk_at "wn")) ?_ ?_
  · exact b_ret (RtOk.x RtOk.fn) OsW.nil (e_conv (e_excFld 0 (List.Mem.head _) T.tbok) (by walk_at "wn"))
  · refine b_ifA (t_conv (t_inST (e_excCode 0 (List.Mem.head _) T.tbok) fun _ => (e_tupL (al_cons e_str (al_cons e_str (al_cons e_str (al_cons e_str al_nil)))))) (by walk_at "wn")) ?_ ?_
    · exact b_ret (RtOk.x RtOk.fn) OsW.nil (e_conv (e_if (t_inST (e_excCode 0 (List.Mem.head _) T.tbok) fun _ => (e_tupL (al_cons e_str (al_cons e_str al_nil)))) (e_excFld 0 (List.Mem.head _) T.tbok) (e_excFld 0 (List.Mem.head _) T.tbok)) (by walk_at "wn"))
    · refine b_ifA (t_conv (t_inST (e_excCode 0 (List.Mem.head _) T.tbok) fun _ => (e_tupL (al_cons e_str (al_cons e_str (al_cons e_str al_nil))))) (by walk_at "wn")) ?_ ?_
      · exact b_ret (RtOk.x RtOk.fn) OsW.nil (e_conv (e_toD dd_non e_non) (by walk_at "wn"))
      · refine b_ifA (t_conv (t_inST (e_excCode 0 (List.Mem.head _) T.tbok) fun _ => (e_tupL (al_cons e_str (al_cons e_str al_nil)))) (by walk_at "wn")) ?_ ?_
        · exact b_ret (RtOk.x RtOk.fn) OsW.nil (e_conv (e_if (t_eqS (e_excCode 0 (List.Mem.head _) T.tbok) fun _ => e_str) (e_excFld 0 (List.Mem.head _) T.tbok) (e_excFld 0 (List.Mem.head _) T.tbok)) (by walk_at "wn"))
        · refine b_ifA (t_conv (t_inST (e_excCode 0 (List.Mem.head _) T.tbok) fun _ => (e_tupL (al_cons e_str (al_cons e_str al_nil)))) (by walk_at "wn")) ?_ ?_
          · exact b_ret (RtOk.x RtOk.fn) OsW.nil (e_conv (e_if (t_eqS (e_excCode 0 (List.Mem.head _) T.tbok) fun _ => e_str) (e_excFld 0 (List.Mem.head _) T.tbok) (e_excFld 0 (List.Mem.head _) T.tbok)) (by walk_at "wn"))
          · exact b_ret RtOk.fn OsW.nil (e_conv (e_excFld 0 (List.Mem.head _) T.tbok) (by walk_at "wn"))
def m_law_got (ask : W PyData) : W (Str × PyData) := tryW (bnd ask fun x => ret (("" : Str), x)) fun e => bnd (noX (m_law_field e)) fun x => ret (Str.ofString e.cls, x)
theorem ok_law_got (T : Txt P K mg ad) : FnOk P w K mg base CX0 13 ad.f_law_got ad.d_law_got ["_law_ask"] (spW (fun i : (W PyData) × Unit => [sv (rClo P w K mg base (tbl ad) 12 (rD K)) i.1]) (fun _ => []) (fun i => m_law_got i.1) (rT2 K rStr (rD K))) := by
  refine tryFn (x1 := "DialError") (x2 := "Missing") (n := "_law_e") (i := 1) (w1 := fun i : (W PyData) × Unit => bnd i.1 fun x => ret (("" : Str), x)) (w2 := fun e => bnd (noX (m_law_field e)) fun x => ret (Str.ofString e.cls, x)) T.F_law_got sc_law_got (fun _ => rfl) rfl rfl rfl rfl rfl (by decide) (by decide) T.n_DialError T.n_Missing T.xall ?_ ?_
  · intro cdv A outer s0 H0 E0 pn xe B i0 hr tk
    obtain ⟨ask, _⟩ := i0
    exact (b_conv (b_ret RtOk.fn OsW.nil (e_tup2 e_str fun _ => e_callClo 0 tk (hr.mono (by walk_at "lev")))) (by walk_at "wn"))
  · intro cdv A outer s0 H0 E0 a oe pn B e hr
    exact (b_conv (b_ret RtOk.fn OsW.nil (e_tup2 (e_excCode 1 (List.Mem.head _) T.tbok) fun _ => e_callS (ok_law_field T) (List.Mem.head _) (L2H.RoomH.mono (k := 12) ⟨hr.dp, hr.un⟩ (by walk_at "lev")) T.m_law_field T.F_law_field.kp T.bd_law_field (aa_cons (e_name 1) fun _ => aa_nil))) (by walk_at "wn"))
def m_law_all_got (a_law_asks : (List (W PyData))) : W (List (Str × PyData)) :=
  bnd (mapW (fun (x1 : (W PyData)) => noX (m_law_got x1)) a_law_asks) fun z => ret z
theorem ok_law_all_got (T : Txt P K mg ad) : FnOk P w K mg base CX0 14 ad.f_law_all_got ad.d_law_all_got ["_law_asks"] (spW (fun i : (List (W PyData)) × Unit => [sv (rLst (rClo P w K mg base (tbl ad) 12 (rD K))) i.1]) (fun _ => []) (fun i => m_law_all_got i.1) (rLst (rT2 K rStr (rD K)))) := by
  refine okW T.F_law_all_got sc_law_all_got (fun _ => rfl) fun cdv A outer s0 H0 E0 B i hr => ?_
  obtain ⟨a_law_asks, _⟩ := i
  have hu := hr.units
  have hu2 := room100 hr
  have hu8 := Nat.lt_of_le_of_lt (Nat.add_le_add_left (show 8 ≤ 100 by decide) _) hu2
  show BG _ _ _ _ _ _ (m_law_all_got a_law_asks)
  unfold m_law_all_got
  exact b_ret RtOk.fn OsW.nil (e_conv (e_new (n_comp (s := (rT2 K rStr (rD K))) rfl sc_law_all_got.nd (s_list (e_name 0)) (blkOk_by (own := [("_law_ask", 1)]) rfl) (tg_name (i := 1)) (fun _ _ _ _ _ => (pg_name (i := 1) sc_law_all_got.nd rfl (by walk_at "loc"))) (by decide) (fun _ _ _ _ _ _ _ _ _ => (e_call (ok_law_got T) (hr.mono (by walk_at "lev")) T.m_law_got T.F_law_got.kp T.bd_law_got (aa_cons (e_name 1) fun _ => aa_nil) (fun _ => OsLe.none) (fun _ => List.nodup_nil))))) (by walk_at "wn"))
def m_law_tests_so_l2 (s28 : (Nat × Value_)) (x27 : Int) : W (Nat × Value_) :=
  bnd (bnd (noX (m_Not_init ((Dn.nod s28 : (Dn (Nat × Value_)))))) fun r30 => ret (((8 : Nat), r30))) fun tall_29 => ret (tall_29)
def m_law_tests_so_l1 (s11 : (List (Nat × Value_))) (x10 : Int) : W (List (Nat × Value_)) :=
  bndP (bnd (ret ((0 : Int))) fun k => popW s11 k) fun y14 ys12 => bndP (bnd (ret ((0 : Int))) fun k => popW ys12 k) fun z15 zs13 => bnd (bnd (ret (decide (x10 < ((15 : Int))))) fun c => if c = true then bnd (noX (m_And_init ((Dn.nod y14 : (Dn (Nat × Value_)))) ((Dn.nod z15 : (Dn (Nat × Value_)))))) fun r18 => ret (((9 : Nat), r18)) else bnd (noX (m_Or_init ((Dn.nod y14 : (Dn (Nat × Value_)))) ((Dn.nod z15 : (Dn (Nat × Value_)))))) fun r19 => ret (((10 : Nat), r19))) fun y21 => chk (zs13.length < sizeLine) (ret ((zs13 ++ [y21])))
def m_law_tests_so : W Bool :=
  bnd (bnd (rng2 ((1 : Int)) ((31 : Int))) fun l1 => mapW (fun (x2 : Int) => bnd (noX (m_Divides_init x2)) fun r3 => ret (((7 : Nat), r3))) l1) fun xs6 => bnd (bnd (noX (m_Divides_init ((2 : Int)))) fun r8 => ret (((7 : Nat), r8))) fun z7 => bnd (rng1 ((29 : Int))) fun xs22 => bnd (forW m_law_tests_so_l1 (xs6) xs22) fun (s23 : (List (Nat × Value_))) => bnd (idx s23 ((0 : Int))) fun made_24 => bnd (rng1 ((18 : Int))) fun xs31 => bnd (forW m_law_tests_so_l2 (z7) xs31) fun (s32 : (Nat × Value_)) => bnd (bnd (noX (m_Not_init ((Dn.nod made_24 : (Dn (Nat × Value_)))))) fun r33 => bnd (noX (m_Not_init ((Dn.nod s32 : (Dn (Nat × Value_)))))) fun r34 => bnd (noX (sameW (fun xs => PyData.list (xs.map .int)) (fun xs => PyData.list (xs.map .int)) ([made_24.2.size, (((8 : Nat), r33)).2.size, s32.2.depth, (((8 : Nat), r34)).2.depth]) ([(59 : Int), (60 : Int), (19 : Int), (20 : Int)]))) fun r35 => ret (!r35)) fun b36 => if b36 = true then (bnd (ret (false)) fun z => ret z) else (bnd (ret (())) fun asks_37 => bnd (ret (())) fun asks_38 => bnd (bnd (noX (m_law_all_got [bnd (bnd (m_Divides_init ((2 : Int))) fun r40 => bnd (m_And_init ((Dn.nod made_24 : (Dn (Nat × Value_)))) ((Dn.nod (((7 : Nat), r40)) : (Dn (Nat × Value_))))) fun r39 => ret (((9 : Nat), r39))) fun _ => fail, bnd (bnd (m_Divides_init ((2 : Int))) fun r43 => bnd (m_Not_init ((Dn.nod made_24 : (Dn (Nat × Value_))))) fun r44 => bnd (m_Or_init ((Dn.nod (((7 : Nat), r43)) : (Dn (Nat × Value_)))) ((Dn.nod (((8 : Nat), r44)) : (Dn (Nat × Value_))))) fun r42 => ret (((10 : Nat), r42))) fun _ => fail, bnd (bnd (m_Not_init ((Dn.nod made_24 : (Dn (Nat × Value_))))) fun r47 => bnd (m_Not_init ((Dn.nod (((8 : Nat), r47)) : (Dn (Nat × Value_))))) fun r46 => ret (((8 : Nat), r46))) fun _ => fail, bnd (bnd (m_Not_init ((Dn.nod s32 : (Dn (Nat × Value_))))) fun r50 => bnd (m_Not_init ((Dn.nod (((8 : Nat), r50)) : (Dn (Nat × Value_))))) fun r49 => ret (((8 : Nat), r49))) fun _ => fail, bnd (bnd (m_Divides_init ((2 : Int))) fun r53 => bnd (m_Not_init ((Dn.nod s32 : (Dn (Nat × Value_))))) fun r54 => bnd (m_And_init ((Dn.nod (((7 : Nat), r53)) : (Dn (Nat × Value_)))) ((Dn.nod (((8 : Nat), r54)) : (Dn (Nat × Value_))))) fun r52 => ret (((9 : Nat), r52))) fun _ => fail, bnd (bnd (m_Not_init ((Dn.nod s32 : (Dn (Nat × Value_))))) fun r57 => bnd (m_Divides_init ((2 : Int))) fun r58 => bnd (m_Or_init ((Dn.nod (((8 : Nat), r57)) : (Dn (Nat × Value_)))) ((Dn.nod (((7 : Nat), r58)) : (Dn (Nat × Value_))))) fun r56 => ret (((10 : Nat), r56))) fun _ => fail])) fun r60 => bnd (repL ([(("TooMany" : Str), .int ((60 : Int)))]) ((3 : Int))) fun t61 => bnd (repL ([(("TooDeep" : Str), .int ((20 : Int)))]) ((3 : Int))) fun t62 => bnd (catL t61 t62) fun t63 => noX (sameW (fun xs => PyData.list (xs.map (fun x => PyData.tuple [.str x.1, id x.2]))) (fun xs => PyData.list (xs.map (fun x => PyData.tuple [.str x.1, id x.2]))) r60 t63)) fun z => ret z)
theorem ok_law_tests_so (T : Txt P K mg ad) {cL Tb : Addr} (hfd : ad.d_law_tests_so.code = .ref cL) (hTB : LamX.TabB base mg cL Tb) : FnG P w K mg base CX0 15 ad.f_law_tests_so ad.d_law_tests_so [] (spW (fun i : Unit => []) (fun _ => [(Tb, oTab (("_law_tests_so" : Str) ++ (".<locals>." : Str) ++ ("<lambda>" : Str)))]) (fun i => m_law_tests_so) rBool) := by
  refine fnWc T.F_law_tests_so hfd sc_law_tests_so (fun _ => rfl) fun A outer s0 H0 E0 B i hr hgu0 => ?_
  cases i
  have hu := hr.units
  have hu2 := room100 hr
  have hu8 := Nat.lt_of_le_of_lt (Nat.add_le_add_left (show 8 ≤ 100 by decide) _) hu2
  have hgu := guards_deeper (q := "_law_tests_so") (sc := defScope s_law_tests_so) (n := s0.heap.objs.size) (f := ad.f_law_tests_so) (c := .ref cL) hgu0
  show BG _ _ _ _ _ _ (m_law_tests_so)
  unfold m_law_tests_so
  first | refine b_parN (n_conv (n_comp (s := (rFam (fam K ad))) rfl sc_law_tests_so.nd (s_rng2 e_int (fun _ => e_int) T.b_range) (blkOk_by (own := [("_law_k", 2)]) rfl) (tg_name (i := 2)) (fun _ _ _ _ _ => (pg_name (i := 2) sc_law_tests_so.nd rfl (by walk_at "loc"))) (by decide) (fun _ _ _ _ _ _ _ _ _ => (e_fam (T := fam K ad) (t := 7) rfl (e_makeZ (k := 5) (args := fun i : Int × Unit => [sv rInt i.1]) (conv := fun q : Int × Unit => (q.1, ())) (dfl := []) (dvs := []) T.mk_Divides (ok_Divides_init T) passN spm_XN2 (hr.mono (by walk_at "lev")) T.n_Divides T.cb_Divides_init_1 (fun _ => .nil) (hh_pos (aa_cons (e_name 2) fun _ => aa_nil) (fun _ => rfl)) (fun _ => rfl))))) (by walk_at "wn")) (fun D5 xs6 => e_conv (e_fam (T := fam K ad) (t := 7) rfl (e_makeZ (k := 5) (args := fun i : Int × Unit => [sv rInt i.1]) (conv := fun q : Int × Unit => (q.1, ())) (dfl := []) (dvs := []) T.mk_Divides (ok_Divides_init T) passN spm_XN2 (hr.mono (by walk_at "lev")) T.n_Divides T.cb_Divides_init_1 (fun _ => .nil) (hh_pos (aa_cons e_int fun _ => aa_nil) (fun _ => rfl)) (fun _ => rfl))) (by walk_at "wn")) (fun h => ps_par (i := 0) (j := 1) rfl sc_law_tests_so.nd rfl rfl (by decide) rfl rfl h rfl) (fun D5 xs6 z7 => ?_) | refine b_parNT (n_conv (n_comp (s := (rFam (fam K ad))) rfl sc_law_tests_so.nd (s_rng2 e_int (fun _ => e_int) T.b_range) (blkOk_by (own := [("_law_k", 2)]) rfl) (tg_name (i := 2)) (fun _ _ _ _ _ => (pg_name (i := 2) sc_law_tests_so.nd rfl (by walk_at "loc"))) (by decide) (fun _ _ _ _ _ _ _ _ _ => (e_fam (T := fam K ad) (t := 7) rfl (e_makeZ (k := 5) (args := fun i : Int × Unit => [sv rInt i.1]) (conv := fun q : Int × Unit => (q.1, ())) (dfl := []) (dvs := []) T.mk_Divides (ok_Divides_init T) passN spm_XN2 (hr.mono (by walk_at "lev")) T.n_Divides T.cb_Divides_init_1 (fun _ => .nil) (hh_pos (aa_cons (e_name 2) fun _ => aa_nil) (fun _ => rfl)) (fun _ => rfl))))) (by walk_at "wn")) (fun D5 xs6 => e_conv (e_fam (T := fam K ad) (t := 7) rfl (e_makeZ (k := 5) (args := fun i : Int × Unit => [sv rInt i.1]) (conv := fun q : Int × Unit => (q.1, ())) (dfl := []) (dvs := []) T.mk_Divides (ok_Divides_init T) passN spm_XN2 (hr.mono (by walk_at "lev")) T.n_Divides T.cb_Divides_init_1 (fun _ => .nil) (hh_pos (aa_cons e_int fun _ => aa_nil) (fun _ => rfl)) (fun _ => rfl))) (by walk_at "wn")) (fun h => ps_asg (pe_tup h) (pg_tup rfl (pgs_cons (pg_name (i := 0) sc_law_tests_so.nd rfl (by walk_at "loc")) (pgs_cons (pg_name (i := 1) sc_law_tests_so.nd rfl (by walk_at "loc")) pgs_nil)))) (fun D5 xs6 z7 => ?_)
  refine b_for (S := (List (Nat × Value_))) (fun s => [sv (rAdr D5) (), sv (rFam (fam K ad)) z7, sa, sa, sa, sa, sa]) (fun s => [(D5, oLst (rFam (fam K ad)) s), (Tb, oTab (("_law_tests_so" : Str) ++ (".<locals>." : Str) ++ ("<lambda>" : Str)))]) (xs6 : (List (Nat × Value_))) rfl PassesOwn.never (s_conv (s_rng1 e_int T.b_range) (by walk_at "wn")) (tg_name (i := 2)) (pg_name (i := 2) sc_law_tests_so.nd rfl (by walk_at "loc")) (fun M s11 x10 => ?_) (fun s23 => ?_) ⟨.inl rfl, .inl rfl, .inr rfl, .inr rfl, .inr rfl, .inr rfl, .inr rfl, trivial⟩ rfl
  · unfold m_law_tests_so_l1
    first | refine b_parO (r := (rFam (fam K ad))) (s := (rFam (fam K ad))) (os1 := fun ys12 : List (Nat × Value_) => [(D5, oLst (rFam (fam K ad)) ys12), (Tb, oTab (("_law_tests_so" : Str) ++ (".<locals>." : Str) ++ ("<lambda>" : Str)))]) (os2 := fun zs13 : List (Nat × Value_) => [(D5, oLst (rFam (fam K ad)) zs13), (Tb, oTab (("_law_tests_so" : Str) ++ (".<locals>." : Str) ++ ("<lambda>" : Str)))]) (eo_pop 0 0 rfl rfl (e_conv e_int (by walk_at "wn"))) (fun ys12 => eo_pop 0 0 rfl rfl (e_conv e_int (by walk_at "wn"))) (fun h => ps_par (i := 3) (j := 4) rfl sc_law_tests_so.nd rfl rfl (by decide) rfl rfl h rfl) (fun y14 z15 zs13 => ?_) | refine b_parOT (r := (rFam (fam K ad))) (s := (rFam (fam K ad))) (os1 := fun ys12 : List (Nat × Value_) => [(D5, oLst (rFam (fam K ad)) ys12), (Tb, oTab (("_law_tests_so" : Str) ++ (".<locals>." : Str) ++ ("<lambda>" : Str)))]) (os2 := fun zs13 : List (Nat × Value_) => [(D5, oLst (rFam (fam K ad)) zs13), (Tb, oTab (("_law_tests_so" : Str) ++ (".<locals>." : Str) ++ ("<lambda>" : Str)))]) (eo_pop 0 0 rfl rfl (e_conv e_int (by walk_at "wn"))) (fun ys12 => eo_pop 0 0 rfl rfl (e_conv e_int (by walk_at "wn"))) (fun h => ps_asg (pe_tup h) (pg_tup rfl (pgs_cons (pg_name (i := 3) sc_law_tests_so.nd rfl (by walk_at "loc")) (pgs_cons (pg_name (i := 4) sc_law_tests_so.nd rfl (by walk_at "loc")) pgs_nil)))) (fun y14 z15 zs13 => ?_)
    refine b_append 0 0 rfl rfl (e_conv (e_if (t_lt (e_name 2) fun _ => e_int) (e_fam (T := fam K ad) (t := 9) rfl (e_makeZ (k := 5) (args := fun i : (Dn (Nat × Value_)) × (Dn (Nat × Value_)) × Unit => [sv (rDn K (rFam (fam K ad))) i.1, sv (rDn K (rFam (fam K ad))) i.2.1]) (conv := fun q : (Dn (Nat × Value_)) × (Dn (Nat × Value_)) × Unit => (q.1, q.2.1, ())) (dfl := []) (dvs := []) T.mk_And (ok_And_init T) passN spm_XN2 (hr.mono (by walk_at "lev")) T.n_And T.cb_And_init_2 (fun _ => .nil) (hh_pos (aa_cons (e_dnN (e_name 3)) fun _ => (aa_cons (e_dnN (e_name 4)) fun _ => aa_nil)) (fun _ => rfl)) (fun _ => rfl))) (e_fam (T := fam K ad) (t := 10) rfl (e_makeZ (k := 5) (args := fun i : (Dn (Nat × Value_)) × (Dn (Nat × Value_)) × Unit => [sv (rDn K (rFam (fam K ad))) i.1, sv (rDn K (rFam (fam K ad))) i.2.1]) (conv := fun q : (Dn (Nat × Value_)) × (Dn (Nat × Value_)) × Unit => (q.1, q.2.1, ())) (dfl := []) (dvs := []) T.mk_Or (ok_Or_init T) passN spm_XN2 (hr.mono (by walk_at "lev")) T.n_Or T.cb_Or_init_2 (fun _ => .nil) (hh_pos (aa_cons (e_dnN (e_name 3)) fun _ => (aa_cons (e_dnN (e_name 4)) fun _ => aa_nil)) (fun _ => rfl)) (fun _ => rfl)))) (by walk_at "wn")) (fun y21 => ?_)
    exact b_end (NxOk.nxS (s := ((zs13 ++ [y21]) : (List (Nat × Value_)))) ⟨.inl rfl, .inl rfl, .inr rfl, .inr rfl, .inr rfl, .inr rfl, .inr rfl, trivial⟩ (.cons_cons _ (.cons_cons _ .slnil)))
  · refine b_set 5 (e_conv (e_idxO 0 0 rfl rfl e_int) (by walk_at "wn")) (fun made_24 => ?_) sc_law_tests_so.nd
    refine b_for (S := (Nat × Value_)) (fun s => [sv (rAdr D5) (), sv (rFam (fam K ad)) s, sa, sa, sa, sv (rFam (fam K ad)) made_24, sa]) (fun s => [(D5, oLst (rFam (fam K ad)) s23), (Tb, oTab (("_law_tests_so" : Str) ++ (".<locals>." : Str) ++ ("<lambda>" : Str)))]) (z7 : (Nat × Value_)) rfl PassesOwn.never (s_conv (s_rng1 e_int T.b_range) (by walk_at "wn")) (tg_name (i := 2)) (pg_name (i := 2) sc_law_tests_so.nd rfl (by walk_at "loc")) (fun M s28 x27 => ?_) (fun s32 => ?_) ⟨.inl rfl, .inl rfl, .inr rfl, .inr rfl, .inr rfl, .inl rfl, .inr rfl, trivial⟩ rfl
    · unfold m_law_tests_so_l2
      refine b_set 1 (e_conv (e_fam (T := fam K ad) (t := 8) rfl (e_makeZ (k := 5) (args := fun i : (Dn (Nat × Value_)) × Unit => [sv (rDn K (rFam (fam K ad))) i.1]) (conv := fun q : (Dn (Nat × Value_)) × Unit => (q.1, ())) (dfl := []) (dvs := []) T.mk_Not (ok_Not_init T) passN spm_XN2 (hr.mono (by walk_at "lev")) T.n_Not T.cb_Not_init_1 (fun _ => .nil) (hh_pos (aa_cons (e_dnN (e_name 1)) fun _ => aa_nil) (fun _ => rfl)) (fun _ => rfl))) (by walk_at "wn")) (fun tall_29 => ?_) sc_law_tests_so.nd
      exact b_end (NxOk.nxS (s := (tall_29 : (Nat × Value_))) ⟨.inl rfl, .inl rfl, .inr rfl, .inr rfl, .inr rfl, .inl rfl, .inr rfl, trivial⟩ (.cons_cons _ (.cons_cons _ .slnil)))
    · refine b_ifA (t_conv (t_not (t_val (e_callG (ok_law_same T (dd_lst dd_int) (dd_lst dd_int)) hgu (hr.mono (by walk_at "lev")) T.m_law_same T.F_law_same.kp T.bd_law_same (aa_cons (e_new (n_list (al_cons (e_fldF (g := fun q : Value_ => q.size) (fam_size T) (e_name 5)) (al_cons (e_fldF (g := fun q : Value_ => q.size) (fam_size T) (e_fam (T := fam K ad) (t := 8) rfl (e_makeZ (k := 5) (args := fun i : (Dn (Nat × Value_)) × Unit => [sv (rDn K (rFam (fam K ad))) i.1]) (conv := fun q : (Dn (Nat × Value_)) × Unit => (q.1, ())) (dfl := []) (dvs := []) T.mk_Not (ok_Not_init T) passN spm_XN2 (hr.mono (by walk_at "lev")) T.n_Not T.cb_Not_init_1 (fun _ => .nil) (hh_pos (aa_cons (e_dnN (e_name 5)) fun _ => aa_nil) (fun _ => rfl)) (fun _ => rfl)))) (al_cons (e_fldF (g := fun q : Value_ => q.depth) (fam_depth T) (e_name 1)) (al_cons (e_fldF (g := fun q : Value_ => q.depth) (fam_depth T) (e_fam (T := fam K ad) (t := 8) rfl (e_makeZ (k := 5) (args := fun i : (Dn (Nat × Value_)) × Unit => [sv (rDn K (rFam (fam K ad))) i.1]) (conv := fun q : (Dn (Nat × Value_)) × Unit => (q.1, ())) (dfl := []) (dvs := []) T.mk_Not (ok_Not_init T) passN spm_XN2 (hr.mono (by walk_at "lev")) T.n_Not T.cb_Not_init_1 (fun _ => .nil) (hh_pos (aa_cons (e_dnN (e_name 1)) fun _ => aa_nil) (fun _ => rfl)) (fun _ => rfl)))) al_nil)))))) fun _ => (aa_cons (e_new (n_list (al_cons e_int (al_cons e_int (al_cons e_int (al_cons e_int al_nil)))))) fun _ => aa_nil)) (fun _ => OsLe.none) (fun _ => List.nodup_nil)))) (by walk_at "wn")) ?_ ?_
      · refine bg_env (env' := [sv (rAdr D5) (), sv (rFam (fam K ad)) s32, sa, sa, sa, sv (rFam (fam K ad)) made_24, sa]) rfl ?_
        exact b_ret (RtOk.x RtOk.fn) (OsW.of (OsLe.mem (List.Mem.tail _ (List.Mem.head _)))) (e_conv e_bl (by walk_at "wn"))
      · refine bg_env (env' := [sv (rAdr D5) (), sv (rFam (fam K ad)) s32, sa, sa, sa, sv (rFam (fam K ad)) made_24, sa]) rfl ?_
        refine b_set 6 (e_conv (e_lams (ll_cons (e_la0 1 hTB rfl rfl (lamS2_by (sc := defScope s_law_tests_so) (ps := []) (by decide +kernel)).free) (ll_cons (e_la1 1 hTB rfl rfl (lamS2_by (sc := defScope s_law_tests_so) (ps := ["_law_a"]) (by decide +kernel)).free) (ll_cons (e_la1 1 hTB rfl rfl (lamS2_by (sc := defScope s_law_tests_so) (ps := ["_law_b"]) (by decide +kernel)).free) ll_nil))) (by show 3 ≤ sizeLine; decide)) (by walk_at "wn")) (fun asks_37 => ?_) sc_law_tests_so.nd
        refine b_set 6 (e_conv (e_catLam3 (e_name 6) (e_lams (ll_cons (e_la0 1 hTB rfl rfl (lamS2_by (sc := defScope s_law_tests_so) (ps := []) (by decide +kernel)).free) (ll_cons (e_la1 1 hTB rfl rfl (lamS2_by (sc := defScope s_law_tests_so) (ps := ["_law_a"]) (by decide +kernel)).free) (ll_cons (e_la1 1 hTB rfl rfl (lamS2_by (sc := defScope s_law_tests_so) (ps := ["_law_b"]) (by decide +kernel)).free) ll_nil))) (by show 3 ≤ sizeLine; decide)) (by show 6 ≤ sizeLine; decide)) (by walk_at "wn")) (fun asks_38 => ?_) sc_law_tests_so.nd
        exact b_ret RtOk.fn (OsW.of (OsLe.mem (List.Mem.tail _ (List.Mem.head _)))) (e_conv (e_callG (ok_law_same T (dd_lst (dd_t2 dd_str dd_D)) (dd_lst (dd_t2 dd_str dd_D))) hgu (hr.mono (by walk_at "lev")) T.m_law_same T.F_law_same.kp T.bd_law_same (aa_cons (e_callL (X := (cxOf CX0 P w K mg base N_law_tests_so "_law_tests_so" (defScope s_law_tests_so) ad.f_law_tests_so (Value.ref cL) A outer s0 H0 E0).nox) 6 [bnd (bnd (m_Divides_init ((2 : Int))) fun r40 => bnd (m_And_init ((Dn.nod made_24 : (Dn (Nat × Value_)))) ((Dn.nod (((7 : Nat), r40)) : (Dn (Nat × Value_))))) fun r39 => ret (((9 : Nat), r39))) fun _ => fail, bnd (bnd (m_Divides_init ((2 : Int))) fun r43 => bnd (m_Not_init ((Dn.nod made_24 : (Dn (Nat × Value_))))) fun r44 => bnd (m_Or_init ((Dn.nod (((7 : Nat), r43)) : (Dn (Nat × Value_)))) ((Dn.nod (((8 : Nat), r44)) : (Dn (Nat × Value_))))) fun r42 => ret (((10 : Nat), r42))) fun _ => fail, bnd (bnd (m_Not_init ((Dn.nod made_24 : (Dn (Nat × Value_))))) fun r47 => bnd (m_Not_init ((Dn.nod (((8 : Nat), r47)) : (Dn (Nat × Value_))))) fun r46 => ret (((8 : Nat), r46))) fun _ => fail, bnd (bnd (m_Not_init ((Dn.nod s32 : (Dn (Nat × Value_))))) fun r50 => bnd (m_Not_init ((Dn.nod (((8 : Nat), r50)) : (Dn (Nat × Value_))))) fun r49 => ret (((8 : Nat), r49))) fun _ => fail, bnd (bnd (m_Divides_init ((2 : Int))) fun r53 => bnd (m_Not_init ((Dn.nod s32 : (Dn (Nat × Value_))))) fun r54 => bnd (m_And_init ((Dn.nod (((7 : Nat), r53)) : (Dn (Nat × Value_)))) ((Dn.nod (((8 : Nat), r54)) : (Dn (Nat × Value_))))) fun r52 => ret (((9 : Nat), r52))) fun _ => fail, bnd (bnd (m_Not_init ((Dn.nod s32 : (Dn (Nat × Value_))))) fun r57 => bnd (m_Divides_init ((2 : Int))) fun r58 => bnd (m_Or_init ((Dn.nod (((8 : Nat), r57)) : (Dn (Nat × Value_)))) ((Dn.nod (((7 : Nat), r58)) : (Dn (Nat × Value_))))) fun r56 => ret (((10 : Nat), r56))) fun _ => fail] rfl (ok_law_all_got T) (hr.mono (by walk_at "lev")) T.m_law_all_got T.F_law_all_got.kp T.bd_law_all_got rfl rfl (fun _ => rfl) (pl_lst (pl_t2 pl_str pl_D)) (fun pins σ F H s I S => (.cons (fun v hv => clo_of (vs := []) I S hv (lamS2_by (sc := defScope s_law_tests_so) (ps := []) (by decide +kernel)) (lamBind0 rfl fun _ _ _ => rfl) (hvs_by (N := N_law_tests_so) (by decide +kernel)) (fun A1 outer1 s1 H1 E1 f1 c1 B1 hr tk => by have hu := hr.units; have hu2 := room100 hr; exact e_conv (e_never (e_fam (T := fam K ad) (t := 9) rfl (e_makeZ (k := 5) (args := fun i : (Dn (Nat × Value_)) × (Dn (Nat × Value_)) × Unit => [sv (rDn K (rFam (fam K ad))) i.1, sv (rDn K (rFam (fam K ad))) i.2.1]) (conv := fun q : (Dn (Nat × Value_)) × (Dn (Nat × Value_)) × Unit => (q.1, q.2.1, ())) (dfl := []) (dvs := []) T.mk_And (ok_And_init T) (passB tk) spm_X2 (hr.mono (by walk_at "lev")) T.n_And T.cb_And_init_2 (fun _ => .nil) (hh_pos (aa_cons (e_dnN (e_name 5)) fun _ => (aa_cons (e_dnN (e_fam (T := fam K ad) (t := 7) rfl (e_makeZ (k := 5) (args := fun i : Int × Unit => [sv rInt i.1]) (conv := fun q : Int × Unit => (q.1, ())) (dfl := []) (dvs := []) T.mk_Divides (ok_Divides_init T) (passB tk) spm_X2 (hr.mono (by walk_at "lev")) T.n_Divides T.cb_Divides_init_1 (fun _ => .nil) (hh_pos (aa_cons e_int fun _ => aa_nil) (fun _ => rfl)) (fun _ => rfl)))) fun _ => aa_nil)) (fun _ => rfl)) (fun _ => rfl)))) (by walk_at "wn"))) (.cons (fun v hv => clo_of (vs := []) I S hv (lamS2_by (sc := defScope s_law_tests_so) (ps := ["_law_a"]) (by decide +kernel)) (lamBind1 rfl fun _ _ _ _ => ⟨_, rfl, fun _ => rfl⟩) (hvs_by (N := N_law_tests_so) (by decide +kernel)) (fun A1 outer1 s1 H1 E1 f1 c1 B1 hr tk => by have hu := hr.units; have hu2 := room100 hr; exact e_conv (e_never (e_fam (T := fam K ad) (t := 10) rfl (e_makeZ (k := 5) (args := fun i : (Dn (Nat × Value_)) × (Dn (Nat × Value_)) × Unit => [sv (rDn K (rFam (fam K ad))) i.1, sv (rDn K (rFam (fam K ad))) i.2.1]) (conv := fun q : (Dn (Nat × Value_)) × (Dn (Nat × Value_)) × Unit => (q.1, q.2.1, ())) (dfl := []) (dvs := []) T.mk_Or (ok_Or_init T) (passB tk) spm_X2 (hr.mono (by walk_at "lev")) T.n_Or T.cb_Or_init_2 (fun _ => .nil) (hh_pos (aa_cons (e_dnN (e_fam (T := fam K ad) (t := 7) rfl (e_makeZ (k := 5) (args := fun i : Int × Unit => [sv rInt i.1]) (conv := fun q : Int × Unit => (q.1, ())) (dfl := []) (dvs := []) T.mk_Divides (ok_Divides_init T) (passB tk) spm_X2 (hr.mono (by walk_at "lev")) T.n_Divides T.cb_Divides_init_1 (fun _ => .nil) (hh_pos (aa_cons e_int fun _ => aa_nil) (fun _ => rfl)) (fun _ => rfl)))) fun _ => (aa_cons (e_dnN (e_fam (T := fam K ad) (t := 8) rfl (e_makeZ (k := 5) (args := fun i : (Dn (Nat × Value_)) × Unit => [sv (rDn K (rFam (fam K ad))) i.1]) (conv := fun q : (Dn (Nat × Value_)) × Unit => (q.1, ())) (dfl := []) (dvs := []) T.mk_Not (ok_Not_init T) (passB tk) spm_X2 (hr.mono (by walk_at "lev")) T.n_Not T.cb_Not_init_1 (fun _ => .nil) (hh_pos (aa_cons (e_dnN (e_name 5)) fun _ => aa_nil) (fun _ => rfl)) (fun _ => rfl)))) fun _ => aa_nil)) (fun _ => rfl)) (fun _ => rfl)))) (by walk_at "wn"))) (.cons (fun v hv => clo_of (vs := []) I S hv (lamS2_by (sc := defScope s_law_tests_so) (ps := ["_law_b"]) (by decide +kernel)) (lamBind1 rfl fun _ _ _ _ => ⟨_, rfl, fun _ => rfl⟩) (hvs_by (N := N_law_tests_so) (by decide +kernel)) (fun A1 outer1 s1 H1 E1 f1 c1 B1 hr tk => by have hu := hr.units; have hu2 := room100 hr; exact e_conv (e_never (e_fam (T := fam K ad) (t := 8) rfl (e_makeZ (k := 5) (args := fun i : (Dn (Nat × Value_)) × Unit => [sv (rDn K (rFam (fam K ad))) i.1]) (conv := fun q : (Dn (Nat × Value_)) × Unit => (q.1, ())) (dfl := []) (dvs := []) T.mk_Not (ok_Not_init T) (passB tk) spm_X2 (hr.mono (by walk_at "lev")) T.n_Not T.cb_Not_init_1 (fun _ => .nil) (hh_pos (aa_cons (e_dnN (e_fam (T := fam K ad) (t := 8) rfl (e_makeZ (k := 5) (args := fun i : (Dn (Nat × Value_)) × Unit => [sv (rDn K (rFam (fam K ad))) i.1]) (conv := fun q : (Dn (Nat × Value_)) × Unit => (q.1, ())) (dfl := []) (dvs := []) T.mk_Not (ok_Not_init T) (passB tk) spm_X2 (hr.mono (by walk_at "lev")) T.n_Not T.cb_Not_init_1 (fun _ => .nil) (hh_pos (aa_cons (e_dnN (e_name 5)) fun _ => aa_nil) (fun _ => rfl)) (fun _ => rfl)))) fun _ => aa_nil) (fun _ => rfl)) (fun _ => rfl)))) (by walk_at "wn"))) (.cons (fun v hv => clo_of (vs := []) I S hv (lamS2_by (sc := defScope s_law_tests_so) (ps := []) (by decide +kernel)) (lamBind0 rfl fun _ _ _ => rfl) (hvs_by (N := N_law_tests_so) (by decide +kernel)) (fun A1 outer1 s1 H1 E1 f1 c1 B1 hr tk => by have hu := hr.units; have hu2 := room100 hr; exact e_conv (e_never (e_fam (T := fam K ad) (t := 8) rfl (e_makeZ (k := 5) (args := fun i : (Dn (Nat × Value_)) × Unit => [sv (rDn K (rFam (fam K ad))) i.1]) (conv := fun q : (Dn (Nat × Value_)) × Unit => (q.1, ())) (dfl := []) (dvs := []) T.mk_Not (ok_Not_init T) (passB tk) spm_X2 (hr.mono (by walk_at "lev")) T.n_Not T.cb_Not_init_1 (fun _ => .nil) (hh_pos (aa_cons (e_dnN (e_fam (T := fam K ad) (t := 8) rfl (e_makeZ (k := 5) (args := fun i : (Dn (Nat × Value_)) × Unit => [sv (rDn K (rFam (fam K ad))) i.1]) (conv := fun q : (Dn (Nat × Value_)) × Unit => (q.1, ())) (dfl := []) (dvs := []) T.mk_Not (ok_Not_init T) (passB tk) spm_X2 (hr.mono (by walk_at "lev")) T.n_Not T.cb_Not_init_1 (fun _ => .nil) (hh_pos (aa_cons (e_dnN (e_name 1)) fun _ => aa_nil) (fun _ => rfl)) (fun _ => rfl)))) fun _ => aa_nil) (fun _ => rfl)) (fun _ => rfl)))) (by walk_at "wn"))) (.cons (fun v hv => clo_of (vs := []) I S hv (lamS2_by (sc := defScope s_law_tests_so) (ps := ["_law_a"]) (by decide +kernel)) (lamBind1 rfl fun _ _ _ _ => ⟨_, rfl, fun _ => rfl⟩) (hvs_by (N := N_law_tests_so) (by decide +kernel)) (fun A1 outer1 s1 H1 E1 f1 c1 B1 hr tk => by have hu := hr.units; have hu2 := room100 hr; exact e_conv (e_never (e_fam (T := fam K ad) (t := 9) rfl (e_makeZ (k := 5) (args := fun i : (Dn (Nat × Value_)) × (Dn (Nat × Value_)) × Unit => [sv (rDn K (rFam (fam K ad))) i.1, sv (rDn K (rFam (fam K ad))) i.2.1]) (conv := fun q : (Dn (Nat × Value_)) × (Dn (Nat × Value_)) × Unit => (q.1, q.2.1, ())) (dfl := []) (dvs := []) T.mk_And (ok_And_init T) (passB tk) spm_X2 (hr.mono (by walk_at "lev")) T.n_And T.cb_And_init_2 (fun _ => .nil) (hh_pos (aa_cons (e_dnN (e_fam (T := fam K ad) (t := 7) rfl (e_makeZ (k := 5) (args := fun i : Int × Unit => [sv rInt i.1]) (conv := fun q : Int × Unit => (q.1, ())) (dfl := []) (dvs := []) T.mk_Divides (ok_Divides_init T) (passB tk) spm_X2 (hr.mono (by walk_at "lev")) T.n_Divides T.cb_Divides_init_1 (fun _ => .nil) (hh_pos (aa_cons e_int fun _ => aa_nil) (fun _ => rfl)) (fun _ => rfl)))) fun _ => (aa_cons (e_dnN (e_fam (T := fam K ad) (t := 8) rfl (e_makeZ (k := 5) (args := fun i : (Dn (Nat × Value_)) × Unit => [sv (rDn K (rFam (fam K ad))) i.1]) (conv := fun q : (Dn (Nat × Value_)) × Unit => (q.1, ())) (dfl := []) (dvs := []) T.mk_Not (ok_Not_init T) (passB tk) spm_X2 (hr.mono (by walk_at "lev")) T.n_Not T.cb_Not_init_1 (fun _ => .nil) (hh_pos (aa_cons (e_dnN (e_name 1)) fun _ => aa_nil) (fun _ => rfl)) (fun _ => rfl)))) fun _ => aa_nil)) (fun _ => rfl)) (fun _ => rfl)))) (by walk_at "wn"))) (.cons (fun v hv => clo_of (vs := []) I S hv (lamS2_by (sc := defScope s_law_tests_so) (ps := ["_law_b"]) (by decide +kernel)) (lamBind1 rfl fun _ _ _ _ => ⟨_, rfl, fun _ => rfl⟩) (hvs_by (N := N_law_tests_so) (by decide +kernel)) (fun A1 outer1 s1 H1 E1 f1 c1 B1 hr tk => by have hu := hr.units; have hu2 := room100 hr; exact e_conv (e_never (e_fam (T := fam K ad) (t := 10) rfl (e_makeZ (k := 5) (args := fun i : (Dn (Nat × Value_)) × (Dn (Nat × Value_)) × Unit => [sv (rDn K (rFam (fam K ad))) i.1, sv (rDn K (rFam (fam K ad))) i.2.1]) (conv := fun q : (Dn (Nat × Value_)) × (Dn (Nat × Value_)) × Unit => (q.1, q.2.1, ())) (dfl := []) (dvs := []) T.mk_Or (ok_Or_init T) (passB tk) spm_X2 (hr.mono (by walk_at "lev")) T.n_Or T.cb_Or_init_2 (fun _ => .nil) (hh_pos (aa_cons (e_dnN (e_fam (T := fam K ad) (t := 8) rfl (e_makeZ (k := 5) (args := fun i : (Dn (Nat × Value_)) × Unit => [sv (rDn K (rFam (fam K ad))) i.1]) (conv := fun q : (Dn (Nat × Value_)) × Unit => (q.1, ())) (dfl := []) (dvs := []) T.mk_Not (ok_Not_init T) (passB tk) spm_X2 (hr.mono (by walk_at "lev")) T.n_Not T.cb_Not_init_1 (fun _ => .nil) (hh_pos (aa_cons (e_dnN (e_name 1)) fun _ => aa_nil) (fun _ => rfl)) (fun _ => rfl)))) fun _ => (aa_cons (e_dnN (e_fam (T := fam K ad) (t := 7) rfl (e_makeZ (k := 5) (args := fun i : Int × Unit => [sv rInt i.1]) (conv := fun q : Int × Unit => (q.1, ())) (dfl := []) (dvs := []) T.mk_Divides (ok_Divides_init T) (passB tk) spm_X2 (hr.mono (by walk_at "lev")) T.n_Divides T.cb_Divides_init_1 (fun _ => .nil) (hh_pos (aa_cons e_int fun _ => aa_nil) (fun _ => rfl)) (fun _ => rfl)))) fun _ => aa_nil)) (fun _ => rfl)) (fun _ => rfl)))) (by walk_at "wn"))) .nil)))))))) fun _ => (aa_cons (e_new (n_cat (e_new (n_rep (e_new (n_list (al_cons (e_tup2 e_str fun _ => (e_toD dd_int e_int)) al_nil))) fun _ => e_int)) fun _ => (e_new (n_rep (e_new (n_list (al_cons (e_tup2 e_str fun _ => (e_toD dd_int e_int)) al_nil))) fun _ => e_int)))) fun _ => aa_nil)) (fun _ => OsLe.none) (fun _ => List.nodup_nil)) (by walk_at "wn"))
def m_law_l4 (flat_100 : (List (Nat × Value_))) (s109 : (Nat × Value_)) (x108 : Int) : W (Nat × Value_) :=
  bnd (bnd (noX (anyW flat_100)) fun r112 => bnd (noX (m_Pair_init ((Dn.nod s109 : (Dn (Nat × Value_)))) ((Dn.nod r112 : (Dn (Nat × Value_)))))) fun r111 => ret (((2 : Nat), r111))) fun deep_110 => ret (deep_110)
def m_law_l3 (s63 : (List (Nat × Value_))) (x62 : Int) : W (List (Nat × Value_)) :=
  bnd (bnd (ret (decide (((s63.length : Int)) < ((8 : Int))))) fun c => if c = true then noX (drawW ((s63.length : Int))) else ret ((0 : Int))) fun at_64 => bndP (bnd (ret (at_64)) fun k => popW s63 k) fun one_67 ys68 => bndP (bnd (ret ((0 : Int))) fun k => popW ys68 k) fun other_69 ys70 => bnd (bnd (bnd (noX (drawW ((2 : Int)))) fun r71 => ret (decide (r71 = (0 : Int)))) fun c => if c = true then bnd (noX (m_Pair_init ((Dn.nod one_67 : (Dn (Nat × Value_)))) ((Dn.nod other_69 : (Dn (Nat × Value_)))))) fun r72 => ret (((2 : Nat), r72)) else bnd (noX (m_Pair_init ((Dn.nod other_69 : (Dn (Nat × Value_)))) ((Dn.nod one_67 : (Dn (Nat × Value_)))))) fun r73 => ret (((3 : Nat), r73))) fun y75 => chk (ys70.length < sizeLine) (ret ((ys70 ++ [y75])))
def m_law_l2 (s12 : (Nat × Value_)) (x11 : Int) : W (Nat × Value_) :=
  bnd (noX (drawW ((3 : Int)))) fun way_13 => bnd (bnd (ret (decide (way_13 = (0 : Int)))) fun c => if c = true then bnd (noX (m_Not_init ((Dn.nod s12 : (Dn (Nat × Value_)))))) fun r16 => ret (((8 : Nat), r16)) else bnd (ret (decide (way_13 = (1 : Int)))) fun c => if c = true then bnd (noX (m_Divides_init ((3 : Int)))) fun r18 => bnd (noX (m_And_init ((Dn.nod s12 : (Dn (Nat × Value_)))) ((Dn.nod (((7 : Nat), r18)) : (Dn (Nat × Value_)))))) fun r17 => ret (((9 : Nat), r17)) else bnd (noX (m_Divides_init ((3 : Int)))) fun r20 => bnd (noX (m_Or_init ((Dn.nod (((7 : Nat), r20)) : (Dn (Nat × Value_)))) ((Dn.nod s12 : (Dn (Nat × Value_)))))) fun r19 => ret (((10 : Nat), r19))) fun made_15 => ret (made_15)
def m_law_l1 (s4 : Unit) (x3 : Int) : W (Fl Unit Bool) :=
  bnd (bnd (noX (m_Divides_init ((2 : Int)))) fun r6 => bnd (noX (m_Form_init (PyData.tuple []) (PyData.int 0))) fun r8 => bnd (noX (m_Round_init r8)) fun r7 => noX (anyW ([((7 : Nat), r6), ((6 : Nat), r7)]))) fun made_5 => bnd (rng1 ((18 : Int))) fun xs23 => bnd (forW m_law_l2 (made_5) xs23) fun (s24 : (Nat × Value_)) => bnd (bnd (ret (!decide (s24.2.depth = (19 : Int)))) fun c26 => if c26 = true then ret true else (bnd (ret (!(fk_Value s24.1))) fun c25 => if c25 = true then ret true else (ret (!(fk_Test s24.1))))) fun b28 => if b28 = true then (bnd (ret (false)) fun z => ret (.rt z)) else (bnd (bnd (noX (m_Not_init ((Dn.nod s24 : (Dn (Nat × Value_)))))) fun r30 => bnd (noX (m_Total_init (("x" : Str)) ((Dn.nod s24 : (Dn (Nat × Value_)))))) fun r31 => bnd (noX (m_Number_init ((1 : Int)))) fun r33 => bnd (noX (m_Pair_init ((Dn.nod (((0 : Nat), r33)) : (Dn (Nat × Value_)))) ((Dn.nod s24 : (Dn (Nat × Value_)))))) fun r32 => noX (anyW ([((8 : Nat), r30), ((5 : Nat), r31), ((2 : Nat), r32)]))) fun tall_29 => bnd (ret (())) fun asks_35 => bnd (bnd (ret (!decide (tall_29.2.depth = (20 : Int)))) fun c47 => if c47 = true then ret true else (bnd (noX (m_law_all_got [bnd (bnd (m_Total_init (("x" : Str)) ((Dn.nod tall_29 : (Dn (Nat × Value_))))) fun r36 => ret (((5 : Nat), r36))) fun _ => fail, bnd (bnd (m_Number_init ((1 : Int))) fun r39 => bnd (m_Pair_init ((Dn.nod tall_29 : (Dn (Nat × Value_)))) ((Dn.nod (((0 : Nat), r39)) : (Dn (Nat × Value_))))) fun r38 => ret (((3 : Nat), r38))) fun _ => fail, bnd (bnd (m_Value_init []) fun r42 => bnd (m_Pair_init ((Dn.nod (((1 : Nat), r42)) : (Dn (Nat × Value_)))) ((Dn.nod tall_29 : (Dn (Nat × Value_))))) fun r41 => ret (((4 : Nat), r41))) fun _ => fail])) fun r44 => bnd (repL ([(("TooDeep" : Str), .int ((20 : Int)))]) ((3 : Int))) fun t45 => bnd (noX (sameW (fun xs => PyData.list (xs.map (fun x => PyData.tuple [.str x.1, id x.2]))) (fun xs => PyData.list (xs.map (fun x => PyData.tuple [.str x.1, id x.2]))) r44 t45)) fun r46 => ret (!r46))) fun b49 => if b49 = true then (bnd (ret (false)) fun z => ret (.rt z)) else (bnd (bnd (noX (m_law_got (bnd (bnd (m_Pair_init ((Dn.nod tall_29 : (Dn (Nat × Value_)))) ((Dn.dat ((fun _ => .none) (())) : (Dn (Nat × Value_))))) fun r50 => ret (((2 : Nat), r50))) fun _ => fail))) fun r52 => bnd (noX (sameW (fun x => PyData.tuple [.str x.1, id x.2]) (fun x => PyData.tuple [.str x.1, (fun _ => .none) x.2]) r52 ((("InvalidValue" : Str), ())))) fun r53 => ret (!r53)) fun b54 => if b54 = true then (bnd (ret (false)) fun z => ret (.rt z)) else (bnd (bnd (rng1 ((30 : Int))) fun l56 => mapW (fun (x57 : Int) => bnd (noX (m_Number_init x57)) fun r58 => ret (((0 : Nat), r58))) l56) fun rows_55 => bnd (rng1 ((29 : Int))) fun xs76 => bnd (forW m_law_l3 (rows_55) xs76) fun (s77 : (List (Nat × Value_))) => bnd (idx s77 ((0 : Int))) fun whole_78 => bnd (bnd (ret (!decide (whole_78.2.size = (59 : Int)))) fun c81 => if c81 = true then ret true else (bnd (noX (m_Total_init (("y" : Str)) ((Dn.nod whole_78 : (Dn (Nat × Value_)))))) fun r80 => ret (!decide ((((5 : Nat), r80)).2.size = (60 : Int))))) fun b83 => if b83 = true then (bnd (ret (false)) fun z => ret (.rt z)) else (bnd (bnd (noX (m_Total_init (("y" : Str)) ((Dn.nod whole_78 : (Dn (Nat × Value_)))))) fun r85 => ret (((5 : Nat), r85))) fun full_84 => bnd (ret (())) fun asks_86 => bnd (bnd (noX (m_law_all_got [bnd (bnd (m_Total_init (("x" : Str)) ((Dn.nod full_84 : (Dn (Nat × Value_))))) fun r87 => ret (((5 : Nat), r87))) fun _ => fail, bnd (bnd (m_Number_init ((1 : Int))) fun r90 => bnd (m_Pair_init ((Dn.nod whole_78 : (Dn (Nat × Value_)))) ((Dn.nod (((0 : Nat), r90)) : (Dn (Nat × Value_))))) fun r89 => ret (((2 : Nat), r89))) fun _ => fail, bnd (bnd (m_Number_init ((1 : Int))) fun r93 => bnd (m_Pair_init ((Dn.nod (((0 : Nat), r93)) : (Dn (Nat × Value_)))) ((Dn.nod full_84 : (Dn (Nat × Value_))))) fun r92 => ret (((2 : Nat), r92))) fun _ => fail])) fun r95 => bnd (repL ([(("TooMany" : Str), .int ((60 : Int)))]) ((3 : Int))) fun t96 => bnd (noX (sameW (fun xs => PyData.list (xs.map (fun x => PyData.tuple [.str x.1, id x.2]))) (fun xs => PyData.list (xs.map (fun x => PyData.tuple [.str x.1, id x.2]))) r95 t96)) fun r97 => ret (!r97)) fun b98 => if b98 = true then (bnd (ret (false)) fun z => ret (.rt z)) else (bnd (bnd (noX (m_Number_init ((3 : Int)))) fun r102 => ret (((0 : Nat), r102))) fun deep_99 => bnd (bnd (rng1 ((3 : Int))) fun l103 => mapW (fun (x104 : Int) => bnd (noX (m_Number_init x104)) fun r105 => ret (((0 : Nat), r105))) l103) fun flat_100 => bnd (rng1 ((19 : Int))) fun xs113 => bnd (forW (m_law_l4 flat_100) (deep_99) xs113) fun (s114 : (Nat × Value_)) => bnd (bnd (ret (!decide (s114.2.depth = (20 : Int)))) fun c120 => if c120 = true then ret true else (bnd (ret (!decide (s114.2.size = (39 : Int)))) fun c119 => if c119 = true then ret true else (bnd (noX (m_law_got (bnd (bnd (m_Pair_init ((Dn.nod s114 : (Dn (Nat × Value_)))) ((Dn.nod full_84 : (Dn (Nat × Value_))))) fun r115 => ret (((2 : Nat), r115))) fun _ => fail))) fun r117 => bnd (noX (sameW (fun x => PyData.tuple [.str x.1, id x.2]) (fun x => PyData.tuple [.str x.1, .int x.2]) r117 ((("TooDeep" : Str), (20 : Int))))) fun r118 => ret (!r118)))) fun b122 => if b122 = true then (bnd (ret (false)) fun z => ret (.rt z)) else (ret (.nx (()))))))))
def m_law (a_law_script : (List Int)) : W Bool :=
  bnd (rng1 ((3 : Int))) fun xs123 => bnd (forF m_law_l1 (()) xs123) (flEnd (fun z => z) fun (s124 : Unit) => bnd (bnd (noX (m_law_tests_so)) fun r125 => ret (!r125)) fun b126 => if b126 = true then (bnd (ret (false)) fun z => ret z) else (bnd (ret (true)) fun z => ret z))
theorem ok_law (T : Txt P K mg ad) {cL Tb : Addr} (hfd : ad.d_law_tests_so.code = .ref cL) (hTB : LamX.TabB base mg cL Tb) {cM Tl : Addr} (hfd2 : ad.d_law.code = .ref cM) (hTBl : LamX.TabB base mg cM Tl) : FnG P w K mg base CX0 16 ad.f_law ad.d_law ["_law_script"] (spW (fun i : (List Int) × Unit => [sv (rScr K) i.1]) (fun _ => [(Tb, oTab (("_law_tests_so" : Str) ++ (".<locals>." : Str) ++ ("<lambda>" : Str))), (Tl, oTab (("law" : Str) ++ (".<locals>." : Str) ++ ("<lambda>" : Str)))]) (fun i => m_law i.1) rBool) := by
  refine fnWc T.F_law hfd2 sc_law (fun _ => rfl) fun A outer s0 H0 E0 B i hr hgu0 => ?_
  obtain ⟨a_law_script, _⟩ := i
  have hu := hr.units
  have hu2 := room100 hr
  have hu8 := Nat.lt_of_le_of_lt (Nat.add_le_add_left (show 8 ≤ 100 by decide) _) hu2
  have hgu := guards_deeper (q := "law") (sc := defScope s_law) (n := s0.heap.objs.size) (f := ad.f_law) (c := .ref cM) hgu0
  show BG _ _ _ _ _ _ (m_law a_law_script)
  unfold m_law
  refine b_bag 1 (ok_law_bag T) (hr.mono (by walk_at "lev")) T.m_law_bag T.F_law_bag.kp T.bd_law_bag (e_name 0) (fun b cells => ?_) sc_law.nd
  refine b_forG (S := Unit) (osR := [(Tb, oTab (("_law_tests_so" : Str) ++ (".<locals>." : Str) ++ ("<lambda>" : Str))), (Tl, oTab (("law" : Str) ++ (".<locals>." : Str) ++ ("<lambda>" : Str)))]) (ro := rBool) (fun z => z) (fun s => [sv (rScr K) a_law_script, sv (rAdr b) (()), sa, sa, sa, sa, sa, sa, sa, sa, sa, sa, sa, sa, sa, sa]) (fun s => [(b, oBag cells), (Tb, oTab (("_law_tests_so" : Str) ++ (".<locals>." : Str) ++ ("<lambda>" : Str))), (Tl, oTab (("law" : Str) ++ (".<locals>." : Str) ++ ("<lambda>" : Str)))]) (() : Unit) rfl PassesOwn.never (s_conv (s_rng1 e_int T.b_range) (by walk_at "wn")) (tg_name (i := 2)) (pg_name (i := 2) sc_law.nd rfl (by walk_at "loc")) (fun M s4 x3 => ?_) (fun s124 => ?_) (fun _ => rfl) RtOk.fn ⟨.inl rfl, .inl rfl, .inr rfl, .inr rfl, .inr rfl, .inr rfl, .inr rfl, .inr rfl, .inr rfl, .inr rfl, .inr rfl, .inr rfl, .inr rfl, .inr rfl, .inr rfl, .inr rfl, trivial⟩ rfl
  · unfold m_law_l1
    refine b_set 3 (e_conv (e_call (ok_law_any T b cells (rFam (fam K ad))) (hr.mono (by walk_at "lev")) T.m_law_any T.F_law_any.kp T.bd_law_any (aa_cons (e_name 1) fun _ => (aa_cons (e_new (n_list (al_cons (e_fam (T := fam K ad) (t := 7) rfl (e_makeZ (k := 5) (args := fun i : Int × Unit => [sv rInt i.1]) (conv := fun q : Int × Unit => (q.1, ())) (dfl := []) (dvs := []) T.mk_Divides (ok_Divides_init T) passN spm_XN2 (hr.mono (by walk_at "lev")) T.n_Divides T.cb_Divides_init_1 (fun _ => .nil) (hh_pos (aa_cons e_int fun _ => aa_nil) (fun _ => rfl)) (fun _ => rfl))) (al_cons (e_fam (T := fam K ad) (t := 6) rfl (e_makeZ (k := 5) (args := fun i : Form_ × Unit => [sv (rObj ad.c_Form (fl_Form K ad)) i.1]) (conv := fun q : Form_ × Unit => (q.1, ())) (dfl := []) (dvs := []) T.mk_Round (ok_Round_init T) passN spm_XN2 (hr.mono (by walk_at "lev")) T.n_Round T.cb_Round_init_1 (fun _ => .nil) (hh_pos (aa_cons (e_makeZ (conv := fun q : Unit => (PyData.tuple [], PyData.int 0, ())) (dfl := [sv (rD K) (PyData.tuple []), sv (rD K) (PyData.int 0)]) (dvs := [.ref ad.e_Form_init_0, .int 0]) T.mk_Form (ok_Form_init T) passN spm_XN (hr.mono (by walk_at "lev")) T.n_Form T.cb_Form_init_0 (fun _ => (.cons ⟨_, rfl, ⟨.tup (.inr T.et_Form_init_0) .nil, rfl, by decide⟩⟩ (.cons ⟨_, rfl, ⟨.int _, rfl, by decide⟩⟩ .nil))) hh_none (fun _ => rfl)) fun _ => aa_nil) (fun _ => rfl)) (fun _ => rfl))) al_nil)))) fun _ => aa_nil)) (fun _ => OsLe.mem (List.Mem.head _)) (fun _ => by simp)) (by walk_at "wn")) (fun made_5 => ?_) sc_law.nd
    refine b_for (S := (Nat × Value_)) (fun s => [sv (rScr K) a_law_script, sv (rAdr b) (()), sv rInt x3, sv (rFam (fam K ad)) s, sa, sa, sa, sa, sa, sa, sa, sa, sa, sa, sa, sa]) (fun s => [(b, oBag cells), (Tb, oTab (("_law_tests_so" : Str) ++ (".<locals>." : Str) ++ ("<lambda>" : Str))), (Tl, oTab (("law" : Str) ++ (".<locals>." : Str) ++ ("<lambda>" : Str)))]) (made_5 : (Nat × Value_)) rfl PassesOwn.never (s_conv (s_rng1 e_int T.b_range) (by walk_at "wn")) (tg_name (i := 4)) (pg_name (i := 4) sc_law.nd rfl (by walk_at "loc")) (fun M s12 x11 => ?_) (fun s24 => ?_) ⟨.inl rfl, .inl rfl, .inl rfl, .inl rfl, .inr rfl, .inr rfl, .inr rfl, .inr rfl, .inr rfl, .inr rfl, .inr rfl, .inr rfl, .inr rfl, .inr rfl, .inr rfl, .inr rfl, trivial⟩ rfl
    · unfold m_law_l2
      refine b_set 5 (e_conv (e_call (ok_law_draw T b cells) (hr.mono (by walk_at "lev")) T.m_law_draw T.F_law_draw.kp T.bd_law_draw (aa_cons (e_name 1) fun _ => (aa_cons e_int fun _ => aa_nil)) (fun _ => OsLe.mem (List.Mem.head _)) (fun _ => by simp)) (by walk_at "wn")) (fun way_13 => ?_) sc_law.nd
      refine bg_env (env' := [sv (rScr K) a_law_script, sv (rAdr b) (()), sv rInt x3, sv (rFam (fam K ad)) s12, sv rInt x11, sv rInt way_13, sa, sa, sa, sa, sa, sa, sa, sa, sa, sa]) rfl ?_
      refine b_set 3 (e_conv (e_if (t_eqI (e_name 5) fun _ => e_int) (e_fam (T := fam K ad) (t := 8) rfl (e_makeZ (k := 5) (args := fun i : (Dn (Nat × Value_)) × Unit => [sv (rDn K (rFam (fam K ad))) i.1]) (conv := fun q : (Dn (Nat × Value_)) × Unit => (q.1, ())) (dfl := []) (dvs := []) T.mk_Not (ok_Not_init T) passN spm_XN2 (hr.mono (by walk_at "lev")) T.n_Not T.cb_Not_init_1 (fun _ => .nil) (hh_pos (aa_cons (e_dnN (e_name 3)) fun _ => aa_nil) (fun _ => rfl)) (fun _ => rfl))) (e_if (t_eqI (e_name 5) fun _ => e_int) (e_fam (T := fam K ad) (t := 9) rfl (e_makeZ (k := 5) (args := fun i : (Dn (Nat × Value_)) × (Dn (Nat × Value_)) × Unit => [sv (rDn K (rFam (fam K ad))) i.1, sv (rDn K (rFam (fam K ad))) i.2.1]) (conv := fun q : (Dn (Nat × Value_)) × (Dn (Nat × Value_)) × Unit => (q.1, q.2.1, ())) (dfl := []) (dvs := []) T.mk_And (ok_And_init T) passN spm_XN2 (hr.mono (by walk_at "lev")) T.n_And T.cb_And_init_2 (fun _ => .nil) (hh_pos (aa_cons (e_dnN (e_name 3)) fun _ => (aa_cons (e_dnN (e_fam (T := fam K ad) (t := 7) rfl (e_makeZ (k := 5) (args := fun i : Int × Unit => [sv rInt i.1]) (conv := fun q : Int × Unit => (q.1, ())) (dfl := []) (dvs := []) T.mk_Divides (ok_Divides_init T) passN spm_XN2 (hr.mono (by walk_at "lev")) T.n_Divides T.cb_Divides_init_1 (fun _ => .nil) (hh_pos (aa_cons e_int fun _ => aa_nil) (fun _ => rfl)) (fun _ => rfl)))) fun _ => aa_nil)) (fun _ => rfl)) (fun _ => rfl))) (e_fam (T := fam K ad) (t := 10) rfl (e_makeZ (k := 5) (args := fun i : (Dn (Nat × Value_)) × (Dn (Nat × Value_)) × Unit => [sv (rDn K (rFam (fam K ad))) i.1, sv (rDn K (rFam (fam K ad))) i.2.1]) (conv := fun q : (Dn (Nat × Value_)) × (Dn (Nat × Value_)) × Unit => (q.1, q.2.1, ())) (dfl := []) (dvs := []) T.mk_Or (ok_Or_init T) passN spm_XN2 (hr.mono (by walk_at "lev")) T.n_Or T.cb_Or_init_2 (fun _ => .nil) (hh_pos (aa_cons (e_dnN (e_fam (T := fam K ad) (t := 7) rfl (e_makeZ (k := 5) (args := fun i : Int × Unit => [sv rInt i.1]) (conv := fun q : Int × Unit => (q.1, ())) (dfl := []) (dvs := []) T.mk_Divides (ok_Divides_init T) passN spm_XN2 (hr.mono (by walk_at "lev")) T.n_Divides T.cb_Divides_init_1 (fun _ => .nil) (hh_pos (aa_cons e_int fun _ => aa_nil) (fun _ => rfl)) (fun _ => rfl)))) fun _ => (aa_cons (e_dnN (e_name 3)) fun _ => aa_nil)) (fun _ => rfl)) (fun _ => rfl))))) (by walk_at "wn")) (fun made_15 => ?_) sc_law.nd
      exact b_end (NxOk.nxS (s := (made_15 : (Nat × Value_))) ⟨.inl rfl, .inl rfl, .inl rfl, .inl rfl, .inr rfl, .inr rfl, .inr rfl, .inr rfl, .inr rfl, .inr rfl, .inr rfl, .inr rfl, .inr rfl, .inr rfl, .inr rfl, .inr rfl, trivial⟩ (.cons_cons _ (.cons_cons _ (.cons_cons _ .slnil))))
    · refine b_ifA (t_conv (t_pw (w_or (t_neI (e_fldF (g := fun q : Value_ => q.depth) (fam_depth T) (e_name 3)) fun _ => e_int) (w_or (t_not (t_val (e_isFam (k := fk_Value) (fam_ic T) (fam_k_Value T) (e_name 3) T.b_isinstance T.n_Value))) (w_or1 (t_not (t_val (e_isFam (k := fk_Test) (fam_ic T) (fam_k_Test T) (e_name 3) T.b_isinstance T.n_Test))))))) (by walk_at "wn")) ?_ ?_
      · refine bg_env (env' := [sv (rScr K) a_law_script, sv (rAdr b) (()), sv rInt x3, sv (rFam (fam K ad)) s24, sa, sa, sa, sa, sa, sa, sa, sa, sa, sa, sa, sa]) rfl ?_
        exact b_ret (RtOk.x RtOk.fl) (OsW.of (OsLe.cons (List.Mem.tail _ (List.Mem.head _)) (OsLe.cons (List.Mem.tail _ (List.Mem.tail _ (List.Mem.head _))) OsLe.none))) (e_conv e_bl (by walk_at "wn"))
      · refine bg_env (env' := [sv (rScr K) a_law_script, sv (rAdr b) (()), sv rInt x3, sv (rFam (fam K ad)) s24, sa, sa, sa, sa, sa, sa, sa, sa, sa, sa, sa, sa]) rfl ?_
        refine b_set 6 (e_conv (e_call (ok_law_any T b cells (rFam (fam K ad))) (hr.mono (by walk_at "lev")) T.m_law_any T.F_law_any.kp T.bd_law_any (aa_cons (e_name 1) fun _ => (aa_cons (e_new (n_list (al_cons (e_fam (T := fam K ad) (t := 8) rfl (e_makeZ (k := 5) (args := fun i : (Dn (Nat × Value_)) × Unit => [sv (rDn K (rFam (fam K ad))) i.1]) (conv := fun q : (Dn (Nat × Value_)) × Unit => (q.1, ())) (dfl := []) (dvs := []) T.mk_Not (ok_Not_init T) passN spm_XN2 (hr.mono (by walk_at "lev")) T.n_Not T.cb_Not_init_1 (fun _ => .nil) (hh_pos (aa_cons (e_dnN (e_name 3)) fun _ => aa_nil) (fun _ => rfl)) (fun _ => rfl))) (al_cons (e_fam (T := fam K ad) (t := 5) rfl (e_makeZ (k := 5) (args := fun i : Str × (Dn (Nat × Value_)) × Unit => [sv rStr i.1, sv (rDn K (rFam (fam K ad))) i.2.1]) (conv := fun q : Str × (Dn (Nat × Value_)) × Unit => (q.1, q.2.1, ())) (dfl := []) (dvs := []) T.mk_Total (ok_Total_init T) passN spm_XN2 (hr.mono (by walk_at "lev")) T.n_Total T.cb_Total_init_2 (fun _ => .nil) (hh_pos (aa_cons e_str fun _ => (aa_cons (e_dnN (e_name 3)) fun _ => aa_nil)) (fun _ => rfl)) (fun _ => rfl))) (al_cons (e_fam (T := fam K ad) (t := 2) rfl (e_makeZ (k := 5) (args := fun i : (Dn (Nat × Value_)) × (Dn (Nat × Value_)) × Unit => [sv (rDn K (rFam (fam K ad))) i.1, sv (rDn K (rFam (fam K ad))) i.2.1]) (conv := fun q : (Dn (Nat × Value_)) × (Dn (Nat × Value_)) × Unit => (q.1, q.2.1, ())) (dfl := []) (dvs := []) T.mk_Plus (ok_Pair_init T (C := ad.c_Plus) (qPair_Plus T)) passN spm_XN2 (hr.mono (by walk_at "lev")) T.n_Plus T.cb_Pair_init_2 (fun _ => .nil) (hh_pos (aa_cons (e_dnN (e_fam (T := fam K ad) (t := 0) rfl (e_makeZ (k := 5) (args := fun i : Int × Unit => [sv rInt i.1]) (conv := fun q : Int × Unit => (q.1, ())) (dfl := []) (dvs := []) T.mk_Number (ok_Number_init T) passN spm_XN2 (hr.mono (by walk_at "lev")) T.n_Number T.cb_Number_init_1 (fun _ => .nil) (hh_pos (aa_cons e_int fun _ => aa_nil) (fun _ => rfl)) (fun _ => rfl)))) fun _ => (aa_cons (e_dnN (e_name 3)) fun _ => aa_nil)) (fun _ => rfl)) (fun _ => rfl))) al_nil))))) fun _ => aa_nil)) (fun _ => OsLe.mem (List.Mem.head _)) (fun _ => by simp)) (by walk_at "wn")) (fun tall_29 => ?_) sc_law.nd
        refine b_set 7 (e_conv (e_lams (ll_cons (e_la0 2 hTBl rfl rfl (lamS2_by (sc := defScope s_law) (ps := []) (by decide +kernel)).free) (ll_cons (e_la1 2 hTBl rfl rfl (lamS2_by (sc := defScope s_law) (ps := ["_law_a"]) (by decide +kernel)).free) (ll_cons (e_la1 2 hTBl rfl rfl (lamS2_by (sc := defScope s_law) (ps := ["_law_b"]) (by decide +kernel)).free) ll_nil))) (by show 3 ≤ sizeLine; decide)) (by walk_at "wn")) (fun asks_35 => ?_) sc_law.nd
        refine b_ifA (t_conv (t_pw (w_or (t_neI (e_fldF (g := fun q : Value_ => q.depth) (fam_depth T) (e_name 6)) fun _ => e_int) (w_or1 (t_not (t_val (e_callG (ok_law_same T (dd_lst (dd_t2 dd_str dd_D)) (dd_lst (dd_t2 dd_str dd_D))) hgu (hr.mono (by walk_at "lev")) T.m_law_same T.F_law_same.kp T.bd_law_same (aa_cons (e_callL (X := (cxOf CX0 P w K mg base N_law "law" (defScope s_law) ad.f_law (Value.ref cM) A outer s0 H0 E0).nox) 7 [bnd (bnd (m_Total_init (("x" : Str)) ((Dn.nod tall_29 : (Dn (Nat × Value_))))) fun r36 => ret (((5 : Nat), r36))) fun _ => fail, bnd (bnd (m_Number_init ((1 : Int))) fun r39 => bnd (m_Pair_init ((Dn.nod tall_29 : (Dn (Nat × Value_)))) ((Dn.nod (((0 : Nat), r39)) : (Dn (Nat × Value_))))) fun r38 => ret (((3 : Nat), r38))) fun _ => fail, bnd (bnd (m_Value_init []) fun r42 => bnd (m_Pair_init ((Dn.nod (((1 : Nat), r42)) : (Dn (Nat × Value_)))) ((Dn.nod tall_29 : (Dn (Nat × Value_))))) fun r41 => ret (((4 : Nat), r41))) fun _ => fail] rfl (ok_law_all_got T) (hr.mono (by walk_at "lev")) T.m_law_all_got T.F_law_all_got.kp T.bd_law_all_got rfl rfl (fun _ => rfl) (pl_lst (pl_t2 pl_str pl_D)) (fun pins σ F H s I S => (.cons (fun v hv => clo_of (vs := []) I S hv (lamS2_by (sc := defScope s_law) (ps := []) (by decide +kernel)) (lamBind0 rfl fun _ _ _ => rfl) (hvs_by (N := N_law) (by decide +kernel)) (fun A1 outer1 s1 H1 E1 f1 c1 B1 hr tk => by have hu := hr.units; have hu2 := room100 hr; exact e_conv (e_never (e_fam (T := fam K ad) (t := 5) rfl (e_makeZ (k := 5) (args := fun i : Str × (Dn (Nat × Value_)) × Unit => [sv rStr i.1, sv (rDn K (rFam (fam K ad))) i.2.1]) (conv := fun q : Str × (Dn (Nat × Value_)) × Unit => (q.1, q.2.1, ())) (dfl := []) (dvs := []) T.mk_Total (ok_Total_init T) (passB tk) spm_X2 (hr.mono (by walk_at "lev")) T.n_Total T.cb_Total_init_2 (fun _ => .nil) (hh_pos (aa_cons e_str fun _ => (aa_cons (e_dnN (e_name 6)) fun _ => aa_nil)) (fun _ => rfl)) (fun _ => rfl)))) (by walk_at "wn"))) (.cons (fun v hv => clo_of (vs := []) I S hv (lamS2_by (sc := defScope s_law) (ps := ["_law_a"]) (by decide +kernel)) (lamBind1 rfl fun _ _ _ _ => ⟨_, rfl, fun _ => rfl⟩) (hvs_by (N := N_law) (by decide +kernel)) (fun A1 outer1 s1 H1 E1 f1 c1 B1 hr tk => by have hu := hr.units; have hu2 := room100 hr; exact e_conv (e_never (e_fam (T := fam K ad) (t := 3) rfl (e_makeZ (k := 5) (args := fun i : (Dn (Nat × Value_)) × (Dn (Nat × Value_)) × Unit => [sv (rDn K (rFam (fam K ad))) i.1, sv (rDn K (rFam (fam K ad))) i.2.1]) (conv := fun q : (Dn (Nat × Value_)) × (Dn (Nat × Value_)) × Unit => (q.1, q.2.1, ())) (dfl := []) (dvs := []) T.mk_Minus (ok_Pair_init T (C := ad.c_Minus) (qPair_Minus T)) (passB tk) spm_X2 (hr.mono (by walk_at "lev")) T.n_Minus T.cb_Pair_init_2 (fun _ => .nil) (hh_pos (aa_cons (e_dnN (e_name 6)) fun _ => (aa_cons (e_dnN (e_fam (T := fam K ad) (t := 0) rfl (e_makeZ (k := 5) (args := fun i : Int × Unit => [sv rInt i.1]) (conv := fun q : Int × Unit => (q.1, ())) (dfl := []) (dvs := []) T.mk_Number (ok_Number_init T) (passB tk) spm_X2 (hr.mono (by walk_at "lev")) T.n_Number T.cb_Number_init_1 (fun _ => .nil) (hh_pos (aa_cons e_int fun _ => aa_nil) (fun _ => rfl)) (fun _ => rfl)))) fun _ => aa_nil)) (fun _ => rfl)) (fun _ => rfl)))) (by walk_at "wn"))) (.cons (fun v hv => clo_of (vs := []) I S hv (lamS2_by (sc := defScope s_law) (ps := ["_law_b"]) (by decide +kernel)) (lamBind1 rfl fun _ _ _ _ => ⟨_, rfl, fun _ => rfl⟩) (hvs_by (N := N_law) (by decide +kernel)) (fun A1 outer1 s1 H1 E1 f1 c1 B1 hr tk => by have hu := hr.units; have hu2 := room100 hr; exact e_conv (e_never (e_fam (T := fam K ad) (t := 4) rfl (e_makeZ (k := 5) (args := fun i : (Dn (Nat × Value_)) × (Dn (Nat × Value_)) × Unit => [sv (rDn K (rFam (fam K ad))) i.1, sv (rDn K (rFam (fam K ad))) i.2.1]) (conv := fun q : (Dn (Nat × Value_)) × (Dn (Nat × Value_)) × Unit => (q.1, q.2.1, ())) (dfl := []) (dvs := []) T.mk_Times (ok_Pair_init T (C := ad.c_Times) (qPair_Times T)) (passB tk) spm_X2 (hr.mono (by walk_at "lev")) T.n_Times T.cb_Pair_init_2 (fun _ => .nil) (hh_pos (aa_cons (e_dnN (e_fam (T := fam K ad) (t := 1) rfl (e_makeSX0 T.mk_Marks (ok_Value_init T (C := ad.c_Marks) (qValue_Marks T)) tk (hr.mono (by walk_at "lev")) T.n_Marks))) fun _ => (aa_cons (e_dnN (e_name 6)) fun _ => aa_nil)) (fun _ => rfl)) (fun _ => rfl)))) (by walk_at "wn"))) .nil))))) fun _ => (aa_cons (e_new (n_rep (e_new (n_list (al_cons (e_tup2 e_str fun _ => (e_toD dd_int e_int)) al_nil))) fun _ => e_int)) fun _ => aa_nil)) (fun _ => OsLe.none) (fun _ => List.nodup_nil))))))) (by walk_at "wn")) ?_ ?_
        · exact b_ret (RtOk.x RtOk.fl) (OsW.of (OsLe.cons (List.Mem.tail _ (List.Mem.head _)) (OsLe.cons (List.Mem.tail _ (List.Mem.tail _ (List.Mem.head _))) OsLe.none))) (e_conv e_bl (by walk_at "wn"))
        · refine b_ifA (t_conv (t_not (t_val (e_callG (ok_law_same T (dd_t2 dd_str dd_D) (dd_t2 dd_str dd_non)) hgu (hr.mono (by walk_at "lev")) T.m_law_same T.F_law_same.kp T.bd_law_same (aa_cons (e_conv (e_callC (X := (cxOf CX0 P w K mg base N_law "law" (defScope s_law) ad.f_law (Value.ref cM) A outer s0 H0 E0).nox) ((bnd (bnd (m_Pair_init ((Dn.nod tall_29 : (Dn (Nat × Value_)))) ((Dn.dat ((fun _ => .none) (())) : (Dn (Nat × Value_))))) fun r50 => ret (((2 : Nat), r50))) fun _ => fail), ()) (ok_law_got T) (hr.mono (by walk_at "lev")) T.m_law_got T.F_law_got.kp T.bd_law_got (e_la0 2 hTBl rfl rfl (lamS2_by (sc := defScope s_law) (ps := []) (by decide +kernel)).free) rfl rfl (fun _ => rfl) (pl_t2 pl_str pl_D) (fun pins σ F H s v y I S ok => clo1_ok ok (fun v hv => clo_of (vs := []) I S hv (lamS2_by (sc := defScope s_law) (ps := []) (by decide +kernel)) (lamBind0 rfl fun _ _ _ => rfl) (hvs_by (N := N_law) (by decide +kernel)) (fun A1 outer1 s1 H1 E1 f1 c1 B1 hr tk => by have hu := hr.units; have hu2 := room100 hr; exact e_conv (e_never (e_fam (T := fam K ad) (t := 2) rfl (e_makeZ (k := 5) (args := fun i : (Dn (Nat × Value_)) × (Dn (Nat × Value_)) × Unit => [sv (rDn K (rFam (fam K ad))) i.1, sv (rDn K (rFam (fam K ad))) i.2.1]) (conv := fun q : (Dn (Nat × Value_)) × (Dn (Nat × Value_)) × Unit => (q.1, q.2.1, ())) (dfl := []) (dvs := []) T.mk_Plus (ok_Pair_init T (C := ad.c_Plus) (qPair_Plus T)) (passB tk) spm_X2 (hr.mono (by walk_at "lev")) T.n_Plus T.cb_Pair_init_2 (fun _ => .nil) (hh_pos (aa_cons (e_dnN (e_name 6)) fun _ => (aa_cons (e_dnD (r := rFam (fam K ad)) (e_toD dd_non e_non)) fun _ => aa_nil)) (fun _ => rfl)) (fun _ => rfl)))) (by walk_at "wn"))))) rfl) fun _ => (aa_cons (e_tup2 e_str fun _ => e_non) fun _ => aa_nil)) (fun _ => OsLe.none) (fun _ => List.nodup_nil)))) (by walk_at "wn")) ?_ ?_
          · exact b_ret (RtOk.x RtOk.fl) (OsW.of (OsLe.cons (List.Mem.tail _ (List.Mem.head _)) (OsLe.cons (List.Mem.tail _ (List.Mem.tail _ (List.Mem.head _))) OsLe.none))) (e_conv e_bl (by walk_at "wn"))
          · first | refine b_ownC 8 (c_conv (c_comp (s := (rFam (fam K ad))) rfl sc_law.nd (s_rng1 e_int T.b_range) (blkOk_by (own := [("_law_k", 4)]) rfl) (tg_name (i := 4)) (fun _ _ _ _ _ => (pg_name (i := 4) sc_law.nd rfl (by walk_at "loc"))) (by decide) (fun _ _ _ _ _ _ _ _ _ => (e_fam (T := fam K ad) (t := 0) rfl (e_makeZ (k := 5) (args := fun i : Int × Unit => [sv rInt i.1]) (conv := fun q : Int × Unit => (q.1, ())) (dfl := []) (dvs := []) T.mk_Number (ok_Number_init T) passN spm_XN2 (hr.mono (by walk_at "lev")) T.n_Number T.cb_Number_init_1 (fun _ => .nil) (hh_pos (aa_cons (e_name 4) fun _ => aa_nil) (fun _ => rfl)) (fun _ => rfl)))) rfl rfl (sw_true rfl rfl rfl (by decide +kernel))) (by walk_at "wn")) (fun p60 rows_55 => ?_) | refine b_own 8 (n_conv (n_comp (s := (rFam (fam K ad))) rfl sc_law.nd (s_rng1 e_int T.b_range) (blkOk_by (own := [("_law_k", 4)]) rfl) (tg_name (i := 4)) (fun _ _ _ _ _ => (pg_name (i := 4) sc_law.nd rfl (by walk_at "loc"))) (by decide) (fun _ _ _ _ _ _ _ _ _ => (e_fam (T := fam K ad) (t := 0) rfl (e_makeZ (k := 5) (args := fun i : Int × Unit => [sv rInt i.1]) (conv := fun q : Int × Unit => (q.1, ())) (dfl := []) (dvs := []) T.mk_Number (ok_Number_init T) passN spm_XN2 (hr.mono (by walk_at "lev")) T.n_Number T.cb_Number_init_1 (fun _ => .nil) (hh_pos (aa_cons (e_name 4) fun _ => aa_nil) (fun _ => rfl)) (fun _ => rfl))))) (by walk_at "wn")) (fun p60 rows_55 => ?_) sc_law.nd
            refine bg_le (env' := [sv (rScr K) a_law_script, sv (rAdr b) (()), sv rInt x3, sv (rFam (fam K ad)) s24, sa, sa, sv (rFam (fam K ad)) tall_29, sa, sv (rAdr p60) (), sa, sa, sa, sa, sa, sa, sa]) ⟨.inl rfl, .inl rfl, .inl rfl, .inl rfl, .inl rfl, .inl rfl, .inl rfl, .inr rfl, .inl rfl, .inl rfl, .inl rfl, .inl rfl, .inl rfl, .inl rfl, .inl rfl, .inl rfl, trivial⟩ ?_
            refine bg_env (env' := [sv (rScr K) a_law_script, sv (rAdr b) (()), sv rInt x3, sv (rFam (fam K ad)) s24, sa, sa, sv (rFam (fam K ad)) tall_29, sa, sv (rAdr p60) (), sa, sa, sa, sa, sa, sa, sa]) rfl ?_
            refine b_for (S := (List (Nat × Value_))) (fun s => [sv (rScr K) a_law_script, sv (rAdr b) (()), sv rInt x3, sv (rFam (fam K ad)) s24, sa, sa, sv (rFam (fam K ad)) tall_29, sa, sv (rAdr p60) (), sa, sa, sa, sa, sa, sa, sa]) (fun s => [(p60, oLst (rFam (fam K ad)) s), (b, oBag cells), (Tb, oTab (("_law_tests_so" : Str) ++ (".<locals>." : Str) ++ ("<lambda>" : Str))), (Tl, oTab (("law" : Str) ++ (".<locals>." : Str) ++ ("<lambda>" : Str)))]) (rows_55 : (List (Nat × Value_))) rfl PassesOwn.never (s_conv (s_rng1 e_int T.b_range) (by walk_at "wn")) (tg_name (i := 4)) (pg_name (i := 4) sc_law.nd rfl (by walk_at "loc")) (fun M s63 x62 => ?_) (fun s77 => ?_) ⟨.inl rfl, .inl rfl, .inl rfl, .inl rfl, .inr rfl, .inr rfl, .inl rfl, .inr rfl, .inl rfl, .inr rfl, .inr rfl, .inr rfl, .inr rfl, .inr rfl, .inr rfl, .inr rfl, trivial⟩ rfl
            · unfold m_law_l3
              refine b_set 9 (e_conv (e_if (t_lt (e_lenO 8 0 rfl rfl T.b_len) fun _ => e_int) (e_call (ok_law_draw T b cells) (hr.mono (by walk_at "lev")) T.m_law_draw T.F_law_draw.kp T.bd_law_draw (aa_cons (e_name 1) fun _ => (aa_cons (e_lenO 8 0 rfl rfl T.b_len) fun _ => aa_nil)) (fun _ => OsLe.mem (List.Mem.tail _ (List.Mem.head _))) (fun _ => by simp)) e_int) (by walk_at "wn")) (fun at_64 => ?_) sc_law.nd
              refine b_setO (r := (rFam (fam K ad))) (os' := fun ys68 : List (Nat × Value_) => [(p60, oLst (rFam (fam K ad)) ys68), (b, oBag cells), (Tb, oTab (("_law_tests_so" : Str) ++ (".<locals>." : Str) ++ ("<lambda>" : Str))), (Tl, oTab (("law" : Str) ++ (".<locals>." : Str) ++ ("<lambda>" : Str)))]) 10 (eo_pop 8 0 rfl rfl (e_conv (e_name 9) (by walk_at "wn"))) (fun one_67 ys68 => ?_) sc_law.nd
              refine b_setO (r := (rFam (fam K ad))) (os' := fun ys70 : List (Nat × Value_) => [(p60, oLst (rFam (fam K ad)) ys70), (b, oBag cells), (Tb, oTab (("_law_tests_so" : Str) ++ (".<locals>." : Str) ++ ("<lambda>" : Str))), (Tl, oTab (("law" : Str) ++ (".<locals>." : Str) ++ ("<lambda>" : Str)))]) 11 (eo_pop 8 0 rfl rfl (e_conv e_int (by walk_at "wn"))) (fun other_69 ys70 => ?_) sc_law.nd
              refine b_append 8 0 rfl rfl (e_conv (e_if (t_eqI (e_call (ok_law_draw T b cells) (hr.mono (by walk_at "lev")) T.m_law_draw T.F_law_draw.kp T.bd_law_draw (aa_cons (e_name 1) fun _ => (aa_cons e_int fun _ => aa_nil)) (fun _ => OsLe.mem (List.Mem.tail _ (List.Mem.head _))) (fun _ => by simp)) fun _ => e_int) (e_fam (T := fam K ad) (t := 2) rfl (e_makeZ (k := 5) (args := fun i : (Dn (Nat × Value_)) × (Dn (Nat × Value_)) × Unit => [sv (rDn K (rFam (fam K ad))) i.1, sv (rDn K (rFam (fam K ad))) i.2.1]) (conv := fun q : (Dn (Nat × Value_)) × (Dn (Nat × Value_)) × Unit => (q.1, q.2.1, ())) (dfl := []) (dvs := []) T.mk_Plus (ok_Pair_init T (C := ad.c_Plus) (qPair_Plus T)) passN spm_XN2 (hr.mono (by walk_at "lev")) T.n_Plus T.cb_Pair_init_2 (fun _ => .nil) (hh_pos (aa_cons (e_dnN (e_name 10)) fun _ => (aa_cons (e_dnN (e_name 11)) fun _ => aa_nil)) (fun _ => rfl)) (fun _ => rfl))) (e_fam (T := fam K ad) (t := 3) rfl (e_makeZ (k := 5) (args := fun i : (Dn (Nat × Value_)) × (Dn (Nat × Value_)) × Unit => [sv (rDn K (rFam (fam K ad))) i.1, sv (rDn K (rFam (fam K ad))) i.2.1]) (conv := fun q : (Dn (Nat × Value_)) × (Dn (Nat × Value_)) × Unit => (q.1, q.2.1, ())) (dfl := []) (dvs := []) T.mk_Minus (ok_Pair_init T (C := ad.c_Minus) (qPair_Minus T)) passN spm_XN2 (hr.mono (by walk_at "lev")) T.n_Minus T.cb_Pair_init_2 (fun _ => .nil) (hh_pos (aa_cons (e_dnN (e_name 11)) fun _ => (aa_cons (e_dnN (e_name 10)) fun _ => aa_nil)) (fun _ => rfl)) (fun _ => rfl)))) (by walk_at "wn")) (fun y75 => ?_)
              exact b_end (NxOk.nxS (s := ((ys70 ++ [y75]) : (List (Nat × Value_)))) ⟨.inl rfl, .inl rfl, .inl rfl, .inl rfl, .inr rfl, .inr rfl, .inl rfl, .inr rfl, .inl rfl, .inr rfl, .inr rfl, .inr rfl, .inr rfl, .inr rfl, .inr rfl, .inr rfl, trivial⟩ (.cons_cons _ (.cons_cons _ (.cons_cons _ (.cons_cons _ .slnil)))))
            · refine b_set 12 (e_conv (e_idxO 8 0 rfl rfl e_int) (by walk_at "wn")) (fun whole_78 => ?_) sc_law.nd
              refine b_ifA (t_conv (t_pw (w_or (t_neI (e_fldF (g := fun q : Value_ => q.size) (fam_size T) (e_name 12)) fun _ => e_int) (w_or1 (t_neI (e_fldF (g := fun q : Value_ => q.size) (fam_size T) (e_fam (T := fam K ad) (t := 5) rfl (e_makeZ (k := 5) (args := fun i : Str × (Dn (Nat × Value_)) × Unit => [sv rStr i.1, sv (rDn K (rFam (fam K ad))) i.2.1]) (conv := fun q : Str × (Dn (Nat × Value_)) × Unit => (q.1, q.2.1, ())) (dfl := []) (dvs := []) T.mk_Total (ok_Total_init T) passN spm_XN2 (hr.mono (by walk_at "lev")) T.n_Total T.cb_Total_init_2 (fun _ => .nil) (hh_pos (aa_cons e_str fun _ => (aa_cons (e_dnN (e_name 12)) fun _ => aa_nil)) (fun _ => rfl)) (fun _ => rfl)))) fun _ => e_int)))) (by walk_at "wn")) ?_ ?_
              · exact b_ret (RtOk.x RtOk.fl) (OsW.of (OsLe.cons (List.Mem.tail _ (List.Mem.tail _ (List.Mem.head _))) (OsLe.cons (List.Mem.tail _ (List.Mem.tail _ (List.Mem.tail _ (List.Mem.head _)))) OsLe.none))) (e_conv e_bl (by walk_at "wn"))
              · refine b_set 13 (e_conv (e_fam (T := fam K ad) (t := 5) rfl (e_makeZ (k := 5) (args := fun i : Str × (Dn (Nat × Value_)) × Unit => [sv rStr i.1, sv (rDn K (rFam (fam K ad))) i.2.1]) (conv := fun q : Str × (Dn (Nat × Value_)) × Unit => (q.1, q.2.1, ())) (dfl := []) (dvs := []) T.mk_Total (ok_Total_init T) passN spm_XN2 (hr.mono (by walk_at "lev")) T.n_Total T.cb_Total_init_2 (fun _ => .nil) (hh_pos (aa_cons e_str fun _ => (aa_cons (e_dnN (e_name 12)) fun _ => aa_nil)) (fun _ => rfl)) (fun _ => rfl))) (by walk_at "wn")) (fun full_84 => ?_) sc_law.nd
                refine b_set 7 (e_conv (e_lams (ll_cons (e_la0 3 hTBl rfl rfl (lamS2_by (sc := defScope s_law) (ps := []) (by decide +kernel)).free) (ll_cons (e_la1 3 hTBl rfl rfl (lamS2_by (sc := defScope s_law) (ps := ["_law_a"]) (by decide +kernel)).free) (ll_cons (e_la1 3 hTBl rfl rfl (lamS2_by (sc := defScope s_law) (ps := ["_law_b"]) (by decide +kernel)).free) ll_nil))) (by show 3 ≤ sizeLine; decide)) (by walk_at "wn")) (fun asks_86 => ?_) sc_law.nd
                refine b_ifA (t_conv (t_not (t_val (e_callG (ok_law_same T (dd_lst (dd_t2 dd_str dd_D)) (dd_lst (dd_t2 dd_str dd_D))) hgu (hr.mono (by walk_at "lev")) T.m_law_same T.F_law_same.kp T.bd_law_same (aa_cons (e_callL (X := (cxOf CX0 P w K mg base N_law "law" (defScope s_law) ad.f_law (Value.ref cM) A outer s0 H0 E0).nox) 7 [bnd (bnd (m_Total_init (("x" : Str)) ((Dn.nod full_84 : (Dn (Nat × Value_))))) fun r87 => ret (((5 : Nat), r87))) fun _ => fail, bnd (bnd (m_Number_init ((1 : Int))) fun r90 => bnd (m_Pair_init ((Dn.nod whole_78 : (Dn (Nat × Value_)))) ((Dn.nod (((0 : Nat), r90)) : (Dn (Nat × Value_))))) fun r89 => ret (((2 : Nat), r89))) fun _ => fail, bnd (bnd (m_Number_init ((1 : Int))) fun r93 => bnd (m_Pair_init ((Dn.nod (((0 : Nat), r93)) : (Dn (Nat × Value_)))) ((Dn.nod full_84 : (Dn (Nat × Value_))))) fun r92 => ret (((2 : Nat), r92))) fun _ => fail] rfl (ok_law_all_got T) (hr.mono (by walk_at "lev")) T.m_law_all_got T.F_law_all_got.kp T.bd_law_all_got rfl rfl (fun _ => rfl) (pl_lst (pl_t2 pl_str pl_D)) (fun pins σ F H s I S => (.cons (fun v hv => clo_of (vs := []) I S hv (lamS2_by (sc := defScope s_law) (ps := []) (by decide +kernel)) (lamBind0 rfl fun _ _ _ => rfl) (hvs_by (N := N_law) (by decide +kernel)) (fun A1 outer1 s1 H1 E1 f1 c1 B1 hr tk => by have hu := hr.units; have hu2 := room100 hr; exact e_conv (e_never (e_fam (T := fam K ad) (t := 5) rfl (e_makeZ (k := 5) (args := fun i : Str × (Dn (Nat × Value_)) × Unit => [sv rStr i.1, sv (rDn K (rFam (fam K ad))) i.2.1]) (conv := fun q : Str × (Dn (Nat × Value_)) × Unit => (q.1, q.2.1, ())) (dfl := []) (dvs := []) T.mk_Total (ok_Total_init T) (passB tk) spm_X2 (hr.mono (by walk_at "lev")) T.n_Total T.cb_Total_init_2 (fun _ => .nil) (hh_pos (aa_cons e_str fun _ => (aa_cons (e_dnN (e_name 13)) fun _ => aa_nil)) (fun _ => rfl)) (fun _ => rfl)))) (by walk_at "wn"))) (.cons (fun v hv => clo_of (vs := []) I S hv (lamS2_by (sc := defScope s_law) (ps := ["_law_a"]) (by decide +kernel)) (lamBind1 rfl fun _ _ _ _ => ⟨_, rfl, fun _ => rfl⟩) (hvs_by (N := N_law) (by decide +kernel)) (fun A1 outer1 s1 H1 E1 f1 c1 B1 hr tk => by have hu := hr.units; have hu2 := room100 hr; exact e_conv (e_never (e_fam (T := fam K ad) (t := 2) rfl (e_makeZ (k := 5) (args := fun i : (Dn (Nat × Value_)) × (Dn (Nat × Value_)) × Unit => [sv (rDn K (rFam (fam K ad))) i.1, sv (rDn K (rFam (fam K ad))) i.2.1]) (conv := fun q : (Dn (Nat × Value_)) × (Dn (Nat × Value_)) × Unit => (q.1, q.2.1, ())) (dfl := []) (dvs := []) T.mk_Plus (ok_Pair_init T (C := ad.c_Plus) (qPair_Plus T)) (passB tk) spm_X2 (hr.mono (by walk_at "lev")) T.n_Plus T.cb_Pair_init_2 (fun _ => .nil) (hh_pos (aa_cons (e_dnN (e_name 12)) fun _ => (aa_cons (e_dnN (e_fam (T := fam K ad) (t := 0) rfl (e_makeZ (k := 5) (args := fun i : Int × Unit => [sv rInt i.1]) (conv := fun q : Int × Unit => (q.1, ())) (dfl := []) (dvs := []) T.mk_Number (ok_Number_init T) (passB tk) spm_X2 (hr.mono (by walk_at "lev")) T.n_Number T.cb_Number_init_1 (fun _ => .nil) (hh_pos (aa_cons e_int fun _ => aa_nil) (fun _ => rfl)) (fun _ => rfl)))) fun _ => aa_nil)) (fun _ => rfl)) (fun _ => rfl)))) (by walk_at "wn"))) (.cons (fun v hv => clo_of (vs := []) I S hv (lamS2_by (sc := defScope s_law) (ps := ["_law_b"]) (by decide +kernel)) (lamBind1 rfl fun _ _ _ _ => ⟨_, rfl, fun _ => rfl⟩) (hvs_by (N := N_law) (by decide +kernel)) (fun A1 outer1 s1 H1 E1 f1 c1 B1 hr tk => by have hu := hr.units; have hu2 := room100 hr; exact e_conv (e_never (e_fam (T := fam K ad) (t := 2) rfl (e_makeZ (k := 5) (args := fun i : (Dn (Nat × Value_)) × (Dn (Nat × Value_)) × Unit => [sv (rDn K (rFam (fam K ad))) i.1, sv (rDn K (rFam (fam K ad))) i.2.1]) (conv := fun q : (Dn (Nat × Value_)) × (Dn (Nat × Value_)) × Unit => (q.1, q.2.1, ())) (dfl := []) (dvs := []) T.mk_Plus (ok_Pair_init T (C := ad.c_Plus) (qPair_Plus T)) (passB tk) spm_X2 (hr.mono (by walk_at "lev")) T.n_Plus T.cb_Pair_init_2 (fun _ => .nil) (hh_pos (aa_cons (e_dnN (e_fam (T := fam K ad) (t := 0) rfl (e_makeZ (k := 5) (args := fun i : Int × Unit => [sv rInt i.1]) (conv := fun q : Int × Unit => (q.1, ())) (dfl := []) (dvs := []) T.mk_Number (ok_Number_init T) (passB tk) spm_X2 (hr.mono (by walk_at "lev")) T.n_Number T.cb_Number_init_1 (fun _ => .nil) (hh_pos (aa_cons e_int fun _ => aa_nil) (fun _ => rfl)) (fun _ => rfl)))) fun _ => (aa_cons (e_dnN (e_name 13)) fun _ => aa_nil)) (fun _ => rfl)) (fun _ => rfl)))) (by walk_at "wn"))) .nil))))) fun _ => (aa_cons (e_new (n_rep (e_new (n_list (al_cons (e_tup2 e_str fun _ => (e_toD dd_int e_int)) al_nil))) fun _ => e_int)) fun _ => aa_nil)) (fun _ => OsLe.none) (fun _ => List.nodup_nil)))) (by walk_at "wn")) ?_ ?_
                · exact b_ret (RtOk.x RtOk.fl) (OsW.of (OsLe.cons (List.Mem.tail _ (List.Mem.tail _ (List.Mem.head _))) (OsLe.cons (List.Mem.tail _ (List.Mem.tail _ (List.Mem.tail _ (List.Mem.head _)))) OsLe.none))) (e_conv e_bl (by walk_at "wn"))
                · first | refine b_par2 (ps_par (i := 14) (j := 15) rfl sc_law.nd rfl rfl (by decide) rfl rfl (pa2 (e_conv (e_fam (T := fam K ad) (t := 0) rfl (e_makeZ (k := 5) (args := fun i : Int × Unit => [sv rInt i.1]) (conv := fun q : Int × Unit => (q.1, ())) (dfl := []) (dvs := []) T.mk_Number (ok_Number_init T) passN spm_XN2 (hr.mono (by walk_at "lev")) T.n_Number T.cb_Number_init_1 (fun _ => .nil) (hh_pos (aa_cons e_int fun _ => aa_nil) (fun _ => rfl)) (fun _ => rfl))) (by walk_at "wn")) (fun _ => e_conv (e_new (n_comp (s := (rFam (fam K ad))) rfl sc_law.nd (s_rng1 e_int T.b_range) (blkOk_by (own := [("_law_k", 4)]) rfl) (tg_name (i := 4)) (fun _ _ _ _ _ => (pg_name (i := 4) sc_law.nd rfl (by walk_at "loc"))) (by decide) (fun _ _ _ _ _ _ _ _ _ => (e_fam (T := fam K ad) (t := 0) rfl (e_makeZ (k := 5) (args := fun i : Int × Unit => [sv rInt i.1]) (conv := fun q : Int × Unit => (q.1, ())) (dfl := []) (dvs := []) T.mk_Number (ok_Number_init T) passN spm_XN2 (hr.mono (by walk_at "lev")) T.n_Number T.cb_Number_init_1 (fun _ => .nil) (hh_pos (aa_cons (e_name 4) fun _ => aa_nil) (fun _ => rfl)) (fun _ => rfl)))))) rfl)) rfl) (fun deep_99 flat_100 => ?_) | refine b_par2T (ps_asg (pe_tup (pa2 (e_conv (e_fam (T := fam K ad) (t := 0) rfl (e_makeZ (k := 5) (args := fun i : Int × Unit => [sv rInt i.1]) (conv := fun q : Int × Unit => (q.1, ())) (dfl := []) (dvs := []) T.mk_Number (ok_Number_init T) passN spm_XN2 (hr.mono (by walk_at "lev")) T.n_Number T.cb_Number_init_1 (fun _ => .nil) (hh_pos (aa_cons e_int fun _ => aa_nil) (fun _ => rfl)) (fun _ => rfl))) (by walk_at "wn")) (fun _ => e_conv (e_new (n_comp (s := (rFam (fam K ad))) rfl sc_law.nd (s_rng1 e_int T.b_range) (blkOk_by (own := [("_law_k", 4)]) rfl) (tg_name (i := 4)) (fun _ _ _ _ _ => (pg_name (i := 4) sc_law.nd rfl (by walk_at "loc"))) (by decide) (fun _ _ _ _ _ _ _ _ _ => (e_fam (T := fam K ad) (t := 0) rfl (e_makeZ (k := 5) (args := fun i : Int × Unit => [sv rInt i.1]) (conv := fun q : Int × Unit => (q.1, ())) (dfl := []) (dvs := []) T.mk_Number (ok_Number_init T) passN spm_XN2 (hr.mono (by walk_at "lev")) T.n_Number T.cb_Number_init_1 (fun _ => .nil) (hh_pos (aa_cons (e_name 4) fun _ => aa_nil) (fun _ => rfl)) (fun _ => rfl)))))) rfl))) (pg_tup rfl (pgs_cons (pg_name (i := 14) sc_law.nd rfl (by walk_at "loc")) (pgs_cons (pg_name (i := 15) sc_law.nd rfl (by walk_at "loc")) pgs_nil)))) (fun deep_99 flat_100 => ?_)
                  refine bg_le (env' := [sv (rScr K) a_law_script, sv (rAdr b) (()), sv rInt x3, sv (rFam (fam K ad)) s24, sa, sa, sv (rFam (fam K ad)) tall_29, sa, sv (rAdr p60) (), sa, sa, sa, sv (rFam (fam K ad)) whole_78, sv (rFam (fam K ad)) full_84, sv (rFam (fam K ad)) deep_99, sv (rLst (rFam (fam K ad))) flat_100]) ⟨.inl rfl, .inl rfl, .inl rfl, .inl rfl, .inl rfl, .inl rfl, .inl rfl, .inr rfl, .inl rfl, .inl rfl, .inl rfl, .inl rfl, .inl rfl, .inl rfl, .inl rfl, .inl rfl, trivial⟩ ?_
                  refine bg_env (env' := [sv (rScr K) a_law_script, sv (rAdr b) (()), sv rInt x3, sv (rFam (fam K ad)) s24, sa, sa, sv (rFam (fam K ad)) tall_29, sa, sv (rAdr p60) (), sa, sa, sa, sv (rFam (fam K ad)) whole_78, sv (rFam (fam K ad)) full_84, sv (rFam (fam K ad)) deep_99, sv (rLst (rFam (fam K ad))) flat_100]) rfl ?_
                  refine b_for (S := (Nat × Value_)) (fun s => [sv (rScr K) a_law_script, sv (rAdr b) (()), sv rInt x3, sv (rFam (fam K ad)) s24, sa, sa, sv (rFam (fam K ad)) tall_29, sa, sv (rAdr p60) (), sa, sa, sa, sv (rFam (fam K ad)) whole_78, sv (rFam (fam K ad)) full_84, sv (rFam (fam K ad)) s, sv (rLst (rFam (fam K ad))) flat_100]) (fun s => [(p60, oLst (rFam (fam K ad)) s77), (b, oBag cells), (Tb, oTab (("_law_tests_so" : Str) ++ (".<locals>." : Str) ++ ("<lambda>" : Str))), (Tl, oTab (("law" : Str) ++ (".<locals>." : Str) ++ ("<lambda>" : Str)))]) (deep_99 : (Nat × Value_)) rfl PassesOwn.never (s_conv (s_rng1 e_int T.b_range) (by walk_at "wn")) (tg_name (i := 4)) (pg_name (i := 4) sc_law.nd rfl (by walk_at "loc")) (fun M s109 x108 => ?_) (fun s114 => ?_) ⟨.inl rfl, .inl rfl, .inl rfl, .inl rfl, .inr rfl, .inr rfl, .inl rfl, .inr rfl, .inl rfl, .inr rfl, .inr rfl, .inr rfl, .inl rfl, .inl rfl, .inl rfl, .inl rfl, trivial⟩ rfl
                  · unfold m_law_l4
                    refine b_set 14 (e_conv (e_fam (T := fam K ad) (t := 2) rfl (e_makeZ (k := 5) (args := fun i : (Dn (Nat × Value_)) × (Dn (Nat × Value_)) × Unit => [sv (rDn K (rFam (fam K ad))) i.1, sv (rDn K (rFam (fam K ad))) i.2.1]) (conv := fun q : (Dn (Nat × Value_)) × (Dn (Nat × Value_)) × Unit => (q.1, q.2.1, ())) (dfl := []) (dvs := []) T.mk_Plus (ok_Pair_init T (C := ad.c_Plus) (qPair_Plus T)) passN spm_XN2 (hr.mono (by walk_at "lev")) T.n_Plus T.cb_Pair_init_2 (fun _ => .nil) (hh_pos (aa_cons (e_dnN (e_name 14)) fun _ => (aa_cons (e_dnN (e_call (ok_law_any T b cells (rFam (fam K ad))) (hr.mono (by walk_at "lev")) T.m_law_any T.F_law_any.kp T.bd_law_any (aa_cons (e_name 1) fun _ => (aa_cons (e_name 15) fun _ => aa_nil)) (fun _ => OsLe.mem (List.Mem.tail _ (List.Mem.head _))) (fun _ => by simp))) fun _ => aa_nil)) (fun _ => rfl)) (fun _ => rfl))) (by walk_at "wn")) (fun deep_110 => ?_) sc_law.nd
                    exact b_end (NxOk.nxS (s := (deep_110 : (Nat × Value_))) ⟨.inl rfl, .inl rfl, .inl rfl, .inl rfl, .inr rfl, .inr rfl, .inl rfl, .inr rfl, .inl rfl, .inr rfl, .inr rfl, .inr rfl, .inl rfl, .inl rfl, .inl rfl, .inl rfl, trivial⟩ (.cons_cons _ (.cons_cons _ (.cons_cons _ (.cons_cons _ .slnil)))))
                  · refine b_ifA (t_conv (t_pw (w_or (t_neI (e_fldF (g := fun q : Value_ => q.depth) (fam_depth T) (e_name 14)) fun _ => e_int) (w_or (t_neI (e_fldF (g := fun q : Value_ => q.size) (fam_size T) (e_name 14)) fun _ => e_int) (w_or1 (t_not (t_val (e_callG (ok_law_same T (dd_t2 dd_str dd_D) (dd_t2 dd_str dd_int)) hgu (hr.mono (by walk_at "lev")) T.m_law_same T.F_law_same.kp T.bd_law_same (aa_cons (e_conv (e_callC (X := (cxOf CX0 P w K mg base N_law "law" (defScope s_law) ad.f_law (Value.ref cM) A outer s0 H0 E0).nox) ((bnd (bnd (m_Pair_init ((Dn.nod s114 : (Dn (Nat × Value_)))) ((Dn.nod full_84 : (Dn (Nat × Value_))))) fun r115 => ret (((2 : Nat), r115))) fun _ => fail), ()) (ok_law_got T) (hr.mono (by walk_at "lev")) T.m_law_got T.F_law_got.kp T.bd_law_got (e_la0 3 hTBl rfl rfl (lamS2_by (sc := defScope s_law) (ps := []) (by decide +kernel)).free) rfl rfl (fun _ => rfl) (pl_t2 pl_str pl_D) (fun pins σ F H s v y I S ok => clo1_ok ok (fun v hv => clo_of (vs := []) I S hv (lamS2_by (sc := defScope s_law) (ps := []) (by decide +kernel)) (lamBind0 rfl fun _ _ _ => rfl) (hvs_by (N := N_law) (by decide +kernel)) (fun A1 outer1 s1 H1 E1 f1 c1 B1 hr tk => by have hu := hr.units; have hu2 := room100 hr; exact e_conv (e_never (e_fam (T := fam K ad) (t := 2) rfl (e_makeZ (k := 5) (args := fun i : (Dn (Nat × Value_)) × (Dn (Nat × Value_)) × Unit => [sv (rDn K (rFam (fam K ad))) i.1, sv (rDn K (rFam (fam K ad))) i.2.1]) (conv := fun q : (Dn (Nat × Value_)) × (Dn (Nat × Value_)) × Unit => (q.1, q.2.1, ())) (dfl := []) (dvs := []) T.mk_Plus (ok_Pair_init T (C := ad.c_Plus) (qPair_Plus T)) (passB tk) spm_X2 (hr.mono (by walk_at "lev")) T.n_Plus T.cb_Pair_init_2 (fun _ => .nil) (hh_pos (aa_cons (e_dnN (e_name 14)) fun _ => (aa_cons (e_dnN (e_name 13)) fun _ => aa_nil)) (fun _ => rfl)) (fun _ => rfl)))) (by walk_at "wn"))))) rfl) fun _ => (aa_cons (e_tup2 e_str fun _ => e_int) fun _ => aa_nil)) (fun _ => OsLe.none) (fun _ => List.nodup_nil)))))))) (by walk_at "wn")) ?_ ?_
                    · exact b_ret (RtOk.x RtOk.fl) (OsW.of (OsLe.cons (List.Mem.tail _ (List.Mem.tail _ (List.Mem.head _))) (OsLe.cons (List.Mem.tail _ (List.Mem.tail _ (List.Mem.tail _ (List.Mem.head _)))) OsLe.none))) (e_conv e_bl (by walk_at "wn"))
                    · exact b_end (NxOk.flS (s := (() : Unit)) ⟨.inl rfl, .inl rfl, .inr rfl, .inr rfl, .inr rfl, .inr rfl, .inr rfl, .inr rfl, .inr rfl, .inr rfl, .inr rfl, .inr rfl, .inr rfl, .inr rfl, .inr rfl, .inr rfl, trivial⟩ (.cons _ (.cons_cons _ (.cons_cons _ (.cons_cons _ .slnil)))))
  · refine bg_nx ?_
    refine b_ifA (t_conv (t_not (t_val (e_callG0 (ok_law_tests_so T hfd hTB) hgu (hr.mono (by walk_at "lev")) T.m_law_tests_so T.F_law_tests_so.kp T.bd_law_tests_so (fun _ => OsLe.mem (List.Mem.tail _ (List.Mem.head _))) (fun _ => by simp)))) (by walk_at "wn")) ?_ ?_
    · exact b_ret (RtOk.x RtOk.fn) (OsW.of (OsLe.cons (List.Mem.tail _ (List.Mem.head _)) (OsLe.cons (List.Mem.tail _ (List.Mem.tail _ (List.Mem.head _))) OsLe.none))) (e_conv e_bl (by walk_at "wn"))
    · exact b_ret RtOk.fn (OsW.of (OsLe.cons (List.Mem.tail _ (List.Mem.head _)) (OsLe.cons (List.Mem.tail _ (List.Mem.tail _ (List.Mem.head _))) OsLe.none))) (e_conv e_bl (by walk_at "wn"))
end
end K26
namespace K26
open Mi
open PySem L2 Evl
abbrev Nd := Nat × Value_
def leaf : Value_ := ⟨1, 1⟩
def up1 (x : Value_) : Value_ := ⟨1 + x.depth, 1 + x.size⟩
def up2 (x y : Value_) : Value_ := ⟨1 + max x.depth y.depth, 1 + (x.size + y.size)⟩
def fit (x : Value_) : Prop := x.depth ≤ 20 ∧ x.size ≤ 60
theorem fkV {t : Nat} (h : t < 11) : fk_Value t = true := (by decide : ∀ t, t < 11 → fk_Value t = true) t h
abbrev wd : Dn Nd → W Int := fun x1 => bnd (asNod x1) fun z2 => ret (z2.2.depth)
abbrev ws : Dn Nd → W Int := fun x7 => bnd (asNod x7) fun z8 => ret (z8.2.size)
theorem wd_ok (xs : List Nd) : Ok (mapW wd (xs.map Dn.nod)) (· = xs.map fun x => x.2.depth) := by
  induction xs with
  | nil => exact Ok.eq
  | cons x xs ih => exact Ok.bndE (Ok.bndE (x := x) Ok.eq Ok.eq) (Ok.bndE ih Ok.eq)
theorem ws_ok (xs : List Nd) : Ok (mapW ws (xs.map Dn.nod)) (· = xs.map fun x => x.2.size) := by
  induction xs with
  | nil => exact Ok.eq
  | cons x xs ih => exact Ok.bndE (Ok.bndE (x := x) Ok.eq Ok.eq) (Ok.bndE ih Ok.eq)
def put (xs : List Nd) : Value_ := ⟨1 + maxL ((0 : Int) :: ((xs.map fun x => x.2.depth) ++ [])), 1 + (xs.map fun x => x.2.size).sum⟩
theorem dep_ok (xs : List Nd) (hl : xs.length ≤ 2) : Ok (bnd (mapW wd (xs.map Dn.nod)) fun ys3 => bnd (chk ((((0 : Int)) :: (ys3 ++ [])).length ≤ sizeLine) (ret (((0 : Int)) :: (ys3 ++ [])))) fun t4 => bnd (chk (t4 ≠ []) (ret (maxL t4))) fun t5 => ret (((1 : Int)) + t5)) (· = (put xs).depth) :=
  Ok.bndE (wd_ok xs) (Ok.bndE (Ok.chk (Nat.le_trans (show _ ≤ 1000 by simp; omega) (by decide)) Ok.eq) (Ok.bndE (Ok.chk (by simp) Ok.eq) Ok.eq))
theorem siz_ok (xs : List Nd) : Ok (bnd (mapW ws (xs.map Dn.nod)) fun ys9 => ret (((1 : Int)) + ys9.sum)) (· = (put xs).size) := Ok.bndE (ws_ok xs) Ok.eq
theorem take_ok {xs : List Nd} (hl : xs.length ≤ 2) (h : fit (put xs)) : Ok (m_Value_take (xs.map Dn.nod)) (· = put xs) := by
  unfold m_Value_take
  refine Ok.bndE (dep_ok xs hl) (Ok.bndE (siz_ok xs) ?_)
  refine Ok.bndE (x := false) (Ok.ret (decide_eq_false (by have := h.1; omega))) ?_
  rw [if_neg (by decide)]
  refine Ok.bndE (x := false) (Ok.ret (decide_eq_false (by have := h.2; omega))) ?_
  rw [if_neg (by decide)]
  exact Ok.bndE (x := xs.map Dn.nod) Ok.eq Ok.eq
theorem take_deep {xs : List Nd} (hl : xs.length ≤ 2) (h : 20 < (put xs).depth) : Thr (m_Value_take (xs.map Dn.nod)) ⟨"TooDeep", [.int 20]⟩ := by
  unfold m_Value_take
  refine Thr.after (dep_ok xs hl) (Thr.after (siz_ok xs) ?_)
  refine Thr.after (x := true) (Ok.ret (decide_eq_true h)) ?_
  rw [if_pos rfl]
  exact Thr.retB Thr.thr
theorem take_many {xs : List Nd} (hl : xs.length ≤ 2) (h : (put xs).depth ≤ 20) (h2 : 60 < (put xs).size) : Thr (m_Value_take (xs.map Dn.nod)) ⟨"TooMany", [.int 60]⟩ := by
  unfold m_Value_take
  refine Thr.after (dep_ok xs hl) (Thr.after (siz_ok xs) ?_)
  refine Thr.after (x := false) (Ok.ret (decide_eq_false (by omega))) ?_
  rw [if_neg (by decide)]
  refine Thr.after (x := true) (Ok.ret (decide_eq_true h2)) ?_
  rw [if_pos rfl]
  exact Thr.retB Thr.thr
theorem l1_nod {x : Nd} (h : x.1 < 11) : Ok (m_Value_init_l1 () (.nod x)) (fun _ => True) := by
  unfold m_Value_init_l1
  refine Ok.bndE (x := false) (Ok.ret (by show (!(fk_Value x.1)) = false; rw [fkV h]; rfl)) ?_
  rw [if_neg (by decide)]
  exact Ok.ret trivial
theorem for_nods : ∀ {xs : List Nd}, (∀ x ∈ xs, x.1 < 11) → Ok (forW m_Value_init_l1 () (xs.map Dn.nod)) (fun _ => True)
  | [], _ => Ok.ret trivial
  | x :: xs, h => Ok.bnd (l1_nod (h x List.mem_cons_self)) fun _ _ => for_nods fun y hy => h y (List.mem_cons_of_mem _ hy)
theorem init_ok {xs : List Nd} (hl : xs.length ≤ 2) (ht : ∀ x ∈ xs, x.1 < 11) (h : fit (put xs)) : Ok (m_Value_init (xs.map Dn.nod)) (· = put xs) := by
  unfold m_Value_init
  exact Ok.bndE (x := xs.map Dn.nod) Ok.eq (Ok.bnd (for_nods ht) fun _ _ => Ok.bndE (take_ok hl h) Ok.eq)
theorem init_thr {xs : List Nd} {e : Er} (ht : ∀ x ∈ xs, x.1 < 11) (h : Thr (m_Value_take (xs.map Dn.nod)) e) : Thr (m_Value_init (xs.map Dn.nod)) e := by
  unfold m_Value_init
  exact Thr.after (x := xs.map Dn.nod) Ok.eq (Thr.afterP (for_nods ht) fun _ _ => Thr.bnd h)
theorem put1 {x : Nd} (h : 0 ≤ x.2.depth) : put [x] = up1 x.2 := by
  show (⟨1 + max 0 x.2.depth, 1 + (x.2.size + 0)⟩ : Value_) = ⟨1 + x.2.depth, 1 + x.2.size⟩
  rw [Int.add_zero, Int.max_eq_right h]
theorem put2 {x y : Nd} (h : 0 ≤ x.2.depth) : put [x, y] = up2 x.2 y.2 := by
  show (⟨1 + max 0 (max x.2.depth y.2.depth), 1 + (x.2.size + (y.2.size + 0))⟩ : Value_) = ⟨1 + max x.2.depth y.2.depth, 1 + (x.2.size + y.2.size)⟩
  rw [Int.add_zero, Int.max_eq_right (by omega)]
theorem leaf_fit : fit leaf := ⟨by decide, by decide⟩
theorem need_ok {n lo hi : Int} (h1 : lo ≤ n) (h2 : n ≤ hi) : Ok (m_need_number_v0 n lo hi) (fun _ => True) := by
  unfold m_need_number_v0
  refine Ok.bndE (x := false) (Ok.bndE (x := true) (Ok.noX ?_) Ok.eq) ?_
  · unfold m_is_number_v0
    refine Ok.bndE (x := true) (Ok.bndE (x := true) (Ok.noX (Ok.bndE (x := true) (Ok.bndE (x := true) Ok.eq Ok.eq) Ok.eq)) ?_) Ok.eq
    rw [if_pos rfl]
    refine Ok.bndE (x := true) (Ok.ret (decide_eq_true h1)) ?_
    rw [if_pos rfl]
    refine Ok.bndE (x := false) Ok.eq ?_
    rw [if_neg (by decide)]
    exact Ok.ret (decide_eq_true h2)
  · rw [if_neg (by decide)]
    exact Ok.ret trivial
theorem value0_ok : Ok (m_Value_init []) (· = leaf) := init_ok (xs := []) (by decide) (fun _ h => nomatch h) leaf_fit
theorem number_ok {n : Int} (h1 : -9999 ≤ n) (h2 : n ≤ 9999) : Ok (m_Number_init n) (· = leaf) := by
  unfold m_Number_init
  exact Ok.bndE value0_ok (Ok.bnd (Ok.noX (need_ok h1 h2)) fun _ _ => Ok.bndE (x := n) Ok.eq Ok.eq)
theorem divides_ok {n : Int} (h1 : 1 ≤ n) (h2 : n ≤ 60) : Ok (m_Divides_init n) (· = leaf) := by
  unfold m_Divides_init
  exact Ok.bndE value0_ok (Ok.bnd (Ok.noX (need_ok h1 h2)) fun _ _ => Ok.bndE (x := n) Ok.eq Ok.eq)
theorem pair_ok {x y : Nd} (hx : x.1 < 11) (hy : y.1 < 11) (h0 : 0 ≤ x.2.depth) (h : fit (up2 x.2 y.2)) : Ok (m_Pair_init (.nod x) (.nod y)) (· = up2 x.2 y.2) := by
  unfold m_Pair_init
  have hi : Ok (m_Value_init ([x, y].map Dn.nod)) (· = put [x, y]) := init_ok (Nat.le_refl 2) (fun z hz => by
    simp only [List.mem_cons, List.not_mem_nil, or_false] at hz
    rcases hz with rfl | rfl <;> assumption) (by rw [put2 h0]; exact h)
  rw [put2 h0] at hi
  exact Ok.bndE (x := [Dn.nod x, Dn.nod y]) Ok.eq (Ok.bndE hi (Ok.bndE (x := Dn.nod x) Ok.eq (Ok.bndE (x := Dn.nod y) Ok.eq Ok.eq)))
theorem pair_thr {x y : Nd} {e : Er} (hx : x.1 < 11) (hy : y.1 < 11) (h : Thr (m_Value_take ([x, y].map Dn.nod)) e) : Thr (m_Pair_init (.nod x) (.nod y)) e := by
  unfold m_Pair_init
  exact Thr.after (x := [Dn.nod x, Dn.nod y]) Ok.eq (Thr.bnd (init_thr (fun z hz => by
    simp only [List.mem_cons, List.not_mem_nil, or_false] at hz
    rcases hz with rfl | rfl <;> assumption) h))
theorem deep2 {x y : Nd} (h0 : 0 ≤ x.2.depth) (h : 20 < (up2 x.2 y.2).depth) : Thr (m_Value_take ([x, y].map Dn.nod)) ⟨"TooDeep", [.int 20]⟩ := take_deep (Nat.le_refl 2) (by rw [put2 h0]; exact h)
theorem many2 {x y : Nd} (h0 : 0 ≤ x.2.depth) (h : (up2 x.2 y.2).depth ≤ 20) (h2 : 60 < (up2 x.2 y.2).size) : Thr (m_Value_take ([x, y].map Dn.nod)) ⟨"TooMany", [.int 60]⟩ := take_many (Nat.le_refl 2) (by rw [put2 h0]; exact h) (by rw [put2 h0]; exact h2)
theorem deep1 {x : Nd} (h0 : 0 ≤ x.2.depth) (h : 20 < (up1 x.2).depth) : Thr (m_Value_take ([x].map Dn.nod)) ⟨"TooDeep", [.int 20]⟩ := take_deep (Nat.le_succ 1) (by rw [put1 h0]; exact h)
theorem many1 {x : Nd} (h0 : 0 ≤ x.2.depth) (h : (up1 x.2).depth ≤ 20) (h2 : 60 < (up1 x.2).size) : Thr (m_Value_take ([x].map Dn.nod)) ⟨"TooMany", [.int 60]⟩ := take_many (Nat.le_succ 1) (by rw [put1 h0]; exact h) (by rw [put1 h0]; exact h2)
theorem one_ok {x : Nd} (hx : x.1 < 11) (h0 : 0 ≤ x.2.depth) (h : fit (up1 x.2)) : Ok (m_Value_init [Dn.nod x]) (· = up1 x.2) := by
  have hi : Ok (m_Value_init ([x].map Dn.nod)) (· = put [x]) := init_ok (Nat.le_succ 1) (fun z hz => by
    rw [List.mem_singleton.mp hz]; exact hx) (by rw [put1 h0]; exact h)
  rw [put1 h0] at hi
  exact hi
theorem isname_ok {s : Str} (h : nameB (.str s) = true) (hl : s.length ≤ sizeLine) : Ok (m_is_name (.str s)) (· = true) := by
  have q : Ok (nameW (.str s)) (· = nameB (.str s)) := name_ok fun z e => by cases e; exact hl
  rw [h] at q
  exact q
theorem total_ok {s : Str} {x : Nd} (hs : nameB (.str s) = true) (hl : s.length ≤ sizeLine) (hx : x.1 < 11) (h0 : 0 ≤ x.2.depth) (h : fit (up1 x.2)) : Ok (m_Total_init s (.nod x)) (· = up1 x.2) := by
  unfold m_Total_init
  refine Ok.bndE (x := false) (Ok.bndE (Ok.noX (isname_ok hs hl)) Ok.eq) ?_
  rw [if_neg (by decide)]
  exact Ok.bndE (x := [Dn.nod x]) Ok.eq (Ok.bndE (one_ok hx h0 h) (Ok.bndE (x := s) Ok.eq (Ok.bndE (x := Dn.nod x) Ok.eq Ok.eq)))
theorem total_thr {s : Str} {x : Nd} {e : Er} (hs : nameB (.str s) = true) (hl : s.length ≤ sizeLine) (hx : x.1 < 11) (h : Thr (m_Value_take ([x].map Dn.nod)) e) : Thr (m_Total_init s (.nod x)) e := by
  unfold m_Total_init
  refine Thr.after (x := false) (Ok.bndE (Ok.noX (isname_ok hs hl)) Ok.eq) ?_
  rw [if_neg (by decide)]
  exact Thr.after (x := [Dn.nod x]) Ok.eq (Thr.bnd (init_thr (xs := [x]) (fun z hz => by rw [List.mem_singleton.mp hz]; exact hx) h))
def tst (t : Nat) : Prop := 6 ≤ t ∧ t < 11
theorem fkT {t : Nat} (h : tst t) : fk_Test t = true := (by decide : ∀ t, t < 11 → 6 ≤ t → fk_Test t = true) t h.2 h.1
theorem tests_l1 {x : Nd} (h : tst x.1) : Ok (m_need_tests_l1 () (.nod x)) (fun _ => True) := by
  unfold m_need_tests_l1
  refine Ok.bndE (x := false) (Ok.ret (by show (!(fk_Test x.1)) = false; rw [fkT h]; rfl)) ?_
  rw [if_neg (by decide)]
  exact Ok.ret trivial
theorem tests1 {x : Nd} (h : tst x.1) : Ok (m_need_tests [Dn.nod x]) (fun _ => True) := by
  unfold m_need_tests
  exact Ok.bndE (x := [Dn.nod x]) Ok.eq (Ok.bnd (J := fun _ => True) (Ok.bnd (tests_l1 h) fun _ _ => Ok.ret trivial) fun _ _ => Ok.ret trivial)
theorem tests2 {x y : Nd} (h : tst x.1) (k : tst y.1) : Ok (m_need_tests [Dn.nod x, Dn.nod y]) (fun _ => True) := by
  unfold m_need_tests
  exact Ok.bndE (x := [Dn.nod x, Dn.nod y]) Ok.eq (Ok.bnd (J := fun _ => True) (Ok.bnd (tests_l1 h) fun _ _ => Ok.bnd (tests_l1 k) fun _ _ => Ok.ret trivial) fun _ _ => Ok.ret trivial)
theorem not_ok {x : Nd} (hx : tst x.1) (h0 : 0 ≤ x.2.depth) (h : fit (up1 x.2)) : Ok (m_Not_init (.nod x)) (· = up1 x.2) := by
  unfold m_Not_init
  exact Ok.bnd (tests1 hx) fun _ _ => Ok.bndE (x := [Dn.nod x]) Ok.eq (Ok.bndE (one_ok hx.2 h0 h) (Ok.bndE (x := Dn.nod x) Ok.eq Ok.eq))
theorem not_thr {x : Nd} {e : Er} (hx : tst x.1) (h : Thr (m_Value_take ([x].map Dn.nod)) e) : Thr (m_Not_init (.nod x)) e := by
  unfold m_Not_init
  exact Thr.afterP (tests1 hx) fun _ _ => Thr.after (x := [Dn.nod x]) Ok.eq (Thr.bnd (init_thr (xs := [x]) (fun z hz => by rw [List.mem_singleton.mp hz]; exact hx.2) h))
theorem two_ok {x y : Nd} (hx : x.1 < 11) (hy : y.1 < 11) (h0 : 0 ≤ x.2.depth) (h : fit (up2 x.2 y.2)) : Ok (m_Value_init [Dn.nod x, Dn.nod y]) (· = up2 x.2 y.2) := by
  have hi : Ok (m_Value_init ([x, y].map Dn.nod)) (· = put [x, y]) := init_ok (Nat.le_refl 2) (fun z hz => by
    simp only [List.mem_cons, List.not_mem_nil, or_false] at hz
    rcases hz with rfl | rfl <;> assumption) (by rw [put2 h0]; exact h)
  rw [put2 h0] at hi
  exact hi
theorem and_ok {x y : Nd} (hx : tst x.1) (hy : tst y.1) (h0 : 0 ≤ x.2.depth) (h : fit (up2 x.2 y.2)) : Ok (m_And_init (.nod x) (.nod y)) (· = up2 x.2 y.2) := by
  unfold m_And_init
  exact Ok.bnd (tests2 hx hy) fun _ _ => Ok.bndE (x := [Dn.nod x, Dn.nod y]) Ok.eq (Ok.bndE (two_ok hx.2 hy.2 h0 h) (Ok.bndE (x := Dn.nod x) Ok.eq (Ok.bndE (x := Dn.nod y) Ok.eq Ok.eq)))
theorem or_ok {x y : Nd} (hx : tst x.1) (hy : tst y.1) (h0 : 0 ≤ x.2.depth) (h : fit (up2 x.2 y.2)) : Ok (m_Or_init (.nod x) (.nod y)) (· = up2 x.2 y.2) := by
  unfold m_Or_init
  exact Ok.bnd (tests2 hx hy) fun _ _ => Ok.bndE (x := [Dn.nod x, Dn.nod y]) Ok.eq (Ok.bndE (two_ok hx.2 hy.2 h0 h) (Ok.bndE (x := Dn.nod x) Ok.eq (Ok.bndE (x := Dn.nod y) Ok.eq Ok.eq)))
theorem two_thr {x y : Nd} {e : Er} (hx : x.1 < 11) (hy : y.1 < 11) (h : Thr (m_Value_take ([x, y].map Dn.nod)) e) : Thr (m_Value_init [Dn.nod x, Dn.nod y]) e := init_thr (xs := [x, y]) (fun z hz => by
    simp only [List.mem_cons, List.not_mem_nil, or_false] at hz
    rcases hz with rfl | rfl <;> assumption) h
theorem and_thr {x y : Nd} {e : Er} (hx : tst x.1) (hy : tst y.1) (h : Thr (m_Value_take ([x, y].map Dn.nod)) e) : Thr (m_And_init (.nod x) (.nod y)) e := by
  unfold m_And_init
  exact Thr.afterP (tests2 hx hy) fun _ _ => Thr.after (x := [Dn.nod x, Dn.nod y]) Ok.eq (Thr.bnd (two_thr hx.2 hy.2 h))
theorem or_thr {x y : Nd} {e : Er} (hx : tst x.1) (hy : tst y.1) (h : Thr (m_Value_take ([x, y].map Dn.nod)) e) : Thr (m_Or_init (.nod x) (.nod y)) e := by
  unfold m_Or_init
  exact Thr.afterP (tests2 hx hy) fun _ _ => Thr.after (x := [Dn.nod x, Dn.nod y]) Ok.eq (Thr.bnd (two_thr hx.2 hy.2 h))
theorem none_thr {x : Nd} (hx : x.1 < 11) : Thr (m_Pair_init (.nod x) (.dat .none)) ⟨"InvalidValue", [.none]⟩ := by
  unfold m_Pair_init
  refine Thr.after (x := [Dn.nod x, Dn.dat .none]) Ok.eq (Thr.bnd ?_)
  unfold m_Value_init
  refine Thr.after (x := [Dn.nod x, Dn.dat .none]) Ok.eq (Thr.bnd (Thr.afterP (l1_nod hx) fun _ _ => Thr.bnd ?_))
  unfold m_Value_init_l1
  refine Thr.after (x := true) (Ok.ret rfl) ?_
  rw [if_pos rfl]
  exact Thr.after (x := PyData.none) Ok.eq Thr.thr
theorem whole1 (d : PyData) : Ok (m_is_whole_v1 d) (· = whole d) := whole_ok d
theorem form_nil : Ok (m_Form_init (PyData.tuple []) (PyData.int 0)) (· = ⟨[], 0⟩) := by
  unfold m_Form_init
  refine Ok.bndE (x := []) ?_ ?_
  · rw [bnd_ret, if_neg (by decide)]
    unfold m_gathered_terms
    rw [show (tyD (PyData.tuple []) == "list" || tyD (PyData.tuple []) == "tuple") = true from rfl, bnd_ret, if_neg (by decide)]
    exact Ok.bndE (x := []) (Ok.bndE (x := []) (Ok.chk (by decide) Ok.eq) Ok.eq) (Ok.bndE (x := []) Ok.eq Ok.eq)
  refine Ok.bndE (x := false) (Ok.bndE (x := true) (Ok.noX (whole1 _)) Ok.eq) ?_
  rw [if_neg (by decide)]
  have e : srt ([] : List Str) = [] := srt_sorted (by decide +kernel)
  exact Ok.bndE (x := []) (Ok.bndE (x := []) ((Ok.sortE (xs := []) (by decide)).mono fun y hy => hy.trans e) Ok.eq) (Ok.bndE (x := 0) Ok.eq (Ok.ret rfl))
theorem round_ok : Ok (m_Round_init ⟨[], 0⟩) (· = leaf) := by
  unfold m_Round_init
  refine Ok.bndE value0_ok (Ok.bndE (x := false) (Ok.bndE (x := true) (Ok.noX ?_) Ok.eq) ?_)
  · unfold m_is_small
    have ht : Ok (m_Form_terms ⟨[], 0⟩) (· = []) := Ok.eq
    refine Ok.bndE (x := false) (Ok.bndE (x := false) Ok.eq ?_) ?_
    · rw [if_neg (by decide)]
      exact Ok.bndE (Ok.noX ht) Ok.eq
    rw [if_neg (by decide)]
    refine Ok.bndE (x := false) (Ok.bndE (x := 0) (Ok.noX (Ok.bndE (x := 0) Ok.eq Ok.eq)) (Ok.bndE (x := true) (Ok.noX ?_) Ok.eq)) ?_
    · unfold m_is_number_v0
      refine Ok.bndE (x := true) (Ok.bndE (x := true) (Ok.noX (Ok.bndE (x := true) (Ok.bndE (x := true) Ok.eq Ok.eq) Ok.eq)) ?_) Ok.eq
      rw [if_pos rfl]
      refine Ok.bndE (x := true) (Ok.ret (by decide)) ?_
      rw [if_pos rfl]
      refine Ok.bndE (x := false) Ok.eq ?_
      rw [if_neg (by decide)]
      exact Ok.ret (by decide)
    rw [if_neg (by decide)]
    exact Ok.bndE (x := true) (Ok.bndE (Ok.noX ht) (Ok.bndE (x := []) Ok.eq Ok.eq)) Ok.eq
  · rw [if_neg (by decide)]
    exact Ok.bndE (x := ⟨[], 0⟩) Ok.eq Ok.eq
end K26
set_option exponentiation.threshold 10000
namespace K26
open Mi
open PySem L2 Evl
instance : DecidableEq Value_ := fun ⟨a, b⟩ ⟨c, d⟩ => if h : a = c ∧ b = d then isTrue (by rw [h.1, h.2]) else isFalse fun e => h (by cases e; exact ⟨rfl, rfl⟩)
theorem t6 : tst 6 := ⟨by decide, by decide⟩
theorem t7 : tst 7 := ⟨by decide, by decide⟩
theorem t8 : tst 8 := ⟨by decide, by decide⟩
theorem t9 : tst 9 := ⟨by decide, by decide⟩
theorem t10 : tst 10 := ⟨by decide, by decide⟩
theorem pop_ok {α : Type} {xs : List α} {n : Nat} (h : n < xs.length) (hl : xs.length < 2 ^ 62) : Ok (popW xs (n : Int)) (· = (xs[n], xs.eraseIdx n)) := by
  unfold popW
  refine Ok.chk ⟨by omega, by omega, hl⟩ ?_
  rw [Int.toNat_natCast, List.getElem?_eq_getElem h]
  exact Ok.eq
def nx : List Value_ → List Value_
  | a :: b :: r => r ++ [up2 a b]
  | l => l
def it : Nat → List Value_
  | 0 => List.replicate 30 leaf
  | n + 1 => nx (it n)
def chkL : List Value_ → Bool
  | a :: b :: r => decide ((up2 a b).depth ≤ 20 ∧ (up2 a b).size ≤ 60 ∧ 0 ≤ a.depth ∧ 0 ≤ b.depth ∧ r.length ≤ 100)
  | _ => false
theorem it_chk : ∀ k, k < 29 → chkL (it k) = true := by decide +kernel
theorem it_29 : it 29 = [⟨6, 59⟩] := by decide +kernel
theorem it_len : ∀ k, k < 30 → (it k).length = 30 - k := by decide +kernel
structure St (q : Nat → Prop) (s : List Nd) (L : List Value_) : Prop where
  vs : s.map (·.2) = L
  ts : ∀ x ∈ s, q x.1
theorem St.two {q : Nat → Prop} {s : List Nd} {L : List Value_} (h : St q s L) (hc : chkL L = true) : ∃ x y r, s = x :: y :: r ∧ fit (up2 x.2 y.2) ∧ 0 ≤ x.2.depth ∧ 0 ≤ y.2.depth ∧ r.length ≤ 100 ∧ q x.1 ∧ q y.1 ∧ (∀ z ∈ r, q z.1) ∧ nx L = (r.map (·.2)) ++ [up2 x.2 y.2] := by
  match s, h with
  | [], h =>
    have e : L = [] := h.vs.symm
    rw [e] at hc
    cases hc
  | [x], h =>
    have e : L = [x.2] := h.vs.symm
    rw [e] at hc
    cases hc
  | x :: y :: r, h =>
    have e : L = x.2 :: y.2 :: r.map (·.2) := h.vs.symm
    rw [e] at hc ⊢
    have hc := of_decide_eq_true hc
    exact ⟨x, y, r, rfl, ⟨hc.1, hc.2.1⟩, hc.2.2.1, hc.2.2.2.1, by have := hc.2.2.2.2; rwa [List.length_map] at this, h.ts x List.mem_cons_self, h.ts y (List.mem_cons_of_mem _ List.mem_cons_self), fun z hz => h.ts z (List.mem_cons_of_mem _ (List.mem_cons_of_mem _ hz)), rfl⟩
theorem st_snoc {q : Nat → Prop} {r : List Nd} {t : Nat} {v : Value_} {L : List Value_} (hr : ∀ z ∈ r, q z.1) (ht : q t) (hL : L = (r.map (·.2)) ++ [v]) : St q (r ++ [(t, v)]) L := ⟨by rw [hL, List.map_append]; rfl, fun z hz => by
  rcases List.mem_append.mp hz with h | h
  · exact hr z h
  · rw [List.mem_singleton.mp h]
    exact ht⟩
theorem small_line {n : Nat} (h : n ≤ 100) : n < sizeLine := Nat.lt_of_le_of_lt h (by decide)
theorem big62 {n : Nat} (h : n ≤ 1000) : n < 2 ^ 62 := Nat.lt_of_le_of_lt h (by decide)
theorem so1_ok {s : List Nd} {L : List Value_} {x : Int} (h : St tst s L) (hc : chkL L = true) : Ok (m_law_tests_so_l1 s x) (fun s' => St tst s' (nx L)) := by
  obtain ⟨a, b, r, e, hf, h0, _, hl, ha, hb, hr, hn⟩ := h.two hc
  subst e
  unfold m_law_tests_so_l1
  refine Ok.bndP (J := (· = (a, b :: r))) (Ok.bndE (x := 0) Ok.eq (pop_ok (n := 0) (by simp) (big62 (by simp; omega)))) fun y ys ep => ?_
  cases ep
  refine Ok.bndP (J := (· = (b, r))) (Ok.bndE (x := 0) Ok.eq (pop_ok (n := 0) (by simp) (big62 (by simp; omega)))) fun z zs ep => ?_
  cases ep
  refine Ok.bnd (J := fun p : Nd => tst p.1 ∧ p.2 = up2 a.2 b.2) ?_ fun p ⟨p1, p2⟩ => Ok.chk (small_line hl) (Ok.ret ?_)
  · refine Ok.bndE (x := decide (x < 15)) Ok.eq ?_
    cases decide (x < 15) with
    | true =>
      rw [if_pos rfl]
      exact Ok.bndE (Ok.noX (and_ok ha hb h0 hf)) (Ok.ret ⟨t9, rfl⟩)
    | false =>
      rw [if_neg (by decide)]
      exact Ok.bndE (Ok.noX (or_ok ha hb h0 hf)) (Ok.ret ⟨t10, rfl⟩)
  · obtain ⟨t, v⟩ := p
    have p2 : v = _ := p2
    subst p2
    exact st_snoc hr p1 hn
theorem so2_ok {s : Nd} {x : Int} {k : Nat} (hk : k < 18) (h : tst s.1 ∧ s.2 = ⟨(k : Int) + 1, (k : Int) + 1⟩) : Ok (m_law_tests_so_l2 s x) (fun s' => tst s'.1 ∧ s'.2 = ⟨((k + 1 : Nat) : Int) + 1, ((k + 1 : Nat) : Int) + 1⟩) := by
  obtain ⟨t, v⟩ := s
  obtain ⟨h1, h2⟩ := h
  have h2 : v = _ := h2
  subst h2
  unfold m_law_tests_so_l2
  refine Ok.bnd (J := fun p : Nd => tst p.1 ∧ p.2 = ⟨((k + 1 : Nat) : Int) + 1, ((k + 1 : Nat) : Int) + 1⟩) (Ok.bndE (Ok.noX (not_ok h1 (show (0 : Int) ≤ (k : Int) + 1 by omega) ⟨show 1 + ((k : Int) + 1) ≤ 20 by omega, show 1 + ((k : Int) + 1) ≤ 60 by omega⟩)) (Ok.ret ⟨t8, ?_⟩)) fun p hp => Ok.ret hp
  show (⟨1 + ((k : Int) + 1), 1 + ((k : Int) + 1)⟩ : Value_) = _
  rw [show 1 + ((k : Int) + 1) = ((k + 1 : Nat) : Int) + 1 by omega]
theorem fMost : ftb.lookup "TooMany" = some (some ("most" : Str)) := by decide +kernel
theorem fDeep : ftb.lookup "TooDeep" = some (some ("most" : Str)) := by decide +kernel
theorem fVal : ftb.lookup "InvalidValue" = some (some ("given" : Str)) := by decide +kernel
theorem field_many : Ok (fieldW ftb ⟨"TooMany", [.int 60]⟩) (· = .int 60) := by
  unfold fieldW
  refine Ok.bndE (x := false) (Ok.ret (by decide +kernel)) ?_
  rw [if_neg (by decide)]
  refine Ok.bndE (x := true) (Ok.ret (by decide +kernel)) ?_
  rw [if_pos rfl]
  refine Ok.bndE (x := .int 60) (Ok.bndE (x := false) (Ok.ret (by decide +kernel)) ?_) Ok.eq
  rw [if_neg (by decide)]
  unfold excF
  rw [fMost]
  exact Ok.chk rfl (Ok.ret rfl)
theorem field_deep : Ok (fieldW ftb ⟨"TooDeep", [.int 20]⟩) (· = .int 20) := by
  unfold fieldW
  refine Ok.bndE (x := false) (Ok.ret (by decide +kernel)) ?_
  rw [if_neg (by decide)]
  refine Ok.bndE (x := true) (Ok.ret (by decide +kernel)) ?_
  rw [if_pos rfl]
  refine Ok.bndE (x := .int 20) (Ok.bndE (x := false) (Ok.ret (by decide +kernel)) ?_) Ok.eq
  rw [if_neg (by decide)]
  unfold excF
  rw [fDeep]
  exact Ok.chk rfl (Ok.ret rfl)
theorem gotT {w : W PyData} {e : Er} {x : PyData} (h : Thr w e) (hf : Ok (fieldW ftb e) (· = x)) : Ok (noX (m_law_got w)) (· = (Str.ofString e.cls, x)) := got_thr h hf
abbrev rM : Str × PyData := (("TooMany" : Str), .int 60)
abbrev rDp : Str × PyData := (("TooDeep" : Str), .int 20)
theorem gotM {w : W PyData} (h : Thr w ⟨"TooMany", [.int 60]⟩) : Ok (noX (m_law_got w)) (· = rM) := gotT h field_many
theorem gotD {w : W PyData} (h : Thr w ⟨"TooDeep", [.int 20]⟩) : Ok (noX (m_law_got w)) (· = rDp) := gotT h field_deep
theorem all3 {w1 w2 w3 : W PyData} {r1 r2 r3 : Str × PyData} (h1 : Ok (noX (m_law_got w1)) (· = r1)) (h2 : Ok (noX (m_law_got w2)) (· = r2)) (h3 : Ok (noX (m_law_got w3)) (· = r3)) : Ok (m_law_all_got [w1, w2, w3]) (· = [r1, r2, r3]) := by
  unfold m_law_all_got
  exact Ok.bndE (Ok.bndE h1 (Ok.bndE (Ok.bndE h2 (Ok.bndE (Ok.bndE h3 (Ok.bndE Ok.eq Ok.eq)) Ok.eq)) Ok.eq)) Ok.eq
theorem all6 {w1 w2 w3 w4 w5 w6 : W PyData} {r1 r2 r3 r4 r5 r6 : Str × PyData} (h1 : Ok (noX (m_law_got w1)) (· = r1)) (h2 : Ok (noX (m_law_got w2)) (· = r2)) (h3 : Ok (noX (m_law_got w3)) (· = r3)) (h4 : Ok (noX (m_law_got w4)) (· = r4)) (h5 : Ok (noX (m_law_got w5)) (· = r5)) (h6 : Ok (noX (m_law_got w6)) (· = r6)) : Ok (m_law_all_got [w1, w2, w3, w4, w5, w6]) (· = [r1, r2, r3, r4, r5, r6]) := by
  unfold m_law_all_got
  exact Ok.bndE (Ok.bndE h1 (Ok.bndE (Ok.bndE h2 (Ok.bndE (Ok.bndE h3 (Ok.bndE (Ok.bndE h4 (Ok.bndE (Ok.bndE h5 (Ok.bndE (Ok.bndE h6 (Ok.bndE Ok.eq Ok.eq)) Ok.eq)) Ok.eq)) Ok.eq)) Ok.eq)) Ok.eq)) Ok.eq
theorem rep3 (r : Str × PyData) : Ok (repL [r] 3) (· = [r, r, r]) := Ok.chk ⟨by decide, by decide, by show 1 * 3 ≤ sizeLine; decide⟩ (Ok.ret rfl)
theorem sM : PyData.strOk ("TooMany" : Str) = true ∧ ("TooMany" : Str).length ≤ 20 := ⟨by decide +kernel, by decide +kernel⟩
theorem sD : PyData.strOk ("TooDeep" : Str) = true ∧ ("TooDeep" : Str).length ≤ 20 := ⟨by decide +kernel, by decide +kernel⟩
theorem shwI {i : Int} (h : i.natAbs < 2 ^ 64) : Shw (.int i) 2000 := (Shw.int (Nat.lt_trans h (Nat.pow_lt_pow_right (by decide) (by decide)))).mono (by decide)
theorem shwM : Shw (PyData.tuple [.str ("TooMany" : Str), .int 60]) 5000 := (Shw.pair ((Shw.str sM.1 sM.2).mono (by decide)) (shwI (by decide)) : Shw _ (2 * (2000 + 2) + 4)).mono (by decide)
theorem shwD : Shw (PyData.tuple [.str ("TooDeep" : Str), .int 20]) 5000 := (Shw.pair ((Shw.str sD.1 sD.2).mono (by decide)) (shwI (by decide)) : Shw _ (2 * (2000 + 2) + 4)).mono (by decide)
theorem same_got {rs : List (Str × PyData)} (hl : rs.length ≤ 6) (h : ∀ r ∈ rs, r = rM ∨ r = rDp) : Ok (sameW (fun xs => PyData.list (xs.map (fun x => PyData.tuple [.str x.1, id x.2]))) (fun xs => PyData.list (xs.map (fun x => PyData.tuple [.str x.1, id x.2]))) rs rs) (· = true) :=
  Ok.same (m := 6 * (5000 + 2) + 2) (Shw.list (m := 5000) (n := 6) (fun d hd => by
    obtain ⟨r, hr, rfl⟩ := List.mem_map.mp hd
    rcases h r hr with e | e <;> subst e
    · exact shwM
    · exact shwD) (by rw [List.length_map]; exact hl)) (by decide) rfl
end K26
set_option exponentiation.threshold 10000
namespace K26
open Mi
open PySem L2 Evl
theorem many2c {t u : Nat} {a b c d : Int} (h0 : 0 ≤ a) (h : 1 + max a c ≤ 20) (h2 : 60 < 1 + (b + d)) : Thr (m_Value_take ([((t, ⟨a, b⟩) : Nd), ((u, ⟨c, d⟩) : Nd)].map Dn.nod)) ⟨"TooMany", [.int 60]⟩ := many2 h0 h h2
theorem deep2c {t u : Nat} {a b c d : Int} (h0 : 0 ≤ a) (h : 20 < 1 + max a c) : Thr (m_Value_take ([((t, ⟨a, b⟩) : Nd), ((u, ⟨c, d⟩) : Nd)].map Dn.nod)) ⟨"TooDeep", [.int 20]⟩ := deep2 h0 h
theorem many1c {t : Nat} {a b : Int} (h0 : 0 ≤ a) (h : 1 + a ≤ 20) (h2 : 60 < 1 + b) : Thr (m_Value_take ([((t, ⟨a, b⟩) : Nd)].map Dn.nod)) ⟨"TooMany", [.int 60]⟩ := many1 h0 h h2
theorem deep1c {t : Nat} {a b : Int} (h0 : 0 ≤ a) (h : 20 < 1 + a) : Thr (m_Value_take ([((t, ⟨a, b⟩) : Nd)].map Dn.nod)) ⟨"TooDeep", [.int 20]⟩ := deep1 h0 h
theorem so_ok : Ok m_law_tests_so (· = true) := by
  unfold m_law_tests_so
  refine Ok.bndE (Ok.bndE (Ok.rng2 (a := 1) (n := 31) (by decide) (by decide)) (Ok.mapR (n := 30) (a := 1) (g := fun _ : Nat => ((7 : Nat), leaf)) fun k hk => Ok.bndE (Ok.noX (divides_ok (by omega) (by omega))) Ok.eq)) ?_
  refine Ok.bndE (Ok.bndE (Ok.noX (divides_ok (by decide) (by decide))) Ok.eq) ?_
  refine Ok.bndE (Ok.rng1 (n := 29) (by decide)) ?_
  have h0 : St tst ((List.range 30).map fun k : Nat => (fun _ : Nat => ((7 : Nat), leaf)) (1 + k)) (it 0) := ⟨rfl, fun x hx => by
    obtain ⟨k, _, rfl⟩ := List.mem_map.mp hx
    exact t7⟩
  refine Ok.bnd (J := fun s => St tst s (it 29)) (Ok.forW (fun k s => St tst s (it k)) h0 (fun k hk s hs => so1_ok hs (it_chk k (by simpa using hk))) fun s hs => by simpa using hs) fun s hs => ?_
  rw [it_29] at hs
  obtain ⟨t, ht, rfl⟩ : ∃ t, tst t ∧ s = [(t, (⟨6, 59⟩ : Value_))] := by
    match s, hs with
    | [], hs => cases hs.vs
    | [(t, v)], hs =>
      have e : v = ⟨6, 59⟩ := by have := hs.vs; simpa using this
      exact ⟨t, hs.ts _ List.mem_cons_self, by rw [e]⟩
    | _ :: _ :: _, hs => have := hs.vs; simp at this
  refine Ok.bndE (x := (t, (⟨6, 59⟩ : Value_))) (Ok.idxN (n := 0) rfl) (Ok.bndE (Ok.rng1 (n := 18) (by decide)) ?_)
  refine Ok.bnd (J := fun q : Nd => tst q.1 ∧ q.2 = ⟨19, 19⟩) (Ok.forW (fun (k : Nat) (q : Nd) => tst q.1 ∧ q.2 = ⟨(k : Int) + 1, (k : Int) + 1⟩) ⟨t7, rfl⟩ (fun k hk q hq => so2_ok (by simpa using hk) hq) fun q hq => by simpa using hq) fun q ⟨q1, q2⟩ => ?_
  obtain ⟨u, v⟩ := q
  have q2 : v = _ := q2
  subst q2
  have nm : Ok (m_Not_init (.nod (t, (⟨6, 59⟩ : Value_)))) (· = ⟨7, 60⟩) := not_ok ht (show (0 : Int) ≤ 6 by decide) ⟨show (1 : Int) + 6 ≤ 20 by decide, show (1 : Int) + 59 ≤ 60 by decide⟩
  have nt : Ok (m_Not_init (.nod (u, (⟨19, 19⟩ : Value_)))) (· = ⟨20, 20⟩) := not_ok q1 (show (0 : Int) ≤ 19 by decide) ⟨show (1 : Int) + 19 ≤ 20 by decide, show (1 : Int) + 19 ≤ 60 by decide⟩
  have dv : Ok (m_Divides_init 2) (· = leaf) := divides_ok (by decide) (by decide)
  refine Ok.bndE (x := false) (Ok.bndE (Ok.noX nm) (Ok.bndE (Ok.noX nt) (Ok.bndE (x := true) (Ok.noX (Ok.same (m := 4 * (2000 + 2) + 2) (Shw.list (m := 2000) (n := 4) (fun d hd => ?_) (by simp)) (by decide) rfl)) Ok.eq))) ?_
  · simp only [List.map_cons, List.map_nil, List.mem_cons, List.not_mem_nil, or_false] at hd
    rcases hd with rfl | rfl | rfl | rfl <;> exact shwI (by decide)
  rw [if_neg (by decide)]
  refine Ok.bndE (x := ()) Ok.eq (Ok.bndE (x := ()) Ok.eq ?_)
  refine Ok.bndE (x := true) ?_ Ok.eq
  have i0 : ∀ a b : Int, 0 ≤ a → (0 : Int) ≤ (⟨a, b⟩ : Value_).depth := fun a b h => h
  refine Ok.bndE (Ok.noX (all6
    (gotM (Thr.bnd (Thr.after dv (Thr.bnd (and_thr ht t7 (many2c (by decide) (by decide) (by decide)))))))
    (gotM (Thr.bnd (Thr.after dv (Thr.after nm (Thr.bnd (or_thr t7 t8 (many2c (by decide) (by decide) (by decide))))))))
    (gotM (Thr.bnd (Thr.after nm (Thr.bnd (not_thr t8 (many1c (by decide) (by decide) (by decide)))))))
    (gotD (Thr.bnd (Thr.after nt (Thr.bnd (not_thr t8 (deep1c (by decide) (by decide)))))))
    (gotD (Thr.bnd (Thr.after dv (Thr.after nt (Thr.bnd (and_thr t7 t8 (deep2c (by decide) (by decide))))))))
    (gotD (Thr.bnd (Thr.after nt (Thr.after dv (Thr.bnd (or_thr t8 t7 (deep2c (by decide) (by decide)))))))))) ?_
  refine Ok.bndE (rep3 _) (Ok.bndE (rep3 _) (Ok.bndE (Ok.chk (by decide) Ok.eq) (Ok.noX (same_got (by simp) fun r hr => ?_))))
  simp only [List.cons_append, List.nil_append, List.mem_cons, List.not_mem_nil, or_false] at hr
  rcases hr with h | h | h | h | h | h <;> simp [h]
theorem l2_ok {s : Nd} {x : Int} {k : Nat} (hk : k < 18) (h : tst s.1 ∧ s.2.depth = (k : Int) + 1 ∧ 1 ≤ s.2.size ∧ s.2.size ≤ 1 + 2 * (k : Int)) : Ok (m_law_l2 s x) (fun s' => tst s'.1 ∧ s'.2.depth = ((k + 1 : Nat) : Int) + 1 ∧ 1 ≤ s'.2.size ∧ s'.2.size ≤ 1 + 2 * ((k + 1 : Nat) : Int)) := by
  obtain ⟨h1, h2, h3, h4⟩ := h
  have dv : Ok (m_Divides_init 3) (· = leaf) := divides_ok (by decide) (by decide)
  unfold m_law_l2
  refine Ok.bnd (Ok.noX (Ok.draw (by decide) (by decide +kernel))) fun r _ => ?_
  refine Ok.bnd (J := fun s' : Nd => tst s'.1 ∧ s'.2.depth = ((k + 1 : Nat) : Int) + 1 ∧ 1 ≤ s'.2.size ∧ s'.2.size ≤ 1 + 2 * ((k + 1 : Nat) : Int)) ?_ fun s' hs => Ok.ret hs
  refine Ok.bndE (x := decide (r = 0)) Ok.eq ?_
  cases decide (r = 0) with
  | true =>
    rw [if_pos rfl]
    refine Ok.bndE (Ok.noX (not_ok h1 (by omega) ⟨show 1 + s.2.depth ≤ 20 by omega, show 1 + s.2.size ≤ 60 by omega⟩)) (Ok.ret ⟨t8, ?_, ?_, ?_⟩)
    · show 1 + s.2.depth = _
      omega
    · show 1 ≤ 1 + s.2.size
      omega
    · show 1 + s.2.size ≤ _
      omega
  | false =>
    rw [if_neg (by decide)]
    refine Ok.bndE (x := decide (r = 1)) Ok.eq ?_
    cases decide (r = 1) with
    | true =>
      rw [if_pos rfl]
      have e : max s.2.depth leaf.depth = s.2.depth := Int.max_eq_left (show (1 : Int) ≤ _ by omega)
      refine Ok.bndE (Ok.noX dv) (Ok.bndE (Ok.noX (and_ok (y := (7, leaf)) h1 t7 (by omega) ⟨show 1 + max s.2.depth leaf.depth ≤ 20 by rw [e]; omega, show 1 + (s.2.size + 1) ≤ 60 by omega⟩)) (Ok.ret ⟨t9, ?_, ?_, ?_⟩))
      · show 1 + max s.2.depth leaf.depth = _
        rw [e]
        omega
      · show 1 ≤ 1 + (s.2.size + 1)
        omega
      · show 1 + (s.2.size + 1) ≤ _
        omega
    | false =>
      rw [if_neg (by decide)]
      have e : max leaf.depth s.2.depth = s.2.depth := Int.max_eq_right (show (1 : Int) ≤ _ by omega)
      refine Ok.bndE (Ok.noX dv) (Ok.bndE (Ok.noX (or_ok (x := (7, leaf)) t7 h1 (show (0 : Int) ≤ 1 by decide) ⟨show 1 + max leaf.depth s.2.depth ≤ 20 by rw [e]; omega, show 1 + (1 + s.2.size) ≤ 60 by omega⟩)) (Ok.ret ⟨t10, ?_, ?_, ?_⟩))
      · show 1 + max leaf.depth s.2.depth = _
        rw [e]
        omega
      · show 1 ≤ 1 + (1 + s.2.size)
        omega
      · show 1 + (1 + s.2.size) ≤ _
        omega
theorem l4_ok {s : Nd} {x : Int} {k : Nat} {fl : List Nd} (hf : ∀ y ∈ fl, y = ((0 : Nat), leaf)) (h0 : 0 < fl.length) (hl : fl.length < 2 ^ 64) (hk : k < 19) (h : s.1 < 11 ∧ s.2 = ⟨(k : Int) + 1, 2 * (k : Int) + 1⟩) : Ok (m_law_l4 fl s x) (fun s' => s'.1 < 11 ∧ s'.2 = ⟨((k + 1 : Nat) : Int) + 1, 2 * ((k + 1 : Nat) : Int) + 1⟩) := by
  obtain ⟨t, v⟩ := s
  obtain ⟨h1, h2⟩ := h
  have h2 : v = _ := h2
  subst h2
  unfold m_law_l4
  have e : max ((k : Int) + 1) leaf.depth = (k : Int) + 1 := Int.max_eq_left (show (1 : Int) ≤ _ by omega)
  refine Ok.bnd (J := fun s' : Nd => s'.1 < 11 ∧ s'.2 = ⟨((k + 1 : Nat) : Int) + 1, 2 * ((k + 1 : Nat) : Int) + 1⟩) (Ok.bndE (x := ((0 : Nat), leaf)) (Ok.noX (Ok.any h0 hl hf)) (Ok.bndE (Ok.noX (pair_ok h1 (show (0 : Nat) < 11 by decide) (show (0 : Int) ≤ (k : Int) + 1 by omega) ⟨show 1 + max ((k : Int) + 1) leaf.depth ≤ 20 by rw [e]; omega, show 1 + ((2 * (k : Int) + 1) + 1) ≤ 60 by omega⟩)) (Ok.ret ⟨show (2 : Nat) < 11 by decide, ?_⟩))) fun s' hs => Ok.ret hs
  show (⟨1 + max ((k : Int) + 1) leaf.depth, 1 + ((2 * (k : Int) + 1) + 1)⟩ : Value_) = _
  rw [e]
  congr 1 <;> omega
def lt11 (t : Nat) : Prop := t < 11
theorem up2_comm (a b : Value_) : up2 a b = up2 b a := by
  unfold up2
  rw [Int.max_comm, Int.add_comm a.size]
def tot (s : List Nd) : Int := (s.map fun x => x.2.size).sum
structure P2 (s : List Nd) (n : Nat) (D S : Int) : Prop where
  len : s.length = n
  sum : tot s = S
  all : ∀ x ∈ s, x.1 < 11 ∧ 1 ≤ x.2.depth ∧ x.2.depth ≤ D ∧ 1 ≤ x.2.size
theorem tot_erase : ∀ (s : List Nd) (n : Nat) (h : n < s.length), tot (s.eraseIdx n) + s[n].2.size = tot s
  | x :: s, 0, h => by
    show tot s + x.2.size = x.2.size + tot s
    omega
  | x :: s, n + 1, h => by
    have := tot_erase s n (by simpa using h)
    show x.2.size + tot (s.eraseIdx n) + (s[n]'(by simpa using h)).2.size = x.2.size + tot s
    omega
theorem tot_pos : ∀ {s : List Nd}, (∀ x ∈ s, 1 ≤ x.2.size) → 0 ≤ tot s
  | [], _ => Int.le_refl 0
  | x :: s, h => by
    have h1 := h x List.mem_cons_self
    have h2 := tot_pos fun y hy => h y (List.mem_cons_of_mem x hy)
    show 0 ≤ x.2.size + tot s
    omega
theorem tot_app (r : List Nd) (x : Nd) : tot (r ++ [x]) = tot r + x.2.size := by
  unfold tot
  rw [List.map_append, List.sum_append]
  simp
/-- the two that are taken, and the new one behind -/
theorem join_ok {y z : Nd} {zs : List Nd} {D S : Int} {n : Nat} (hy : y.1 < 11 ∧ 1 ≤ y.2.depth ∧ y.2.depth ≤ D ∧ 1 ≤ y.2.size) (hz : z.1 < 11 ∧ 1 ≤ z.2.depth ∧ z.2.depth ≤ D ∧ 1 ≤ z.2.size) (hs : ∀ x ∈ zs, x.1 < 11 ∧ 1 ≤ x.2.depth ∧ x.2.depth ≤ D ∧ 1 ≤ x.2.size) (hl : zs.length = n) (hn : n ≤ 100) (hS : tot zs + z.2.size + y.2.size = S) (hD : D + 1 ≤ 20) (hS2 : S + 1 ≤ 60) :
    Ok (bnd (bnd (bnd (noX (drawW ((2 : Int)))) fun r71 => ret (decide (r71 = (0 : Int)))) fun c => if c = true then bnd (noX (m_Pair_init ((Dn.nod y : (Dn (Nat × Value_)))) ((Dn.nod z : (Dn (Nat × Value_)))))) fun r72 => ret (((2 : Nat), r72)) else bnd (noX (m_Pair_init ((Dn.nod z : (Dn (Nat × Value_)))) ((Dn.nod y : (Dn (Nat × Value_)))))) fun r73 => ret (((3 : Nat), r73))) fun y75 => chk (zs.length < sizeLine) (ret ((zs ++ [y75]))))
      (fun s => P2 s (n + 1) (D + 1) (S + 1) ∧ s.map (·.2) = zs.map (·.2) ++ [up2 y.2 z.2] ∧ ∀ x ∈ s, lt11 x.1) := by
  have hp := tot_pos fun x hx => (hs x hx).2.2.2
  have m1 : max y.2.depth z.2.depth ≤ D := Int.max_le.mpr ⟨hy.2.2.1, hz.2.2.1⟩
  have m2 : 1 ≤ max y.2.depth z.2.depth := Int.le_trans hy.2.1 (Int.le_max_left _ _)
  have f : fit (up2 y.2 z.2) := ⟨show 1 + max y.2.depth z.2.depth ≤ 20 by omega, show 1 + (y.2.size + z.2.size) ≤ 60 by omega⟩
  refine Ok.bnd (J := fun p : Nd => p.1 < 11 ∧ p.2 = up2 y.2 z.2) (Ok.bnd (J := fun _ => True) (Ok.bnd (Ok.noX (Ok.draw (by decide) (by decide +kernel))) fun r _ => Ok.ret trivial) fun c _ => ?_) fun p ⟨p1, p2⟩ => Ok.chk (small_line (by omega)) (Ok.ret ⟨⟨?_, ?_, fun x hx => ?_⟩, ?_, fun x hx => ?_⟩)
  · cases c with
    | true =>
      rw [if_pos rfl]
      exact Ok.bndE (Ok.noX (pair_ok hy.1 hz.1 (by omega) f)) (Ok.ret ⟨show (2 : Nat) < 11 by decide, rfl⟩)
    | false =>
      rw [if_neg (by decide)]
      rw [up2_comm] at f
      exact Ok.bndE (Ok.noX (pair_ok hz.1 hy.1 (by omega) f)) (Ok.ret ⟨show (3 : Nat) < 11 by decide, up2_comm _ _⟩)
  · rw [List.length_append, hl]
    rfl
  · rw [tot_app, p2]
    show tot zs + (1 + (y.2.size + z.2.size)) = _
    omega
  · rcases List.mem_append.mp hx with h | h
    · have := hs x h
      exact ⟨this.1, this.2.1, by omega, this.2.2.2⟩
    · rw [List.mem_singleton.mp h, p2]
      exact ⟨p1, show 1 ≤ 1 + max y.2.depth z.2.depth by omega, show 1 + max y.2.depth z.2.depth ≤ D + 1 by omega, show 1 ≤ 1 + (y.2.size + z.2.size) by omega⟩
  · rw [List.map_append]
    show _ ++ [p.2] = _
    rw [p2]
  · rcases List.mem_append.mp hx with h | h
    · exact (hs x h).1
    · rw [List.mem_singleton.mp h]
      exact p1
end K26
set_option exponentiation.threshold 10000
namespace K26
open Mi
open PySem L2 Evl
theorem st_p2 {s : List Nd} {k : Nat} {D : Int} (h : St lt11 s (it k)) (hk : k < 30) (hD : (it k).all (fun v => decide (1 ≤ v.depth ∧ v.depth ≤ D ∧ 1 ≤ v.size)) = true) (hS : ((it k).map (·.size)).sum = 30 + (k : Int)) : P2 s (30 - k) D (30 + (k : Int)) := by
  refine ⟨?_, ?_, fun x hx => ?_⟩
  · have := congrArg List.length h.vs
    rw [List.length_map, it_len k hk] at this
    exact this
  · rw [← hS, ← h.vs, List.map_map]
    rfl
  · have hm : x.2 ∈ it k := by
      rw [← h.vs]
      exact List.mem_map_of_mem hx
    have := of_decide_eq_true (List.all_eq_true.mp hD _ hm)
    exact ⟨h.ts x hx, this⟩
/-- what the depths are, while the first two are taken -/
theorem it_all : ∀ k, k < 24 → (it k).all (fun v => decide (1 ≤ v.depth ∧ v.depth ≤ 6 ∧ 1 ≤ v.size)) = true := by decide +kernel
theorem it_sum : ∀ k, k < 24 → ((it k).map (·.size)).sum = 30 + (k : Int) := by decide +kernel
def Inv3 (k : Nat) (s : List Nd) : Prop := (k ≤ 23 ∧ St lt11 s (it k)) ∨ (23 ≤ k ∧ P2 s (30 - k) (6 + ((k : Int) - 23)) (30 + (k : Int)))
theorem Inv3.p2 {k : Nat} {s : List Nd} (h : Inv3 k s) : ∃ D, P2 s (30 - k) D (30 + (k : Int)) ∧ D ≤ 6 + (if 23 ≤ k then (k : Int) - 23 else 0) := by
  rcases h with ⟨h1, h2⟩ | ⟨h1, h2⟩
  · refine ⟨6, st_p2 h2 (by omega) (it_all k (by omega)) (it_sum k (by omega)), ?_⟩
    split <;> omega
  · exact ⟨_, h2, by rw [if_pos h1]; exact Int.le_refl _⟩
theorem l3_ok {s : List Nd} {x : Int} {k : Nat} (hk : k < 29) (h : Inv3 k s) : Ok (m_law_l3 s x) (Inv3 (k + 1)) := by
  obtain ⟨D, hp, hDb⟩ := h.p2
  have hD : D + 1 ≤ 20 := by split at hDb <;> omega
  have hl := hp.len
  unfold m_law_l3
  refine Ok.bnd (J := fun i : Int => ∃ n : Nat, i = (n : Int) ∧ n < s.length ∧ (k < 23 → n = 0)) (Ok.bndE (x := decide ((s.length : Int) < 8)) Ok.eq ?_) fun i ⟨n, ei, hn, hn0⟩ => ?_
  · by_cases q : (s.length : Int) < 8
    · rw [if_pos (decide_eq_true q)]
      refine (Ok.noX (Ok.draw (by omega) (Nat.lt_trans (log2_lt (m := 64) (by omega) (by decide)) (by decide)))).mono fun r ⟨r0, r1⟩ => ?_
      exact ⟨r.toNat, by omega, by omega, fun z => by omega⟩
    · rw [if_neg (by rw [decide_eq_false q]; decide)]
      exact Ok.ret ⟨0, rfl, by omega, fun _ => rfl⟩
  subst ei
  refine Ok.bndP (J := (· = (s[n], s.eraseIdx n))) (Ok.bndE (x := (n : Int)) Ok.eq (pop_ok hn (big62 (by omega)))) fun y ys ep => ?_
  cases ep
  have yl : (s.eraseIdx n).length = s.length - 1 := List.length_eraseIdx_of_lt hn
  have h0 : 0 < (s.eraseIdx n).length := by omega
  refine Ok.bndP (J := (· = ((s.eraseIdx n)[0], (s.eraseIdx n).eraseIdx 0))) (Ok.bndE (x := 0) Ok.eq (pop_ok (n := 0) h0 (big62 (by omega)))) fun z zs ep => ?_
  cases ep
  have zl : ((s.eraseIdx n).eraseIdx 0).length = s.length - 2 := by rw [List.length_eraseIdx_of_lt h0, yl]; omega
  have e1 := tot_erase s n hn
  have e2 := tot_erase (s.eraseIdx n) 0 h0
  have hsum := hp.sum
  refine (join_ok (D := D) (S := 30 + (k : Int)) (n := s.length - 2) (hp.all _ (List.getElem_mem hn)) (hp.all _ (List.mem_of_mem_eraseIdx (List.getElem_mem h0))) (fun x hx => hp.all x (List.mem_of_mem_eraseIdx (List.mem_of_mem_eraseIdx hx))) zl (by omega) (by omega) hD (by omega)).mono fun s' ⟨g1, g2, g3⟩ => ?_
  by_cases q : k < 23
  · left
    refine ⟨by omega, ?_, g3⟩
    rw [g2]
    have hst : St lt11 s (it k) := by
      rcases h with ⟨_, h⟩ | ⟨h, _⟩
      · exact h
      · omega
    obtain ⟨a, b, r, e, _, _, _, _, _, _, _, hnx⟩ := hst.two (it_chk k hk)
    show _ = nx (it k)
    have := hn0 q
    subst this
    subst e
    rw [hnx]
    rfl
  · right
    refine ⟨by omega, ?_⟩
    have hl2 : s.length - 2 + 1 = 30 - (k + 1) := by omega
    rw [hl2] at g1
    refine ⟨g1.len, by rw [g1.sum]; omega, fun x hx => ?_⟩
    have := g1.all x hx
    rw [if_pos (by omega)] at hDb
    exact ⟨this.1, this.2.1, by have := this.2.2.1; omega, this.2.2.2⟩
theorem field_val : Ok (fieldW ftb ⟨"InvalidValue", [.none]⟩) (· = .none) := by
  unfold fieldW
  iterate 5
    refine Ok.bndE (x := false) (Ok.ret (by decide +kernel)) ?_
    rw [if_neg (by decide)]
  refine Ok.bndE (x := .none) ?_ Ok.eq
  unfold excF
  rw [fVal]
  exact Ok.chk rfl (Ok.ret rfl)
theorem sV : PyData.strOk ("InvalidValue" : Str) = true ∧ ("InvalidValue" : Str).length ≤ 20 := ⟨by decide +kernel, by decide +kernel⟩
theorem nx_ : nameB (.str ("x" : Str)) = true ∧ ("x" : Str).length ≤ sizeLine := ⟨by decide +kernel, by decide +kernel⟩
theorem ny_ : nameB (.str ("y" : Str)) = true ∧ ("y" : Str).length ≤ sizeLine := ⟨by decide +kernel, by decide +kernel⟩
theorem l1_ok (x : Int) : Ok (m_law_l1 () x) (· = .nx ()) := by
  have num1 : Ok (m_Number_init 1) (· = leaf) := number_ok (by decide) (by decide)
  unfold m_law_l1
  refine Ok.bnd (J := fun q : Nd => tst q.1 ∧ q.2 = leaf) (Ok.bndE (Ok.noX (divides_ok (by decide) (by decide))) (Ok.bndE (Ok.noX form_nil) (Ok.bndE (Ok.noX round_ok) (Ok.noX (Ok.any (by simp) (by simp) fun q hq => ?_))))) fun m0 ⟨m1, m2⟩ => ?_
  · simp only [List.mem_cons, List.not_mem_nil, or_false] at hq
    rcases hq with rfl | rfl
    · exact ⟨t7, rfl⟩
    · exact ⟨t6, rfl⟩
  refine Ok.bndE (Ok.rng1 (n := 18) (by decide)) ?_
  refine Ok.bnd (J := fun q : Nd => tst q.1 ∧ q.2.depth = 19 ∧ 1 ≤ q.2.size ∧ q.2.size ≤ 37) (Ok.forW (fun (k : Nat) (q : Nd) => tst q.1 ∧ q.2.depth = (k : Int) + 1 ∧ 1 ≤ q.2.size ∧ q.2.size ≤ 1 + 2 * (k : Int)) ⟨m1, by rw [m2]; rfl, by rw [m2]; decide, by rw [m2]; decide⟩ (fun k hk q hq => l2_ok (by simpa using hk) hq) fun q hq => by simpa using hq) fun s ⟨s1, s2, s3, s4⟩ => ?_
  refine Ok.bndE (x := false) ?_ ?_
  · refine Ok.bndE (x := false) (Ok.ret (by rw [s2]; rfl)) ?_
    rw [if_neg (by decide)]
    refine Ok.bndE (x := false) (Ok.ret (by rw [fkV s1.2]; rfl)) ?_
    rw [if_neg (by decide)]
    exact Ok.ret (by rw [fkT s1]; rfl)
  rw [if_neg (by decide)]
  have e19 : max leaf.depth s.2.depth = 19 := by rw [s2]; decide
  refine Ok.bnd (J := fun q : Nd => q.1 < 11 ∧ q.2.depth = 20) (Ok.bndE (Ok.noX (not_ok s1 (by omega) ⟨show 1 + s.2.depth ≤ 20 by omega, show 1 + s.2.size ≤ 60 by omega⟩)) (Ok.bndE (Ok.noX (total_ok nx_.1 nx_.2 s1.2 (by omega) ⟨show 1 + s.2.depth ≤ 20 by omega, show 1 + s.2.size ≤ 60 by omega⟩)) (Ok.bndE (Ok.noX num1) (Ok.bndE (Ok.noX (pair_ok (x := ((0 : Nat), leaf)) (show (0 : Nat) < 11 by decide) s1.2 (show (0 : Int) ≤ 1 by decide) ⟨show 1 + max leaf.depth s.2.depth ≤ 20 by omega, show 1 + (1 + s.2.size) ≤ 60 by omega⟩)) (Ok.noX (Ok.any (by simp) (by simp) fun q hq => ?_)))))) fun tl ⟨l1, l2⟩ => ?_
  · simp only [List.mem_cons, List.not_mem_nil, or_false] at hq
    rcases hq with rfl | rfl | rfl
    · exact ⟨by show (8 : Nat) < 11; decide, by show 1 + s.2.depth = 20; omega⟩
    · exact ⟨by show (5 : Nat) < 11; decide, by show 1 + s.2.depth = 20; omega⟩
    · exact ⟨by show (2 : Nat) < 11; decide, by show 1 + max leaf.depth s.2.depth = 20; omega⟩
  refine Ok.bndE (x := ()) Ok.eq ?_
  refine Ok.bndE (x := false) ?_ ?_
  · refine Ok.bndE (x := false) (Ok.ret (by rw [l2]; rfl)) ?_
    rw [if_neg (by decide)]
    refine Ok.bndE (Ok.noX (all3
      (gotD (Thr.bnd (Thr.bnd (total_thr nx_.1 nx_.2 l1 (deep1 (by omega) (show 20 < 1 + tl.2.depth by omega))))))
      (gotD (Thr.bnd (Thr.after num1 (Thr.bnd (pair_thr (y := ((0 : Nat), leaf)) l1 (show (0 : Nat) < 11 by decide) (deep2 (by omega) (show 20 < 1 + max tl.2.depth leaf.depth by have := Int.le_max_left tl.2.depth leaf.depth; omega)))))))
      (gotD (Thr.bnd (Thr.after value0_ok (Thr.bnd (pair_thr (x := ((1 : Nat), leaf)) (show (1 : Nat) < 11 by decide) l1 (deep2 (show (0 : Int) ≤ 1 by decide) (show 20 < 1 + max leaf.depth tl.2.depth by have := Int.le_max_right leaf.depth tl.2.depth; omega))))))))) ?_
    refine Ok.bndE (rep3 _) (Ok.bndE (x := true) (Ok.noX (same_got (by simp) fun r hr => ?_)) Ok.eq)
    simp only [List.mem_cons, List.not_mem_nil, or_false] at hr
    rcases hr with h | h | h <;> exact .inr h
  rw [if_neg (by decide)]
  refine Ok.bndE (x := false) (Ok.bndE (Ok.noX (gotT (Thr.bnd (Thr.bnd (none_thr l1))) field_val)) (Ok.bndE (x := true) (Ok.noX (Ok.same (m := 2 * (2000 + 2) + 4) (Shw.pair ((Shw.str sV.1 sV.2).mono (by decide)) (Shw.none.mono (by decide))) (by decide) rfl)) Ok.eq)) ?_
  rw [if_neg (by decide)]
  refine Ok.bndE (Ok.bndE (Ok.rng1 (n := 30) (by decide)) (Ok.mapR0 (n := 30) (g := fun _ : Nat => ((0 : Nat), leaf)) fun k hk => Ok.bndE (Ok.noX (number_ok (by omega) (by omega))) Ok.eq)) ?_
  refine Ok.bndE (Ok.rng1 (n := 29) (by decide)) ?_
  refine Ok.bnd (J := Inv3 29) (Ok.forW Inv3 (.inl ⟨by decide, rfl, fun x hx => by
    obtain ⟨k, _, rfl⟩ := List.mem_map.mp hx
    exact (show (0 : Nat) < 11 by decide)⟩) (fun k hk s hs => l3_ok (by simpa using hk) hs) fun s hs => by simpa using hs) fun ws hws => ?_
  obtain ⟨D, hp, hD⟩ := hws.p2
  rw [if_pos (by decide)] at hD
  obtain ⟨w, rfl⟩ : ∃ w, ws = [w] := List.length_eq_one_iff.mp hp.len
  have hw := hp.all w List.mem_cons_self
  have hsz : w.2.size = 59 := by
    have := hp.sum
    have e : tot [w] = w.2.size := by show w.2.size + 0 = _; omega
    omega
  obtain ⟨w1, w2, w3, _⟩ := hw
  have tot_full : Ok (m_Total_init ("y" : Str) (.nod w)) (· = up1 w.2) := total_ok ny_.1 ny_.2 w1 (by omega) ⟨show 1 + w.2.depth ≤ 20 by omega, show 1 + w.2.size ≤ 60 by omega⟩
  refine Ok.bndE (x := w) (Ok.idxN (n := 0) rfl) ?_
  refine Ok.bndE (x := false) ?_ ?_
  · refine Ok.bndE (x := false) (Ok.ret (by rw [hsz]; rfl)) ?_
    rw [if_neg (by decide)]
    refine Ok.bndE (Ok.noX tot_full) (Ok.ret ?_)
    show (!decide (1 + w.2.size = 60)) = false
    rw [hsz]
    rfl
  rw [if_neg (by decide)]
  refine Ok.bndE (x := ((5 : Nat), up1 w.2)) (Ok.bndE (Ok.noX tot_full) Ok.eq) ?_
  refine Ok.bndE (x := ()) Ok.eq ?_
  have f1 : (up1 w.2).depth = 1 + w.2.depth := rfl
  have f2 : (up1 w.2).size = 1 + w.2.size := rfl
  refine Ok.bndE (x := false) ?_ ?_
  · refine Ok.bndE (Ok.noX (all3
      (gotM (Thr.bnd (Thr.bnd (total_thr (x := ((5 : Nat), up1 w.2)) nx_.1 nx_.2 (show (5 : Nat) < 11 by decide) (many1 (show 0 ≤ (up1 w.2).depth by omega) (show 1 + (up1 w.2).depth ≤ 20 by omega) (show 60 < 1 + (up1 w.2).size by omega))))))
      (gotM (Thr.bnd (Thr.after num1 (Thr.bnd (pair_thr (y := ((0 : Nat), leaf)) w1 (show (0 : Nat) < 11 by decide) (many2 (by omega) (show 1 + max w.2.depth leaf.depth ≤ 20 by rw [Int.max_eq_left (show leaf.depth ≤ w.2.depth from w2)]; omega) (show 60 < 1 + (w.2.size + 1) by omega)))))))
      (gotM (Thr.bnd (Thr.after num1 (Thr.bnd (pair_thr (x := ((0 : Nat), leaf)) (y := ((5 : Nat), up1 w.2)) (show (0 : Nat) < 11 by decide) (show (5 : Nat) < 11 by decide) (many2 (show (0 : Int) ≤ 1 by decide) (show 1 + max leaf.depth (up1 w.2).depth ≤ 20 by rw [Int.max_eq_right (show leaf.depth ≤ (up1 w.2).depth from (show (1 : Int) ≤ (up1 w.2).depth by omega))]; omega) (show 60 < 1 + (1 + (up1 w.2).size) by omega))))))))) ?_
    refine Ok.bndE (rep3 _) (Ok.bndE (x := true) (Ok.noX (same_got (by simp) fun r hr => ?_)) Ok.eq)
    simp only [List.mem_cons, List.not_mem_nil, or_false] at hr
    rcases hr with h | h | h <;> exact .inl h
  rw [if_neg (by decide)]
  refine Ok.bndE (x := ((0 : Nat), leaf)) (Ok.bndE (Ok.noX (number_ok (by decide) (by decide))) Ok.eq) ?_
  refine Ok.bndE (Ok.bndE (Ok.rng1 (n := 3) (by decide)) (Ok.mapR0 (n := 3) (g := fun _ : Nat => ((0 : Nat), leaf)) fun k hk => Ok.bndE (Ok.noX (number_ok (by omega) (by omega))) Ok.eq)) ?_
  refine Ok.bndE (Ok.rng1 (n := 19) (by decide)) ?_
  refine Ok.bnd (J := fun q : Nd => q.1 < 11 ∧ q.2 = ⟨20, 39⟩) (Ok.forW (fun (k : Nat) (q : Nd) => q.1 < 11 ∧ q.2 = ⟨(k : Int) + 1, 2 * (k : Int) + 1⟩) ⟨show (0 : Nat) < 11 by decide, rfl⟩ (fun k hk q hq => l4_ok (fun y hy => by
    obtain ⟨j, _, rfl⟩ := List.mem_map.mp hy
    rfl) (by simp) (by simp) (by simpa using hk) hq) fun q hq => by simpa using hq) fun dp ⟨d1, d2⟩ => ?_
  refine Ok.bndE (x := false) ?_ ?_
  · refine Ok.bndE (x := false) (Ok.ret (by rw [d2]; rfl)) ?_
    rw [if_neg (by decide)]
    refine Ok.bndE (x := false) (Ok.ret (by rw [d2]; rfl)) ?_
    rw [if_neg (by decide)]
    exact Ok.bndE (Ok.noX (gotD (Thr.bnd (Thr.bnd (pair_thr (y := ((5 : Nat), up1 w.2)) d1 (show (5 : Nat) < 11 by decide) (deep2 (by rw [d2]; decide) (show 20 < 1 + max dp.2.depth (up1 w.2).depth by have := Int.le_max_left dp.2.depth (up1 w.2).depth; have e : dp.2.depth = 20 := congrArg Value_.depth d2; omega))))))) (Ok.bndE (x := true) (Ok.noX (Ok.same (m := 5000) shwD (by decide) rfl)) Ok.eq)
  · rw [if_neg (by decide)]
    exact Ok.eq
theorem law_ok (ns : List Int) : Ok (m_law ns) (· = true) := by
  unfold m_law
  refine Ok.bndE (Ok.rng1 (n := 3) (by decide)) ?_
  refine Ok.bnd (J := fun r => r = .nx ()) (Ok.forF (fun _ _ => True) (fun _ => False) trivial (fun k hk s _ => ?_) (fun s _ => rfl) fun z hz => hz.elim) fun r hr => ?_
  · exact (l1_ok _).mono fun r hr => by
      subst hr
      trivial
  · subst hr
    rw [flEnd_nx]
    refine Ok.bndE (x := false) (Ok.bndE (Ok.noX so_ok) Ok.eq) ?_
    rw [if_neg (by decide)]
    exact Ok.bndE (x := true) Ok.eq Ok.eq
theorem law_true (ns : List Int) : m_law ns (fun x => x = true) (fun _ => False) := (law_ok ns).run
end K26
section
open PySem PySem.W PyProof.Rows HeadRun
def K26.looseN : List PySem.Str := (["_wall", "__name__", "DialError", "Missing", "InvalidNumber", "InvalidName", "InvalidForm", "InvalidTest", "InvalidValue", "TooMany", "TooDeep", "UnknownName", "NothingLeft", "MOST_NAME", "SMALL", "WORDS", "is_whole", "is_number", "need_number", "is_name", "is_term", "Form", "gathered_terms", "joined", "MOST_NUMBER", "MOST_COEF", "MOST_CONSTANT", "MOST_TERMS", "MOST_DEPTH", "MOST_SIZE"] : List PySem.Str) ++ (["is_small", "Value", "Number", "Marks", "Pair", "Plus", "Minus", "Times", "Total", "MOST_DIVISOR", "Test", "need_tests", "Round", "Divides", "Not", "And", "Or", "_law_bag", "_law_draw", "_law_any", "_law_same", "_law_field", "_law_got", "_law_all_got", "_law_tests_so"] : List PySem.Str)
abbrev K26.RR : OpenRow := OpenLaw.row PySem.Challenge.rw_anydial_k26_bounds_of_values
abbrev K26.qv : Program := PySem.W.view K26.RR.prog [60]
local macro_rules | `(tactic| o_head ($f $K $a $e $ts)) => `(tactic| (assumption; exact ($K, $a, $ts)))
local macro_rules | `(tactic| o_head ($f $K $a $e)) => `(tactic| (assumption; exact ($K, $a, [])))
noncomputable def K26.KA : (Params → Frag) × List Addr × List Addr := by
  refine (fun (x : (Params → Frag) × List Addr × List Addr) (_ : OpenRow.Holds K26.RR → OpenRow.Holds K26.RR) => x) ?x (fun h9 => ?y)
  rotate_left
  k_head
theorem K26.run1 (w : World) (os : OsState) : (endF (stepQ (denQ tabQ) K26.RR.prog w) 40000 K26.RR.prog w os).map (fun x => looksF K26.RR.prog (boot_heap w.params) x.abs) = some true := by kernel_rfl
theorem K26.run2 (w : World) (os : OsState) : (endF (stepQ (denQ tabQ) K26.RR.prog w) 40000 K26.RR.prog w os).map (fun x => seenQ K26.qv K26.looseN (importedModules K26.RR.prog.main.body) (fun s => xlAt K26.qv [] s && recOk K26.RR.toRowW.records s) x.abs) = some (openGood K26.qv K26.looseN) := by kernel_rfl
theorem K26.run3 (w : World) (os : OsState) : (endF (stepQ (denQ tabQ) K26.RR.prog w) 40000 K26.RR.prog w os).map (fun x => K26.KA.2.1.map (getT x)) = some ((K26.KA.heap_1 w.params).map fun p => some p.2) := by kernel_rfl
theorem K26.run4 (w : World) (os : OsState) : (endF (stepQ (denQ tabQ) K26.RR.prog w) 40000 K26.RR.prog w os).map (fun x => K26.KA.2.2.map (getT x)) = some (K26.KA.2.2.map fun _ => some (tabObj #[])) := by kernel_rfl
theorem K26.run5 (P : Params) : K26.KA.2.1 = (K26.KA.heap_1 P).map (·.1) := by kernel_rfl
theorem K26.run6 : K26.RR.wellSaid = true := by decide +kernel
theorem K26.run7 : (chainsOk K26.qv && opensWell K26.RR.prog && (frees K26.RR.toRowW && K26.RR.within.isEmpty)) = true := by decide +kernel
end
namespace K26
open PySem L2 Evl Mi
abbrev spL (K : PySem.W.Frag) (Ts : List (Addr × Addr)) : Sp := spTs K (("_law_tests_so" : Str) ++ (".<locals>." : Str) ++ ("<lambda>" : Str)) (("law" : Str) ++ (".<locals>." : Str) ++ ("<lambda>" : Str)) m_law Ts
set_option maxHeartbeats 0 in
theorem all_mk {P : Program} {w : World} {K : PySem.W.Frag} {h : Heap} {mg : Str → Option Value} {fa f_is_whole f_is_number f_need_number f_is_name f_is_term f_gathered_terms f_Form_init f_Form_constant f_Form_terms f_is_small f_Value_take f_Value_init f_Number_init f_Pair_init f_Total_init f_need_tests f_Round_init f_Divides_init f_Not_init f_And_init f_Or_init f_law_bag f_law_draw f_law_any f_law_same f_law_field f_law_got f_law_all_got f_law_tests_so f_law c_And c_Divides c_Form c_Marks c_Minus c_Not c_Number c_Or c_Pair c_Plus c_Round c_Test c_Times c_Total c_Value p_Form_constant c_DialError c_InvalidForm c_InvalidName c_InvalidNumber c_InvalidTest c_InvalidValue c_Missing c_TooDeep c_TooMany fx_InvalidNumber cc_InvalidNumber kx_InvalidNumber fx_InvalidName cc_InvalidName kx_InvalidName fx_InvalidForm cc_InvalidForm kx_InvalidForm fx_InvalidTest cc_InvalidTest kx_InvalidTest fx_InvalidValue cc_InvalidValue kx_InvalidValue fx_TooMany cc_TooMany kx_TooMany fx_TooDeep cc_TooDeep kx_TooDeep cL Tb cM Tl cs_Number ks_Number cs_Pair ks_Pair cs_Total ks_Total cs_Round ks_Round cs_Divides ks_Divides cs_Not ks_Not cs_And ks_And cs_Or ks_Or dT_Form_init g_WORDS e_Form_init_0 : Addr} (X : K.In h) (G : h.Ns mainGlobals mg) (hfa : mg "law" = some (.ref fa))
    {od_is_whole an_is_whole od_is_number an_is_number od_need_number an_need_number od_is_name an_is_name od_is_term an_is_term od_gathered_terms an_gathered_terms od_Form_init an_Form_init od_Form_constant an_Form_constant od_Form_terms an_Form_terms od_is_small an_is_small od_Value_take an_Value_take od_Value_init an_Value_init od_Number_init an_Number_init od_Pair_init an_Pair_init od_Total_init an_Total_init od_need_tests an_need_tests od_Round_init an_Round_init od_Divides_init an_Divides_init od_Not_init an_Not_init od_And_init an_And_init od_Or_init an_Or_init od_law_bag an_law_bag od_law_draw an_law_draw od_law_any an_law_any od_law_same an_law_same od_law_field an_law_field od_law_got an_law_got od_law_all_got an_law_all_got od_law_tests_so an_law_tests_so od_law an_law : Option Addr} {sl_is_whole sl_is_number sl_need_number sl_is_name sl_is_term sl_gathered_terms sl_Form_init sl_Form_constant sl_Form_terms sl_is_small sl_Value_take sl_Value_init sl_Number_init sl_Pair_init sl_Total_init sl_need_tests sl_Round_init sl_Divides_init sl_Not_init sl_And_init sl_Or_init sl_law_bag sl_law_draw sl_law_any sl_law_same sl_law_field sl_law_got sl_law_all_got sl_law_tests_so sl_law : Array (Option Value)} {oc_is_whole kV_is_whole dc_is_whole pm_is_whole cd_is_whole ct_is_whole oc_is_number kV_is_number dc_is_number pm_is_number cd_is_number ct_is_number oc_need_number kV_need_number dc_need_number pm_need_number cd_need_number ct_need_number oc_is_name kV_is_name dc_is_name pm_is_name cd_is_name ct_is_name oc_is_term kV_is_term dc_is_term pm_is_term cd_is_term ct_is_term oc_gathered_terms kV_gathered_terms dc_gathered_terms pm_gathered_terms cd_gathered_terms ct_gathered_terms oc_Form_init kV_Form_init dc_Form_init pm_Form_init cd_Form_init ct_Form_init oc_Form_constant kV_Form_constant dc_Form_constant pm_Form_constant cd_Form_constant ct_Form_constant oc_Form_terms kV_Form_terms dc_Form_terms pm_Form_terms cd_Form_terms ct_Form_terms oc_is_small kV_is_small dc_is_small pm_is_small cd_is_small ct_is_small oc_Value_take kV_Value_take dc_Value_take pm_Value_take cd_Value_take ct_Value_take oc_Value_init kV_Value_init dc_Value_init pm_Value_init cd_Value_init ct_Value_init oc_Number_init kV_Number_init dc_Number_init pm_Number_init ct_Number_init oc_Pair_init kV_Pair_init dc_Pair_init pm_Pair_init ct_Pair_init oc_Total_init kV_Total_init dc_Total_init pm_Total_init ct_Total_init oc_need_tests kV_need_tests dc_need_tests pm_need_tests cd_need_tests ct_need_tests oc_Round_init kV_Round_init dc_Round_init pm_Round_init ct_Round_init oc_Divides_init kV_Divides_init dc_Divides_init pm_Divides_init ct_Divides_init oc_Not_init kV_Not_init dc_Not_init pm_Not_init ct_Not_init oc_And_init kV_And_init dc_And_init pm_And_init ct_And_init oc_Or_init kV_Or_init dc_Or_init pm_Or_init ct_Or_init oc_law_bag kV_law_bag dc_law_bag pm_law_bag cd_law_bag ct_law_bag oc_law_draw kV_law_draw dc_law_draw pm_law_draw cd_law_draw ct_law_draw oc_law_any kV_law_any dc_law_any pm_law_any cd_law_any ct_law_any oc_law_same kV_law_same dc_law_same pm_law_same cd_law_same ct_law_same oc_law_field kV_law_field dc_law_field pm_law_field cd_law_field ct_law_field oc_law_got kV_law_got dc_law_got pm_law_got cd_law_got ct_law_got oc_law_all_got kV_law_all_got dc_law_all_got pm_law_all_got cd_law_all_got ct_law_all_got oc_law_tests_so kV_law_tests_so dc_law_tests_so pm_law_tests_so cd_law_tests_so ct_law_tests_so oc_law kV_law dc_law pm_law cd_law ct_law : Value} {rs_Form_constant : List Value} {oc_xInvalidNumber od_xInvalidNumber kV_xInvalidNumber dc_xInvalidNumber pm_xInvalidNumber an_xInvalidNumber ct_xInvalidNumber sl_xInvalidNumber q1_InvalidNumber q2_InvalidNumber q3_InvalidNumber q4_InvalidNumber q5_InvalidNumber qv_InvalidNumber q6_InvalidNumber q7_InvalidNumber q8_InvalidNumber oc_xInvalidName od_xInvalidName kV_xInvalidName dc_xInvalidName pm_xInvalidName an_xInvalidName ct_xInvalidName sl_xInvalidName q1_InvalidName q2_InvalidName q3_InvalidName q4_InvalidName q5_InvalidName qv_InvalidName q6_InvalidName q7_InvalidName q8_InvalidName oc_xInvalidForm od_xInvalidForm kV_xInvalidForm dc_xInvalidForm pm_xInvalidForm an_xInvalidForm ct_xInvalidForm sl_xInvalidForm q1_InvalidForm q2_InvalidForm q3_InvalidForm q4_InvalidForm q5_InvalidForm qv_InvalidForm q6_InvalidForm q7_InvalidForm q8_InvalidForm oc_xInvalidTest od_xInvalidTest kV_xInvalidTest dc_xInvalidTest pm_xInvalidTest an_xInvalidTest ct_xInvalidTest sl_xInvalidTest q1_InvalidTest q2_InvalidTest q3_InvalidTest q4_InvalidTest q5_InvalidTest qv_InvalidTest q6_InvalidTest q7_InvalidTest q8_InvalidTest oc_xInvalidValue od_xInvalidValue kV_xInvalidValue dc_xInvalidValue pm_xInvalidValue an_xInvalidValue ct_xInvalidValue sl_xInvalidValue q1_InvalidValue q2_InvalidValue q3_InvalidValue q4_InvalidValue q5_InvalidValue qv_InvalidValue q6_InvalidValue q7_InvalidValue q8_InvalidValue oc_xTooMany od_xTooMany kV_xTooMany dc_xTooMany pm_xTooMany an_xTooMany ct_xTooMany sl_xTooMany q1_TooMany q2_TooMany q3_TooMany q4_TooMany q5_TooMany qv_TooMany q6_TooMany q7_TooMany q8_TooMany oc_xTooDeep od_xTooDeep kV_xTooDeep dc_xTooDeep pm_xTooDeep an_xTooDeep ct_xTooDeep sl_xTooDeep q1_TooDeep q2_TooDeep q3_TooDeep q4_TooDeep q5_TooDeep qv_TooDeep q6_TooDeep q7_TooDeep q8_TooDeep q1_Number_init q2_Number_init q3_Number_init q4_Number_init q5_Number_init qv_Number_init q6_Number_init q7_Number_init q8_Number_init q1_Pair_init q2_Pair_init q3_Pair_init q4_Pair_init q5_Pair_init qv_Pair_init q6_Pair_init q7_Pair_init q8_Pair_init q1_Total_init q2_Total_init q3_Total_init q4_Total_init q5_Total_init qv_Total_init q6_Total_init q7_Total_init q8_Total_init q1_Round_init q2_Round_init q3_Round_init q4_Round_init q5_Round_init qv_Round_init q6_Round_init q7_Round_init q8_Round_init q1_Divides_init q2_Divides_init q3_Divides_init q4_Divides_init q5_Divides_init qv_Divides_init q6_Divides_init q7_Divides_init q8_Divides_init q1_Not_init q2_Not_init q3_Not_init q4_Not_init q5_Not_init qv_Not_init q6_Not_init q7_Not_init q8_Not_init q1_And_init q2_And_init q3_And_init q4_And_init q5_And_init qv_And_init q6_And_init q7_And_init q8_And_init q1_Or_init q2_Or_init q3_Or_init q4_Or_init q5_Or_init qv_Or_init q6_Or_init q7_Or_init q8_Or_init} {ts : List Addr}
    {td_Form_init_1 tg_MOST_COEF tg_MOST_CONSTANT tg_MOST_DEPTH tg_MOST_DIVISOR tg_MOST_NAME tg_MOST_NUMBER tg_MOST_SIZE tg_MOST_TERMS tg_SMALL tg_WORDS_0 tg_WORDS_1 : Tok}
    {dd_Form_init : Option Addr} {dn_Form_init : Nat} {ds_Form_init : Array (Option Value)}
    {tq_g_WORDS tq_e_Form_init_0 : Option Addr} {tn_g_WORDS tn_e_Form_init_0 : Nat} {ts_g_WORDS ts_e_Form_init_0 : Array (Option Value)}
    (a_And : PySem.W.nsIn K mainGlobals "And" = some (some (.ref c_And)))
    (a_Divides : PySem.W.nsIn K mainGlobals "Divides" = some (some (.ref c_Divides)))
    (a_Form : PySem.W.nsIn K mainGlobals "Form" = some (some (.ref c_Form)))
    (a_Marks : PySem.W.nsIn K mainGlobals "Marks" = some (some (.ref c_Marks)))
    (a_Minus : PySem.W.nsIn K mainGlobals "Minus" = some (some (.ref c_Minus)))
    (a_Not : PySem.W.nsIn K mainGlobals "Not" = some (some (.ref c_Not)))
    (a_Number : PySem.W.nsIn K mainGlobals "Number" = some (some (.ref c_Number)))
    (a_Or : PySem.W.nsIn K mainGlobals "Or" = some (some (.ref c_Or)))
    (a_Pair : PySem.W.nsIn K mainGlobals "Pair" = some (some (.ref c_Pair)))
    (a_Plus : PySem.W.nsIn K mainGlobals "Plus" = some (some (.ref c_Plus)))
    (a_Round : PySem.W.nsIn K mainGlobals "Round" = some (some (.ref c_Round)))
    (a_Test : PySem.W.nsIn K mainGlobals "Test" = some (some (.ref c_Test)))
    (a_Times : PySem.W.nsIn K mainGlobals "Times" = some (some (.ref c_Times)))
    (a_Total : PySem.W.nsIn K mainGlobals "Total" = some (some (.ref c_Total)))
    (a_Value : PySem.W.nsIn K mainGlobals "Value" = some (some (.ref c_Value)))
    (a_is_whole : PySem.W.nsIn K mainGlobals "is_whole" = some (some (.ref f_is_whole)))
    (l_is_whole : K.lookup f_is_whole = some ⟨oc_is_whole, od_is_whole, .func (PySem.W.fnOf "is_whole" "is_whole" (defArgs s_is_whole) (defBody s_is_whole) (defScope s_is_whole) .none kV_is_whole dc_is_whole pm_is_whole an_is_whole cd_is_whole ct_is_whole), sl_is_whole⟩)
    (c_is_whole : PySem.W.codeIn K cd_is_whole "is_whole" = true)
    (k_is_whole : PySem.W.keepIn K (.ref f_is_whole) = true)
    (a_is_number : PySem.W.nsIn K mainGlobals "is_number" = some (some (.ref f_is_number)))
    (l_is_number : K.lookup f_is_number = some ⟨oc_is_number, od_is_number, .func (PySem.W.fnOf "is_number" "is_number" (defArgs s_is_number) (defBody s_is_number) (defScope s_is_number) .none kV_is_number dc_is_number pm_is_number an_is_number cd_is_number ct_is_number), sl_is_number⟩)
    (c_is_number : PySem.W.codeIn K cd_is_number "is_number" = true)
    (k_is_number : PySem.W.keepIn K (.ref f_is_number) = true)
    (a_need_number : PySem.W.nsIn K mainGlobals "need_number" = some (some (.ref f_need_number)))
    (l_need_number : K.lookup f_need_number = some ⟨oc_need_number, od_need_number, .func (PySem.W.fnOf "need_number" "need_number" (defArgs s_need_number) (defBody s_need_number) (defScope s_need_number) .none kV_need_number dc_need_number pm_need_number an_need_number cd_need_number ct_need_number), sl_need_number⟩)
    (c_need_number : PySem.W.codeIn K cd_need_number "need_number" = true)
    (k_need_number : PySem.W.keepIn K (.ref f_need_number) = true)
    (a_is_name : PySem.W.nsIn K mainGlobals "is_name" = some (some (.ref f_is_name)))
    (l_is_name : K.lookup f_is_name = some ⟨oc_is_name, od_is_name, .func (PySem.W.fnOf "is_name" "is_name" (defArgs s_is_name) (defBody s_is_name) (defScope s_is_name) .none kV_is_name dc_is_name pm_is_name an_is_name cd_is_name ct_is_name), sl_is_name⟩)
    (c_is_name : PySem.W.codeIn K cd_is_name "is_name" = true)
    (k_is_name : PySem.W.keepIn K (.ref f_is_name) = true)
    (a_is_term : PySem.W.nsIn K mainGlobals "is_term" = some (some (.ref f_is_term)))
    (l_is_term : K.lookup f_is_term = some ⟨oc_is_term, od_is_term, .func (PySem.W.fnOf "is_term" "is_term" (defArgs s_is_term) (defBody s_is_term) (defScope s_is_term) .none kV_is_term dc_is_term pm_is_term an_is_term cd_is_term ct_is_term), sl_is_term⟩)
    (c_is_term : PySem.W.codeIn K cd_is_term "is_term" = true)
    (k_is_term : PySem.W.keepIn K (.ref f_is_term) = true)
    (a_gathered_terms : PySem.W.nsIn K mainGlobals "gathered_terms" = some (some (.ref f_gathered_terms)))
    (l_gathered_terms : K.lookup f_gathered_terms = some ⟨oc_gathered_terms, od_gathered_terms, .func (PySem.W.fnOf "gathered_terms" "gathered_terms" (defArgs s_gathered_terms) (defBody s_gathered_terms) (defScope s_gathered_terms) .none kV_gathered_terms dc_gathered_terms pm_gathered_terms an_gathered_terms cd_gathered_terms ct_gathered_terms), sl_gathered_terms⟩)
    (c_gathered_terms : PySem.W.codeIn K cd_gathered_terms "gathered_terms" = true)
    (k_gathered_terms : PySem.W.keepIn K (.ref f_gathered_terms) = true)
    (a_Form_init : PySem.W.findIn K (.ref c_Form) "__init__" = some (some (.ref f_Form_init)))
    (i_Form_init : PySem.W.isFn K (.ref f_Form_init) = true)
    (l_Form_init : K.lookup f_Form_init = some ⟨oc_Form_init, od_Form_init, .func (PySem.W.fnOf "__init__" "Form.__init__" (defArgs s_Form_init) (defBody s_Form_init) (defScope s_Form_init) (.ref dT_Form_init) kV_Form_init dc_Form_init pm_Form_init an_Form_init cd_Form_init ct_Form_init), sl_Form_init⟩)
    (c_Form_init : PySem.W.codeIn K cd_Form_init "Form.__init__" = true)
    (k_Form_init : PySem.W.keepIn K (.ref f_Form_init) = true)
    (ld_Form_init : K.lookup dT_Form_init = some ⟨.type "tuple", dd_Form_init, .seq #[.ref e_Form_init_0, .int 0 td_Form_init_1] dn_Form_init, ds_Form_init⟩)
    (pa_Form_constant : PySem.W.findIn K (.ref c_Form) "constant" = some (some (.ref p_Form_constant)))
    (pg_Form_constant : PySem.W.specialIn K (.ref p_Form_constant) "__get__" = some (some (.builtin "property.__get__")))
    (pt_Form_constant : PySem.W.takesIn K (.ref p_Form_constant) = some true)
    (pr_Form_constant : PySem.W.recIn K p_Form_constant "property" = some (.ref f_Form_constant :: rs_Form_constant))
    (l_Form_constant : K.lookup f_Form_constant = some ⟨oc_Form_constant, od_Form_constant, .func (PySem.W.fnOf "constant" "Form.constant" (defArgs s_Form_constant) (defBody s_Form_constant) (defScope s_Form_constant) .none kV_Form_constant dc_Form_constant pm_Form_constant an_Form_constant cd_Form_constant ct_Form_constant), sl_Form_constant⟩)
    (c_Form_constant : PySem.W.codeIn K cd_Form_constant "Form.constant" = true)
    (k_Form_constant : PySem.W.keepIn K (.ref f_Form_constant) = true)
    (a_Form_terms : PySem.W.findIn K (.ref c_Form) "terms" = some (some (.ref f_Form_terms)))
    (i_Form_terms : PySem.W.isFn K (.ref f_Form_terms) = true)
    (l_Form_terms : K.lookup f_Form_terms = some ⟨oc_Form_terms, od_Form_terms, .func (PySem.W.fnOf "terms" "Form.terms" (defArgs s_Form_terms) (defBody s_Form_terms) (defScope s_Form_terms) .none kV_Form_terms dc_Form_terms pm_Form_terms an_Form_terms cd_Form_terms ct_Form_terms), sl_Form_terms⟩)
    (c_Form_terms : PySem.W.codeIn K cd_Form_terms "Form.terms" = true)
    (k_Form_terms : PySem.W.keepIn K (.ref f_Form_terms) = true)
    (a_is_small : PySem.W.nsIn K mainGlobals "is_small" = some (some (.ref f_is_small)))
    (l_is_small : K.lookup f_is_small = some ⟨oc_is_small, od_is_small, .func (PySem.W.fnOf "is_small" "is_small" (defArgs s_is_small) (defBody s_is_small) (defScope s_is_small) .none kV_is_small dc_is_small pm_is_small an_is_small cd_is_small ct_is_small), sl_is_small⟩)
    (c_is_small : PySem.W.codeIn K cd_is_small "is_small" = true)
    (k_is_small : PySem.W.keepIn K (.ref f_is_small) = true)
    (a_Value_take : PySem.W.findIn K (.ref c_Value) "take" = some (some (.ref f_Value_take)))
    (i_Value_take : PySem.W.isFn K (.ref f_Value_take) = true)
    (l_Value_take : K.lookup f_Value_take = some ⟨oc_Value_take, od_Value_take, .func (PySem.W.fnOf "take" "Value.take" (defArgs s_Value_take) (defBody s_Value_take) (defScope s_Value_take) .none kV_Value_take dc_Value_take pm_Value_take an_Value_take cd_Value_take ct_Value_take), sl_Value_take⟩)
    (c_Value_take : PySem.W.codeIn K cd_Value_take "Value.take" = true)
    (k_Value_take : PySem.W.keepIn K (.ref f_Value_take) = true)
    (a_Value_init : PySem.W.findIn K (.ref c_Value) "__init__" = some (some (.ref f_Value_init)))
    (i_Value_init : PySem.W.isFn K (.ref f_Value_init) = true)
    (l_Value_init : K.lookup f_Value_init = some ⟨oc_Value_init, od_Value_init, .func (PySem.W.fnOf "__init__" "Value.__init__" (defArgs s_Value_init) (defBody s_Value_init) (defScope s_Value_init) .none kV_Value_init dc_Value_init pm_Value_init an_Value_init cd_Value_init ct_Value_init), sl_Value_init⟩)
    (c_Value_init : PySem.W.codeIn K cd_Value_init "Value.__init__" = true)
    (k_Value_init : PySem.W.keepIn K (.ref f_Value_init) = true)
    (a_Number_init : PySem.W.findIn K (.ref c_Number) "__init__" = some (some (.ref f_Number_init)))
    (i_Number_init : PySem.W.isFn K (.ref f_Number_init) = true)
    (l_Number_init : K.lookup f_Number_init = some ⟨oc_Number_init, od_Number_init, .func (PySem.W.fnX "__init__" "Number.__init__" (defArgs s_Number_init) (defBody s_Number_init) (defScope s_Number_init) [(("__class__" : Str), cs_Number)] .none kV_Number_init dc_Number_init pm_Number_init an_Number_init (.ref ks_Number) ct_Number_init), sl_Number_init⟩)
    (xd_Number_init : PySem.W.codeIn K (.ref ks_Number) "Number.__init__" = true)
    (xe_Number_init : K.lookup cs_Number = some ⟨q1_Number_init, q2_Number_init, .cell (some (.ref c_Number)), q3_Number_init⟩)
    (xg_Number_init : K.lookup ks_Number = some ⟨q4_Number_init, q5_Number_init, .fields qv_Number_init, q6_Number_init⟩)
    (r4x_Number_init : qv_Number_init[2]? = some (.str q7_Number_init q8_Number_init))
    (r5x_Number_init : ((P.main.file : Str) == q7_Number_init) = true)
    (xa_kNumber_init : (PySem.W.clsIn K c_Number).isSome = true)
    (k_Number_init : PySem.W.keepIn K (.ref f_Number_init) = true)
    (a_Pair_init : PySem.W.findIn K (.ref c_Pair) "__init__" = some (some (.ref f_Pair_init)))
    (i_Pair_init : PySem.W.isFn K (.ref f_Pair_init) = true)
    (l_Pair_init : K.lookup f_Pair_init = some ⟨oc_Pair_init, od_Pair_init, .func (PySem.W.fnX "__init__" "Pair.__init__" (defArgs s_Pair_init) (defBody s_Pair_init) (defScope s_Pair_init) [(("__class__" : Str), cs_Pair)] .none kV_Pair_init dc_Pair_init pm_Pair_init an_Pair_init (.ref ks_Pair) ct_Pair_init), sl_Pair_init⟩)
    (xd_Pair_init : PySem.W.codeIn K (.ref ks_Pair) "Pair.__init__" = true)
    (xe_Pair_init : K.lookup cs_Pair = some ⟨q1_Pair_init, q2_Pair_init, .cell (some (.ref c_Pair)), q3_Pair_init⟩)
    (xg_Pair_init : K.lookup ks_Pair = some ⟨q4_Pair_init, q5_Pair_init, .fields qv_Pair_init, q6_Pair_init⟩)
    (r4x_Pair_init : qv_Pair_init[2]? = some (.str q7_Pair_init q8_Pair_init))
    (r5x_Pair_init : ((P.main.file : Str) == q7_Pair_init) = true)
    (xa_kPair_init : (PySem.W.clsIn K c_Pair).isSome = true)
    (k_Pair_init : PySem.W.keepIn K (.ref f_Pair_init) = true)
    (a_Total_init : PySem.W.findIn K (.ref c_Total) "__init__" = some (some (.ref f_Total_init)))
    (i_Total_init : PySem.W.isFn K (.ref f_Total_init) = true)
    (l_Total_init : K.lookup f_Total_init = some ⟨oc_Total_init, od_Total_init, .func (PySem.W.fnX "__init__" "Total.__init__" (defArgs s_Total_init) (defBody s_Total_init) (defScope s_Total_init) [(("__class__" : Str), cs_Total)] .none kV_Total_init dc_Total_init pm_Total_init an_Total_init (.ref ks_Total) ct_Total_init), sl_Total_init⟩)
    (xd_Total_init : PySem.W.codeIn K (.ref ks_Total) "Total.__init__" = true)
    (xe_Total_init : K.lookup cs_Total = some ⟨q1_Total_init, q2_Total_init, .cell (some (.ref c_Total)), q3_Total_init⟩)
    (xg_Total_init : K.lookup ks_Total = some ⟨q4_Total_init, q5_Total_init, .fields qv_Total_init, q6_Total_init⟩)
    (r4x_Total_init : qv_Total_init[2]? = some (.str q7_Total_init q8_Total_init))
    (r5x_Total_init : ((P.main.file : Str) == q7_Total_init) = true)
    (xa_kTotal_init : (PySem.W.clsIn K c_Total).isSome = true)
    (k_Total_init : PySem.W.keepIn K (.ref f_Total_init) = true)
    (a_need_tests : PySem.W.nsIn K mainGlobals "need_tests" = some (some (.ref f_need_tests)))
    (l_need_tests : K.lookup f_need_tests = some ⟨oc_need_tests, od_need_tests, .func (PySem.W.fnOf "need_tests" "need_tests" (defArgs s_need_tests) (defBody s_need_tests) (defScope s_need_tests) .none kV_need_tests dc_need_tests pm_need_tests an_need_tests cd_need_tests ct_need_tests), sl_need_tests⟩)
    (c_need_tests : PySem.W.codeIn K cd_need_tests "need_tests" = true)
    (k_need_tests : PySem.W.keepIn K (.ref f_need_tests) = true)
    (a_Round_init : PySem.W.findIn K (.ref c_Round) "__init__" = some (some (.ref f_Round_init)))
    (i_Round_init : PySem.W.isFn K (.ref f_Round_init) = true)
    (l_Round_init : K.lookup f_Round_init = some ⟨oc_Round_init, od_Round_init, .func (PySem.W.fnX "__init__" "Round.__init__" (defArgs s_Round_init) (defBody s_Round_init) (defScope s_Round_init) [(("__class__" : Str), cs_Round)] .none kV_Round_init dc_Round_init pm_Round_init an_Round_init (.ref ks_Round) ct_Round_init), sl_Round_init⟩)
    (xd_Round_init : PySem.W.codeIn K (.ref ks_Round) "Round.__init__" = true)
    (xe_Round_init : K.lookup cs_Round = some ⟨q1_Round_init, q2_Round_init, .cell (some (.ref c_Round)), q3_Round_init⟩)
    (xg_Round_init : K.lookup ks_Round = some ⟨q4_Round_init, q5_Round_init, .fields qv_Round_init, q6_Round_init⟩)
    (r4x_Round_init : qv_Round_init[2]? = some (.str q7_Round_init q8_Round_init))
    (r5x_Round_init : ((P.main.file : Str) == q7_Round_init) = true)
    (xa_kRound_init : (PySem.W.clsIn K c_Round).isSome = true)
    (k_Round_init : PySem.W.keepIn K (.ref f_Round_init) = true)
    (a_Divides_init : PySem.W.findIn K (.ref c_Divides) "__init__" = some (some (.ref f_Divides_init)))
    (i_Divides_init : PySem.W.isFn K (.ref f_Divides_init) = true)
    (l_Divides_init : K.lookup f_Divides_init = some ⟨oc_Divides_init, od_Divides_init, .func (PySem.W.fnX "__init__" "Divides.__init__" (defArgs s_Divides_init) (defBody s_Divides_init) (defScope s_Divides_init) [(("__class__" : Str), cs_Divides)] .none kV_Divides_init dc_Divides_init pm_Divides_init an_Divides_init (.ref ks_Divides) ct_Divides_init), sl_Divides_init⟩)
    (xd_Divides_init : PySem.W.codeIn K (.ref ks_Divides) "Divides.__init__" = true)
    (xe_Divides_init : K.lookup cs_Divides = some ⟨q1_Divides_init, q2_Divides_init, .cell (some (.ref c_Divides)), q3_Divides_init⟩)
    (xg_Divides_init : K.lookup ks_Divides = some ⟨q4_Divides_init, q5_Divides_init, .fields qv_Divides_init, q6_Divides_init⟩)
    (r4x_Divides_init : qv_Divides_init[2]? = some (.str q7_Divides_init q8_Divides_init))
    (r5x_Divides_init : ((P.main.file : Str) == q7_Divides_init) = true)
    (xa_kDivides_init : (PySem.W.clsIn K c_Divides).isSome = true)
    (k_Divides_init : PySem.W.keepIn K (.ref f_Divides_init) = true)
    (a_Not_init : PySem.W.findIn K (.ref c_Not) "__init__" = some (some (.ref f_Not_init)))
    (i_Not_init : PySem.W.isFn K (.ref f_Not_init) = true)
    (l_Not_init : K.lookup f_Not_init = some ⟨oc_Not_init, od_Not_init, .func (PySem.W.fnX "__init__" "Not.__init__" (defArgs s_Not_init) (defBody s_Not_init) (defScope s_Not_init) [(("__class__" : Str), cs_Not)] .none kV_Not_init dc_Not_init pm_Not_init an_Not_init (.ref ks_Not) ct_Not_init), sl_Not_init⟩)
    (xd_Not_init : PySem.W.codeIn K (.ref ks_Not) "Not.__init__" = true)
    (xe_Not_init : K.lookup cs_Not = some ⟨q1_Not_init, q2_Not_init, .cell (some (.ref c_Not)), q3_Not_init⟩)
    (xg_Not_init : K.lookup ks_Not = some ⟨q4_Not_init, q5_Not_init, .fields qv_Not_init, q6_Not_init⟩)
    (r4x_Not_init : qv_Not_init[2]? = some (.str q7_Not_init q8_Not_init))
    (r5x_Not_init : ((P.main.file : Str) == q7_Not_init) = true)
    (xa_kNot_init : (PySem.W.clsIn K c_Not).isSome = true)
    (k_Not_init : PySem.W.keepIn K (.ref f_Not_init) = true)
    (a_And_init : PySem.W.findIn K (.ref c_And) "__init__" = some (some (.ref f_And_init)))
    (i_And_init : PySem.W.isFn K (.ref f_And_init) = true)
    (l_And_init : K.lookup f_And_init = some ⟨oc_And_init, od_And_init, .func (PySem.W.fnX "__init__" "And.__init__" (defArgs s_And_init) (defBody s_And_init) (defScope s_And_init) [(("__class__" : Str), cs_And)] .none kV_And_init dc_And_init pm_And_init an_And_init (.ref ks_And) ct_And_init), sl_And_init⟩)
    (xd_And_init : PySem.W.codeIn K (.ref ks_And) "And.__init__" = true)
    (xe_And_init : K.lookup cs_And = some ⟨q1_And_init, q2_And_init, .cell (some (.ref c_And)), q3_And_init⟩)
    (xg_And_init : K.lookup ks_And = some ⟨q4_And_init, q5_And_init, .fields qv_And_init, q6_And_init⟩)
    (r4x_And_init : qv_And_init[2]? = some (.str q7_And_init q8_And_init))
    (r5x_And_init : ((P.main.file : Str) == q7_And_init) = true)
    (xa_kAnd_init : (PySem.W.clsIn K c_And).isSome = true)
    (k_And_init : PySem.W.keepIn K (.ref f_And_init) = true)
    (a_Or_init : PySem.W.findIn K (.ref c_Or) "__init__" = some (some (.ref f_Or_init)))
    (i_Or_init : PySem.W.isFn K (.ref f_Or_init) = true)
    (l_Or_init : K.lookup f_Or_init = some ⟨oc_Or_init, od_Or_init, .func (PySem.W.fnX "__init__" "Or.__init__" (defArgs s_Or_init) (defBody s_Or_init) (defScope s_Or_init) [(("__class__" : Str), cs_Or)] .none kV_Or_init dc_Or_init pm_Or_init an_Or_init (.ref ks_Or) ct_Or_init), sl_Or_init⟩)
    (xd_Or_init : PySem.W.codeIn K (.ref ks_Or) "Or.__init__" = true)
    (xe_Or_init : K.lookup cs_Or = some ⟨q1_Or_init, q2_Or_init, .cell (some (.ref c_Or)), q3_Or_init⟩)
    (xg_Or_init : K.lookup ks_Or = some ⟨q4_Or_init, q5_Or_init, .fields qv_Or_init, q6_Or_init⟩)
    (r4x_Or_init : qv_Or_init[2]? = some (.str q7_Or_init q8_Or_init))
    (r5x_Or_init : ((P.main.file : Str) == q7_Or_init) = true)
    (xa_kOr_init : (PySem.W.clsIn K c_Or).isSome = true)
    (k_Or_init : PySem.W.keepIn K (.ref f_Or_init) = true)
    (a_law_bag : PySem.W.nsIn K mainGlobals "_law_bag" = some (some (.ref f_law_bag)))
    (l_law_bag : K.lookup f_law_bag = some ⟨oc_law_bag, od_law_bag, .func (PySem.W.fnOf "_law_bag" "_law_bag" (defArgs s_law_bag) (defBody s_law_bag) (defScope s_law_bag) .none kV_law_bag dc_law_bag pm_law_bag an_law_bag cd_law_bag ct_law_bag), sl_law_bag⟩)
    (c_law_bag : PySem.W.codeIn K cd_law_bag "_law_bag" = true)
    (k_law_bag : PySem.W.keepIn K (.ref f_law_bag) = true)
    (a_law_draw : PySem.W.nsIn K mainGlobals "_law_draw" = some (some (.ref f_law_draw)))
    (l_law_draw : K.lookup f_law_draw = some ⟨oc_law_draw, od_law_draw, .func (PySem.W.fnOf "_law_draw" "_law_draw" (defArgs s_law_draw) (defBody s_law_draw) (defScope s_law_draw) .none kV_law_draw dc_law_draw pm_law_draw an_law_draw cd_law_draw ct_law_draw), sl_law_draw⟩)
    (c_law_draw : PySem.W.codeIn K cd_law_draw "_law_draw" = true)
    (k_law_draw : PySem.W.keepIn K (.ref f_law_draw) = true)
    (a_law_any : PySem.W.nsIn K mainGlobals "_law_any" = some (some (.ref f_law_any)))
    (l_law_any : K.lookup f_law_any = some ⟨oc_law_any, od_law_any, .func (PySem.W.fnOf "_law_any" "_law_any" (defArgs s_law_any) (defBody s_law_any) (defScope s_law_any) .none kV_law_any dc_law_any pm_law_any an_law_any cd_law_any ct_law_any), sl_law_any⟩)
    (c_law_any : PySem.W.codeIn K cd_law_any "_law_any" = true)
    (k_law_any : PySem.W.keepIn K (.ref f_law_any) = true)
    (a_law_same : PySem.W.nsIn K mainGlobals "_law_same" = some (some (.ref f_law_same)))
    (l_law_same : K.lookup f_law_same = some ⟨oc_law_same, od_law_same, .func (PySem.W.fnOf "_law_same" "_law_same" (defArgs s_law_same) (defBody s_law_same) (defScope s_law_same) .none kV_law_same dc_law_same pm_law_same an_law_same cd_law_same ct_law_same), sl_law_same⟩)
    (c_law_same : PySem.W.codeIn K cd_law_same "_law_same" = true)
    (k_law_same : PySem.W.keepIn K (.ref f_law_same) = true)
    (a_law_field : PySem.W.nsIn K mainGlobals "_law_field" = some (some (.ref f_law_field)))
    (l_law_field : K.lookup f_law_field = some ⟨oc_law_field, od_law_field, .func (PySem.W.fnOf "_law_field" "_law_field" (defArgs s_law_field) (defBody s_law_field) (defScope s_law_field) .none kV_law_field dc_law_field pm_law_field an_law_field cd_law_field ct_law_field), sl_law_field⟩)
    (c_law_field : PySem.W.codeIn K cd_law_field "_law_field" = true)
    (k_law_field : PySem.W.keepIn K (.ref f_law_field) = true)
    (a_law_got : PySem.W.nsIn K mainGlobals "_law_got" = some (some (.ref f_law_got)))
    (l_law_got : K.lookup f_law_got = some ⟨oc_law_got, od_law_got, .func (PySem.W.fnOf "_law_got" "_law_got" (defArgs s_law_got) (defBody s_law_got) (defScope s_law_got) .none kV_law_got dc_law_got pm_law_got an_law_got cd_law_got ct_law_got), sl_law_got⟩)
    (c_law_got : PySem.W.codeIn K cd_law_got "_law_got" = true)
    (k_law_got : PySem.W.keepIn K (.ref f_law_got) = true)
    (a_law_all_got : PySem.W.nsIn K mainGlobals "_law_all_got" = some (some (.ref f_law_all_got)))
    (l_law_all_got : K.lookup f_law_all_got = some ⟨oc_law_all_got, od_law_all_got, .func (PySem.W.fnOf "_law_all_got" "_law_all_got" (defArgs s_law_all_got) (defBody s_law_all_got) (defScope s_law_all_got) .none kV_law_all_got dc_law_all_got pm_law_all_got an_law_all_got cd_law_all_got ct_law_all_got), sl_law_all_got⟩)
    (c_law_all_got : PySem.W.codeIn K cd_law_all_got "_law_all_got" = true)
    (k_law_all_got : PySem.W.keepIn K (.ref f_law_all_got) = true)
    (a_law_tests_so : PySem.W.nsIn K mainGlobals "_law_tests_so" = some (some (.ref f_law_tests_so)))
    (l_law_tests_so : K.lookup f_law_tests_so = some ⟨oc_law_tests_so, od_law_tests_so, .func (PySem.W.fnOf "_law_tests_so" "_law_tests_so" (defArgs s_law_tests_so) (defBody s_law_tests_so) (defScope s_law_tests_so) .none kV_law_tests_so dc_law_tests_so pm_law_tests_so an_law_tests_so cd_law_tests_so ct_law_tests_so), sl_law_tests_so⟩)
    (c_law_tests_so : PySem.W.codeIn K cd_law_tests_so "_law_tests_so" = true)
    (k_law_tests_so : PySem.W.keepIn K (.ref f_law_tests_so) = true)
    (a_law : PySem.W.nsIn K mainGlobals "law" = some (some (.ref f_law)))
    (l_law : K.lookup f_law = some ⟨oc_law, od_law, .func (PySem.W.fnOf "law" "law" (defArgs s_law) (defBody s_law) (defScope s_law) .none kV_law dc_law pm_law an_law cd_law ct_law), sl_law⟩)
    (c_law : PySem.W.codeIn K cd_law "law" = true)
    (k_law : PySem.W.keepIn K (.ref f_law) = true)
    (le_Form_init_0 : K.lookup e_Form_init_0 = some ⟨.type "tuple", tq_e_Form_init_0, .seq #[] tn_e_Form_init_0, ts_e_Form_init_0⟩)
    (ga_MOST_COEF : PySem.W.nsIn K mainGlobals "MOST_COEF" = some (some (.int (6) tg_MOST_COEF)))
    (ga_MOST_CONSTANT : PySem.W.nsIn K mainGlobals "MOST_CONSTANT" = some (some (.int (99) tg_MOST_CONSTANT)))
    (ga_MOST_DEPTH : PySem.W.nsIn K mainGlobals "MOST_DEPTH" = some (some (.int (20) tg_MOST_DEPTH)))
    (ga_MOST_DIVISOR : PySem.W.nsIn K mainGlobals "MOST_DIVISOR" = some (some (.int (60) tg_MOST_DIVISOR)))
    (ga_MOST_NAME : PySem.W.nsIn K mainGlobals "MOST_NAME" = some (some (.int (6) tg_MOST_NAME)))
    (ga_MOST_NUMBER : PySem.W.nsIn K mainGlobals "MOST_NUMBER" = some (some (.int (9999) tg_MOST_NUMBER)))
    (ga_MOST_SIZE : PySem.W.nsIn K mainGlobals "MOST_SIZE" = some (some (.int (60) tg_MOST_SIZE)))
    (ga_MOST_TERMS : PySem.W.nsIn K mainGlobals "MOST_TERMS" = some (some (.int (4) tg_MOST_TERMS)))
    (ga_SMALL : PySem.W.nsIn K mainGlobals "SMALL" = some (some (.str "abcdefghijklmnopqrstuvwxyz" tg_SMALL)))
    (ga_WORDS : PySem.W.nsIn K mainGlobals "WORDS" = some (some (.ref g_WORDS)))
    (gl_WORDS : K.lookup g_WORDS = some ⟨.type "tuple", tq_g_WORDS, .seq #[.str "n" tg_WORDS_0, .str "sum" tg_WORDS_1] tn_g_WORDS, ts_g_WORDS⟩)
    (a_DialError : PySem.W.nsIn K mainGlobals "DialError" = some (some (.ref c_DialError)))
    (a_InvalidForm : PySem.W.nsIn K mainGlobals "InvalidForm" = some (some (.ref c_InvalidForm)))
    (a_InvalidName : PySem.W.nsIn K mainGlobals "InvalidName" = some (some (.ref c_InvalidName)))
    (a_InvalidNumber : PySem.W.nsIn K mainGlobals "InvalidNumber" = some (some (.ref c_InvalidNumber)))
    (a_InvalidTest : PySem.W.nsIn K mainGlobals "InvalidTest" = some (some (.ref c_InvalidTest)))
    (a_InvalidValue : PySem.W.nsIn K mainGlobals "InvalidValue" = some (some (.ref c_InvalidValue)))
    (a_Missing : PySem.W.nsIn K mainGlobals "Missing" = some (some (.ref c_Missing)))
    (a_TooDeep : PySem.W.nsIn K mainGlobals "TooDeep" = some (some (.ref c_TooDeep)))
    (a_TooMany : PySem.W.nsIn K mainGlobals "TooMany" = some (some (.ref c_TooMany)))
    (xi_InvalidNumber : PySem.W.findIn K (.ref c_InvalidNumber) "__init__" = some (some (.ref fx_InvalidNumber)))
    (xl_InvalidNumber : K.lookup fx_InvalidNumber = some ⟨oc_xInvalidNumber, od_xInvalidNumber, .func (PySem.W.fnX "__init__" "InvalidNumber.__init__" (defArgs sx_InvalidNumber) (defBody sx_InvalidNumber) (defScope sx_InvalidNumber) [(("__class__" : Str), cc_InvalidNumber)] .none kV_xInvalidNumber dc_xInvalidNumber pm_xInvalidNumber an_xInvalidNumber (.ref kx_InvalidNumber) ct_xInvalidNumber), sl_xInvalidNumber⟩)
    (xd_InvalidNumber : PySem.W.codeIn K (.ref kx_InvalidNumber) "InvalidNumber.__init__" = true)
    (xe_InvalidNumber : K.lookup cc_InvalidNumber = some ⟨q1_InvalidNumber, q2_InvalidNumber, .cell (some (.ref c_InvalidNumber)), q3_InvalidNumber⟩)
    (xg_InvalidNumber : K.lookup kx_InvalidNumber = some ⟨q4_InvalidNumber, q5_InvalidNumber, .fields qv_InvalidNumber, q6_InvalidNumber⟩)
    (r4x_InvalidNumber : qv_InvalidNumber[2]? = some (.str q7_InvalidNumber q8_InvalidNumber))
    (r5x_InvalidNumber : ((P.main.file : Str) == q7_InvalidNumber) = true)
    (xk_InvalidNumber : ∃ nm q N bs bm sn sub ab col dd k0 k1 k2 k3 k5, K.lookup c_InvalidNumber = some (excClassObj nm q c_InvalidNumber N bs bm true sn sub ab col dd k0 k1 k2 k3 k5 "ValueError.__new__") ∧ refsB PySem.HandSPX.veTail bm = true)
    (xs_InvalidNumber : PySem.W.findIn K (.ref c_InvalidNumber) "__setattr__" = some (some (.builtin "object.__setattr__")))
    (xb_InvalidNumber : PySem.W.subIn K (.ref c_InvalidNumber) (.type "BaseException") = some true)
    (xt_InvalidNumber : PySem.W.typeIn K (.ref c_InvalidNumber) = some (.type "type"))
    (xq_InvalidNumber : PySem.W.keepIn K (.ref c_InvalidNumber) = true)
    (xf_InvalidNumber : xfB K c_InvalidNumber = true)
    (xa_InvalidNumber : PySem.W.ks_superIn K c_InvalidNumber c_InvalidNumber "__init__" = some (some (.builtin "ValueError.__init__")))
    (xv_InvalidNumber : PySem.W.subIn K (.ref c_InvalidNumber) (.type "ValueError") = some true)
    (xm_InvalidNumber : PySem.W.mroIn K c_InvalidNumber (.ref c_InvalidNumber) = some true)
    (xy_InvalidNumber : PySem.W.typeIn K (.ref fx_InvalidNumber) = some (.type "function"))
    (xc_InvalidNumber : PySem.W.findIn K (.ref c_InvalidNumber) "code" = some none)
    (xn_InvalidNumber : PySem.W.findIn K (.ref c_InvalidNumber) "given" = some none)
    (xx_InvalidNumber : PySem.W.exmAny K (.ref c_InvalidNumber) [.ref c_DialError, .ref c_Missing] = some true)
    (xi_InvalidName : PySem.W.findIn K (.ref c_InvalidName) "__init__" = some (some (.ref fx_InvalidName)))
    (xl_InvalidName : K.lookup fx_InvalidName = some ⟨oc_xInvalidName, od_xInvalidName, .func (PySem.W.fnX "__init__" "InvalidName.__init__" (defArgs sx_InvalidName) (defBody sx_InvalidName) (defScope sx_InvalidName) [(("__class__" : Str), cc_InvalidName)] .none kV_xInvalidName dc_xInvalidName pm_xInvalidName an_xInvalidName (.ref kx_InvalidName) ct_xInvalidName), sl_xInvalidName⟩)
    (xd_InvalidName : PySem.W.codeIn K (.ref kx_InvalidName) "InvalidName.__init__" = true)
    (xe_InvalidName : K.lookup cc_InvalidName = some ⟨q1_InvalidName, q2_InvalidName, .cell (some (.ref c_InvalidName)), q3_InvalidName⟩)
    (xg_InvalidName : K.lookup kx_InvalidName = some ⟨q4_InvalidName, q5_InvalidName, .fields qv_InvalidName, q6_InvalidName⟩)
    (r4x_InvalidName : qv_InvalidName[2]? = some (.str q7_InvalidName q8_InvalidName))
    (r5x_InvalidName : ((P.main.file : Str) == q7_InvalidName) = true)
    (xk_InvalidName : ∃ nm q N bs bm sn sub ab col dd k0 k1 k2 k3 k5, K.lookup c_InvalidName = some (excClassObj nm q c_InvalidName N bs bm true sn sub ab col dd k0 k1 k2 k3 k5 "ValueError.__new__") ∧ refsB PySem.HandSPX.veTail bm = true)
    (xs_InvalidName : PySem.W.findIn K (.ref c_InvalidName) "__setattr__" = some (some (.builtin "object.__setattr__")))
    (xb_InvalidName : PySem.W.subIn K (.ref c_InvalidName) (.type "BaseException") = some true)
    (xt_InvalidName : PySem.W.typeIn K (.ref c_InvalidName) = some (.type "type"))
    (xq_InvalidName : PySem.W.keepIn K (.ref c_InvalidName) = true)
    (xf_InvalidName : xfB K c_InvalidName = true)
    (xa_InvalidName : PySem.W.ks_superIn K c_InvalidName c_InvalidName "__init__" = some (some (.builtin "ValueError.__init__")))
    (xv_InvalidName : PySem.W.subIn K (.ref c_InvalidName) (.type "ValueError") = some true)
    (xm_InvalidName : PySem.W.mroIn K c_InvalidName (.ref c_InvalidName) = some true)
    (xy_InvalidName : PySem.W.typeIn K (.ref fx_InvalidName) = some (.type "function"))
    (xc_InvalidName : PySem.W.findIn K (.ref c_InvalidName) "code" = some none)
    (xn_InvalidName : PySem.W.findIn K (.ref c_InvalidName) "given" = some none)
    (xx_InvalidName : PySem.W.exmAny K (.ref c_InvalidName) [.ref c_DialError, .ref c_Missing] = some true)
    (xi_InvalidForm : PySem.W.findIn K (.ref c_InvalidForm) "__init__" = some (some (.ref fx_InvalidForm)))
    (xl_InvalidForm : K.lookup fx_InvalidForm = some ⟨oc_xInvalidForm, od_xInvalidForm, .func (PySem.W.fnX "__init__" "InvalidForm.__init__" (defArgs sx_InvalidForm) (defBody sx_InvalidForm) (defScope sx_InvalidForm) [(("__class__" : Str), cc_InvalidForm)] .none kV_xInvalidForm dc_xInvalidForm pm_xInvalidForm an_xInvalidForm (.ref kx_InvalidForm) ct_xInvalidForm), sl_xInvalidForm⟩)
    (xd_InvalidForm : PySem.W.codeIn K (.ref kx_InvalidForm) "InvalidForm.__init__" = true)
    (xe_InvalidForm : K.lookup cc_InvalidForm = some ⟨q1_InvalidForm, q2_InvalidForm, .cell (some (.ref c_InvalidForm)), q3_InvalidForm⟩)
    (xg_InvalidForm : K.lookup kx_InvalidForm = some ⟨q4_InvalidForm, q5_InvalidForm, .fields qv_InvalidForm, q6_InvalidForm⟩)
    (r4x_InvalidForm : qv_InvalidForm[2]? = some (.str q7_InvalidForm q8_InvalidForm))
    (r5x_InvalidForm : ((P.main.file : Str) == q7_InvalidForm) = true)
    (xk_InvalidForm : ∃ nm q N bs bm sn sub ab col dd k0 k1 k2 k3 k5, K.lookup c_InvalidForm = some (excClassObj nm q c_InvalidForm N bs bm true sn sub ab col dd k0 k1 k2 k3 k5 "ValueError.__new__") ∧ refsB PySem.HandSPX.veTail bm = true)
    (xs_InvalidForm : PySem.W.findIn K (.ref c_InvalidForm) "__setattr__" = some (some (.builtin "object.__setattr__")))
    (xb_InvalidForm : PySem.W.subIn K (.ref c_InvalidForm) (.type "BaseException") = some true)
    (xt_InvalidForm : PySem.W.typeIn K (.ref c_InvalidForm) = some (.type "type"))
    (xq_InvalidForm : PySem.W.keepIn K (.ref c_InvalidForm) = true)
    (xf_InvalidForm : xfB K c_InvalidForm = true)
    (xa_InvalidForm : PySem.W.ks_superIn K c_InvalidForm c_InvalidForm "__init__" = some (some (.builtin "ValueError.__init__")))
    (xv_InvalidForm : PySem.W.subIn K (.ref c_InvalidForm) (.type "ValueError") = some true)
    (xm_InvalidForm : PySem.W.mroIn K c_InvalidForm (.ref c_InvalidForm) = some true)
    (xy_InvalidForm : PySem.W.typeIn K (.ref fx_InvalidForm) = some (.type "function"))
    (xc_InvalidForm : PySem.W.findIn K (.ref c_InvalidForm) "code" = some none)
    (xn_InvalidForm : PySem.W.findIn K (.ref c_InvalidForm) "at" = some none)
    (xx_InvalidForm : PySem.W.exmAny K (.ref c_InvalidForm) [.ref c_DialError, .ref c_Missing] = some true)
    (xi_InvalidTest : PySem.W.findIn K (.ref c_InvalidTest) "__init__" = some (some (.ref fx_InvalidTest)))
    (xl_InvalidTest : K.lookup fx_InvalidTest = some ⟨oc_xInvalidTest, od_xInvalidTest, .func (PySem.W.fnX "__init__" "InvalidTest.__init__" (defArgs sx_InvalidTest) (defBody sx_InvalidTest) (defScope sx_InvalidTest) [(("__class__" : Str), cc_InvalidTest)] .none kV_xInvalidTest dc_xInvalidTest pm_xInvalidTest an_xInvalidTest (.ref kx_InvalidTest) ct_xInvalidTest), sl_xInvalidTest⟩)
    (xd_InvalidTest : PySem.W.codeIn K (.ref kx_InvalidTest) "InvalidTest.__init__" = true)
    (xe_InvalidTest : K.lookup cc_InvalidTest = some ⟨q1_InvalidTest, q2_InvalidTest, .cell (some (.ref c_InvalidTest)), q3_InvalidTest⟩)
    (xg_InvalidTest : K.lookup kx_InvalidTest = some ⟨q4_InvalidTest, q5_InvalidTest, .fields qv_InvalidTest, q6_InvalidTest⟩)
    (r4x_InvalidTest : qv_InvalidTest[2]? = some (.str q7_InvalidTest q8_InvalidTest))
    (r5x_InvalidTest : ((P.main.file : Str) == q7_InvalidTest) = true)
    (xk_InvalidTest : ∃ nm q N bs bm sn sub ab col dd k0 k1 k2 k3 k5, K.lookup c_InvalidTest = some (excClassObj nm q c_InvalidTest N bs bm true sn sub ab col dd k0 k1 k2 k3 k5 "ValueError.__new__") ∧ refsB PySem.HandSPX.veTail bm = true)
    (xs_InvalidTest : PySem.W.findIn K (.ref c_InvalidTest) "__setattr__" = some (some (.builtin "object.__setattr__")))
    (xb_InvalidTest : PySem.W.subIn K (.ref c_InvalidTest) (.type "BaseException") = some true)
    (xt_InvalidTest : PySem.W.typeIn K (.ref c_InvalidTest) = some (.type "type"))
    (xq_InvalidTest : PySem.W.keepIn K (.ref c_InvalidTest) = true)
    (xf_InvalidTest : xfB K c_InvalidTest = true)
    (xa_InvalidTest : PySem.W.ks_superIn K c_InvalidTest c_InvalidTest "__init__" = some (some (.builtin "ValueError.__init__")))
    (xv_InvalidTest : PySem.W.subIn K (.ref c_InvalidTest) (.type "ValueError") = some true)
    (xm_InvalidTest : PySem.W.mroIn K c_InvalidTest (.ref c_InvalidTest) = some true)
    (xy_InvalidTest : PySem.W.typeIn K (.ref fx_InvalidTest) = some (.type "function"))
    (xc_InvalidTest : PySem.W.findIn K (.ref c_InvalidTest) "code" = some none)
    (xn_InvalidTest : PySem.W.findIn K (.ref c_InvalidTest) "given" = some none)
    (xx_InvalidTest : PySem.W.exmAny K (.ref c_InvalidTest) [.ref c_DialError, .ref c_Missing] = some true)
    (xi_InvalidValue : PySem.W.findIn K (.ref c_InvalidValue) "__init__" = some (some (.ref fx_InvalidValue)))
    (xl_InvalidValue : K.lookup fx_InvalidValue = some ⟨oc_xInvalidValue, od_xInvalidValue, .func (PySem.W.fnX "__init__" "InvalidValue.__init__" (defArgs sx_InvalidValue) (defBody sx_InvalidValue) (defScope sx_InvalidValue) [(("__class__" : Str), cc_InvalidValue)] .none kV_xInvalidValue dc_xInvalidValue pm_xInvalidValue an_xInvalidValue (.ref kx_InvalidValue) ct_xInvalidValue), sl_xInvalidValue⟩)
    (xd_InvalidValue : PySem.W.codeIn K (.ref kx_InvalidValue) "InvalidValue.__init__" = true)
    (xe_InvalidValue : K.lookup cc_InvalidValue = some ⟨q1_InvalidValue, q2_InvalidValue, .cell (some (.ref c_InvalidValue)), q3_InvalidValue⟩)
    (xg_InvalidValue : K.lookup kx_InvalidValue = some ⟨q4_InvalidValue, q5_InvalidValue, .fields qv_InvalidValue, q6_InvalidValue⟩)
    (r4x_InvalidValue : qv_InvalidValue[2]? = some (.str q7_InvalidValue q8_InvalidValue))
    (r5x_InvalidValue : ((P.main.file : Str) == q7_InvalidValue) = true)
    (xk_InvalidValue : ∃ nm q N bs bm sn sub ab col dd k0 k1 k2 k3 k5, K.lookup c_InvalidValue = some (excClassObj nm q c_InvalidValue N bs bm true sn sub ab col dd k0 k1 k2 k3 k5 "ValueError.__new__") ∧ refsB PySem.HandSPX.veTail bm = true)
    (xs_InvalidValue : PySem.W.findIn K (.ref c_InvalidValue) "__setattr__" = some (some (.builtin "object.__setattr__")))
    (xb_InvalidValue : PySem.W.subIn K (.ref c_InvalidValue) (.type "BaseException") = some true)
    (xt_InvalidValue : PySem.W.typeIn K (.ref c_InvalidValue) = some (.type "type"))
    (xq_InvalidValue : PySem.W.keepIn K (.ref c_InvalidValue) = true)
    (xf_InvalidValue : xfB K c_InvalidValue = true)
    (xa_InvalidValue : PySem.W.ks_superIn K c_InvalidValue c_InvalidValue "__init__" = some (some (.builtin "ValueError.__init__")))
    (xv_InvalidValue : PySem.W.subIn K (.ref c_InvalidValue) (.type "ValueError") = some true)
    (xm_InvalidValue : PySem.W.mroIn K c_InvalidValue (.ref c_InvalidValue) = some true)
    (xy_InvalidValue : PySem.W.typeIn K (.ref fx_InvalidValue) = some (.type "function"))
    (xc_InvalidValue : PySem.W.findIn K (.ref c_InvalidValue) "code" = some none)
    (xn_InvalidValue : PySem.W.findIn K (.ref c_InvalidValue) "given" = some none)
    (xx_InvalidValue : PySem.W.exmAny K (.ref c_InvalidValue) [.ref c_DialError, .ref c_Missing] = some true)
    (xi_TooMany : PySem.W.findIn K (.ref c_TooMany) "__init__" = some (some (.ref fx_TooMany)))
    (xl_TooMany : K.lookup fx_TooMany = some ⟨oc_xTooMany, od_xTooMany, .func (PySem.W.fnX "__init__" "TooMany.__init__" (defArgs sx_TooMany) (defBody sx_TooMany) (defScope sx_TooMany) [(("__class__" : Str), cc_TooMany)] .none kV_xTooMany dc_xTooMany pm_xTooMany an_xTooMany (.ref kx_TooMany) ct_xTooMany), sl_xTooMany⟩)
    (xd_TooMany : PySem.W.codeIn K (.ref kx_TooMany) "TooMany.__init__" = true)
    (xe_TooMany : K.lookup cc_TooMany = some ⟨q1_TooMany, q2_TooMany, .cell (some (.ref c_TooMany)), q3_TooMany⟩)
    (xg_TooMany : K.lookup kx_TooMany = some ⟨q4_TooMany, q5_TooMany, .fields qv_TooMany, q6_TooMany⟩)
    (r4x_TooMany : qv_TooMany[2]? = some (.str q7_TooMany q8_TooMany))
    (r5x_TooMany : ((P.main.file : Str) == q7_TooMany) = true)
    (xk_TooMany : ∃ nm q N bs bm sn sub ab col dd k0 k1 k2 k3 k5, K.lookup c_TooMany = some (excClassObj nm q c_TooMany N bs bm true sn sub ab col dd k0 k1 k2 k3 k5 "ValueError.__new__") ∧ refsB PySem.HandSPX.veTail bm = true)
    (xs_TooMany : PySem.W.findIn K (.ref c_TooMany) "__setattr__" = some (some (.builtin "object.__setattr__")))
    (xb_TooMany : PySem.W.subIn K (.ref c_TooMany) (.type "BaseException") = some true)
    (xt_TooMany : PySem.W.typeIn K (.ref c_TooMany) = some (.type "type"))
    (xq_TooMany : PySem.W.keepIn K (.ref c_TooMany) = true)
    (xf_TooMany : xfB K c_TooMany = true)
    (xa_TooMany : PySem.W.ks_superIn K c_TooMany c_TooMany "__init__" = some (some (.builtin "ValueError.__init__")))
    (xv_TooMany : PySem.W.subIn K (.ref c_TooMany) (.type "ValueError") = some true)
    (xm_TooMany : PySem.W.mroIn K c_TooMany (.ref c_TooMany) = some true)
    (xy_TooMany : PySem.W.typeIn K (.ref fx_TooMany) = some (.type "function"))
    (xc_TooMany : PySem.W.findIn K (.ref c_TooMany) "code" = some none)
    (xn_TooMany : PySem.W.findIn K (.ref c_TooMany) "most" = some none)
    (xx_TooMany : PySem.W.exmAny K (.ref c_TooMany) [.ref c_DialError, .ref c_Missing] = some true)
    (xi_TooDeep : PySem.W.findIn K (.ref c_TooDeep) "__init__" = some (some (.ref fx_TooDeep)))
    (xl_TooDeep : K.lookup fx_TooDeep = some ⟨oc_xTooDeep, od_xTooDeep, .func (PySem.W.fnX "__init__" "TooDeep.__init__" (defArgs sx_TooDeep) (defBody sx_TooDeep) (defScope sx_TooDeep) [(("__class__" : Str), cc_TooDeep)] .none kV_xTooDeep dc_xTooDeep pm_xTooDeep an_xTooDeep (.ref kx_TooDeep) ct_xTooDeep), sl_xTooDeep⟩)
    (xd_TooDeep : PySem.W.codeIn K (.ref kx_TooDeep) "TooDeep.__init__" = true)
    (xe_TooDeep : K.lookup cc_TooDeep = some ⟨q1_TooDeep, q2_TooDeep, .cell (some (.ref c_TooDeep)), q3_TooDeep⟩)
    (xg_TooDeep : K.lookup kx_TooDeep = some ⟨q4_TooDeep, q5_TooDeep, .fields qv_TooDeep, q6_TooDeep⟩)
    (r4x_TooDeep : qv_TooDeep[2]? = some (.str q7_TooDeep q8_TooDeep))
    (r5x_TooDeep : ((P.main.file : Str) == q7_TooDeep) = true)
    (xk_TooDeep : ∃ nm q N bs bm sn sub ab col dd k0 k1 k2 k3 k5, K.lookup c_TooDeep = some (excClassObj nm q c_TooDeep N bs bm true sn sub ab col dd k0 k1 k2 k3 k5 "ValueError.__new__") ∧ refsB PySem.HandSPX.veTail bm = true)
    (xs_TooDeep : PySem.W.findIn K (.ref c_TooDeep) "__setattr__" = some (some (.builtin "object.__setattr__")))
    (xb_TooDeep : PySem.W.subIn K (.ref c_TooDeep) (.type "BaseException") = some true)
    (xt_TooDeep : PySem.W.typeIn K (.ref c_TooDeep) = some (.type "type"))
    (xq_TooDeep : PySem.W.keepIn K (.ref c_TooDeep) = true)
    (xf_TooDeep : xfB K c_TooDeep = true)
    (xa_TooDeep : PySem.W.ks_superIn K c_TooDeep c_TooDeep "__init__" = some (some (.builtin "ValueError.__init__")))
    (xv_TooDeep : PySem.W.subIn K (.ref c_TooDeep) (.type "ValueError") = some true)
    (xm_TooDeep : PySem.W.mroIn K c_TooDeep (.ref c_TooDeep) = some true)
    (xy_TooDeep : PySem.W.typeIn K (.ref fx_TooDeep) = some (.type "function"))
    (xc_TooDeep : PySem.W.findIn K (.ref c_TooDeep) "code" = some none)
    (xn_TooDeep : PySem.W.findIn K (.ref c_TooDeep) "most" = some none)
    (xx_TooDeep : PySem.W.exmAny K (.ref c_TooDeep) [.ref c_DialError, .ref c_Missing] = some true)
    (opq : PySem.W.nsIn K cStatics "thirdparty.any" = some none)
    (r4x : (P.main.scope.names.lookup ("super" : Str)).isSome = false)
    (xy_vi : PySem.W.typeIn K (.ref f_Value_init) = some (.type "function"))
    (fi_vi : PySem.W.fnIn K f_Value_init = true)
    (xa_sNumber : PySem.W.ks_superIn K c_Number c_Number "__init__" = some (some (.ref f_Value_init)))
    (xm_sNumber : PySem.W.mroIn K c_Number (.ref c_Number) = some true)
    (am_Number_take : PySem.W.findIn K (.ref c_Number) "take" = some (some (.ref f_Value_take)))
    (am_Marks_take : PySem.W.findIn K (.ref c_Marks) "take" = some (some (.ref f_Value_take)))
    (xa_sPlus : PySem.W.ks_superIn K c_Plus c_Pair "__init__" = some (some (.ref f_Value_init)))
    (xm_sPlus : PySem.W.mroIn K c_Plus (.ref c_Pair) = some true)
    (am_Plus_take : PySem.W.findIn K (.ref c_Plus) "take" = some (some (.ref f_Value_take)))
    (xa_sMinus : PySem.W.ks_superIn K c_Minus c_Pair "__init__" = some (some (.ref f_Value_init)))
    (xm_sMinus : PySem.W.mroIn K c_Minus (.ref c_Pair) = some true)
    (am_Minus_take : PySem.W.findIn K (.ref c_Minus) "take" = some (some (.ref f_Value_take)))
    (xa_sTimes : PySem.W.ks_superIn K c_Times c_Pair "__init__" = some (some (.ref f_Value_init)))
    (xm_sTimes : PySem.W.mroIn K c_Times (.ref c_Pair) = some true)
    (am_Times_take : PySem.W.findIn K (.ref c_Times) "take" = some (some (.ref f_Value_take)))
    (xa_sTotal : PySem.W.ks_superIn K c_Total c_Total "__init__" = some (some (.ref f_Value_init)))
    (xm_sTotal : PySem.W.mroIn K c_Total (.ref c_Total) = some true)
    (am_Total_take : PySem.W.findIn K (.ref c_Total) "take" = some (some (.ref f_Value_take)))
    (xa_sRound : PySem.W.ks_superIn K c_Round c_Round "__init__" = some (some (.ref f_Value_init)))
    (xm_sRound : PySem.W.mroIn K c_Round (.ref c_Round) = some true)
    (am_Round_take : PySem.W.findIn K (.ref c_Round) "take" = some (some (.ref f_Value_take)))
    (xa_sDivides : PySem.W.ks_superIn K c_Divides c_Divides "__init__" = some (some (.ref f_Value_init)))
    (xm_sDivides : PySem.W.mroIn K c_Divides (.ref c_Divides) = some true)
    (am_Divides_take : PySem.W.findIn K (.ref c_Divides) "take" = some (some (.ref f_Value_take)))
    (xa_sNot : PySem.W.ks_superIn K c_Not c_Not "__init__" = some (some (.ref f_Value_init)))
    (xm_sNot : PySem.W.mroIn K c_Not (.ref c_Not) = some true)
    (am_Not_take : PySem.W.findIn K (.ref c_Not) "take" = some (some (.ref f_Value_take)))
    (xa_sAnd : PySem.W.ks_superIn K c_And c_And "__init__" = some (some (.ref f_Value_init)))
    (xm_sAnd : PySem.W.mroIn K c_And (.ref c_And) = some true)
    (am_And_take : PySem.W.findIn K (.ref c_And) "take" = some (some (.ref f_Value_take)))
    (xa_sOr : PySem.W.ks_superIn K c_Or c_Or "__init__" = some (some (.ref f_Value_init)))
    (xm_sOr : PySem.W.mroIn K c_Or (.ref c_Or) = some true)
    (am_Or_take : PySem.W.findIn K (.ref c_Or) "take" = some (some (.ref f_Value_take)))
    (ih_Marks : PySem.W.findIn K (.ref c_Marks) "__init__" = some (some (.ref f_Value_init)))
    (ih_Minus : PySem.W.findIn K (.ref c_Minus) "__init__" = some (some (.ref f_Pair_init)))
    (ih_Plus : PySem.W.findIn K (.ref c_Plus) "__init__" = some (some (.ref f_Pair_init)))
    (ih_Times : PySem.W.findIn K (.ref c_Times) "__init__" = some (some (.ref f_Pair_init)))
    (tb_cd : cd_law_tests_so = .ref cL)
    (tb_ts : Tb ∈ ts)
    (tb_hd : PySem.W.codeHdIn K cL Tb = true)
    (tb_no : K.lookup Tb = none)
    (tl_cd : cd_law = .ref cM)
    (tl_ts : Tl ∈ ts)
    (tl_hd : PySem.W.codeHdIn K cM Tl = true)
    (tl_no : K.lookup Tl = none)
    (tl_ne : Tb ≠ Tl)
    (z_abs : PySem.W.nsIn K mainGlobals "abs" = some none)
    (z_all : PySem.W.nsIn K mainGlobals "all" = some none)
    (z_bool : PySem.W.nsIn K mainGlobals "bool" = some none)
    (z_dict : PySem.W.nsIn K mainGlobals "dict" = some none)
    (z_enumerate : PySem.W.nsIn K mainGlobals "enumerate" = some none)
    (z_int : PySem.W.nsIn K mainGlobals "int" = some none)
    (z_isinstance : PySem.W.nsIn K mainGlobals "isinstance" = some none)
    (z_len : PySem.W.nsIn K mainGlobals "len" = some none)
    (z_list : PySem.W.nsIn K mainGlobals "list" = some none)
    (z_max : PySem.W.nsIn K mainGlobals "max" = some none)
    (z_range : PySem.W.nsIn K mainGlobals "range" = some none)
    (z_repr : PySem.W.nsIn K mainGlobals "repr" = some none)
    (z_sorted : PySem.W.nsIn K mainGlobals "sorted" = some none)
    (z_str : PySem.W.nsIn K mainGlobals "str" = some none)
    (z_sum : PySem.W.nsIn K mainGlobals "sum" = some none)
    (z_super : PySem.W.nsIn K mainGlobals "super" = some none)
    (z_tuple : PySem.W.nsIn K mainGlobals "tuple" = some none)
    (g1_And : PySem.W.plainGet K c_And Str.empty = true)
    (g2_And : PySem.W.hasDictIn K c_And = true)
    (g3_And : PySem.W.plainOver K c_And = true)
    (g4_And : PySem.W.findIn K (.ref c_And) "__setattr__" = some (some (.builtin "object.__setattr__")))
    (g1_Divides : PySem.W.plainGet K c_Divides Str.empty = true)
    (g2_Divides : PySem.W.hasDictIn K c_Divides = true)
    (g3_Divides : PySem.W.plainOver K c_Divides = true)
    (g4_Divides : PySem.W.findIn K (.ref c_Divides) "__setattr__" = some (some (.builtin "object.__setattr__")))
    (g1_Form : PySem.W.plainGet K c_Form Str.empty = true)
    (g2_Form : PySem.W.hasDictIn K c_Form = true)
    (g3_Form : PySem.W.plainOver K c_Form = true)
    (g4_Form : PySem.W.findIn K (.ref c_Form) "__setattr__" = some (some (.builtin "object.__setattr__")))
    (g1_Marks : PySem.W.plainGet K c_Marks Str.empty = true)
    (g2_Marks : PySem.W.hasDictIn K c_Marks = true)
    (g3_Marks : PySem.W.plainOver K c_Marks = true)
    (g4_Marks : PySem.W.findIn K (.ref c_Marks) "__setattr__" = some (some (.builtin "object.__setattr__")))
    (g1_Minus : PySem.W.plainGet K c_Minus Str.empty = true)
    (g2_Minus : PySem.W.hasDictIn K c_Minus = true)
    (g3_Minus : PySem.W.plainOver K c_Minus = true)
    (g4_Minus : PySem.W.findIn K (.ref c_Minus) "__setattr__" = some (some (.builtin "object.__setattr__")))
    (g1_Not : PySem.W.plainGet K c_Not Str.empty = true)
    (g2_Not : PySem.W.hasDictIn K c_Not = true)
    (g3_Not : PySem.W.plainOver K c_Not = true)
    (g4_Not : PySem.W.findIn K (.ref c_Not) "__setattr__" = some (some (.builtin "object.__setattr__")))
    (g1_Number : PySem.W.plainGet K c_Number Str.empty = true)
    (g2_Number : PySem.W.hasDictIn K c_Number = true)
    (g3_Number : PySem.W.plainOver K c_Number = true)
    (g4_Number : PySem.W.findIn K (.ref c_Number) "__setattr__" = some (some (.builtin "object.__setattr__")))
    (g1_Or : PySem.W.plainGet K c_Or Str.empty = true)
    (g2_Or : PySem.W.hasDictIn K c_Or = true)
    (g3_Or : PySem.W.plainOver K c_Or = true)
    (g4_Or : PySem.W.findIn K (.ref c_Or) "__setattr__" = some (some (.builtin "object.__setattr__")))
    (g1_Pair : PySem.W.plainGet K c_Pair Str.empty = true)
    (g2_Pair : PySem.W.hasDictIn K c_Pair = true)
    (g3_Pair : PySem.W.plainOver K c_Pair = true)
    (g4_Pair : PySem.W.findIn K (.ref c_Pair) "__setattr__" = some (some (.builtin "object.__setattr__")))
    (g1_Plus : PySem.W.plainGet K c_Plus Str.empty = true)
    (g2_Plus : PySem.W.hasDictIn K c_Plus = true)
    (g3_Plus : PySem.W.plainOver K c_Plus = true)
    (g4_Plus : PySem.W.findIn K (.ref c_Plus) "__setattr__" = some (some (.builtin "object.__setattr__")))
    (g1_Round : PySem.W.plainGet K c_Round Str.empty = true)
    (g2_Round : PySem.W.hasDictIn K c_Round = true)
    (g3_Round : PySem.W.plainOver K c_Round = true)
    (g4_Round : PySem.W.findIn K (.ref c_Round) "__setattr__" = some (some (.builtin "object.__setattr__")))
    (g1_Test : PySem.W.plainGet K c_Test Str.empty = true)
    (g2_Test : PySem.W.hasDictIn K c_Test = true)
    (g3_Test : PySem.W.plainOver K c_Test = true)
    (g4_Test : PySem.W.findIn K (.ref c_Test) "__setattr__" = some (some (.builtin "object.__setattr__")))
    (g1_Times : PySem.W.plainGet K c_Times Str.empty = true)
    (g2_Times : PySem.W.hasDictIn K c_Times = true)
    (g3_Times : PySem.W.plainOver K c_Times = true)
    (g4_Times : PySem.W.findIn K (.ref c_Times) "__setattr__" = some (some (.builtin "object.__setattr__")))
    (g1_Total : PySem.W.plainGet K c_Total Str.empty = true)
    (g2_Total : PySem.W.hasDictIn K c_Total = true)
    (g3_Total : PySem.W.plainOver K c_Total = true)
    (g4_Total : PySem.W.findIn K (.ref c_Total) "__setattr__" = some (some (.builtin "object.__setattr__")))
    (g1_Value : PySem.W.plainGet K c_Value Str.empty = true)
    (g2_Value : PySem.W.hasDictIn K c_Value = true)
    (g3_Value : PySem.W.plainOver K c_Value = true)
    (g4_Value : PySem.W.findIn K (.ref c_Value) "__setattr__" = some (some (.builtin "object.__setattr__")))
    (g5_And : PySem.W.makesIn K c_And = true)
    (g6_And : PySem.W.keepIn K (.ref c_And) = true)
    (g5_Divides : PySem.W.makesIn K c_Divides = true)
    (g6_Divides : PySem.W.keepIn K (.ref c_Divides) = true)
    (g5_Form : PySem.W.makesIn K c_Form = true)
    (g6_Form : PySem.W.keepIn K (.ref c_Form) = true)
    (g5_Marks : PySem.W.makesIn K c_Marks = true)
    (g6_Marks : PySem.W.keepIn K (.ref c_Marks) = true)
    (g5_Minus : PySem.W.makesIn K c_Minus = true)
    (g6_Minus : PySem.W.keepIn K (.ref c_Minus) = true)
    (g5_Not : PySem.W.makesIn K c_Not = true)
    (g6_Not : PySem.W.keepIn K (.ref c_Not) = true)
    (g5_Number : PySem.W.makesIn K c_Number = true)
    (g6_Number : PySem.W.keepIn K (.ref c_Number) = true)
    (g5_Or : PySem.W.makesIn K c_Or = true)
    (g6_Or : PySem.W.keepIn K (.ref c_Or) = true)
    (g5_Plus : PySem.W.makesIn K c_Plus = true)
    (g6_Plus : PySem.W.keepIn K (.ref c_Plus) = true)
    (g5_Round : PySem.W.makesIn K c_Round = true)
    (g6_Round : PySem.W.keepIn K (.ref c_Round) = true)
    (g5_Times : PySem.W.makesIn K c_Times = true)
    (g6_Times : PySem.W.keepIn K (.ref c_Times) = true)
    (g5_Total : PySem.W.makesIn K c_Total = true)
    (g6_Total : PySem.W.keepIn K (.ref c_Total) = true)
    (na_And_depth : PySem.W.findIn K (.ref c_And) "depth" = some none)
    (na_And_one : PySem.W.findIn K (.ref c_And) "one" = some none)
    (na_And_other : PySem.W.findIn K (.ref c_And) "other" = some none)
    (na_And_own_parts : PySem.W.findIn K (.ref c_And) "own_parts" = some none)
    (na_And_size : PySem.W.findIn K (.ref c_And) "size" = some none)
    (na_Divides_depth : PySem.W.findIn K (.ref c_Divides) "depth" = some none)
    (na_Divides_number : PySem.W.findIn K (.ref c_Divides) "number" = some none)
    (na_Divides_own_parts : PySem.W.findIn K (.ref c_Divides) "own_parts" = some none)
    (na_Divides_size : PySem.W.findIn K (.ref c_Divides) "size" = some none)
    (na_Form_own_constant : PySem.W.findIn K (.ref c_Form) "own_constant" = some none)
    (na_Form_own_terms : PySem.W.findIn K (.ref c_Form) "own_terms" = some none)
    (na_Marks_depth : PySem.W.findIn K (.ref c_Marks) "depth" = some none)
    (na_Marks_own_parts : PySem.W.findIn K (.ref c_Marks) "own_parts" = some none)
    (na_Marks_size : PySem.W.findIn K (.ref c_Marks) "size" = some none)
    (na_Minus_depth : PySem.W.findIn K (.ref c_Minus) "depth" = some none)
    (na_Minus_one : PySem.W.findIn K (.ref c_Minus) "one" = some none)
    (na_Minus_other : PySem.W.findIn K (.ref c_Minus) "other" = some none)
    (na_Minus_own_parts : PySem.W.findIn K (.ref c_Minus) "own_parts" = some none)
    (na_Minus_size : PySem.W.findIn K (.ref c_Minus) "size" = some none)
    (na_Not_depth : PySem.W.findIn K (.ref c_Not) "depth" = some none)
    (na_Not_one : PySem.W.findIn K (.ref c_Not) "one" = some none)
    (na_Not_own_parts : PySem.W.findIn K (.ref c_Not) "own_parts" = some none)
    (na_Not_size : PySem.W.findIn K (.ref c_Not) "size" = some none)
    (na_Number_depth : PySem.W.findIn K (.ref c_Number) "depth" = some none)
    (na_Number_number : PySem.W.findIn K (.ref c_Number) "number" = some none)
    (na_Number_own_parts : PySem.W.findIn K (.ref c_Number) "own_parts" = some none)
    (na_Number_size : PySem.W.findIn K (.ref c_Number) "size" = some none)
    (na_Or_depth : PySem.W.findIn K (.ref c_Or) "depth" = some none)
    (na_Or_one : PySem.W.findIn K (.ref c_Or) "one" = some none)
    (na_Or_other : PySem.W.findIn K (.ref c_Or) "other" = some none)
    (na_Or_own_parts : PySem.W.findIn K (.ref c_Or) "own_parts" = some none)
    (na_Or_size : PySem.W.findIn K (.ref c_Or) "size" = some none)
    (na_Pair_one : PySem.W.findIn K (.ref c_Pair) "one" = some none)
    (na_Pair_other : PySem.W.findIn K (.ref c_Pair) "other" = some none)
    (na_Plus_depth : PySem.W.findIn K (.ref c_Plus) "depth" = some none)
    (na_Plus_one : PySem.W.findIn K (.ref c_Plus) "one" = some none)
    (na_Plus_other : PySem.W.findIn K (.ref c_Plus) "other" = some none)
    (na_Plus_own_parts : PySem.W.findIn K (.ref c_Plus) "own_parts" = some none)
    (na_Plus_size : PySem.W.findIn K (.ref c_Plus) "size" = some none)
    (na_Round_depth : PySem.W.findIn K (.ref c_Round) "depth" = some none)
    (na_Round_form : PySem.W.findIn K (.ref c_Round) "form" = some none)
    (na_Round_own_parts : PySem.W.findIn K (.ref c_Round) "own_parts" = some none)
    (na_Round_size : PySem.W.findIn K (.ref c_Round) "size" = some none)
    (na_Times_depth : PySem.W.findIn K (.ref c_Times) "depth" = some none)
    (na_Times_one : PySem.W.findIn K (.ref c_Times) "one" = some none)
    (na_Times_other : PySem.W.findIn K (.ref c_Times) "other" = some none)
    (na_Times_own_parts : PySem.W.findIn K (.ref c_Times) "own_parts" = some none)
    (na_Times_size : PySem.W.findIn K (.ref c_Times) "size" = some none)
    (na_Total_depth : PySem.W.findIn K (.ref c_Total) "depth" = some none)
    (na_Total_name : PySem.W.findIn K (.ref c_Total) "name" = some none)
    (na_Total_one : PySem.W.findIn K (.ref c_Total) "one" = some none)
    (na_Total_own_parts : PySem.W.findIn K (.ref c_Total) "own_parts" = some none)
    (na_Total_size : PySem.W.findIn K (.ref c_Total) "size" = some none)
    (na_Value_depth : PySem.W.findIn K (.ref c_Value) "depth" = some none)
    (na_Value_own_parts : PySem.W.findIn K (.ref c_Value) "own_parts" = some none)
    (na_Value_size : PySem.W.findIn K (.ref c_Value) "size" = some none)
    (j1_And : PySem.W.findIn K (.ref c_And) "__class__" = some (some (.builtin "object.__class__")))
    (j2 : PySem.W.specialIn K (.builtin "object.__class__") "__get__" = some (some (.builtin "getset_descriptor.__get__")))
    (j3 : PySem.W.takesIn K (.builtin "object.__class__") = some true)
    (j4_And : PySem.W.mroIn K c_And (.type "object") = some true)
    (j1_Divides : PySem.W.findIn K (.ref c_Divides) "__class__" = some (some (.builtin "object.__class__")))
    (j4_Divides : PySem.W.mroIn K c_Divides (.type "object") = some true)
    (j1_Form : PySem.W.findIn K (.ref c_Form) "__class__" = some (some (.builtin "object.__class__")))
    (j4_Form : PySem.W.mroIn K c_Form (.type "object") = some true)
    (j1_Marks : PySem.W.findIn K (.ref c_Marks) "__class__" = some (some (.builtin "object.__class__")))
    (j4_Marks : PySem.W.mroIn K c_Marks (.type "object") = some true)
    (j1_Minus : PySem.W.findIn K (.ref c_Minus) "__class__" = some (some (.builtin "object.__class__")))
    (j4_Minus : PySem.W.mroIn K c_Minus (.type "object") = some true)
    (j1_Not : PySem.W.findIn K (.ref c_Not) "__class__" = some (some (.builtin "object.__class__")))
    (j4_Not : PySem.W.mroIn K c_Not (.type "object") = some true)
    (j1_Number : PySem.W.findIn K (.ref c_Number) "__class__" = some (some (.builtin "object.__class__")))
    (j4_Number : PySem.W.mroIn K c_Number (.type "object") = some true)
    (j1_Or : PySem.W.findIn K (.ref c_Or) "__class__" = some (some (.builtin "object.__class__")))
    (j4_Or : PySem.W.mroIn K c_Or (.type "object") = some true)
    (j1_Plus : PySem.W.findIn K (.ref c_Plus) "__class__" = some (some (.builtin "object.__class__")))
    (j4_Plus : PySem.W.mroIn K c_Plus (.type "object") = some true)
    (j1_Round : PySem.W.findIn K (.ref c_Round) "__class__" = some (some (.builtin "object.__class__")))
    (j4_Round : PySem.W.mroIn K c_Round (.type "object") = some true)
    (j1_Times : PySem.W.findIn K (.ref c_Times) "__class__" = some (some (.builtin "object.__class__")))
    (j4_Times : PySem.W.mroIn K c_Times (.type "object") = some true)
    (j1_Total : PySem.W.findIn K (.ref c_Total) "__class__" = some (some (.builtin "object.__class__")))
    (j4_Total : PySem.W.mroIn K c_Total (.type "object") = some true)
    (kt_Test : PySem.W.typeIn K (.ref c_Test) = some (.type "type"))
    (kc_Test : PySem.W.isClsIn K c_Test = true)
    (ks_And_Test : PySem.W.subIn K (.ref c_And) (.ref c_Test) = some true)
    (kn_And_Test : (Value.ref c_And == Value.ref c_Test) = false)
    (kt_Value : PySem.W.typeIn K (.ref c_Value) = some (.type "type"))
    (kc_Value : PySem.W.isClsIn K c_Value = true)
    (ks_And_Value : PySem.W.subIn K (.ref c_And) (.ref c_Value) = some true)
    (kn_And_Value : (Value.ref c_And == Value.ref c_Value) = false)
    (ks_Divides_Test : PySem.W.subIn K (.ref c_Divides) (.ref c_Test) = some true)
    (kn_Divides_Test : (Value.ref c_Divides == Value.ref c_Test) = false)
    (ks_Divides_Value : PySem.W.subIn K (.ref c_Divides) (.ref c_Value) = some true)
    (kn_Divides_Value : (Value.ref c_Divides == Value.ref c_Value) = false)
    (ks_Marks_Test : PySem.W.subIn K (.ref c_Marks) (.ref c_Test) = some false)
    (kn_Marks_Test : (Value.ref c_Marks == Value.ref c_Test) = false)
    (ks_Marks_Value : PySem.W.subIn K (.ref c_Marks) (.ref c_Value) = some true)
    (kn_Marks_Value : (Value.ref c_Marks == Value.ref c_Value) = false)
    (ks_Minus_Test : PySem.W.subIn K (.ref c_Minus) (.ref c_Test) = some false)
    (kn_Minus_Test : (Value.ref c_Minus == Value.ref c_Test) = false)
    (ks_Minus_Value : PySem.W.subIn K (.ref c_Minus) (.ref c_Value) = some true)
    (kn_Minus_Value : (Value.ref c_Minus == Value.ref c_Value) = false)
    (ks_NoneType_Test : PySem.W.subIn K (.type "NoneType") (.ref c_Test) = some false)
    (ks_NoneType_Value : PySem.W.subIn K (.type "NoneType") (.ref c_Value) = some false)
    (ks_Not_Test : PySem.W.subIn K (.ref c_Not) (.ref c_Test) = some true)
    (kn_Not_Test : (Value.ref c_Not == Value.ref c_Test) = false)
    (ks_Not_Value : PySem.W.subIn K (.ref c_Not) (.ref c_Value) = some true)
    (kn_Not_Value : (Value.ref c_Not == Value.ref c_Value) = false)
    (ks_Number_Test : PySem.W.subIn K (.ref c_Number) (.ref c_Test) = some false)
    (kn_Number_Test : (Value.ref c_Number == Value.ref c_Test) = false)
    (ks_Number_Value : PySem.W.subIn K (.ref c_Number) (.ref c_Value) = some true)
    (kn_Number_Value : (Value.ref c_Number == Value.ref c_Value) = false)
    (ks_Or_Test : PySem.W.subIn K (.ref c_Or) (.ref c_Test) = some true)
    (kn_Or_Test : (Value.ref c_Or == Value.ref c_Test) = false)
    (ks_Or_Value : PySem.W.subIn K (.ref c_Or) (.ref c_Value) = some true)
    (kn_Or_Value : (Value.ref c_Or == Value.ref c_Value) = false)
    (ks_Plus_Test : PySem.W.subIn K (.ref c_Plus) (.ref c_Test) = some false)
    (kn_Plus_Test : (Value.ref c_Plus == Value.ref c_Test) = false)
    (ks_Plus_Value : PySem.W.subIn K (.ref c_Plus) (.ref c_Value) = some true)
    (kn_Plus_Value : (Value.ref c_Plus == Value.ref c_Value) = false)
    (ks_Round_Test : PySem.W.subIn K (.ref c_Round) (.ref c_Test) = some true)
    (kn_Round_Test : (Value.ref c_Round == Value.ref c_Test) = false)
    (ks_Round_Value : PySem.W.subIn K (.ref c_Round) (.ref c_Value) = some true)
    (kn_Round_Value : (Value.ref c_Round == Value.ref c_Value) = false)
    (ks_Times_Test : PySem.W.subIn K (.ref c_Times) (.ref c_Test) = some false)
    (kn_Times_Test : (Value.ref c_Times == Value.ref c_Test) = false)
    (ks_Times_Value : PySem.W.subIn K (.ref c_Times) (.ref c_Value) = some true)
    (kn_Times_Value : (Value.ref c_Times == Value.ref c_Value) = false)
    (ks_Total_Test : PySem.W.subIn K (.ref c_Total) (.ref c_Test) = some false)
    (kn_Total_Test : (Value.ref c_Total == Value.ref c_Test) = false)
    (ks_Total_Value : PySem.W.subIn K (.ref c_Total) (.ref c_Value) = some true)
    (kn_Total_Value : (Value.ref c_Total == Value.ref c_Value) = false)
    (ks_bool_Test : PySem.W.subIn K (.type "bool") (.ref c_Test) = some false)
    (ks_bool_Value : PySem.W.subIn K (.type "bool") (.ref c_Value) = some false)
    (ks_dict_Test : PySem.W.subIn K (.type "dict") (.ref c_Test) = some false)
    (ks_dict_Value : PySem.W.subIn K (.type "dict") (.ref c_Value) = some false)
    (ks_int_Test : PySem.W.subIn K (.type "int") (.ref c_Test) = some false)
    (ks_int_Value : PySem.W.subIn K (.type "int") (.ref c_Value) = some false)
    (ks_list_Test : PySem.W.subIn K (.type "list") (.ref c_Test) = some false)
    (ks_list_Value : PySem.W.subIn K (.type "list") (.ref c_Value) = some false)
    (ks_str_Test : PySem.W.subIn K (.type "str") (.ref c_Test) = some false)
    (ks_str_Value : PySem.W.subIn K (.type "str") (.ref c_Value) = some false)
    (ks_tuple_Test : PySem.W.subIn K (.type "tuple") (.ref c_Test) = some false)
    (ks_tuple_Value : PySem.W.subIn K (.type "tuple") (.ref c_Value) = some false)
    : ∃ (fd : FuncData) (Ts : List (Addr × Addr)), (∀ p ∈ Ts, p.2 ∈ ts ∧ PySem.W.codeHdIn K p.1 p.2 = true ∧ K.lookup p.2 = none) ∧ (Ts.map (·.2)).Nodup ∧ (∀ (s : Shared) (u : Value), BindsTo s fd ⟨[u], []⟩ [("_law_script", u)]) ∧ ∀ base : Heap, K.In base → base.Ns mainGlobals mg → (∀ p ∈ Ts, LamX.TabB base mg p.1 p.2) → FnG P w K mg base CX0 16 fa fd ["_law_script"] (spL K Ts) := by
  have e := hfa.symm.trans (PySem.W.mg_of X G a_law)
  cases e
  have F_is_whole := fun_mk (st := s_is_whole) l_is_whole c_is_whole k_is_whole
  have F_is_number := fun_mk (st := s_is_number) l_is_number c_is_number k_is_number
  have F_need_number := fun_mk (st := s_need_number) l_need_number c_need_number k_need_number
  have F_is_name := fun_mk (st := s_is_name) l_is_name c_is_name k_is_name
  have F_is_term := fun_mk (st := s_is_term) l_is_term c_is_term k_is_term
  have F_gathered_terms := fun_mk (st := s_gathered_terms) l_gathered_terms c_gathered_terms k_gathered_terms
  have F_Form_init : FunE K "__init__" "Form.__init__" s_Form_init f_Form_init (PySem.W.fnOf "__init__" "Form.__init__" (defArgs s_Form_init) (defBody s_Form_init) (defScope s_Form_init) (.ref dT_Form_init) kV_Form_init dc_Form_init pm_Form_init an_Form_init cd_Form_init ct_Form_init) := ⟨⟨_, _, _, _, _, _, _, _, _, _, rfl, l_Form_init, c_Form_init⟩, k_Form_init⟩
  have F_Form_constant := fun_mk (st := s_Form_constant) l_Form_constant c_Form_constant k_Form_constant
  have F_Form_terms := fun_mk (st := s_Form_terms) l_Form_terms c_Form_terms k_Form_terms
  have F_is_small := fun_mk (st := s_is_small) l_is_small c_is_small k_is_small
  have F_Value_take := fun_mk (st := s_Value_take) l_Value_take c_Value_take k_Value_take
  have F_Value_init := fun_mk (st := s_Value_init) l_Value_init c_Value_init k_Value_init
  have F_need_tests := fun_mk (st := s_need_tests) l_need_tests c_need_tests k_need_tests
  have F_law_bag := fun_mk (st := s_law_bag) l_law_bag c_law_bag k_law_bag
  have F_law_draw := fun_mk (st := s_law_draw) l_law_draw c_law_draw k_law_draw
  have F_law_any := fun_mk (st := s_law_any) l_law_any c_law_any k_law_any
  have F_law_same := fun_mk (st := s_law_same) l_law_same c_law_same k_law_same
  have F_law_field := fun_mk (st := s_law_field) l_law_field c_law_field k_law_field
  have F_law_got := fun_mk (st := s_law_got) l_law_got c_law_got k_law_got
  have F_law_all_got := fun_mk (st := s_law_all_got) l_law_all_got c_law_all_got k_law_all_got
  have F_law_tests_so := fun_mk (st := s_law_tests_so) l_law_tests_so c_law_tests_so k_law_tests_so
  have F_law := fun_mk (st := s_law) l_law c_law k_law
  have cl_And : Cls K c_And := ⟨g1_And, g2_And, g3_And, g4_And⟩
  have cl_Divides : Cls K c_Divides := ⟨g1_Divides, g2_Divides, g3_Divides, g4_Divides⟩
  have cl_Form : Cls K c_Form := ⟨g1_Form, g2_Form, g3_Form, g4_Form⟩
  have cl_Marks : Cls K c_Marks := ⟨g1_Marks, g2_Marks, g3_Marks, g4_Marks⟩
  have cl_Minus : Cls K c_Minus := ⟨g1_Minus, g2_Minus, g3_Minus, g4_Minus⟩
  have cl_Not : Cls K c_Not := ⟨g1_Not, g2_Not, g3_Not, g4_Not⟩
  have cl_Number : Cls K c_Number := ⟨g1_Number, g2_Number, g3_Number, g4_Number⟩
  have cl_Or : Cls K c_Or := ⟨g1_Or, g2_Or, g3_Or, g4_Or⟩
  have cl_Pair : Cls K c_Pair := ⟨g1_Pair, g2_Pair, g3_Pair, g4_Pair⟩
  have cl_Plus : Cls K c_Plus := ⟨g1_Plus, g2_Plus, g3_Plus, g4_Plus⟩
  have cl_Round : Cls K c_Round := ⟨g1_Round, g2_Round, g3_Round, g4_Round⟩
  have cl_Test : Cls K c_Test := ⟨g1_Test, g2_Test, g3_Test, g4_Test⟩
  have cl_Times : Cls K c_Times := ⟨g1_Times, g2_Times, g3_Times, g4_Times⟩
  have cl_Total : Cls K c_Total := ⟨g1_Total, g2_Total, g3_Total, g4_Total⟩
  have cl_Value : Cls K c_Value := ⟨g1_Value, g2_Value, g3_Value, g4_Value⟩
  have ox_InvalidNumber : OexG K c_InvalidNumber "ValueError.__new__" PySem.HandSPX.veTail := ⟨(by obtain ⟨_, _, _, _, _, _, _, _, _, _, _, _, _, _, _, h1, h2⟩ := xk_InvalidNumber; exact ⟨_, _, _, _, _, _, _, _, _, _, _, _, _, _, _, h1, refs_by h2⟩), xs_InvalidNumber, xb_InvalidNumber, xt_InvalidNumber, xq_InvalidNumber⟩
  have ox_InvalidName : OexG K c_InvalidName "ValueError.__new__" PySem.HandSPX.veTail := ⟨(by obtain ⟨_, _, _, _, _, _, _, _, _, _, _, _, _, _, _, h1, h2⟩ := xk_InvalidName; exact ⟨_, _, _, _, _, _, _, _, _, _, _, _, _, _, _, h1, refs_by h2⟩), xs_InvalidName, xb_InvalidName, xt_InvalidName, xq_InvalidName⟩
  have ox_InvalidForm : OexG K c_InvalidForm "ValueError.__new__" PySem.HandSPX.veTail := ⟨(by obtain ⟨_, _, _, _, _, _, _, _, _, _, _, _, _, _, _, h1, h2⟩ := xk_InvalidForm; exact ⟨_, _, _, _, _, _, _, _, _, _, _, _, _, _, _, h1, refs_by h2⟩), xs_InvalidForm, xb_InvalidForm, xt_InvalidForm, xq_InvalidForm⟩
  have ox_InvalidTest : OexG K c_InvalidTest "ValueError.__new__" PySem.HandSPX.veTail := ⟨(by obtain ⟨_, _, _, _, _, _, _, _, _, _, _, _, _, _, _, h1, h2⟩ := xk_InvalidTest; exact ⟨_, _, _, _, _, _, _, _, _, _, _, _, _, _, _, h1, refs_by h2⟩), xs_InvalidTest, xb_InvalidTest, xt_InvalidTest, xq_InvalidTest⟩
  have ox_InvalidValue : OexG K c_InvalidValue "ValueError.__new__" PySem.HandSPX.veTail := ⟨(by obtain ⟨_, _, _, _, _, _, _, _, _, _, _, _, _, _, _, h1, h2⟩ := xk_InvalidValue; exact ⟨_, _, _, _, _, _, _, _, _, _, _, _, _, _, _, h1, refs_by h2⟩), xs_InvalidValue, xb_InvalidValue, xt_InvalidValue, xq_InvalidValue⟩
  have ox_TooMany : OexG K c_TooMany "ValueError.__new__" PySem.HandSPX.veTail := ⟨(by obtain ⟨_, _, _, _, _, _, _, _, _, _, _, _, _, _, _, h1, h2⟩ := xk_TooMany; exact ⟨_, _, _, _, _, _, _, _, _, _, _, _, _, _, _, h1, refs_by h2⟩), xs_TooMany, xb_TooMany, xt_TooMany, xq_TooMany⟩
  have ox_TooDeep : OexG K c_TooDeep "ValueError.__new__" PySem.HandSPX.veTail := ⟨(by obtain ⟨_, _, _, _, _, _, _, _, _, _, _, _, _, _, _, h1, h2⟩ := xk_TooDeep; exact ⟨_, _, _, _, _, _, _, _, _, _, _, _, _, _, _, h1, refs_by h2⟩), xs_TooDeep, xb_TooDeep, xt_TooDeep, xq_TooDeep⟩
  subst tl_cd
  subst tb_cd
  have T : Txt P K mg ⟨f_is_whole, PySem.W.fnOf "is_whole" "is_whole" (defArgs s_is_whole) (defBody s_is_whole) (defScope s_is_whole) .none kV_is_whole dc_is_whole pm_is_whole an_is_whole cd_is_whole ct_is_whole, f_is_number, PySem.W.fnOf "is_number" "is_number" (defArgs s_is_number) (defBody s_is_number) (defScope s_is_number) .none kV_is_number dc_is_number pm_is_number an_is_number cd_is_number ct_is_number, f_need_number, PySem.W.fnOf "need_number" "need_number" (defArgs s_need_number) (defBody s_need_number) (defScope s_need_number) .none kV_need_number dc_need_number pm_need_number an_need_number cd_need_number ct_need_number, f_is_name, PySem.W.fnOf "is_name" "is_name" (defArgs s_is_name) (defBody s_is_name) (defScope s_is_name) .none kV_is_name dc_is_name pm_is_name an_is_name cd_is_name ct_is_name, f_is_term, PySem.W.fnOf "is_term" "is_term" (defArgs s_is_term) (defBody s_is_term) (defScope s_is_term) .none kV_is_term dc_is_term pm_is_term an_is_term cd_is_term ct_is_term, f_gathered_terms, PySem.W.fnOf "gathered_terms" "gathered_terms" (defArgs s_gathered_terms) (defBody s_gathered_terms) (defScope s_gathered_terms) .none kV_gathered_terms dc_gathered_terms pm_gathered_terms an_gathered_terms cd_gathered_terms ct_gathered_terms, f_Form_init, PySem.W.fnOf "__init__" "Form.__init__" (defArgs s_Form_init) (defBody s_Form_init) (defScope s_Form_init) (.ref dT_Form_init) kV_Form_init dc_Form_init pm_Form_init an_Form_init cd_Form_init ct_Form_init, f_Form_constant, PySem.W.fnOf "constant" "Form.constant" (defArgs s_Form_constant) (defBody s_Form_constant) (defScope s_Form_constant) .none kV_Form_constant dc_Form_constant pm_Form_constant an_Form_constant cd_Form_constant ct_Form_constant, f_Form_terms, PySem.W.fnOf "terms" "Form.terms" (defArgs s_Form_terms) (defBody s_Form_terms) (defScope s_Form_terms) .none kV_Form_terms dc_Form_terms pm_Form_terms an_Form_terms cd_Form_terms ct_Form_terms, f_is_small, PySem.W.fnOf "is_small" "is_small" (defArgs s_is_small) (defBody s_is_small) (defScope s_is_small) .none kV_is_small dc_is_small pm_is_small an_is_small cd_is_small ct_is_small, f_Value_take, PySem.W.fnOf "take" "Value.take" (defArgs s_Value_take) (defBody s_Value_take) (defScope s_Value_take) .none kV_Value_take dc_Value_take pm_Value_take an_Value_take cd_Value_take ct_Value_take, f_Value_init, PySem.W.fnOf "__init__" "Value.__init__" (defArgs s_Value_init) (defBody s_Value_init) (defScope s_Value_init) .none kV_Value_init dc_Value_init pm_Value_init an_Value_init cd_Value_init ct_Value_init, f_Number_init, PySem.W.fnX "__init__" "Number.__init__" (defArgs s_Number_init) (defBody s_Number_init) (defScope s_Number_init) [(("__class__" : Str), cs_Number)] .none kV_Number_init dc_Number_init pm_Number_init an_Number_init (.ref ks_Number) ct_Number_init, f_Pair_init, PySem.W.fnX "__init__" "Pair.__init__" (defArgs s_Pair_init) (defBody s_Pair_init) (defScope s_Pair_init) [(("__class__" : Str), cs_Pair)] .none kV_Pair_init dc_Pair_init pm_Pair_init an_Pair_init (.ref ks_Pair) ct_Pair_init, f_Total_init, PySem.W.fnX "__init__" "Total.__init__" (defArgs s_Total_init) (defBody s_Total_init) (defScope s_Total_init) [(("__class__" : Str), cs_Total)] .none kV_Total_init dc_Total_init pm_Total_init an_Total_init (.ref ks_Total) ct_Total_init, f_need_tests, PySem.W.fnOf "need_tests" "need_tests" (defArgs s_need_tests) (defBody s_need_tests) (defScope s_need_tests) .none kV_need_tests dc_need_tests pm_need_tests an_need_tests cd_need_tests ct_need_tests, f_Round_init, PySem.W.fnX "__init__" "Round.__init__" (defArgs s_Round_init) (defBody s_Round_init) (defScope s_Round_init) [(("__class__" : Str), cs_Round)] .none kV_Round_init dc_Round_init pm_Round_init an_Round_init (.ref ks_Round) ct_Round_init, f_Divides_init, PySem.W.fnX "__init__" "Divides.__init__" (defArgs s_Divides_init) (defBody s_Divides_init) (defScope s_Divides_init) [(("__class__" : Str), cs_Divides)] .none kV_Divides_init dc_Divides_init pm_Divides_init an_Divides_init (.ref ks_Divides) ct_Divides_init, f_Not_init, PySem.W.fnX "__init__" "Not.__init__" (defArgs s_Not_init) (defBody s_Not_init) (defScope s_Not_init) [(("__class__" : Str), cs_Not)] .none kV_Not_init dc_Not_init pm_Not_init an_Not_init (.ref ks_Not) ct_Not_init, f_And_init, PySem.W.fnX "__init__" "And.__init__" (defArgs s_And_init) (defBody s_And_init) (defScope s_And_init) [(("__class__" : Str), cs_And)] .none kV_And_init dc_And_init pm_And_init an_And_init (.ref ks_And) ct_And_init, f_Or_init, PySem.W.fnX "__init__" "Or.__init__" (defArgs s_Or_init) (defBody s_Or_init) (defScope s_Or_init) [(("__class__" : Str), cs_Or)] .none kV_Or_init dc_Or_init pm_Or_init an_Or_init (.ref ks_Or) ct_Or_init, f_law_bag, PySem.W.fnOf "_law_bag" "_law_bag" (defArgs s_law_bag) (defBody s_law_bag) (defScope s_law_bag) .none kV_law_bag dc_law_bag pm_law_bag an_law_bag cd_law_bag ct_law_bag, f_law_draw, PySem.W.fnOf "_law_draw" "_law_draw" (defArgs s_law_draw) (defBody s_law_draw) (defScope s_law_draw) .none kV_law_draw dc_law_draw pm_law_draw an_law_draw cd_law_draw ct_law_draw, f_law_any, PySem.W.fnOf "_law_any" "_law_any" (defArgs s_law_any) (defBody s_law_any) (defScope s_law_any) .none kV_law_any dc_law_any pm_law_any an_law_any cd_law_any ct_law_any, f_law_same, PySem.W.fnOf "_law_same" "_law_same" (defArgs s_law_same) (defBody s_law_same) (defScope s_law_same) .none kV_law_same dc_law_same pm_law_same an_law_same cd_law_same ct_law_same, f_law_field, PySem.W.fnOf "_law_field" "_law_field" (defArgs s_law_field) (defBody s_law_field) (defScope s_law_field) .none kV_law_field dc_law_field pm_law_field an_law_field cd_law_field ct_law_field, f_law_got, PySem.W.fnOf "_law_got" "_law_got" (defArgs s_law_got) (defBody s_law_got) (defScope s_law_got) .none kV_law_got dc_law_got pm_law_got an_law_got cd_law_got ct_law_got, f_law_all_got, PySem.W.fnOf "_law_all_got" "_law_all_got" (defArgs s_law_all_got) (defBody s_law_all_got) (defScope s_law_all_got) .none kV_law_all_got dc_law_all_got pm_law_all_got an_law_all_got cd_law_all_got ct_law_all_got, f_law_tests_so, PySem.W.fnOf "_law_tests_so" "_law_tests_so" (defArgs s_law_tests_so) (defBody s_law_tests_so) (defScope s_law_tests_so) .none kV_law_tests_so dc_law_tests_so pm_law_tests_so an_law_tests_so (.ref cL) ct_law_tests_so, fa, PySem.W.fnOf "law" "law" (defArgs s_law) (defBody s_law) (defScope s_law) .none kV_law dc_law pm_law an_law (.ref cM) ct_law, c_And, c_Divides, c_Form, c_Marks, c_Minus, c_Not, c_Number, c_Or, c_Pair, c_Plus, c_Round, c_Test, c_Times, c_Total, c_Value, p_Form_constant, c_DialError, c_InvalidForm, c_InvalidName, c_InvalidNumber, c_InvalidTest, c_InvalidValue, c_Missing, c_TooDeep, c_TooMany, fx_InvalidNumber, cc_InvalidNumber, kx_InvalidNumber, PySem.W.fnX "__init__" "InvalidNumber.__init__" (defArgs sx_InvalidNumber) (defBody sx_InvalidNumber) (defScope sx_InvalidNumber) [(("__class__" : Str), cc_InvalidNumber)] .none kV_xInvalidNumber dc_xInvalidNumber pm_xInvalidNumber an_xInvalidNumber (.ref kx_InvalidNumber) ct_xInvalidNumber, fx_InvalidName, cc_InvalidName, kx_InvalidName, PySem.W.fnX "__init__" "InvalidName.__init__" (defArgs sx_InvalidName) (defBody sx_InvalidName) (defScope sx_InvalidName) [(("__class__" : Str), cc_InvalidName)] .none kV_xInvalidName dc_xInvalidName pm_xInvalidName an_xInvalidName (.ref kx_InvalidName) ct_xInvalidName, fx_InvalidForm, cc_InvalidForm, kx_InvalidForm, PySem.W.fnX "__init__" "InvalidForm.__init__" (defArgs sx_InvalidForm) (defBody sx_InvalidForm) (defScope sx_InvalidForm) [(("__class__" : Str), cc_InvalidForm)] .none kV_xInvalidForm dc_xInvalidForm pm_xInvalidForm an_xInvalidForm (.ref kx_InvalidForm) ct_xInvalidForm, fx_InvalidTest, cc_InvalidTest, kx_InvalidTest, PySem.W.fnX "__init__" "InvalidTest.__init__" (defArgs sx_InvalidTest) (defBody sx_InvalidTest) (defScope sx_InvalidTest) [(("__class__" : Str), cc_InvalidTest)] .none kV_xInvalidTest dc_xInvalidTest pm_xInvalidTest an_xInvalidTest (.ref kx_InvalidTest) ct_xInvalidTest, fx_InvalidValue, cc_InvalidValue, kx_InvalidValue, PySem.W.fnX "__init__" "InvalidValue.__init__" (defArgs sx_InvalidValue) (defBody sx_InvalidValue) (defScope sx_InvalidValue) [(("__class__" : Str), cc_InvalidValue)] .none kV_xInvalidValue dc_xInvalidValue pm_xInvalidValue an_xInvalidValue (.ref kx_InvalidValue) ct_xInvalidValue, fx_TooMany, cc_TooMany, kx_TooMany, PySem.W.fnX "__init__" "TooMany.__init__" (defArgs sx_TooMany) (defBody sx_TooMany) (defScope sx_TooMany) [(("__class__" : Str), cc_TooMany)] .none kV_xTooMany dc_xTooMany pm_xTooMany an_xTooMany (.ref kx_TooMany) ct_xTooMany, fx_TooDeep, cc_TooDeep, kx_TooDeep, PySem.W.fnX "__init__" "TooDeep.__init__" (defArgs sx_TooDeep) (defBody sx_TooDeep) (defScope sx_TooDeep) [(("__class__" : Str), cc_TooDeep)] .none kV_xTooDeep dc_xTooDeep pm_xTooDeep an_xTooDeep (.ref kx_TooDeep) ct_xTooDeep, cs_Number, ks_Number, cs_Pair, ks_Pair, cs_Total, ks_Total, cs_Round, ks_Round, cs_Divides, ks_Divides, cs_Not, ks_Not, cs_And, ks_And, cs_Or, ks_Or, g_WORDS, e_Form_init_0⟩ := ⟨PySem.W.mg_none_of X G z_abs, PySem.W.mg_none_of X G z_all, PySem.W.mg_none_of X G z_bool, PySem.W.mg_none_of X G z_dict, PySem.W.mg_none_of X G z_enumerate, PySem.W.mg_none_of X G z_int, PySem.W.mg_none_of X G z_isinstance, PySem.W.mg_none_of X G z_len, PySem.W.mg_none_of X G z_list, PySem.W.mg_none_of X G z_max, PySem.W.mg_none_of X G z_range, PySem.W.mg_none_of X G z_repr, PySem.W.mg_none_of X G z_sorted, PySem.W.mg_none_of X G z_str, PySem.W.mg_none_of X G z_sum, PySem.W.mg_none_of X G z_super, PySem.W.mg_none_of X G z_tuple, PySem.W.mg_of X G a_is_whole, F_is_whole, F_is_whole.binds fun _ _ _ _ _ _ us hl => match us, hl with | [_], _ => rfl, PySem.W.mg_of X G a_is_number, F_is_number, F_is_number.binds fun _ _ _ _ _ _ us hl => match us, hl with | [_, _, _], _ => rfl, PySem.W.mg_of X G a_need_number, F_need_number, F_need_number.binds fun _ _ _ _ _ _ us hl => match us, hl with | [_, _, _], _ => rfl, PySem.W.mg_of X G a_is_name, F_is_name, F_is_name.binds fun _ _ _ _ _ _ us hl => match us, hl with | [_], _ => rfl, PySem.W.mg_of X G a_is_term, F_is_term, F_is_term.binds fun _ _ _ _ _ _ us hl => match us, hl with | [_], _ => rfl, PySem.W.mg_of X G a_gathered_terms, F_gathered_terms, F_gathered_terms.binds fun _ _ _ _ _ _ us hl => match us, hl with | [_], _ => rfl, F_Form_init, F_Form_constant, F_Form_constant.binds fun _ _ _ _ _ _ us hl => match us, hl with | [_], _ => rfl, F_Form_terms, F_Form_terms.binds fun _ _ _ _ _ _ us hl => match us, hl with | [_], _ => rfl, PySem.W.mg_of X G a_is_small, F_is_small, F_is_small.binds fun _ _ _ _ _ _ us hl => match us, hl with | [_], _ => rfl, F_Value_take, F_Value_take.binds fun _ _ _ _ _ _ us hl => match us, hl with | [_, _], _ => rfl, F_Value_init, bindStar_of (fun _ => rfl) (fun _ _ _ => rfl), ⟨⟨_, _, _, _, _, rfl⟩, ⟨_, _, _, l_Number_init⟩, rfl, xd_Number_init, ⟨_, _, _, xe_Number_init⟩, ⟨_, _, _, _, _, _, xg_Number_init, r4x_Number_init, r5x_Number_init⟩, Option.isSome_iff_exists.mp xa_kNumber_init, z_super, r4x⟩, (fun _ us _ hl => match us, hl with | [_, _], _ => .of_eq rfl), ⟨⟨_, _, _, _, _, rfl⟩, ⟨_, _, _, l_Pair_init⟩, rfl, xd_Pair_init, ⟨_, _, _, xe_Pair_init⟩, ⟨_, _, _, _, _, _, xg_Pair_init, r4x_Pair_init, r5x_Pair_init⟩, Option.isSome_iff_exists.mp xa_kPair_init, z_super, r4x⟩, (fun _ us _ hl => match us, hl with | [_, _, _], _ => .of_eq rfl), ⟨⟨_, _, _, _, _, rfl⟩, ⟨_, _, _, l_Total_init⟩, rfl, xd_Total_init, ⟨_, _, _, xe_Total_init⟩, ⟨_, _, _, _, _, _, xg_Total_init, r4x_Total_init, r5x_Total_init⟩, Option.isSome_iff_exists.mp xa_kTotal_init, z_super, r4x⟩, (fun _ us _ hl => match us, hl with | [_, _, _], _ => .of_eq rfl), PySem.W.mg_of X G a_need_tests, F_need_tests, F_need_tests.binds fun _ _ _ _ _ _ us hl => match us, hl with | [_], _ => rfl, ⟨⟨_, _, _, _, _, rfl⟩, ⟨_, _, _, l_Round_init⟩, rfl, xd_Round_init, ⟨_, _, _, xe_Round_init⟩, ⟨_, _, _, _, _, _, xg_Round_init, r4x_Round_init, r5x_Round_init⟩, Option.isSome_iff_exists.mp xa_kRound_init, z_super, r4x⟩, (fun _ us _ hl => match us, hl with | [_, _], _ => .of_eq rfl), ⟨⟨_, _, _, _, _, rfl⟩, ⟨_, _, _, l_Divides_init⟩, rfl, xd_Divides_init, ⟨_, _, _, xe_Divides_init⟩, ⟨_, _, _, _, _, _, xg_Divides_init, r4x_Divides_init, r5x_Divides_init⟩, Option.isSome_iff_exists.mp xa_kDivides_init, z_super, r4x⟩, (fun _ us _ hl => match us, hl with | [_, _], _ => .of_eq rfl), ⟨⟨_, _, _, _, _, rfl⟩, ⟨_, _, _, l_Not_init⟩, rfl, xd_Not_init, ⟨_, _, _, xe_Not_init⟩, ⟨_, _, _, _, _, _, xg_Not_init, r4x_Not_init, r5x_Not_init⟩, Option.isSome_iff_exists.mp xa_kNot_init, z_super, r4x⟩, (fun _ us _ hl => match us, hl with | [_, _], _ => .of_eq rfl), ⟨⟨_, _, _, _, _, rfl⟩, ⟨_, _, _, l_And_init⟩, rfl, xd_And_init, ⟨_, _, _, xe_And_init⟩, ⟨_, _, _, _, _, _, xg_And_init, r4x_And_init, r5x_And_init⟩, Option.isSome_iff_exists.mp xa_kAnd_init, z_super, r4x⟩, (fun _ us _ hl => match us, hl with | [_, _, _], _ => .of_eq rfl), ⟨⟨_, _, _, _, _, rfl⟩, ⟨_, _, _, l_Or_init⟩, rfl, xd_Or_init, ⟨_, _, _, xe_Or_init⟩, ⟨_, _, _, _, _, _, xg_Or_init, r4x_Or_init, r5x_Or_init⟩, Option.isSome_iff_exists.mp xa_kOr_init, z_super, r4x⟩, (fun _ us _ hl => match us, hl with | [_, _, _], _ => .of_eq rfl), PySem.W.mg_of X G a_law_bag, F_law_bag, F_law_bag.binds fun _ _ _ _ _ _ us hl => match us, hl with | [_], _ => rfl, PySem.W.mg_of X G a_law_draw, F_law_draw, F_law_draw.binds fun _ _ _ _ _ _ us hl => match us, hl with | [_, _], _ => rfl, PySem.W.mg_of X G a_law_any, F_law_any, F_law_any.binds fun _ _ _ _ _ _ us hl => match us, hl with | [_, _], _ => rfl, PySem.W.mg_of X G a_law_same, F_law_same, F_law_same.binds fun _ _ _ _ _ _ us hl => match us, hl with | [_, _], _ => rfl, PySem.W.mg_of X G a_law_field, F_law_field, F_law_field.binds fun _ _ _ _ _ _ us hl => match us, hl with | [_], _ => rfl, PySem.W.mg_of X G a_law_got, F_law_got, F_law_got.binds fun _ _ _ _ _ _ us hl => match us, hl with | [_], _ => rfl, PySem.W.mg_of X G a_law_all_got, F_law_all_got, F_law_all_got.binds fun _ _ _ _ _ _ us hl => match us, hl with | [_], _ => rfl, PySem.W.mg_of X G a_law_tests_so, F_law_tests_so, F_law_tests_so.binds fun _ _ _ _ _ _ us hl => match us, hl with | [], _ => rfl, PySem.W.mg_of X G a_law, F_law, F_law.binds fun _ _ _ _ _ _ us hl => match us, hl with | [_], _ => rfl, ⟨_, PySem.W.mg_of X G ga_MOST_COEF⟩, ⟨_, PySem.W.mg_of X G ga_MOST_CONSTANT⟩, ⟨_, PySem.W.mg_of X G ga_MOST_DEPTH⟩, ⟨_, PySem.W.mg_of X G ga_MOST_DIVISOR⟩, ⟨_, PySem.W.mg_of X G ga_MOST_NAME⟩, ⟨_, PySem.W.mg_of X G ga_MOST_NUMBER⟩, ⟨_, PySem.W.mg_of X G ga_MOST_SIZE⟩, ⟨_, PySem.W.mg_of X G ga_MOST_TERMS⟩, ⟨_, PySem.W.mg_of X G ga_SMALL⟩, PySem.W.mg_of X G ga_WORDS, ⟨⟨_, _, _, gl_WORDS, rfl, rfl, (show 2 ≤ sizeLine by decide), (.cons ⟨_, rfl⟩ (.cons ⟨_, rfl⟩ .nil))⟩, (show 2 ≤ sizeLine by decide), by decide +kernel⟩, ⟨_, _, _, le_Form_init_0, rfl, rfl, by decide, .nil⟩, cb_of fun fs us ws h0 h1 h2 => match fs, us, ws, h0, h1, h2 with | [_], [_, _], [], _, _, _ => rfl, cb_of fun fs us ws h0 h1 h2 => match fs, us, ws, h0, h1, h2 with | [_], [_], [], _, _, _ => rfl, cb_dflt (its := [.ref e_Form_init_0, .int 0 td_Form_init_1]) ld_Form_init rfl (.cons rfl (.cons ⟨_, rfl⟩ .nil)) fun fs us ws h0 h1 h2 => match fs, us, ws, h0, h1, h2 with | [_], [], [], _, _, _ => ⟨_, rfl, rfl⟩, cb_of fun fs us ws h0 h1 h2 => match fs, us, ws, h0, h1, h2 with | [_], [], [], _, _, _ => rfl, cb_of fun fs us ws h0 h1 h2 => match fs, us, ws, h0, h1, h2 with | [_], [_], [], _, _, _ => rfl, cb_of fun fs us ws h0 h1 h2 => match fs, us, ws, h0, h1, h2 with | [_], [_], [], _, _, _ => rfl, cb_of fun fs us ws h0 h1 h2 => match fs, us, ws, h0, h1, h2 with | [_], [_, _], [], _, _, _ => rfl, cb_of fun fs us ws h0 h1 h2 => match fs, us, ws, h0, h1, h2 with | [_], [_, _], [], _, _, _ => rfl, cb_of fun fs us ws h0 h1 h2 => match fs, us, ws, h0, h1, h2 with | [_], [_], [], _, _, _ => rfl, cb_of fun fs us ws h0 h1 h2 => match fs, us, ws, h0, h1, h2 with | [_], [_, _], [], _, _, _ => rfl, cb_of fun fs us ws h0 h1 h2 => match fs, us, ws, h0, h1, h2 with | [], [_], [], _, _, _ => rfl, cb_of fun fs us ws h0 h1 h2 => match fs, us, ws, h0, h1, h2 with | [], [_], [], _, _, _ => rfl, PySem.W.mg_of X G a_And, cl_And, PySem.W.mg_of X G a_Divides, cl_Divides, PySem.W.mg_of X G a_Form, cl_Form, PySem.W.mg_of X G a_Marks, cl_Marks, PySem.W.mg_of X G a_Minus, cl_Minus, PySem.W.mg_of X G a_Not, cl_Not, PySem.W.mg_of X G a_Number, cl_Number, PySem.W.mg_of X G a_Or, cl_Or, PySem.W.mg_of X G a_Pair, cl_Pair, PySem.W.mg_of X G a_Plus, cl_Plus, PySem.W.mg_of X G a_Round, cl_Round, PySem.W.mg_of X G a_Test, cl_Test, PySem.W.mg_of X G a_Times, cl_Times, PySem.W.mg_of X G a_Total, cl_Total, PySem.W.mg_of X G a_Value, cl_Value, ⟨g5_And, a_And_init, i_And_init, g6_And⟩, ⟨g5_Divides, a_Divides_init, i_Divides_init, g6_Divides⟩, ⟨g5_Form, a_Form_init, i_Form_init, g6_Form⟩, ⟨g5_Marks, ih_Marks, i_Value_init, g6_Marks⟩, ⟨g5_Minus, ih_Minus, i_Pair_init, g6_Minus⟩, ⟨g5_Not, a_Not_init, i_Not_init, g6_Not⟩, ⟨g5_Number, a_Number_init, i_Number_init, g6_Number⟩, ⟨g5_Or, a_Or_init, i_Or_init, g6_Or⟩, ⟨g5_Plus, ih_Plus, i_Pair_init, g6_Plus⟩, ⟨g5_Round, a_Round_init, i_Round_init, g6_Round⟩, ⟨g5_Times, ih_Times, i_Pair_init, g6_Times⟩, ⟨g5_Total, a_Total_init, i_Total_init, g6_Total⟩, ⟨am_Number_take, i_Value_take, k_Value_take⟩, ⟨opq, xa_sNumber, xy_vi, fi_vi, xm_sNumber⟩, ⟨am_Marks_take, i_Value_take, k_Value_take⟩, ⟨am_Plus_take, i_Value_take, k_Value_take⟩, ⟨opq, xa_sPlus, xy_vi, fi_vi, xm_sPlus⟩, ⟨am_Minus_take, i_Value_take, k_Value_take⟩, ⟨opq, xa_sMinus, xy_vi, fi_vi, xm_sMinus⟩, ⟨am_Times_take, i_Value_take, k_Value_take⟩, ⟨opq, xa_sTimes, xy_vi, fi_vi, xm_sTimes⟩, ⟨am_Total_take, i_Value_take, k_Value_take⟩, ⟨opq, xa_sTotal, xy_vi, fi_vi, xm_sTotal⟩, ⟨am_Round_take, i_Value_take, k_Value_take⟩, ⟨opq, xa_sRound, xy_vi, fi_vi, xm_sRound⟩, ⟨am_Divides_take, i_Value_take, k_Value_take⟩, ⟨opq, xa_sDivides, xy_vi, fi_vi, xm_sDivides⟩, ⟨am_Not_take, i_Value_take, k_Value_take⟩, ⟨opq, xa_sNot, xy_vi, fi_vi, xm_sNot⟩, ⟨am_And_take, i_Value_take, k_Value_take⟩, ⟨opq, xa_sAnd, xy_vi, fi_vi, xm_sAnd⟩, ⟨am_Or_take, i_Value_take, k_Value_take⟩, ⟨opq, xa_sOr, xy_vi, fi_vi, xm_sOr⟩, na_And_depth, na_And_one, na_And_other, na_And_own_parts, na_And_size, na_Divides_depth, na_Divides_number, na_Divides_own_parts, na_Divides_size, na_Form_own_constant, na_Form_own_terms, na_Marks_depth, na_Marks_own_parts, na_Marks_size, na_Minus_depth, na_Minus_one, na_Minus_other, na_Minus_own_parts, na_Minus_size, na_Not_depth, na_Not_one, na_Not_own_parts, na_Not_size, na_Number_depth, na_Number_number, na_Number_own_parts, na_Number_size, na_Or_depth, na_Or_one, na_Or_other, na_Or_own_parts, na_Or_size, na_Pair_one, na_Pair_other, na_Plus_depth, na_Plus_one, na_Plus_other, na_Plus_own_parts, na_Plus_size, na_Round_depth, na_Round_form, na_Round_own_parts, na_Round_size, na_Times_depth, na_Times_one, na_Times_other, na_Times_own_parts, na_Times_size, na_Total_depth, na_Total_name, na_Total_one, na_Total_own_parts, na_Total_size, na_Value_depth, na_Value_own_parts, na_Value_size, ⟨a_Form_terms, i_Form_terms, k_Form_terms⟩, ⟨pa_Form_constant, pg_Form_constant, pt_Form_constant, _, pr_Form_constant⟩, ⟨cl_And, j1_And, j2, j3, j4_And, kit_refl⟩, ⟨cl_Divides, j1_Divides, j2, j3, j4_Divides, kit_refl⟩, ⟨cl_Form, j1_Form, j2, j3, j4_Form, kit_refl⟩, ⟨cl_Marks, j1_Marks, j2, j3, j4_Marks, kit_refl⟩, ⟨cl_Minus, j1_Minus, j2, j3, j4_Minus, kit_refl⟩, ⟨cl_Not, j1_Not, j2, j3, j4_Not, kit_refl⟩, ⟨cl_Number, j1_Number, j2, j3, j4_Number, kit_refl⟩, ⟨cl_Or, j1_Or, j2, j3, j4_Or, kit_refl⟩, ⟨cl_Plus, j1_Plus, j2, j3, j4_Plus, kit_refl⟩, ⟨cl_Round, j1_Round, j2, j3, j4_Round, kit_refl⟩, ⟨cl_Times, j1_Times, j2, j3, j4_Times, kit_refl⟩, ⟨cl_Total, j1_Total, j2, j3, j4_Total, kit_refl⟩, kit_down kt_Test kc_Test ks_And_Test kn_And_Test, kit_down kt_Value kc_Value ks_And_Value kn_And_Value, kit_down kt_Test kc_Test ks_Divides_Test kn_Divides_Test, kit_down kt_Value kc_Value ks_Divides_Value kn_Divides_Value, kit_refl, kit_down kt_Test kc_Test ks_Marks_Test kn_Marks_Test, kit_down kt_Value kc_Value ks_Marks_Value kn_Marks_Value, kit_down kt_Test kc_Test ks_Minus_Test kn_Minus_Test, kit_down kt_Value kc_Value ks_Minus_Value kn_Minus_Value, kit_down kt_Test kc_Test ks_NoneType_Test (Bool.eq_false_iff.mpr fun h => by cases beq_iff_eq.mp h), kit_down kt_Value kc_Value ks_NoneType_Value (Bool.eq_false_iff.mpr fun h => by cases beq_iff_eq.mp h), kit_down kt_Test kc_Test ks_Not_Test kn_Not_Test, kit_down kt_Value kc_Value ks_Not_Value kn_Not_Value, kit_down kt_Test kc_Test ks_Number_Test kn_Number_Test, kit_down kt_Value kc_Value ks_Number_Value kn_Number_Value, kit_down kt_Test kc_Test ks_Or_Test kn_Or_Test, kit_down kt_Value kc_Value ks_Or_Value kn_Or_Value, kit_down kt_Test kc_Test ks_Plus_Test kn_Plus_Test, kit_down kt_Value kc_Value ks_Plus_Value kn_Plus_Value, kit_down kt_Test kc_Test ks_Round_Test kn_Round_Test, kit_down kt_Value kc_Value ks_Round_Value kn_Round_Value, kit_down kt_Test kc_Test ks_Times_Test kn_Times_Test, kit_down kt_Value kc_Value ks_Times_Value kn_Times_Value, kit_down kt_Test kc_Test ks_Total_Test kn_Total_Test, kit_down kt_Value kc_Value ks_Total_Value kn_Total_Value, kit_down kt_Test kc_Test ks_bool_Test (Bool.eq_false_iff.mpr fun h => by cases beq_iff_eq.mp h), kit_down kt_Value kc_Value ks_bool_Value (Bool.eq_false_iff.mpr fun h => by cases beq_iff_eq.mp h), kit_down kt_Test kc_Test ks_dict_Test (Bool.eq_false_iff.mpr fun h => by cases beq_iff_eq.mp h), kit_down kt_Value kc_Value ks_dict_Value (Bool.eq_false_iff.mpr fun h => by cases beq_iff_eq.mp h), kit_down kt_Test kc_Test ks_int_Test (Bool.eq_false_iff.mpr fun h => by cases beq_iff_eq.mp h), kit_down kt_Value kc_Value ks_int_Value (Bool.eq_false_iff.mpr fun h => by cases beq_iff_eq.mp h), kit_down kt_Test kc_Test ks_list_Test (Bool.eq_false_iff.mpr fun h => by cases beq_iff_eq.mp h), kit_down kt_Value kc_Value ks_list_Value (Bool.eq_false_iff.mpr fun h => by cases beq_iff_eq.mp h), kit_down kt_Test kc_Test ks_str_Test (Bool.eq_false_iff.mpr fun h => by cases beq_iff_eq.mp h), kit_down kt_Value kc_Value ks_str_Value (Bool.eq_false_iff.mpr fun h => by cases beq_iff_eq.mp h), kit_down kt_Test kc_Test ks_tuple_Test (Bool.eq_false_iff.mpr fun h => by cases beq_iff_eq.mp h), kit_down kt_Value kc_Value ks_tuple_Value (Bool.eq_false_iff.mpr fun h => by cases beq_iff_eq.mp h), (fun d => match d with | .none => kit_down kt_Test kc_Test ks_NoneType_Test (Bool.eq_false_iff.mpr fun h => by cases beq_iff_eq.mp h) | .bool _ => kit_down kt_Test kc_Test ks_bool_Test (Bool.eq_false_iff.mpr fun h => by cases beq_iff_eq.mp h) | .int _ => kit_down kt_Test kc_Test ks_int_Test (Bool.eq_false_iff.mpr fun h => by cases beq_iff_eq.mp h) | .str _ => kit_down kt_Test kc_Test ks_str_Test (Bool.eq_false_iff.mpr fun h => by cases beq_iff_eq.mp h) | .list _ => kit_down kt_Test kc_Test ks_list_Test (Bool.eq_false_iff.mpr fun h => by cases beq_iff_eq.mp h) | .tuple _ => kit_down kt_Test kc_Test ks_tuple_Test (Bool.eq_false_iff.mpr fun h => by cases beq_iff_eq.mp h) | .dict _ => kit_down kt_Test kc_Test ks_dict_Test (Bool.eq_false_iff.mpr fun h => by cases beq_iff_eq.mp h)), (fun d => match d with | .none => kit_down kt_Value kc_Value ks_NoneType_Value (Bool.eq_false_iff.mpr fun h => by cases beq_iff_eq.mp h) | .bool _ => kit_down kt_Value kc_Value ks_bool_Value (Bool.eq_false_iff.mpr fun h => by cases beq_iff_eq.mp h) | .int _ => kit_down kt_Value kc_Value ks_int_Value (Bool.eq_false_iff.mpr fun h => by cases beq_iff_eq.mp h) | .str _ => kit_down kt_Value kc_Value ks_str_Value (Bool.eq_false_iff.mpr fun h => by cases beq_iff_eq.mp h) | .list _ => kit_down kt_Value kc_Value ks_list_Value (Bool.eq_false_iff.mpr fun h => by cases beq_iff_eq.mp h) | .tuple _ => kit_down kt_Value kc_Value ks_tuple_Value (Bool.eq_false_iff.mpr fun h => by cases beq_iff_eq.mp h) | .dict _ => kit_down kt_Value kc_Value ks_dict_Value (Bool.eq_false_iff.mpr fun h => by cases beq_iff_eq.mp h)), PySem.W.mg_of X G a_DialError, PySem.W.mg_of X G a_InvalidForm, PySem.W.mg_of X G a_InvalidName, PySem.W.mg_of X G a_InvalidNumber, PySem.W.mg_of X G a_InvalidTest, PySem.W.mg_of X G a_InvalidValue, PySem.W.mg_of X G a_Missing, PySem.W.mg_of X G a_TooDeep, PySem.W.mg_of X G a_TooMany, ox_InvalidNumber, xi_InvalidNumber, xy_InvalidNumber, ⟨foot_value, ox_InvalidNumber, ⟨_, _, _, _, _, rfl⟩, ⟨_, _, _, xl_InvalidNumber⟩, rfl, xd_InvalidNumber, ⟨_, _, _, xe_InvalidNumber⟩, ⟨_, _, _, _, _, _, xg_InvalidNumber, r4x_InvalidNumber, r5x_InvalidNumber⟩, opq, xa_InvalidNumber, xv_InvalidNumber, xm_InvalidNumber, z_super, r4x⟩, (fun _ us _ hl => match us, hl with | [_, _], _ => .of_eq rfl), xc_InvalidNumber, xn_InvalidNumber, ox_InvalidName, xi_InvalidName, xy_InvalidName, ⟨foot_value, ox_InvalidName, ⟨_, _, _, _, _, rfl⟩, ⟨_, _, _, xl_InvalidName⟩, rfl, xd_InvalidName, ⟨_, _, _, xe_InvalidName⟩, ⟨_, _, _, _, _, _, xg_InvalidName, r4x_InvalidName, r5x_InvalidName⟩, opq, xa_InvalidName, xv_InvalidName, xm_InvalidName, z_super, r4x⟩, (fun _ us _ hl => match us, hl with | [_, _], _ => .of_eq rfl), xc_InvalidName, xn_InvalidName, ox_InvalidForm, xi_InvalidForm, xy_InvalidForm, ⟨foot_value, ox_InvalidForm, ⟨_, _, _, _, _, rfl⟩, ⟨_, _, _, xl_InvalidForm⟩, rfl, xd_InvalidForm, ⟨_, _, _, xe_InvalidForm⟩, ⟨_, _, _, _, _, _, xg_InvalidForm, r4x_InvalidForm, r5x_InvalidForm⟩, opq, xa_InvalidForm, xv_InvalidForm, xm_InvalidForm, z_super, r4x⟩, (fun _ us _ hl => match us, hl with | [_, _], _ => .of_eq rfl), xc_InvalidForm, xn_InvalidForm, ox_InvalidTest, xi_InvalidTest, xy_InvalidTest, ⟨foot_value, ox_InvalidTest, ⟨_, _, _, _, _, rfl⟩, ⟨_, _, _, xl_InvalidTest⟩, rfl, xd_InvalidTest, ⟨_, _, _, xe_InvalidTest⟩, ⟨_, _, _, _, _, _, xg_InvalidTest, r4x_InvalidTest, r5x_InvalidTest⟩, opq, xa_InvalidTest, xv_InvalidTest, xm_InvalidTest, z_super, r4x⟩, (fun _ us _ hl => match us, hl with | [_, _], _ => .of_eq rfl), xc_InvalidTest, xn_InvalidTest, ox_InvalidValue, xi_InvalidValue, xy_InvalidValue, ⟨foot_value, ox_InvalidValue, ⟨_, _, _, _, _, rfl⟩, ⟨_, _, _, xl_InvalidValue⟩, rfl, xd_InvalidValue, ⟨_, _, _, xe_InvalidValue⟩, ⟨_, _, _, _, _, _, xg_InvalidValue, r4x_InvalidValue, r5x_InvalidValue⟩, opq, xa_InvalidValue, xv_InvalidValue, xm_InvalidValue, z_super, r4x⟩, (fun _ us _ hl => match us, hl with | [_, _], _ => .of_eq rfl), xc_InvalidValue, xn_InvalidValue, ox_TooMany, xi_TooMany, xy_TooMany, ⟨foot_value, ox_TooMany, ⟨_, _, _, _, _, rfl⟩, ⟨_, _, _, xl_TooMany⟩, rfl, xd_TooMany, ⟨_, _, _, xe_TooMany⟩, ⟨_, _, _, _, _, _, xg_TooMany, r4x_TooMany, r5x_TooMany⟩, opq, xa_TooMany, xv_TooMany, xm_TooMany, z_super, r4x⟩, (fun _ us _ hl => match us, hl with | [_, _], _ => .of_eq rfl), xc_TooMany, xn_TooMany, ox_TooDeep, xi_TooDeep, xy_TooDeep, ⟨foot_value, ox_TooDeep, ⟨_, _, _, _, _, rfl⟩, ⟨_, _, _, xl_TooDeep⟩, rfl, xd_TooDeep, ⟨_, _, _, xe_TooDeep⟩, ⟨_, _, _, _, _, _, xg_TooDeep, r4x_TooDeep, r5x_TooDeep⟩, opq, xa_TooDeep, xv_TooDeep, xm_TooDeep, z_super, r4x⟩, (fun _ us _ hl => match us, hl with | [_, _], _ => .of_eq rfl), xc_TooDeep, xn_TooDeep, ⟨(fm_cons (xfB_ok xf_InvalidNumber) (fm_cons (xfB_ok xf_InvalidName) (fm_cons (xfB_ok xf_InvalidForm) (fm_cons (xfB_ok xf_InvalidTest) (fm_cons (xfB_ok xf_InvalidValue) (fm_cons (xfB_ok xf_TooMany) (fm_cons (xfB_ok xf_TooDeep) fm_nil))))))), (fm_cons xc_InvalidNumber (fm_cons xc_InvalidName (fm_cons xc_InvalidForm (fm_cons xc_InvalidTest (fm_cons xc_InvalidValue (fm_cons xc_TooMany (fm_cons xc_TooDeep fm_nil))))))), (fm_cons (fun f e => by cases e; exact xn_InvalidNumber) (fm_cons (fun f e => by cases e; exact xn_InvalidName) (fm_cons (fun f e => by cases e; exact xn_InvalidForm) (fm_cons (fun f e => by cases e; exact xn_InvalidTest) (fm_cons (fun f e => by cases e; exact xn_InvalidValue) (fm_cons (fun f e => by cases e; exact xn_TooMany) (fm_cons (fun f e => by cases e; exact xn_TooDeep) fm_nil))))))), (fm_cons ⟨(show (Str.ofString "InvalidNumber").length ≤ sizeLine by decide +kernel), (show PyData.strOk (Str.ofString "InvalidNumber") = true by decide +kernel)⟩ (fm_cons ⟨(show (Str.ofString "InvalidName").length ≤ sizeLine by decide +kernel), (show PyData.strOk (Str.ofString "InvalidName") = true by decide +kernel)⟩ (fm_cons ⟨(show (Str.ofString "InvalidForm").length ≤ sizeLine by decide +kernel), (show PyData.strOk (Str.ofString "InvalidForm") = true by decide +kernel)⟩ (fm_cons ⟨(show (Str.ofString "InvalidTest").length ≤ sizeLine by decide +kernel), (show PyData.strOk (Str.ofString "InvalidTest") = true by decide +kernel)⟩ (fm_cons ⟨(show (Str.ofString "InvalidValue").length ≤ sizeLine by decide +kernel), (show PyData.strOk (Str.ofString "InvalidValue") = true by decide +kernel)⟩ (fm_cons ⟨(show (Str.ofString "TooMany").length ≤ sizeLine by decide +kernel), (show PyData.strOk (Str.ofString "TooMany") = true by decide +kernel)⟩ (fm_cons ⟨(show (Str.ofString "TooDeep").length ≤ sizeLine by decide +kernel), (show PyData.strOk (Str.ofString "TooDeep") = true by decide +kernel)⟩ fm_nil))))))), (fm_cons (show ftb.lookup "InvalidNumber" = some (some ("given" : Str)) by decide +kernel) (fm_cons (show ftb.lookup "InvalidName" = some (some ("given" : Str)) by decide +kernel) (fm_cons (show ftb.lookup "InvalidForm" = some (some ("at" : Str)) by decide +kernel) (fm_cons (show ftb.lookup "InvalidTest" = some (some ("given" : Str)) by decide +kernel) (fm_cons (show ftb.lookup "InvalidValue" = some (some ("given" : Str)) by decide +kernel) (fm_cons (show ftb.lookup "TooMany" = some (some ("most" : Str)) by decide +kernel) (fm_cons (show ftb.lookup "TooDeep" = some (some ("most" : Str)) by decide +kernel) fm_nil)))))))⟩, (fm_cons xx_InvalidNumber (fm_cons xx_InvalidName (fm_cons xx_InvalidForm (fm_cons xx_InvalidTest (fm_cons xx_InvalidValue (fm_cons xx_TooMany (fm_cons xx_TooDeep fm_nil)))))))⟩
  exact ⟨_, [(cL, Tb), (cM, Tl)], (fun p hp => by
    simp only [List.mem_cons, List.not_mem_nil, or_false] at hp
    rcases hp with e | e <;> subst e
    · exact ⟨tb_ts, tb_hd, tb_no⟩
    · exact ⟨tl_ts, tl_hd, tl_no⟩), (by simp [tl_ne]), fun s u => .of_eq rfl, fun base _ _ hTB => ok_law T rfl (hTB _ List.mem_cons_self) rfl (hTB _ (List.mem_cons_of_mem _ List.mem_cons_self))⟩
end K26
open PySem PySem.W PyProof.Rows
set_option maxHeartbeats 0 in
theorem PySem.Challenge.cw_anydial_k26_bounds_of_values_holds : PySem.Challenge.rw_anydial_k26_bounds_of_values.Holds := by
  w_on; o_law
  refine Mi.head_p (r := K26.RR) (q := K26.qv) (loose := K26.looseN) (K := K26.KA.heap_1) (as := K26.KA.2.1) (ts := K26.KA.2.2) (ek := K26.run5) (d := HeadRun.topDef K26.RR.prog 60) (kwd := []) 40000 (by kernel_rfl) (fun s => by kernel_rfl) K26.run1 K26.run2 K26.run3 K26.run4 (by kernel_rfl) (by kernel_rfl) (by kernel_rfl) (by rfl) K26.run6 K26.run7 ⟨rfl, rfl, rfl, rfl, rfl, by decide +kernel⟩ ?hw ?hc
  case hw => w_witness2
  k_fill
  refine Mi.walk_GTs (l := PySem.Challenge.rw_anydial_k26_bounds_of_values) (n := 63) (k := 16) (x := "_law_script") (sp := K26.spL) rfl (by decide) rfl ⟨rfl, by decide, by decide⟩ (fun w h Y => ⟨PySem.W.km_in_of Y, PySem.W.km_tabs_of Y⟩) ?F (fun K H a Ts ns nd hl hT hS => Mi.sp_ts (wf := K26.m_law) nd hl hT hS (K26.law_true ns))
  case F =>
    intro w mg fa h KX G hmg
    refine' K26.all_mk KX G hmg ?a_And ?a_Divides ?a_Form ?a_Marks ?a_Minus ?a_Not ?a_Number ?a_Or ?a_Pair ?a_Plus ?a_Round ?a_Test ?a_Times ?a_Total ?a_Value ?a_is_whole ?l_is_whole ?c_is_whole ?k_is_whole ?a_is_number ?l_is_number ?c_is_number ?k_is_number ?a_need_number ?l_need_number ?c_need_number ?k_need_number ?a_is_name ?l_is_name ?c_is_name ?k_is_name ?a_is_term ?l_is_term ?c_is_term ?k_is_term ?a_gathered_terms ?l_gathered_terms ?c_gathered_terms ?k_gathered_terms ?a_Form_init ?i_Form_init ?l_Form_init ?c_Form_init ?k_Form_init ?ld_Form_init ?pa_Form_constant ?pg_Form_constant ?pt_Form_constant ?pr_Form_constant ?l_Form_constant ?c_Form_constant ?k_Form_constant ?a_Form_terms ?i_Form_terms ?l_Form_terms ?c_Form_terms ?k_Form_terms ?a_is_small ?l_is_small ?c_is_small ?k_is_small ?a_Value_take ?i_Value_take ?l_Value_take ?c_Value_take ?k_Value_take ?a_Value_init ?i_Value_init ?l_Value_init ?c_Value_init ?k_Value_init ?a_Number_init ?i_Number_init ?l_Number_init ?xd_Number_init ?xe_Number_init ?xg_Number_init ?r4x_Number_init ?r5x_Number_init ?xa_kNumber_init ?k_Number_init ?a_Pair_init ?i_Pair_init ?l_Pair_init ?xd_Pair_init ?xe_Pair_init ?xg_Pair_init ?r4x_Pair_init ?r5x_Pair_init ?xa_kPair_init ?k_Pair_init ?a_Total_init ?i_Total_init ?l_Total_init ?xd_Total_init ?xe_Total_init ?xg_Total_init ?r4x_Total_init ?r5x_Total_init ?xa_kTotal_init ?k_Total_init ?a_need_tests ?l_need_tests ?c_need_tests ?k_need_tests ?a_Round_init ?i_Round_init ?l_Round_init ?xd_Round_init ?xe_Round_init ?xg_Round_init ?r4x_Round_init ?r5x_Round_init ?xa_kRound_init ?k_Round_init ?a_Divides_init ?i_Divides_init ?l_Divides_init ?xd_Divides_init ?xe_Divides_init ?xg_Divides_init ?r4x_Divides_init ?r5x_Divides_init ?xa_kDivides_init ?k_Divides_init ?a_Not_init ?i_Not_init ?l_Not_init ?xd_Not_init ?xe_Not_init ?xg_Not_init ?r4x_Not_init ?r5x_Not_init ?xa_kNot_init ?k_Not_init ?a_And_init ?i_And_init ?l_And_init ?xd_And_init ?xe_And_init ?xg_And_init ?r4x_And_init ?r5x_And_init ?xa_kAnd_init ?k_And_init ?a_Or_init ?i_Or_init ?l_Or_init ?xd_Or_init ?xe_Or_init ?xg_Or_init ?r4x_Or_init ?r5x_Or_init ?xa_kOr_init ?k_Or_init ?a_law_bag ?l_law_bag ?c_law_bag ?k_law_bag ?a_law_draw ?l_law_draw ?c_law_draw ?k_law_draw ?a_law_any ?l_law_any ?c_law_any ?k_law_any ?a_law_same ?l_law_same ?c_law_same ?k_law_same ?a_law_field ?l_law_field ?c_law_field ?k_law_field ?a_law_got ?l_law_got ?c_law_got ?k_law_got ?a_law_all_got ?l_law_all_got ?c_law_all_got ?k_law_all_got ?a_law_tests_so ?l_law_tests_so ?c_law_tests_so ?k_law_tests_so ?a_law ?l_law ?c_law ?k_law ?le_Form_init_0 ?ga_MOST_COEF ?ga_MOST_CONSTANT ?ga_MOST_DEPTH ?ga_MOST_DIVISOR ?ga_MOST_NAME ?ga_MOST_NUMBER ?ga_MOST_SIZE ?ga_MOST_TERMS ?ga_SMALL ?ga_WORDS ?gl_WORDS ?a_DialError ?a_InvalidForm ?a_InvalidName ?a_InvalidNumber ?a_InvalidTest ?a_InvalidValue ?a_Missing ?a_TooDeep ?a_TooMany ?xi_InvalidNumber ?xl_InvalidNumber ?xd_InvalidNumber ?xe_InvalidNumber ?xg_InvalidNumber ?r4x_InvalidNumber ?r5x_InvalidNumber ?xk_InvalidNumber ?xs_InvalidNumber ?xb_InvalidNumber ?xt_InvalidNumber ?xq_InvalidNumber ?xf_InvalidNumber ?xa_InvalidNumber ?xv_InvalidNumber ?xm_InvalidNumber ?xy_InvalidNumber ?xc_InvalidNumber ?xn_InvalidNumber ?xx_InvalidNumber ?xi_InvalidName ?xl_InvalidName ?xd_InvalidName ?xe_InvalidName ?xg_InvalidName ?r4x_InvalidName ?r5x_InvalidName ?xk_InvalidName ?xs_InvalidName ?xb_InvalidName ?xt_InvalidName ?xq_InvalidName ?xf_InvalidName ?xa_InvalidName ?xv_InvalidName ?xm_InvalidName ?xy_InvalidName ?xc_InvalidName ?xn_InvalidName ?xx_InvalidName ?xi_InvalidForm ?xl_InvalidForm ?xd_InvalidForm ?xe_InvalidForm ?xg_InvalidForm ?r4x_InvalidForm ?r5x_InvalidForm ?xk_InvalidForm ?xs_InvalidForm ?xb_InvalidForm ?xt_InvalidForm ?xq_InvalidForm ?xf_InvalidForm ?xa_InvalidForm ?xv_InvalidForm ?xm_InvalidForm ?xy_InvalidForm ?xc_InvalidForm ?xn_InvalidForm ?xx_InvalidForm ?xi_InvalidTest ?xl_InvalidTest ?xd_InvalidTest ?xe_InvalidTest ?xg_InvalidTest ?r4x_InvalidTest ?r5x_InvalidTest ?xk_InvalidTest ?xs_InvalidTest ?xb_InvalidTest ?xt_InvalidTest ?xq_InvalidTest ?xf_InvalidTest ?xa_InvalidTest ?xv_InvalidTest ?xm_InvalidTest ?xy_InvalidTest ?xc_InvalidTest ?xn_InvalidTest ?xx_InvalidTest ?xi_InvalidValue ?xl_InvalidValue ?xd_InvalidValue ?xe_InvalidValue ?xg_InvalidValue ?r4x_InvalidValue ?r5x_InvalidValue ?xk_InvalidValue ?xs_InvalidValue ?xb_InvalidValue ?xt_InvalidValue ?xq_InvalidValue ?xf_InvalidValue ?xa_InvalidValue ?xv_InvalidValue ?xm_InvalidValue ?xy_InvalidValue ?xc_InvalidValue ?xn_InvalidValue ?xx_InvalidValue ?xi_TooMany ?xl_TooMany ?xd_TooMany ?xe_TooMany ?xg_TooMany ?r4x_TooMany ?r5x_TooMany ?xk_TooMany ?xs_TooMany ?xb_TooMany ?xt_TooMany ?xq_TooMany ?xf_TooMany ?xa_TooMany ?xv_TooMany ?xm_TooMany ?xy_TooMany ?xc_TooMany ?xn_TooMany ?xx_TooMany ?xi_TooDeep ?xl_TooDeep ?xd_TooDeep ?xe_TooDeep ?xg_TooDeep ?r4x_TooDeep ?r5x_TooDeep ?xk_TooDeep ?xs_TooDeep ?xb_TooDeep ?xt_TooDeep ?xq_TooDeep ?xf_TooDeep ?xa_TooDeep ?xv_TooDeep ?xm_TooDeep ?xy_TooDeep ?xc_TooDeep ?xn_TooDeep ?xx_TooDeep ?opq ?r4x ?xy_vi ?fi_vi ?xa_sNumber ?xm_sNumber ?am_Number_take ?am_Marks_take ?xa_sPlus ?xm_sPlus ?am_Plus_take ?xa_sMinus ?xm_sMinus ?am_Minus_take ?xa_sTimes ?xm_sTimes ?am_Times_take ?xa_sTotal ?xm_sTotal ?am_Total_take ?xa_sRound ?xm_sRound ?am_Round_take ?xa_sDivides ?xm_sDivides ?am_Divides_take ?xa_sNot ?xm_sNot ?am_Not_take ?xa_sAnd ?xm_sAnd ?am_And_take ?xa_sOr ?xm_sOr ?am_Or_take ?ih_Marks ?ih_Minus ?ih_Plus ?ih_Times ?tb_cd ?tb_ts ?tb_hd ?tb_no ?tl_cd ?tl_ts ?tl_hd ?tl_no ?tl_ne ?z_abs ?z_all ?z_bool ?z_dict ?z_enumerate ?z_int ?z_isinstance ?z_len ?z_list ?z_max ?z_range ?z_repr ?z_sorted ?z_str ?z_sum ?z_super ?z_tuple ?g1_And ?g2_And ?g3_And ?g4_And ?g1_Divides ?g2_Divides ?g3_Divides ?g4_Divides ?g1_Form ?g2_Form ?g3_Form ?g4_Form ?g1_Marks ?g2_Marks ?g3_Marks ?g4_Marks ?g1_Minus ?g2_Minus ?g3_Minus ?g4_Minus ?g1_Not ?g2_Not ?g3_Not ?g4_Not ?g1_Number ?g2_Number ?g3_Number ?g4_Number ?g1_Or ?g2_Or ?g3_Or ?g4_Or ?g1_Pair ?g2_Pair ?g3_Pair ?g4_Pair ?g1_Plus ?g2_Plus ?g3_Plus ?g4_Plus ?g1_Round ?g2_Round ?g3_Round ?g4_Round ?g1_Test ?g2_Test ?g3_Test ?g4_Test ?g1_Times ?g2_Times ?g3_Times ?g4_Times ?g1_Total ?g2_Total ?g3_Total ?g4_Total ?g1_Value ?g2_Value ?g3_Value ?g4_Value ?g5_And ?g6_And ?g5_Divides ?g6_Divides ?g5_Form ?g6_Form ?g5_Marks ?g6_Marks ?g5_Minus ?g6_Minus ?g5_Not ?g6_Not ?g5_Number ?g6_Number ?g5_Or ?g6_Or ?g5_Plus ?g6_Plus ?g5_Round ?g6_Round ?g5_Times ?g6_Times ?g5_Total ?g6_Total ?na_And_depth ?na_And_one ?na_And_other ?na_And_own_parts ?na_And_size ?na_Divides_depth ?na_Divides_number ?na_Divides_own_parts ?na_Divides_size ?na_Form_own_constant ?na_Form_own_terms ?na_Marks_depth ?na_Marks_own_parts ?na_Marks_size ?na_Minus_depth ?na_Minus_one ?na_Minus_other ?na_Minus_own_parts ?na_Minus_size ?na_Not_depth ?na_Not_one ?na_Not_own_parts ?na_Not_size ?na_Number_depth ?na_Number_number ?na_Number_own_parts ?na_Number_size ?na_Or_depth ?na_Or_one ?na_Or_other ?na_Or_own_parts ?na_Or_size ?na_Pair_one ?na_Pair_other ?na_Plus_depth ?na_Plus_one ?na_Plus_other ?na_Plus_own_parts ?na_Plus_size ?na_Round_depth ?na_Round_form ?na_Round_own_parts ?na_Round_size ?na_Times_depth ?na_Times_one ?na_Times_other ?na_Times_own_parts ?na_Times_size ?na_Total_depth ?na_Total_name ?na_Total_one ?na_Total_own_parts ?na_Total_size ?na_Value_depth ?na_Value_own_parts ?na_Value_size ?j1_And ?j2 ?j3 ?j4_And ?j1_Divides ?j4_Divides ?j1_Form ?j4_Form ?j1_Marks ?j4_Marks ?j1_Minus ?j4_Minus ?j1_Not ?j4_Not ?j1_Number ?j4_Number ?j1_Or ?j4_Or ?j1_Plus ?j4_Plus ?j1_Round ?j4_Round ?j1_Times ?j4_Times ?j1_Total ?j4_Total ?kt_Test ?kc_Test ?ks_And_Test ?kn_And_Test ?kt_Value ?kc_Value ?ks_And_Value ?kn_And_Value ?ks_Divides_Test ?kn_Divides_Test ?ks_Divides_Value ?kn_Divides_Value ?ks_Marks_Test ?kn_Marks_Test ?ks_Marks_Value ?kn_Marks_Value ?ks_Minus_Test ?kn_Minus_Test ?ks_Minus_Value ?kn_Minus_Value ?ks_NoneType_Test ?ks_NoneType_Value ?ks_Not_Test ?kn_Not_Test ?ks_Not_Value ?kn_Not_Value ?ks_Number_Test ?kn_Number_Test ?ks_Number_Value ?kn_Number_Value ?ks_Or_Test ?kn_Or_Test ?ks_Or_Value ?kn_Or_Value ?ks_Plus_Test ?kn_Plus_Test ?ks_Plus_Value ?kn_Plus_Value ?ks_Round_Test ?kn_Round_Test ?ks_Round_Value ?kn_Round_Value ?ks_Times_Test ?kn_Times_Test ?ks_Times_Value ?kn_Times_Value ?ks_Total_Test ?kn_Total_Test ?ks_Total_Value ?kn_Total_Value ?ks_bool_Test ?ks_bool_Value ?ks_dict_Test ?ks_dict_Value ?ks_int_Test ?ks_int_Value ?ks_list_Test ?ks_list_Value ?ks_str_Test ?ks_str_Value ?ks_tuple_Test ?ks_tuple_Value
    (case a_And => k_is)
    (case a_Divides => k_is)
    (case a_Form => k_is)
    (case a_Marks => k_is)
    (case a_Minus => k_is)
    (case a_Not => k_is)
    (case a_Number => k_is)
    (case a_Or => k_is)
    (case a_Pair => k_is)
    (case a_Plus => k_is)
    (case a_Round => k_is)
    (case a_Test => k_is)
    (case a_Times => k_is)
    (case a_Total => k_is)
    (case a_Value => k_is)
    (case a_is_whole => k_is)
    (case l_is_whole => k_is)
    (case c_is_whole => k_is)
    (case k_is_whole => k_is)
    (case a_is_number => k_is)
    (case l_is_number => k_is)
    (case c_is_number => k_is)
    (case k_is_number => k_is)
    (case a_need_number => k_is)
    (case l_need_number => k_is)
    (case c_need_number => k_is)
    (case k_need_number => k_is)
    (case a_is_name => k_is)
    (case l_is_name => k_is)
    (case c_is_name => k_is)
    (case k_is_name => k_is)
    (case a_is_term => k_is)
    (case l_is_term => k_is)
    (case c_is_term => k_is)
    (case k_is_term => k_is)
    (case a_gathered_terms => k_is)
    (case l_gathered_terms => k_is)
    (case c_gathered_terms => k_is)
    (case k_gathered_terms => k_is)
    (case a_Form_init => k_is)
    (case i_Form_init => k_is)
    (case l_Form_init => k_is)
    (case c_Form_init => k_is)
    (case k_Form_init => k_is)
    (case ld_Form_init => k_is)
    (case pa_Form_constant => k_is)
    (case pg_Form_constant => k_is)
    (case pt_Form_constant => k_is)
    (case pr_Form_constant => k_is)
    (case l_Form_constant => k_is)
    (case c_Form_constant => k_is)
    (case k_Form_constant => k_is)
    (case a_Form_terms => k_is)
    (case i_Form_terms => k_is)
    (case l_Form_terms => k_is)
    (case c_Form_terms => k_is)
    (case k_Form_terms => k_is)
    (case a_is_small => k_is)
    (case l_is_small => k_is)
    (case c_is_small => k_is)
    (case k_is_small => k_is)
    (case a_Value_take => k_is)
    (case i_Value_take => k_is)
    (case l_Value_take => k_is)
    (case c_Value_take => k_is)
    (case k_Value_take => k_is)
    (case a_Value_init => k_is)
    (case i_Value_init => k_is)
    (case l_Value_init => k_is)
    (case c_Value_init => k_is)
    (case k_Value_init => k_is)
    (case a_Number_init => k_is)
    (case i_Number_init => k_is)
    (case l_Number_init => k_is)
    (case xd_Number_init => k_is)
    (case xe_Number_init => k_is)
    (case xg_Number_init => k_is)
    (case r4x_Number_init => rfl)
    (case r5x_Number_init => decide +kernel)
    (case xa_kNumber_init => kernel_rfl)
    (case k_Number_init => k_is)
    (case a_Pair_init => k_is)
    (case i_Pair_init => k_is)
    (case l_Pair_init => k_is)
    (case xd_Pair_init => k_is)
    (case xe_Pair_init => k_is)
    (case xg_Pair_init => k_is)
    (case r4x_Pair_init => rfl)
    (case r5x_Pair_init => decide +kernel)
    (case xa_kPair_init => kernel_rfl)
    (case k_Pair_init => k_is)
    (case a_Total_init => k_is)
    (case i_Total_init => k_is)
    (case l_Total_init => k_is)
    (case xd_Total_init => k_is)
    (case xe_Total_init => k_is)
    (case xg_Total_init => k_is)
    (case r4x_Total_init => rfl)
    (case r5x_Total_init => decide +kernel)
    (case xa_kTotal_init => kernel_rfl)
    (case k_Total_init => k_is)
    (case a_need_tests => k_is)
    (case l_need_tests => k_is)
    (case c_need_tests => k_is)
    (case k_need_tests => k_is)
    (case a_Round_init => k_is)
    (case i_Round_init => k_is)
    (case l_Round_init => k_is)
    (case xd_Round_init => k_is)
    (case xe_Round_init => k_is)
    (case xg_Round_init => k_is)
    (case r4x_Round_init => rfl)
    (case r5x_Round_init => decide +kernel)
    (case xa_kRound_init => kernel_rfl)
    (case k_Round_init => k_is)
    (case a_Divides_init => k_is)
    (case i_Divides_init => k_is)
    (case l_Divides_init => k_is)
    (case xd_Divides_init => k_is)
    (case xe_Divides_init => k_is)
    (case xg_Divides_init => k_is)
    (case r4x_Divides_init => rfl)
    (case r5x_Divides_init => decide +kernel)
    (case xa_kDivides_init => kernel_rfl)
    (case k_Divides_init => k_is)
    (case a_Not_init => k_is)
    (case i_Not_init => k_is)
    (case l_Not_init => k_is)
    (case xd_Not_init => k_is)
    (case xe_Not_init => k_is)
    (case xg_Not_init => k_is)
    (case r4x_Not_init => rfl)
    (case r5x_Not_init => decide +kernel)
    (case xa_kNot_init => kernel_rfl)
    (case k_Not_init => k_is)
    (case a_And_init => k_is)
    (case i_And_init => k_is)
    (case l_And_init => k_is)
    (case xd_And_init => k_is)
    (case xe_And_init => k_is)
    (case xg_And_init => k_is)
    (case r4x_And_init => rfl)
    (case r5x_And_init => decide +kernel)
    (case xa_kAnd_init => kernel_rfl)
    (case k_And_init => k_is)
    (case a_Or_init => k_is)
    (case i_Or_init => k_is)
    (case l_Or_init => k_is)
    (case xd_Or_init => k_is)
    (case xe_Or_init => k_is)
    (case xg_Or_init => k_is)
    (case r4x_Or_init => rfl)
    (case r5x_Or_init => decide +kernel)
    (case xa_kOr_init => kernel_rfl)
    (case k_Or_init => k_is)
    (case a_law_bag => k_is)
    (case l_law_bag => k_is)
    (case c_law_bag => k_is)
    (case k_law_bag => k_is)
    (case a_law_draw => k_is)
    (case l_law_draw => k_is)
    (case c_law_draw => k_is)
    (case k_law_draw => k_is)
    (case a_law_any => k_is)
    (case l_law_any => k_is)
    (case c_law_any => k_is)
    (case k_law_any => k_is)
    (case a_law_same => k_is)
    (case l_law_same => k_is)
    (case c_law_same => k_is)
    (case k_law_same => k_is)
    (case a_law_field => k_is)
    (case l_law_field => k_is)
    (case c_law_field => k_is)
    (case k_law_field => k_is)
    (case a_law_got => k_is)
    (case l_law_got => k_is)
    (case c_law_got => k_is)
    (case k_law_got => k_is)
    (case a_law_all_got => k_is)
    (case l_law_all_got => k_is)
    (case c_law_all_got => k_is)
    (case k_law_all_got => k_is)
    (case a_law_tests_so => k_is)
    (case l_law_tests_so => k_is)
    (case c_law_tests_so => k_is)
    (case k_law_tests_so => k_is)
    (case a_law => k_is)
    (case l_law => k_is)
    (case c_law => k_is)
    (case k_law => k_is)
    (case le_Form_init_0 => k_is)
    (case ga_MOST_COEF => k_is)
    (case ga_MOST_CONSTANT => k_is)
    (case ga_MOST_DEPTH => k_is)
    (case ga_MOST_DIVISOR => k_is)
    (case ga_MOST_NAME => k_is)
    (case ga_MOST_NUMBER => k_is)
    (case ga_MOST_SIZE => k_is)
    (case ga_MOST_TERMS => k_is)
    (case ga_SMALL => k_is)
    (case ga_WORDS => k_is)
    (case gl_WORDS => k_is)
    (case a_DialError => k_is)
    (case a_InvalidForm => k_is)
    (case a_InvalidName => k_is)
    (case a_InvalidNumber => k_is)
    (case a_InvalidTest => k_is)
    (case a_InvalidValue => k_is)
    (case a_Missing => k_is)
    (case a_TooDeep => k_is)
    (case a_TooMany => k_is)
    (case xi_InvalidNumber => k_is)
    (case xl_InvalidNumber => k_is)
    (case xd_InvalidNumber => k_is)
    (case xe_InvalidNumber => k_is)
    (case xg_InvalidNumber => k_is)
    (case r4x_InvalidNumber => rfl)
    (case r5x_InvalidNumber => decide +kernel)
    (case xk_InvalidNumber => exact ⟨_, _, _, _, _, _, _, _, _, _, _, _, _, _, _, by k_is, by decide +kernel⟩)
    (case xs_InvalidNumber => k_is)
    (case xb_InvalidNumber => k_is)
    (case xt_InvalidNumber => k_is)
    (case xq_InvalidNumber => k_is)
    (case xf_InvalidNumber => kernel_rfl)
    (case xa_InvalidNumber => kernel_rfl)
    (case xv_InvalidNumber => k_is)
    (case xm_InvalidNumber => k_is)
    (case xy_InvalidNumber => k_is)
    (case xc_InvalidNumber => k_is)
    (case xn_InvalidNumber => k_is)
    (case xx_InvalidNumber => kernel_rfl)
    (case xi_InvalidName => k_is)
    (case xl_InvalidName => k_is)
    (case xd_InvalidName => k_is)
    (case xe_InvalidName => k_is)
    (case xg_InvalidName => k_is)
    (case r4x_InvalidName => rfl)
    (case r5x_InvalidName => decide +kernel)
    (case xk_InvalidName => exact ⟨_, _, _, _, _, _, _, _, _, _, _, _, _, _, _, by k_is, by decide +kernel⟩)
    (case xs_InvalidName => k_is)
    (case xb_InvalidName => k_is)
    (case xt_InvalidName => k_is)
    (case xq_InvalidName => k_is)
    (case xf_InvalidName => kernel_rfl)
    (case xa_InvalidName => kernel_rfl)
    (case xv_InvalidName => k_is)
    (case xm_InvalidName => k_is)
    (case xy_InvalidName => k_is)
    (case xc_InvalidName => k_is)
    (case xn_InvalidName => k_is)
    (case xx_InvalidName => kernel_rfl)
    (case xi_InvalidForm => k_is)
    (case xl_InvalidForm => k_is)
    (case xd_InvalidForm => k_is)
    (case xe_InvalidForm => k_is)
    (case xg_InvalidForm => k_is)
    (case r4x_InvalidForm => rfl)
    (case r5x_InvalidForm => decide +kernel)
    (case xk_InvalidForm => exact ⟨_, _, _, _, _, _, _, _, _, _, _, _, _, _, _, by k_is, by decide +kernel⟩)
    (case xs_InvalidForm => k_is)
    (case xb_InvalidForm => k_is)
    (case xt_InvalidForm => k_is)
    (case xq_InvalidForm => k_is)
    (case xf_InvalidForm => kernel_rfl)
    (case xa_InvalidForm => kernel_rfl)
    (case xv_InvalidForm => k_is)
    (case xm_InvalidForm => k_is)
    (case xy_InvalidForm => k_is)
    (case xc_InvalidForm => k_is)
    (case xn_InvalidForm => k_is)
    (case xx_InvalidForm => kernel_rfl)
    (case xi_InvalidTest => k_is)
    (case xl_InvalidTest => k_is)
    (case xd_InvalidTest => k_is)
    (case xe_InvalidTest => k_is)
    (case xg_InvalidTest => k_is)
    (case r4x_InvalidTest => rfl)
    (case r5x_InvalidTest => decide +kernel)
    (case xk_InvalidTest => exact ⟨_, _, _, _, _, _, _, _, _, _, _, _, _, _, _, by k_is, by decide +kernel⟩)
    (case xs_InvalidTest => k_is)
    (case xb_InvalidTest => k_is)
    (case xt_InvalidTest => k_is)
    (case xq_InvalidTest => k_is)
    (case xf_InvalidTest => kernel_rfl)
    (case xa_InvalidTest => kernel_rfl)
    (case xv_InvalidTest => k_is)
    (case xm_InvalidTest => k_is)
    (case xy_InvalidTest => k_is)
    (case xc_InvalidTest => k_is)
    (case xn_InvalidTest => k_is)
    (case xx_InvalidTest => kernel_rfl)
    (case xi_InvalidValue => k_is)
    (case xl_InvalidValue => k_is)
    (case xd_InvalidValue => k_is)
    (case xe_InvalidValue => k_is)
    (case xg_InvalidValue => k_is)
    (case r4x_InvalidValue => rfl)
    (case r5x_InvalidValue => decide +kernel)
    (case xk_InvalidValue => exact ⟨_, _, _, _, _, _, _, _, _, _, _, _, _, _, _, by k_is, by decide +kernel⟩)
    (case xs_InvalidValue => k_is)
    (case xb_InvalidValue => k_is)
    (case xt_InvalidValue => k_is)
    (case xq_InvalidValue => k_is)
    (case xf_InvalidValue => kernel_rfl)
    (case xa_InvalidValue => kernel_rfl)
    (case xv_InvalidValue => k_is)
    (case xm_InvalidValue => k_is)
    (case xy_InvalidValue => k_is)
    (case xc_InvalidValue => k_is)
    (case xn_InvalidValue => k_is)
    (case xx_InvalidValue => kernel_rfl)
    (case xi_TooMany => k_is)
    (case xl_TooMany => k_is)
    (case xd_TooMany => k_is)
    (case xe_TooMany => k_is)
    (case xg_TooMany => k_is)
    (case r4x_TooMany => rfl)
    (case r5x_TooMany => decide +kernel)
    (case xk_TooMany => exact ⟨_, _, _, _, _, _, _, _, _, _, _, _, _, _, _, by k_is, by decide +kernel⟩)
    (case xs_TooMany => k_is)
    (case xb_TooMany => k_is)
    (case xt_TooMany => k_is)
    (case xq_TooMany => k_is)
    (case xf_TooMany => kernel_rfl)
    (case xa_TooMany => kernel_rfl)
    (case xv_TooMany => k_is)
    (case xm_TooMany => k_is)
    (case xy_TooMany => k_is)
    (case xc_TooMany => k_is)
    (case xn_TooMany => k_is)
    (case xx_TooMany => kernel_rfl)
    (case xi_TooDeep => k_is)
    (case xl_TooDeep => k_is)
    (case xd_TooDeep => k_is)
    (case xe_TooDeep => k_is)
    (case xg_TooDeep => k_is)
    (case r4x_TooDeep => rfl)
    (case r5x_TooDeep => decide +kernel)
    (case xk_TooDeep => exact ⟨_, _, _, _, _, _, _, _, _, _, _, _, _, _, _, by k_is, by decide +kernel⟩)
    (case xs_TooDeep => k_is)
    (case xb_TooDeep => k_is)
    (case xt_TooDeep => k_is)
    (case xq_TooDeep => k_is)
    (case xf_TooDeep => kernel_rfl)
    (case xa_TooDeep => kernel_rfl)
    (case xv_TooDeep => k_is)
    (case xm_TooDeep => k_is)
    (case xy_TooDeep => k_is)
    (case xc_TooDeep => k_is)
    (case xn_TooDeep => k_is)
    (case xx_TooDeep => kernel_rfl)
    (case opq => k_is)
    (case r4x => decide +kernel)
    (case xy_vi => k_is)
    (case fi_vi => kernel_rfl)
    (case xa_sNumber => kernel_rfl)
    (case xm_sNumber => k_is)
    (case am_Number_take => k_is)
    (case am_Marks_take => k_is)
    (case xa_sPlus => kernel_rfl)
    (case xm_sPlus => k_is)
    (case am_Plus_take => k_is)
    (case xa_sMinus => kernel_rfl)
    (case xm_sMinus => k_is)
    (case am_Minus_take => k_is)
    (case xa_sTimes => kernel_rfl)
    (case xm_sTimes => k_is)
    (case am_Times_take => k_is)
    (case xa_sTotal => kernel_rfl)
    (case xm_sTotal => k_is)
    (case am_Total_take => k_is)
    (case xa_sRound => kernel_rfl)
    (case xm_sRound => k_is)
    (case am_Round_take => k_is)
    (case xa_sDivides => kernel_rfl)
    (case xm_sDivides => k_is)
    (case am_Divides_take => k_is)
    (case xa_sNot => kernel_rfl)
    (case xm_sNot => k_is)
    (case am_Not_take => k_is)
    (case xa_sAnd => kernel_rfl)
    (case xm_sAnd => k_is)
    (case am_And_take => k_is)
    (case xa_sOr => kernel_rfl)
    (case xm_sOr => k_is)
    (case am_Or_take => k_is)
    (case ih_Marks => k_is)
    (case ih_Minus => k_is)
    (case ih_Plus => k_is)
    (case ih_Times => k_is)
    (case tb_cd => rfl)
    (case tb_ts => exact List.Mem.head _)
    (case tb_hd => kernel_rfl)
    (case tb_no => kernel_rfl)
    (case tl_cd => rfl)
    (case tl_ts => exact List.Mem.tail _ (List.Mem.head _))
    (case tl_hd => kernel_rfl)
    (case tl_no => kernel_rfl)
    (case tl_ne => decide)
    (case z_abs => k_is)
    (case z_all => k_is)
    (case z_bool => k_is)
    (case z_dict => k_is)
    (case z_enumerate => k_is)
    (case z_int => k_is)
    (case z_isinstance => k_is)
    (case z_len => k_is)
    (case z_list => k_is)
    (case z_max => k_is)
    (case z_range => k_is)
    (case z_repr => k_is)
    (case z_sorted => k_is)
    (case z_str => k_is)
    (case z_sum => k_is)
    (case z_super => k_is)
    (case z_tuple => k_is)
    (case g1_And => k_is)
    (case g2_And => k_is)
    (case g3_And => k_is)
    (case g4_And => k_is)
    (case g1_Divides => k_is)
    (case g2_Divides => k_is)
    (case g3_Divides => k_is)
    (case g4_Divides => k_is)
    (case g1_Form => k_is)
    (case g2_Form => k_is)
    (case g3_Form => k_is)
    (case g4_Form => k_is)
    (case g1_Marks => k_is)
    (case g2_Marks => k_is)
    (case g3_Marks => k_is)
    (case g4_Marks => k_is)
    (case g1_Minus => k_is)
    (case g2_Minus => k_is)
    (case g3_Minus => k_is)
    (case g4_Minus => k_is)
    (case g1_Not => k_is)
    (case g2_Not => k_is)
    (case g3_Not => k_is)
    (case g4_Not => k_is)
    (case g1_Number => k_is)
    (case g2_Number => k_is)
    (case g3_Number => k_is)
    (case g4_Number => k_is)
    (case g1_Or => k_is)
    (case g2_Or => k_is)
    (case g3_Or => k_is)
    (case g4_Or => k_is)
    (case g1_Pair => k_is)
    (case g2_Pair => k_is)
    (case g3_Pair => k_is)
    (case g4_Pair => k_is)
    (case g1_Plus => k_is)
    (case g2_Plus => k_is)
    (case g3_Plus => k_is)
    (case g4_Plus => k_is)
    (case g1_Round => k_is)
    (case g2_Round => k_is)
    (case g3_Round => k_is)
    (case g4_Round => k_is)
    (case g1_Test => k_is)
    (case g2_Test => k_is)
    (case g3_Test => k_is)
    (case g4_Test => k_is)
    (case g1_Times => k_is)
    (case g2_Times => k_is)
    (case g3_Times => k_is)
    (case g4_Times => k_is)
    (case g1_Total => k_is)
    (case g2_Total => k_is)
    (case g3_Total => k_is)
    (case g4_Total => k_is)
    (case g1_Value => k_is)
    (case g2_Value => k_is)
    (case g3_Value => k_is)
    (case g4_Value => k_is)
    (case g5_And => k_is)
    (case g6_And => k_is)
    (case g5_Divides => k_is)
    (case g6_Divides => k_is)
    (case g5_Form => k_is)
    (case g6_Form => k_is)
    (case g5_Marks => k_is)
    (case g6_Marks => k_is)
    (case g5_Minus => k_is)
    (case g6_Minus => k_is)
    (case g5_Not => k_is)
    (case g6_Not => k_is)
    (case g5_Number => k_is)
    (case g6_Number => k_is)
    (case g5_Or => k_is)
    (case g6_Or => k_is)
    (case g5_Plus => k_is)
    (case g6_Plus => k_is)
    (case g5_Round => k_is)
    (case g6_Round => k_is)
    (case g5_Times => k_is)
    (case g6_Times => k_is)
    (case g5_Total => k_is)
    (case g6_Total => k_is)
    (case na_And_depth => k_is)
    (case na_And_one => k_is)
    (case na_And_other => k_is)
    (case na_And_own_parts => k_is)
    (case na_And_size => k_is)
    (case na_Divides_depth => k_is)
    (case na_Divides_number => k_is)
    (case na_Divides_own_parts => k_is)
    (case na_Divides_size => k_is)
    (case na_Form_own_constant => k_is)
    (case na_Form_own_terms => k_is)
    (case na_Marks_depth => k_is)
    (case na_Marks_own_parts => k_is)
    (case na_Marks_size => k_is)
    (case na_Minus_depth => k_is)
    (case na_Minus_one => k_is)
    (case na_Minus_other => k_is)
    (case na_Minus_own_parts => k_is)
    (case na_Minus_size => k_is)
    (case na_Not_depth => k_is)
    (case na_Not_one => k_is)
    (case na_Not_own_parts => k_is)
    (case na_Not_size => k_is)
    (case na_Number_depth => k_is)
    (case na_Number_number => k_is)
    (case na_Number_own_parts => k_is)
    (case na_Number_size => k_is)
    (case na_Or_depth => k_is)
    (case na_Or_one => k_is)
    (case na_Or_other => k_is)
    (case na_Or_own_parts => k_is)
    (case na_Or_size => k_is)
    (case na_Pair_one => k_is)
    (case na_Pair_other => k_is)
    (case na_Plus_depth => k_is)
    (case na_Plus_one => k_is)
    (case na_Plus_other => k_is)
    (case na_Plus_own_parts => k_is)
    (case na_Plus_size => k_is)
    (case na_Round_depth => k_is)
    (case na_Round_form => k_is)
    (case na_Round_own_parts => k_is)
    (case na_Round_size => k_is)
    (case na_Times_depth => k_is)
    (case na_Times_one => k_is)
    (case na_Times_other => k_is)
    (case na_Times_own_parts => k_is)
    (case na_Times_size => k_is)
    (case na_Total_depth => k_is)
    (case na_Total_name => k_is)
    (case na_Total_one => k_is)
    (case na_Total_own_parts => k_is)
    (case na_Total_size => k_is)
    (case na_Value_depth => k_is)
    (case na_Value_own_parts => k_is)
    (case na_Value_size => k_is)
    (case j1_And => k_is)
    (case j2 => k_is)
    (case j3 => k_is)
    (case j4_And => k_is)
    (case j1_Divides => k_is)
    (case j4_Divides => k_is)
    (case j1_Form => k_is)
    (case j4_Form => k_is)
    (case j1_Marks => k_is)
    (case j4_Marks => k_is)
    (case j1_Minus => k_is)
    (case j4_Minus => k_is)
    (case j1_Not => k_is)
    (case j4_Not => k_is)
    (case j1_Number => k_is)
    (case j4_Number => k_is)
    (case j1_Or => k_is)
    (case j4_Or => k_is)
    (case j1_Plus => k_is)
    (case j4_Plus => k_is)
    (case j1_Round => k_is)
    (case j4_Round => k_is)
    (case j1_Times => k_is)
    (case j4_Times => k_is)
    (case j1_Total => k_is)
    (case j4_Total => k_is)
    (case kt_Test => k_is)
    (case kc_Test => k_is)
    (case ks_And_Test => k_is)
    (case kn_And_Test => rfl)
    (case kt_Value => k_is)
    (case kc_Value => k_is)
    (case ks_And_Value => k_is)
    (case kn_And_Value => rfl)
    (case ks_Divides_Test => k_is)
    (case kn_Divides_Test => rfl)
    (case ks_Divides_Value => k_is)
    (case kn_Divides_Value => rfl)
    (case ks_Marks_Test => k_is)
    (case kn_Marks_Test => rfl)
    (case ks_Marks_Value => k_is)
    (case kn_Marks_Value => rfl)
    (case ks_Minus_Test => k_is)
    (case kn_Minus_Test => rfl)
    (case ks_Minus_Value => k_is)
    (case kn_Minus_Value => rfl)
    (case ks_NoneType_Test => k_is)
    (case ks_NoneType_Value => k_is)
    (case ks_Not_Test => k_is)
    (case kn_Not_Test => rfl)
    (case ks_Not_Value => k_is)
    (case kn_Not_Value => rfl)
    (case ks_Number_Test => k_is)
    (case kn_Number_Test => rfl)
    (case ks_Number_Value => k_is)
    (case kn_Number_Value => rfl)
    (case ks_Or_Test => k_is)
    (case kn_Or_Test => rfl)
    (case ks_Or_Value => k_is)
    (case kn_Or_Value => rfl)
    (case ks_Plus_Test => k_is)
    (case kn_Plus_Test => rfl)
    (case ks_Plus_Value => k_is)
    (case kn_Plus_Value => rfl)
    (case ks_Round_Test => k_is)
    (case kn_Round_Test => rfl)
    (case ks_Round_Value => k_is)
    (case kn_Round_Value => rfl)
    (case ks_Times_Test => k_is)
    (case kn_Times_Test => rfl)
    (case ks_Times_Value => k_is)
    (case kn_Times_Value => rfl)
    (case ks_Total_Test => k_is)
    (case kn_Total_Test => rfl)
    (case ks_Total_Value => k_is)
    (case kn_Total_Value => rfl)
    (case ks_bool_Test => k_is)
    (case ks_bool_Value => k_is)
    (case ks_dict_Test => k_is)
    (case ks_dict_Value => k_is)
    (case ks_int_Test => k_is)
    (case ks_int_Value => k_is)
    (case ks_list_Test => k_is)
    (case ks_list_Value => k_is)
    (case ks_str_Test => k_is)
    (case ks_str_Value => k_is)
    (case ks_tuple_Test => k_is)
    (case ks_tuple_Value => k_is)
