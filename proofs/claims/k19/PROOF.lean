import PyProof.Rows.All
import Wide.All
import OpenK.AllK
import Wide.FinOn
import HandS.ForMost
import HandS.Evl
import HandS.Wide
import HandS.Style
import HandS.Star
import HandS.Property
import HandS.SlotsOwn
import HandS.IsInst
import HandS.FStr
import HandS.Codes
import KE.GoesEnum
import KE.KOpsOwn
import HandS.Text
import PyProof.StrLawsRepr
import HandS.Exc
import HandS.ExcInit
import HandS.Nested
import KE.KExcSuper
import HandS.Lambda
import HandS.ExcValue
import HandS.WordsExc
import KE.KTryMore
import HandS.ExcField
import HandS.HotCalls
import HandS.EndOwn
import HandS.Small
import HandS.Records
import HandS.More
import PyProof.Rows.Range3
import PyProof.InstNe
import PyProof.TwoTypes
import HandS.Dict
import HandS.WordsDict
import HandS.Iter
import HandS.DictComp
import HandS.ClsMeth
import HandS.MakeKw
import PyProof.ExcFactsAll.LookupError
import PyProof.ExcFactsAll.IndexError
import HandS.ExcIs
import KE.KExcIs
import PyProof.ExcClass
import HandS.MapJoin
import HandS.Gcd
import KE.DataAny
import KE.KCallOwn
import KE.KDictZip
import HandS.OwnEq
import HandS.SortInts
import KE.SortKeyHeap
import KE.SortData
import KE.KSortKey
import HandS.SortKw
import KE.KDictKeyed
import KE.SortCalls
import KE.KSortTup
import HandS.ReCall
import HandS.Zip
import KE.KIndexOf
import HandS.GenOver
import PyProof.GenRules
import PyProof.ForAny
import HandS.GenBody
import PyProof.GenQ
import HandS.GenList
import KE.OsRunLaw
import HandS.Conv
import HandS.ListItems
import HandS.Zip0
import HandS.SetTxt0
import HandS.Strs
import HandS.SetFor
import HandS.TupAny
import PySem.Challenge.RW_anydial_k19_tables_refused
set_option Elab.async false
set_option linter.all false
set_option maxRecDepth 100000
set_option maxHeartbeats 4000000
set_option exponentiation.threshold 2000
namespace Mi
open PySem L2 Evl
structure Er where
  cls : String
  vals : List PyData
def W (α : Type) : Type := (α → Prop) → (Er → Prop) → Prop
def ret {α : Type} (x : α) : W α := fun P _ => P x
def bnd {α β : Type} (m : W α) (f : α → W β) : W β := fun P E => m (fun x => f x P E) E
def fail {α : Type} : W α := fun _ _ => False
def thr {α : Type} (e : Er) : W α := fun _ E => E e
/-- go on only if c holds -/
def chk (c : Prop) {α : Type} (w : W α) : W α := fun P E => c ∧ w P E
/-- what is raised is not wanted -/
def noX {α : Type} (m : W α) : W α := fun P _ => m P fun _ => False
@[simp] theorem noX_ret {α : Type} (x : α) : noX (ret x) = ret x := rfl
@[simp] theorem noX_chk {α : Type} (c : Prop) (m : W α) : noX (chk c m) = chk c (noX m) := rfl
@[simp] theorem noX_noX {α : Type} (m : W α) : noX (noX m) = noX m := rfl
@[simp] theorem noX_bnd {α β : Type} (m : W α) (f : α → W β) : noX (bnd m f) = bnd (noX m) fun x => noX (f x) := rfl
@[simp] theorem noX_fail {α : Type} : noX (fail : W α) = fail := rfl
@[simp] theorem bnd_ret {α β : Type} (x : α) (f : α → W β) : bnd (ret x) f = f x := rfl
@[simp] theorem ret_bnd {α : Type} (m : W α) : bnd m ret = m := rfl
@[simp] theorem bnd_bnd {α β γ : Type} (m : W α) (f : α → W β) (g : β → W γ) : bnd (bnd m f) g = bnd m fun x => bnd (f x) g := rfl
@[simp] theorem bnd_fail {α β : Type} (f : α → W β) : bnd (fail : W α) f = fail := rfl
@[simp] theorem bnd_thr {α β : Type} (e : Er) (f : α → W β) : bnd (thr e : W α) f = thr e := rfl
@[simp] theorem chk_bnd {c : Prop} {α β : Type} (w : W α) (f : α → W β) : bnd (chk c w) f = chk c (bnd w f) := rfl
@[simp] theorem ite_bnd {c : Prop} [Decidable c] {α β : Type} (w1 w2 : W α) (f : α → W β) : bnd (if c then w1 else w2) f = if c then bnd w1 f else bnd w2 f := by
  by_cases h : c
  · rw [if_pos h, if_pos h]
  · rw [if_neg h, if_neg h]
def mapW {α β : Type} (f : α → W β) : List α → W (List β)
  | [] => ret []
  | x :: xs => bnd (f x) fun y => bnd (mapW f xs) fun ys => ret (y :: ys)
def filtW {α β : Type} (c : α → W Bool) (f : α → W β) : List α → W (List β)
  | [] => ret []
  | x :: xs => bnd (c x) fun b => if b = true then bnd (f x) fun y => bnd (filtW c f xs) fun ys => ret (y :: ys) else filtW c f xs
/-- a loop that is never left early -/
def forW {α S : Type} (f : S → α → W S) : S → List α → W S
  | s, [] => ret s
  | s, x :: xs => bnd (f s x) fun s' => forW f s' xs
/-- how a block ends -/
inductive Fl (S ρ : Type) where
  | nx (s : S) | rt (x : ρ) | bk (s : S) | ct (s : S)
/-- behind a turn -/
def flGo {S ρ : Type} (k : S → W (Fl S ρ)) : Fl S ρ → W (Fl S ρ)
  | .nx s => k s
  | .ct s => k s
  | .bk s => ret (.nx s)
  | .rt z => ret (.rt z)
/-- a loop that may be left: by return (.rt), by break or at its end (.nx) -/
def forF {α S ρ : Type} (f : S → α → W (Fl S ρ)) : S → List α → W (Fl S ρ)
  | s, [] => ret (.nx s)
  | s, x :: xs => bnd (f s x) (flGo fun s' => forF f s' xs)
structure Rp (α : Type) where
  ok : Hp → V → α → Prop
  mono : ∀ {F F' : Hp} {v : V} {x : α}, Ex F F' → ok F v x → ok F' v x
def rInt : Rp Int := ⟨fun _ v x => v = .int x, fun _ h => h⟩
def rBool : Rp Bool := ⟨fun _ v x => v = .bl x, fun _ h => h⟩
def rStr : Rp Str := ⟨fun _ v x => v = .str x ∧ x.length ≤ sizeLine ∧ PyData.strOk x = true, fun _ h => h⟩
def rNon : Rp Unit := ⟨fun _ v _ => v = .non, fun _ h => h⟩
def rAdr (a : Addr) : Rp Unit := ⟨fun _ v _ => v = .ref a, fun _ h => h⟩
theorem Paired.imp {α β : Type} {R S : α → β → Prop} : ∀ {l : List α} {m : List β}, (∀ a b, R a b → S a b) → Paired R l m → Paired S l m
  | _, _, _, .nil => .nil
  | _, _, f, .cons r t => .cons (f _ _ r) (Paired.imp f t)
def rLst {α : Type} (r : Rp α) : Rp (List α) :=
  ⟨fun F v xs => ∃ a vs, v = .ref a ∧ F a = some (.lst vs) ∧ vs.length ≤ sizeLine ∧ Paired (r.ok F) vs xs, fun e ⟨a, vs, h1, h2, h3, h4⟩ => ⟨a, vs, h1, e _ _ h2, h3, Paired.imp (fun _ _ => r.mono e) h4⟩⟩
/-- a tuple of things of one kind -/
def rTup (K : PySem.W.Frag) {α : Type} (r : Rp α) : Rp (List α) :=
  ⟨fun F v xs => ∃ a vs, v = .ref a ∧ SqT K F a vs ∧ vs.length ≤ sizeLine ∧ Paired (r.ok F) vs xs, fun e ⟨a, vs, h1, h2, h3, h4⟩ => ⟨a, vs, h1, ex_t e h2, h3, Paired.imp (fun _ _ => r.mono e) h4⟩⟩
/-- a pair, a triple as a tuple -/
def rT2 (K : PySem.W.Frag) {α β : Type} (r : Rp α) (s : Rp β) : Rp (α × β) :=
  ⟨fun F v x => ∃ a v1 v2, v = .ref a ∧ SqT K F a [v1, v2] ∧ r.ok F v1 x.1 ∧ s.ok F v2 x.2, fun e ⟨a, v1, v2, h1, h2, h3, h4⟩ => ⟨a, v1, v2, h1, ex_t e h2, r.mono e h3, s.mono e h4⟩⟩
def rT3 (K : PySem.W.Frag) {α β γ : Type} (r : Rp α) (s : Rp β) (t : Rp γ) : Rp (α × β × γ) :=
  ⟨fun F v x => ∃ a v1 v2 v3, v = .ref a ∧ SqT K F a [v1, v2, v3] ∧ r.ok F v1 x.1 ∧ s.ok F v2 x.2.1 ∧ t.ok F v3 x.2.2, fun e ⟨a, v1, v2, v3, h1, h2, h3, h4, h5⟩ => ⟨a, v1, v2, v3, h1, ex_t e h2, r.mono e h3, s.mono e h4, t.mono e h5⟩⟩
def rOpt {α : Type} (r : Rp α) : Rp (Option α) :=
  ⟨fun F v x => match x with | none => v = .non | some y => v ≠ .non ∧ r.ok F v y, fun {F F' v x} e h => by
    cases x with
    | none => exact h
    | some y => exact ⟨h.1, r.mono e h.2⟩⟩
/-- data of any kind -/
def rD (K : PySem.W.Frag) : Rp PyData := ⟨fun F v d => Dp K F v d ∧ d.canLay0 = true ∧ d.depth ≤ 30, fun e ⟨h, hc⟩ => ⟨by
  refine (show ∀ {v d}, Dp K _ v d → Dp K _ v d from ?_) h
  intro v d h
  refine Dp.rec (K := K) (H := _) (motive_1 := fun v d _ => Dp K _ v d) (motive_2 := fun vs ds _ => DpAll K _ vs ds) .non .bl .int .str (fun h1 _ ih => .lst (ex_l e h1) ih) (fun h1 _ ih => .tup (ex_t e h1) ih) .nil (fun _ _ i1 i2 => .cons i1 i2) h, hc⟩⟩
end Mi
namespace Mi
open PySem L2 Evl
structure Slot where
  ok : Hp → Option V → Prop
  mono : ∀ {F F' : Hp} {v : Option V}, Ex F F' → ok F v → ok F' v
def sv {α : Type} (r : Rp α) (x : α) : Slot := ⟨fun F ov => ∃ v, ov = some v ∧ r.ok F v x, fun e ⟨v, h1, h2⟩ => ⟨v, h1, r.mono e h2⟩⟩
/-- anything, or nothing -/
def sa : Slot := ⟨fun _ _ => True, fun _ _ => trivial⟩
structure Own where
  ok : Hp → HO → Prop
  mono : ∀ {F F' : Hp} {o : HO}, Ex F F' → ok F o → ok F' o
def oLst {α : Type} (r : Rp α) (xs : List α) : Own := ⟨fun F o => ∃ vs, o = .lst vs ∧ vs.length ≤ sizeLine ∧ Paired (r.ok F) vs xs, fun e ⟨vs, h1, h2, h3⟩ => ⟨vs, h1, h2, Paired.imp (fun _ _ => r.mono e) h3⟩⟩
/-- the base: the heap at the def's entry (F: what never changes of it), the objects handed in to be changed, what is allowed of errors -/
structure Bs where
  F : Hp
  H : Hp
  M : Hp
  io : List Addr
  E0 : Er → Prop
/-- a mark within a body: what a loop's source leans on -/
abbrev Bs.at (B : Bs) (M : Hp) : Bs := { B with M := M }
structure Fn (B : Bs) (F H : Hp) : Prop where
  fh : Ex F H
  bf : Ex B.F F
  mrk : Ex B.M F
  bb : Ex B.F B.H
  ios : ∀ a ∈ B.io, ∃ o, H a = some o
  keep : ∀ a o, B.F a = none → B.H a = some o → a ∉ B.io → H a = some o ∧ F a = none
abbrev Env := List Slot
abbrev Os := List (Addr × Own)
def EnvOk (F : Hp) (env : Env) (σ : L2.St) : Prop := Paired (fun (s : Slot) (ov : Option V) => s.ok F ov) env σ
structure Sit (B : Bs) (F H : Hp) (σ : L2.St) (env : Env) (os : Os) : Prop where
  fin : Fn B F H
  env : EnvOk F env σ
  ow : ∀ p ∈ os, F p.1 = none ∧ (∃ o, H p.1 = some o ∧ p.2.ok F o) ∧ (B.H p.1 = none ∨ p.1 ∈ B.io)
  nd : (os.map (·.1)).Nodup
theorem EnvOk.mono {F F' : Hp} {env : Env} {σ : L2.St} (e : Ex F F') (h : EnvOk F env σ) : EnvOk F' env σ := Paired.imp (fun s _ => s.mono e) h
theorem EnvOk.get {F : Hp} : ∀ {env : Env} {σ : L2.St} {i : Nat} {s : Slot}, EnvOk F env σ → env[i]? = some s → ∃ ov, σ[i]? = some ov ∧ s.ok F ov
  | _, _, i, s, .nil, h => by simp at h
  | _, _, 0, s, .cons r t, h => by
    simp at h
    subst h
    exact ⟨_, rfl, r⟩
  | _, _, i + 1, s, .cons r t, h => by
    obtain ⟨ov, h1, h2⟩ := EnvOk.get (i := i) t (by simpa using h)
    exact ⟨ov, by simpa using h1, h2⟩
theorem EnvOk.set {F : Hp} {s : Slot} {ov : Option V} (r : s.ok F ov) : ∀ {env : Env} {σ : L2.St} {i : Nat}, EnvOk F env σ → EnvOk F (env.set i s) (σ.set i ov)
  | _, _, _, .nil => .nil
  | _, _, 0, .cons _ t => .cons r t
  | _, _, i + 1, .cons q t => .cons q (EnvOk.set r (i := i) t)
theorem EnvOk.len {F : Hp} {env : Env} {σ : L2.St} (h : EnvOk F env σ) : env.length = σ.length := Paired.length h
structure Grow (F H F' H' : Hp) : Prop where
  f : Ex F F'
  h : Ex H H'
  new : ∀ a, H a = none → F' a = H' a
  old : ∀ a o, H a = some o → F' a = F a
theorem Grow.refl {F H : Hp} (fh : Ex F H) : Grow F H F H := by
  refine ⟨Ex.refl F, Ex.refl H, fun a h => ?_, fun _ _ _ => rfl⟩
  rw [h]
  exact fresh_back fh h
theorem Grow.trans {F H F1 H1 F2 H2 : Hp} (a : Grow F H F1 H1) (b : Grow F1 H1 F2 H2) : Grow F H F2 H2 := by
  refine ⟨a.f.trans b.f, a.h.trans b.h, fun p hp => ?_, fun p o hp => ?_⟩
  · cases e : H1 p with
    | none => exact b.new p e
    | some o =>
      have e2 : F1 p = some o := (a.new p hp).trans e
      rw [b.f p o e2, b.h p o e]
  · rw [b.old p o (a.h p o hp), a.old p o hp]
theorem Grow.fh {F H F' H' : Hp} (g : Grow F H F' H') (fh : Ex F H) : Ex F' H' := fun a o h => by
  cases e : H a with
  | none => exact (g.new a e).symm.trans h
  | some u =>
    have z := (g.old a u e).symm.trans h
    exact g.h a o (fh a o z)
theorem Grow.alloc {F H : Hp} {p : Addr} {o : HO} (fh : Ex F H) (hp : H p = none) : Grow F H (upd F p o) (upd H p o) := by
  have fp : F p = none := fresh_back fh hp
  refine ⟨Ex.new fp, Ex.new hp, fun a ha => ?_, fun a u ha => ?_⟩
  · by_cases e : a = p
    · rw [e, upd_same, upd_same]
    · rw [upd_ne e, upd_ne e, ha]
      exact fresh_back fh ha
  · have e : a ≠ p := ne_of_none ha hp
    rw [upd_ne e]
section
variable {B : Bs} {F H F' H' : Hp} {σ : L2.St} {env : Env} {os : Os}
theorem Fn.grow (s : Fn B F H) (g : Grow F H F' H') : Fn B F' H' :=
  ⟨g.fh s.fh, s.bf.trans g.f, s.mrk.trans g.f, s.bb, fun a ha => let ⟨o, h⟩ := s.ios a ha; ⟨o, g.h a o h⟩, fun a o h1 h2 h3 => by
    obtain ⟨k1, k2⟩ := s.keep a o h1 h2 h3
    exact ⟨g.h a o k1, (g.old a o k1).trans k2⟩⟩
theorem Sit.grow (s : Sit B F H σ env os) (g : Grow F H F' H') : Sit B F' H' σ env os :=
  ⟨s.fin.grow g, s.env.mono g.f, fun p hp => by
    obtain ⟨h1, ⟨o, h2, h3⟩, h4⟩ := s.ow p hp
    exact ⟨(g.old _ o h2).trans h1, ⟨o, g.h _ _ h2, p.2.mono g.f h3⟩, h4⟩, s.nd⟩
theorem Sit.fh (s : Sit B F H σ env os) : Ex F H := s.fin.fh
theorem Sit.store {i : Nat} {sl : Slot} {v : V} (s : Sit B F H σ env os) (r : sl.ok F (some v)) : Sit B F H (σ.set i (some v)) (env.set i sl) os := ⟨s.fin, s.env.set r, s.ow, s.nd⟩
end
def tOf (B : Bs) (env : Env) (os : Os) {α : Type} (r : Rp α) (w : W α) : TE := fun σ H Q => ∃ F P, Sit B F H σ env os ∧ w P B.E0 ∧ ∀ x, P x → ∀ v F' H', Sit B F' H' σ env os → Ex F F' → r.ok F' v x → Q v H'
def EE (X : Cx) (B : Bs) (env : Env) (os : Os) (e : Expr) {α : Type} (r : Rp α) (w : W α) : Prop := PE X e (tOf B env os r w)
theorem PE.imp {X : Cx} {e : Expr} {t t' : TE} (h : PE X e t) (i : ∀ σ H Q, t' σ H Q → t σ H Q) : PE X e t' := ⟨fun pins s σ H Q I q => h.run pins s σ H Q I (i _ _ _ q)⟩
theorem PE.ex {X : Cx} {e : Expr} {ι : Type} {t : ι → TE} (h : ∀ i, PE X e (t i)) : PE X e (fun σ H Q => ∃ i, t i σ H Q) := ⟨fun pins s σ H Q I ⟨i, q⟩ => (h i).run pins s σ H Q I q⟩
section
variable {X : Cx} {B : Bs} {env : Env} {os : Os} {pos : Pos} {α β γ : Type} {r : Rp α} {s : Rp β} {t : Rp γ} {e a b : Expr}
theorem e_conv {w w' : W α} (h : EE X B env os e r w) (q : w' = w) : EE X B env os e r w' := q ▸ h
theorem e_name (i : Nat) {x : Str} {y : α} (he : env[i]? = some (sv r y) := by rfl) (hN : X.N[i]? = some x := by rfl) (hv : Vis X.env.scope x := by first | exact Or.inl rfl | exact Or.inr (Or.inl rfl) | exact Or.inr (Or.inr rfl))
    (hd : (x == ("__debug__" : Str)) = false := by decide) (hcd : (x == ("__classdict__" : Str)) = false := by decide) : EE X B env os (.Name x pos) r (ret y) :=
  PE.imp (pe_var hN hv hd hcd) fun σ H Q ⟨F, P, S, hw, k⟩ => by
    obtain ⟨ov, h1, v, h2, h3⟩ := S.env.get he
    subst h2
    exact ⟨v, h1, k y hw v F H S (Ex.refl F) h3⟩
theorem tc_of {v : V} {y : α} (h : ∀ F, r.ok F v y) {σ : L2.St} {H : Hp} {Q : VK} (q : tOf B env os r (ret y) σ H Q) : tC v σ H Q := by
  obtain ⟨F, P, S, hw, k⟩ := q
  exact k y hw v F H S (Ex.refl F) (h F)
theorem e_int {i : Int} {j} : EE X B env os (.Constant (.int i) j pos) rInt (ret i) := PE.imp pe_int fun _ _ _ q => tc_of (r := rInt) (fun _ => rfl) q
theorem e_bl {b : Bool} {j} : EE X B env os (.Constant (.bool b) j pos) rBool (ret b) := PE.imp pe_bl fun _ _ _ q => tc_of (r := rBool) (fun _ => rfl) q
theorem e_non {j} : EE X B env os (.Constant .none j pos) rNon (ret ()) := PE.imp pe_non fun _ _ _ q => tc_of (r := rNon) (fun _ => rfl) q
theorem e_str {x : Str} {j} (h : x.length ≤ sizeLine := by decide +kernel) (h2 : PyData.strOk x = true := by decide +kernel) : EE X B env os (.Constant (.str x) j pos) rStr (ret x) := PE.imp pe_str fun _ _ _ q => tc_of (r := rStr) (fun _ => ⟨rfl, h, h2⟩) q
/-- a name of the module -/
theorem e_glob {x : Str} {v : V} {u : Value} {y : α} (hg : Gl X x) (hm : X.mg x = some u) (rv : RelV v u) (h : ∀ F, r.ok F v y) (hd : (x == ("__debug__" : Str)) = false := by decide) : EE X B env os (.Name x pos) r (ret y) :=
  PE.imp (pe_glob hg hm rv hd) fun _ _ _ q => tc_of (r := r) h q
/-- what a two-place operation on values is worth -/
def R2T (q : R2) (r : Rp α) (s : Rp β) (t : Rp γ) (f : α → β → W γ) : Prop := ∀ (F H : Hp) (v u : V) (x : α) (y : β) (P : γ → Prop) (E : Er → Prop) (Q : VK), Ex F H → r.ok F v x → s.ok F u y → f x y P E →
  (∀ z, P z → ∀ v' F' H', Grow F H F' H' → t.ok F' v' z → Q v' H') → q v u H Q
theorem two {q : R2} {f : α → β → W γ} {w1 : W α} {w2 : α → W β} (sem : R2T q r s t f) {σ : L2.St} {H : Hp} {Q : VK}
    (h : tOf B env os t (bnd w1 fun x => bnd (w2 x) fun y => f x y) σ H Q) : tOp q (tOf B env os r w1) (fun σ H Q => ∃ x, tOf B env os s (w2 x) σ H Q) σ H Q := by
  obtain ⟨F, P, S, hw, k⟩ := h
  refine ⟨F, _, S, hw, fun x hx v F1 H1 S1 e1 ok1 => ⟨x, F1, _, S1, hx, fun y hy u F2 H2 S2 e2 ok2 => ?_⟩⟩
  exact sem F2 H2 v u x y P B.E0 Q S2.fh (r.mono e2 ok1) ok2 hy fun z hz v' F3 H3 g ok3 => k z hz v' F3 H3 (S2.grow g) ((e1.trans e2).trans g.f) ok3
theorem e_op {op : Operator} {q : R2} {f : α → β → W γ} {w1 : W α} {w2 : α → W β} (ho : OpR X (binaryOp op) q) (sem : R2T q r s t f) (ha : EE X B env os a r w1) (hb : ∀ x, EE X B env os b s (w2 x)) :
    EE X B env os (.BinOp a op b pos) t (bnd w1 fun x => bnd (w2 x) fun y => f x y) := PE.imp (pe_op ho ha (PE.ex hb)) fun _ _ _ h => two sem h
theorem e_cmp {op : CmpOp} {q : R2} {f : α → β → W γ} {w1 : W α} {w2 : α → W β} (ho : OpR X (compareOp op) q) (sem : R2T q r s t f) (hm : behindInMarks op b = false) (ha : EE X B env os a r w1) (hb : ∀ x, EE X B env os b s (w2 x)) :
    EE X B env os (.Compare a [op] [b] pos) t (bnd w1 fun x => bnd (w2 x) fun y => f x y) := PE.imp (pe_cmpR ho ha (PE.ex hb) hm) fun _ _ _ h => two sem h
theorem e_ix {q : R2} {f : α → β → W γ} {w1 : W α} {w2 : α → W β} (hr : IxR X q) (sem : R2T q r s t f) (hs : PlainIx b) (ha : EE X B env os a r w1) (hb : ∀ x, EE X B env os b s (w2 x)) :
    EE X B env os (.Subscript a b pos) t (bnd w1 fun x => bnd (w2 x) fun y => f x y) := PE.imp (pe_ix hr ha (PE.ex hb) hs) fun _ _ _ h => two sem h
def R1T (q : V → Hp → VK → Prop) (r : Rp α) (t : Rp γ) (f : α → W γ) : Prop := ∀ (F H : Hp) (v : V) (x : α) (P : γ → Prop) (E : Er → Prop) (Q : VK), Ex F H → r.ok F v x → f x P E → (∀ z, P z → ∀ v' F' H', Grow F H F' H' → t.ok F' v' z → Q v' H') → q v H Q
theorem e_un {op : UnaryOp} {q : V → Hp → VK → Prop} {f : α → W γ} {w1 : W α} (ho : UnR X (unaryOp op) q) (sem : R1T q r t f) (ha : EE X B env os a r w1) : EE X B env os (.UnaryOp op a pos) t (bnd w1 f) :=
  PE.imp (pe_un ho ha) fun σ H Q ⟨F, P, S, hw, k⟩ => ⟨F, _, S, hw, fun x hx v F1 H1 S1 e1 ok1 => sem F1 H1 v x P B.E0 Q S1.fh ok1 hx fun z hz v' F3 H3 g ok3 => k z hz v' F3 H3 (S1.grow g) (e1.trans g.f) ok3⟩
end
section
variable {X : Cx} {B : Bs} {env : Env} {os : Os} {pos : Pos} {a b : Expr} {w1 : W Int} {w2 : Int → W Int}
theorem r2i {γ : Type} {t : Rp γ} {g : Int → Int → V} {f : Int → Int → γ} (h : ∀ F i j, t.ok F (g i j) (f i j)) : R2T (rI0 g) rInt rInt t fun i j => ret (f i j) := fun F H v u x y P E Q fh e1 e2 hw k =>
  ⟨x, y, e1, e2, k _ hw _ F H (Grow.refl fh) (h F x y)⟩
theorem r2c {γ : Type} {t : Rp γ} {C : Int → Int → Prop} {g : Int → Int → V} {f : Int → Int → γ} (h : ∀ F i j, t.ok F (g i j) (f i j)) : R2T (rI C g) rInt rInt t fun i j => chk (C i j) (ret (f i j)) := fun F H v u x y P E Q fh e1 e2 ⟨hc, hw⟩ k =>
  ⟨x, y, e1, e2, hc, k _ hw _ F H (Grow.refl fh) (h F x y)⟩
theorem e_add (ha : EE X B env os a rInt w1) (hb : ∀ x, EE X B env os b rInt (w2 x)) : EE X B env os (.BinOp a .Add b pos) rInt (bnd w1 fun x => bnd (w2 x) fun y => ret (x + y)) := e_op op_add (r2i fun _ _ _ => rfl) ha hb
theorem e_sub (ha : EE X B env os a rInt w1) (hb : ∀ x, EE X B env os b rInt (w2 x)) : EE X B env os (.BinOp a .Sub b pos) rInt (bnd w1 fun x => bnd (w2 x) fun y => ret (x - y)) := e_op op_sub (r2i fun _ _ _ => rfl) ha hb
/-- of any size, together below a million bits -/
theorem op_mulG : OpR X (binaryOp .Mult) (rI IntMulOk fun i j => .int (i * j)) := opI fun _ _ _ _ _ _ _ hc q => PyProof.Rows.mul_int q hc
def mulI (x y : Int) : W Int := chk (IntMulOk x y) (ret (x * y))
theorem e_mul (ha : EE X B env os a rInt w1) (hb : ∀ x, EE X B env os b rInt (w2 x)) : EE X B env os (.BinOp a .Mult b pos) rInt (bnd w1 fun x => bnd (w2 x) fun y => mulI x y) := e_op op_mulG (r2c fun _ _ _ => rfl) ha hb
def CDivG (_ j : Int) : Prop := j ≠ 0 ∧ j.natAbs.log2 < 9000
theorem op_fdivG : OpR X (binaryOp .FloorDiv) (rI CDivG fun i j => .int (i.fdiv j)) := opI fun i j _ _ _ _ _ hc q => PyProof.Rows.floordiv_int hc.1 q (.inl (PyProof.noPylong_of_log2 hc.2))
def divI (x y : Int) : W Int := chk (CDivG x y) (ret (x.fdiv y))
theorem e_div (ha : EE X B env os a rInt w1) (hb : ∀ x, EE X B env os b rInt (w2 x)) : EE X B env os (.BinOp a .FloorDiv b pos) rInt (bnd w1 fun x => bnd (w2 x) fun y => divI x y) := e_op op_fdivG (r2c fun _ _ _ => rfl) ha hb
def modI (x y : Int) : W Int := chk (y ≠ 0) (ret (x.fmod y))
theorem e_mod (ha : EE X B env os a rInt w1) (hb : ∀ x, EE X B env os b rInt (w2 x)) : EE X B env os (.BinOp a .Mod b pos) rInt (bnd w1 fun x => bnd (w2 x) fun y => modI x y) := e_op op_modN (r2c fun _ _ _ => rfl) ha hb
def powI (x y : Int) : W Int := chk (CPow x y) (ret (x ^ y.toNat))
theorem e_pow (ha : EE X B env os a rInt w1) (hb : ∀ x, EE X B env os b rInt (w2 x)) : EE X B env os (.BinOp a .Pow b pos) rInt (bnd w1 fun x => bnd (w2 x) fun y => powI x y) := e_op op_pow (r2c fun _ _ _ => rfl) ha hb
theorem e_neg (ha : EE X B env os a rInt w1) : EE X B env os (.UnaryOp .USub a pos) rInt (bnd w1 fun x => ret (-x)) := e_un un_neg (fun F H v x P E Q fh e1 hw k => ⟨x, e1, k _ hw _ F H (Grow.refl fh) rfl⟩) ha
theorem e_le (ha : EE X B env os a rInt w1) (hb : ∀ x, EE X B env os b rInt (w2 x)) : EE X B env os (.Compare a [.LtE] [b] pos) rBool (bnd w1 fun x => bnd (w2 x) fun y => ret (decide (x ≤ y))) := e_cmp op_le (r2i fun _ _ _ => rfl) (nomark _) ha hb
end
end Mi
namespace Mi
open PySem L2 Evl
def tOfT (B : Bs) (env : Env) (os : Os) (w : W Bool) : TT := fun σ H Q => ∃ F P, Sit B F H σ env os ∧ w P B.E0 ∧ ∀ b, P b → ∀ F' H', Sit B F' H' σ env os → Ex F F' → Q b H'
def ET (X : Cx) (B : Bs) (env : Env) (os : Os) (e : Expr) (w : W Bool) : Prop := PT X e (tOfT B env os w)
def EW (X : Cx) (B : Bs) (env : Env) (os : Os) (e : Expr) (w : W Bool) : Prop := PW X e (tOfT B env os w)
theorem PT.imp {X : Cx} {e : Expr} {t t' : TT} (h : PT X e t) (i : ∀ σ H Q, t' σ H Q → t σ H Q) : PT X e t' := ⟨fun pins s σ H Q I q => h.run pins s σ H Q I (i _ _ _ q)⟩
theorem PW.imp {X : Cx} {e : Expr} {t t' : TT} (h : PW X e t) (i : ∀ σ H Q, t' σ H Q → t σ H Q) : PW X e t' := ⟨fun wh pins s σ H Q I q => h.run wh pins s σ H Q I (i _ _ _ q)⟩
section
variable {X : Cx} {B : Bs} {env : Env} {os : Os} {pos : Pos} {α β γ : Type} {r : Rp α} {s : Rp β} {t : Rp γ} {e a b c : Expr} {rest : List Expr} {w1 w2 w3 : W Bool}
theorem t_cmp {op : CmpOp} {q : R2} {f : α → β → W Bool} {w1 : W α} {w2 : α → W β} (ho : OpR X (compareOp op) q) (sem : R2T q r s rBool f) (hm : behindInMarks op b = false) (ha : EE X B env os a r w1) (hb : ∀ x, EE X B env os b s (w2 x)) :
    ET X B env os (.Compare a [op] [b] pos) (bnd w1 fun x => bnd (w2 x) fun y => f x y) := PT.imp (pt_cmpR ho ha (PE.ex hb) hm) fun σ H Q ⟨F, P, S, hw, k⟩ =>
  two (t := rBool) sem ⟨F, P, S, hw, fun z hz v F' H' S' e' ok => ⟨z, ok, k z hz F' H' S' e'⟩⟩
/-- the value is True or False -/
theorem t_val {w : W Bool} (h : EE X B env os e rBool w) (he : ∀ whole, isTrue e X.env whole = (do let v ← whole; standAt e.pos; holding [v] (truthy v)) := by intro _; rfl) : ET X B env os e w :=
  PT.imp (pt_val h he) fun σ H Q ⟨F, P, S, hw, k⟩ => ⟨F, P, S, hw, fun z hz v F' H' S' e' ok => ⟨z, ok, k z hz F' H' S' e'⟩⟩
theorem t_not {w : W Bool} (h : ET X B env os e w) : ET X B env os (.UnaryOp .Not e pos) (bnd w fun b => ret (!b)) := PT.imp (pt_not h) fun σ H Q ⟨F, P, S, hw, k⟩ => ⟨F, _, S, hw, fun b hb => k (!b) hb⟩
theorem t_pw {w : W Bool} (h : EW X B env os e w) : ET X B env os e w := PW.pt h
theorem w_and1 {w : W Bool} (h : ET X B env os a w) : EW X B env os (.BoolOp .And [a] pos) w := pw_and1 h
theorem w_or1 {w : W Bool} (h : ET X B env os a w) : EW X B env os (.BoolOp .Or [a] pos) w := pw_or1 h
theorem w_and (ha : ET X B env os a w1) (hb : EW X B env os (.BoolOp .And (b :: rest) pos) w2) : EW X B env os (.BoolOp .And (a :: b :: rest) pos) (bnd w1 fun x => if x = true then w2 else ret false) :=
  PW.imp (pw_and ha hb) fun σ H Q ⟨F, P, S, hw, k⟩ => ⟨F, _, S, hw, fun x hx F' H' S' e' => by
    cases x with
    | true => exact ⟨F', P, S', hx, fun y hy F2 H2 S2 e2 => k y hy F2 H2 S2 (e'.trans e2)⟩
    | false => exact k false hx F' H' S' e'⟩
theorem w_or (ha : ET X B env os a w1) (hb : EW X B env os (.BoolOp .Or (b :: rest) pos) w2) : EW X B env os (.BoolOp .Or (a :: b :: rest) pos) (bnd w1 fun x => if x = true then ret true else w2) :=
  PW.imp (pw_or ha hb) fun σ H Q ⟨F, P, S, hw, k⟩ => ⟨F, _, S, hw, fun x hx F' H' S' e' => by
    cases x with
    | true => exact k true hx F' H' S' e'
    | false => exact ⟨F', P, S', hx, fun y hy F2 H2 S2 e2 => k y hy F2 H2 S2 (e'.trans e2)⟩⟩
theorem e_not {w : W Bool} (h : EE X B env os e rBool w) : EE X B env os (.UnaryOp .Not e pos) rBool (bnd w fun b => ret (!b)) := PE.imp (pe_not h) fun σ H Q ⟨F, P, S, hw, k⟩ => ⟨F, _, S, hw, fun b hb v F' H' S' e' ok => ⟨b, ok, k (!b) hb _ F' H' S' e' rfl⟩⟩
theorem e_one {op : BoolOp} {w : W α} (h : EE X B env os a r w) : EE X B env os (.BoolOp op [a] pos) r w := pe_one h
theorem e_and (ha : EE X B env os a rBool w1) (hb : EE X B env os (.BoolOp .And (b :: rest) pos) rBool w2) : EE X B env os (.BoolOp .And (a :: b :: rest) pos) rBool (bnd w1 fun x => if x = true then w2 else ret false) :=
  PE.imp (pe_and ha hb) fun σ H Q ⟨F, P, S, hw, k⟩ => ⟨F, _, S, hw, fun x hx v F' H' S' e' ok => ⟨x, ok, by
    cases x with
    | true => exact ⟨F', P, S', hx, fun y hy v F2 H2 S2 e2 => k y hy v F2 H2 S2 (e'.trans e2)⟩
    | false => exact k false hx _ F' H' S' e' rfl⟩⟩
theorem e_or (ha : EE X B env os a rBool w1) (hb : EE X B env os (.BoolOp .Or (b :: rest) pos) rBool w2) : EE X B env os (.BoolOp .Or (a :: b :: rest) pos) rBool (bnd w1 fun x => if x = true then ret true else w2) :=
  PE.imp (pe_or ha hb) fun σ H Q ⟨F, P, S, hw, k⟩ => ⟨F, _, S, hw, fun x hx v F' H' S' e' ok => ⟨x, ok, by
    cases x with
    | true => exact k true hx _ F' H' S' e' rfl
    | false => exact ⟨F', P, S', hx, fun y hy v F2 H2 S2 e2 => k y hy v F2 H2 S2 (e'.trans e2)⟩⟩⟩
theorem e_if {wc : W Bool} {wa wb : W α} (hc : ET X B env os c wc) (ha : EE X B env os a r wa) (hb : EE X B env os b r wb) : EE X B env os (.IfExp c a b pos) r (bnd wc fun x => if x = true then wa else wb) :=
  PE.imp (pe_ifExp hc ha hb) fun σ H Q ⟨F, P, S, hw, k⟩ => ⟨F, _, S, hw, fun x hx F' H' S' e' => by
    cases x with
    | true => exact ⟨F', P, S', hx, fun y hy v F2 H2 S2 e2 => k y hy v F2 H2 S2 (e'.trans e2)⟩
    | false => exact ⟨F', P, S', hx, fun y hy v F2 H2 S2 e2 => k y hy v F2 H2 S2 (e'.trans e2)⟩⟩
end
abbrev Post (β : Type) := Ends → β → Prop
def tBG (B : Bs) (env : Env) (os : Os) {β : Type} (post : Post β) (w : W β) : TS := fun D σ H => ∃ F P, Sit B F H σ env os ∧ w P B.E0 ∧ ∀ x, P x → post D x
def BG (X : Cx) (B : Bs) (env : Env) (os : Os) (blk : List Stmt) {β : Type} (post : Post β) (w : W β) : Prop := PSs X blk (tBG B env os post w)
theorem PSs.imp {X : Cx} {b : List Stmt} {t t' : TS} (h : PSs X b t) (i : ∀ D σ H, t' D σ H → t D σ H) : PSs X b t' := ⟨fun pins s σ H D I q => h.run pins s σ H D I (i _ _ _ q)⟩
theorem PSs.ex {X : Cx} {b : List Stmt} {ι : Type} {t : ι → TS} (h : ∀ i, PSs X b (t i)) : PSs X b (fun D σ H => ∃ i, t i D σ H) := ⟨fun pins s σ H D I ⟨i, q⟩ => (h i).run pins s σ H D I q⟩
/-- the objects handed in, behind the body -/
def OsOk (B : Bs) (F H : Hp) (os : Os) : Prop := ∀ p ∈ os, F p.1 = none ∧ (∃ o, H p.1 = some o ∧ p.2.ok F o) ∧ (B.H p.1 = none ∨ p.1 ∈ B.io)
def pRet (B : Bs) (osR : Os) {ρ : Type} (ro : Rp ρ) : Post ρ := fun D x => ∀ v F H, Fn B F H → OsOk B F H osR → ro.ok F v x → D.rt v H
def pNx (B : Bs) {S : Type} (envS : S → Env) (osS : S → Os) : Post S := fun D s => ∀ σ F H, Sit B F H σ (envS s) (osS s) → D.nx σ H
def pFl (B : Bs) (osR : Os) {ρ : Type} (ro : Rp ρ) {S : Type} (envS : S → Env) (osS : S → Os) : Post (Fl S ρ) := fun D r => match r with
  | .nx s => ∀ σ F H, Sit B F H σ (envS s) (osS s) → D.nx σ H
  | .rt x => ∀ v F H, Fn B F H → OsOk B F H osR → ro.ok F v x → D.rt v H
  | .bk s => ∀ σ F H, Sit B F H σ (envS s) (osS s) → D.bk σ H
  | .ct s => ∀ σ F H, Sit B F H σ (envS s) (osS s) → D.ct σ H
/-- a post that says nothing of what comes next -/
def pX {β : Type} (post : Post β) : Post β := fun D x => ∃ nx, post { D with nx := nx } x
structure RtOk (B : Bs) {β ρ : Type} (post : Post β) (osR : Os) (ro : Rp ρ) (inj : ρ → β) : Prop where
  ok : ∀ D x, post D (inj x) → ∀ v F H, Fn B F H → OsOk B F H osR → ro.ok F v x → D.rt v H
structure NxOk (B : Bs) {β : Type} (post : Post β) (env : Env) (os : Os) (x : β) : Prop where
  ok : ∀ D, post D x → ∀ σ F H, Sit B F H σ env os → D.nx σ H
section
variable {B : Bs} {osR : Os} {ρ S β : Type} {ro : Rp ρ} {envS : S → Env} {osS : S → Os} {post : Post β} {inj : ρ → β}
theorem RtOk.ret : RtOk B (pRet B osR ro) osR ro (fun x => x) := ⟨fun _ _ h => h⟩
theorem RtOk.fl : RtOk B (pFl B osR ro envS osS) osR ro .rt := ⟨fun _ _ h => h⟩
theorem RtOk.x (h : RtOk B post osR ro inj) : RtOk B (pX post) osR ro inj := ⟨fun D x ⟨nx, q⟩ => h.ok { D with nx := nx } x q⟩
/-- slots may be forgotten -/
def EnvLe : Env → Env → Prop
  | [], [] => True
  | a :: as, b :: bs => (b = a ∨ b = sa) ∧ EnvLe as bs
  | _, _ => False
theorem EnvLe.of {F : Hp} : ∀ {e e' : Env} {σ : L2.St}, EnvLe e e' → EnvOk F e σ → EnvOk F e' σ
  | [], [], _, _, h => h
  | _ :: _, _ :: _, _, ⟨h1, h2⟩, .cons r t => .cons (h1.elim (fun z => z ▸ r) fun z => z ▸ trivial) (EnvLe.of h2 t)
  | [], _ :: _, _, h, _ => h.elim
  | _ :: _, [], _, h, _ => h.elim
theorem EnvLe.refl : ∀ e : Env, EnvLe e e
  | [] => trivial
  | _ :: as => ⟨.inl rfl, EnvLe.refl as⟩
def OsLe (os os' : Os) : Prop := ∀ p ∈ os', p ∈ os
theorem OsLe.refl (os : Os) : OsLe os os := fun _ h => h
/-- what is handed back may say less -/
def OsW (os os' : Os) : Prop := ∀ p ∈ os', ∃ q ∈ os, q.1 = p.1 ∧ ∀ F o, q.2.ok F o → p.2.ok F o
theorem OsW.of {os os' : Os} (h : OsLe os os') : OsW os os' := fun p hp => ⟨p, h p hp, rfl, fun _ _ q => q⟩
theorem OsW.nil {os : Os} : OsW os [] := fun p hp => by cases hp
theorem OsW.refl {os : Os} : OsW os os := OsW.of (OsLe.refl os)
theorem OsW.one {a : Addr} {q p : Own} {os : Os} (h : ∀ F o, q.ok F o → p.ok F o) : OsW ((a, q) :: os) [(a, p)] := fun z hz => by
  rcases List.mem_cons.mp hz with e | e
  · subst e
    exact ⟨(a, q), List.mem_cons_self .., rfl, h⟩
  · cases e
theorem OsW.ok {F H : Hp} {σ : L2.St} {env : Env} {os os' : Os} (h : OsW os os') (s : Sit B F H σ env os) : OsOk B F H os' := fun p hp => by
  obtain ⟨q, hq, e, k⟩ := h p hp
  obtain ⟨h1, ⟨o, h2, h3⟩, h4⟩ := s.ow q hq
  rw [e] at h1 h2 h4
  exact ⟨h1, ⟨o, h2, k F o h3⟩, h4⟩
theorem Sit.le {F H : Hp} {σ : L2.St} {env env' : Env} {os : Os} (s : Sit B F H σ env os) (h : EnvLe env env') : Sit B F H σ env' os := ⟨s.fin, h.of s.env, s.ow, s.nd⟩
theorem Sit.one {F H : Hp} {σ : L2.St} {env : Env} {os : Os} {a : Addr} {q p : Own} (s : Sit B F H σ env ((a, q) :: os)) (h : ∀ F o, q.ok F o → p.ok F o) : Sit B F H σ env ((a, p) :: os) := ⟨s.fin, s.env, fun z hz => by
  rcases List.mem_cons.mp hz with e | e
  · subst e
    obtain ⟨h1, ⟨o, h2, h3⟩, h4⟩ := s.ow (a, q) (List.mem_cons_self ..)
    exact ⟨h1, ⟨o, h2, h F o h3⟩, h4⟩
  · exact s.ow z (List.mem_cons_of_mem _ e), s.nd⟩
theorem NxOk.one {env : Env} {s : S} {a : Addr} {q p : Own} {os : Os} (ho : osS s = (a, p) :: os) (h : EnvLe env (envS s)) (hq : ∀ F o, q.ok F o → p.ok F o) : NxOk B (pNx B envS osS) env ((a, q) :: os) s := ⟨fun D k σ F H z => k σ F H (by
  rw [ho]
  exact (z.le h).one hq)⟩
theorem NxOk.nx {env : Env} {s : S} (h : EnvLe env (envS s)) : NxOk B (pNx B envS osS) env (osS s) s := ⟨fun D q σ F H z => q σ F H (z.le h)⟩
theorem NxOk.fl {env : Env} {s : S} (h : EnvLe env (envS s)) : NxOk B (pFl B osR ro envS osS) env (osS s) (.nx s) := ⟨fun D q σ F H z => q σ F H (z.le h)⟩
end
section
variable {X : Cx} {B : Bs} {env : Env} {os : Os} {pos pos' : Pos} {α β ρ S : Type} {r : Rp α} {e c : Expr} {rest blkA blkB : List Stmt} {post : Post β}
theorem b_conv {blk : List Stmt} {w w' : W β} (h : BG X B env os blk post w) (q : w' = w) : BG X B env os blk post w' := q ▸ h
theorem b_ret {osR : Os} {ro : Rp ρ} {inj : ρ → β} {w : W ρ} (hp : RtOk B post osR ro inj) (ho : OsW os osR) (h : EE X B env os e ro w) : BG X B env os [.Return (some e) pos] post (bnd w fun x => ret (inj x)) :=
  PSs.imp (pss_one (ps_ret h)) fun D σ H ⟨F, P, Si, hw, k⟩ => ⟨F, _, Si, hw, fun x hx v F' H' S' _ ok => hp.ok D x (k _ hx) v F' H' S'.fin (ho.ok S') ok⟩
theorem b_end {x : β} (hp : NxOk B post env os x) : BG X B env os [] post (ret x) := PSs.imp pss_nil fun D σ H ⟨F, P, S, hw, k⟩ => hp.ok D (k x hw) σ F H S
/-- a code that is never reached -/
theorem b_never {blk : List Stmt} : BG X B env os blk post fail := PSs.imp pss_never fun _ _ _ ⟨_, _, _, hw, _⟩ => hw
/-- name = e -/
theorem b_set (i : Nat) {x : Str} {w1 : W α} {w2 : α → W β} (he : EE X B env os e r w1) (hr : ∀ y, BG X B (env.set i (sv r y)) os rest post (w2 y)) (hN : X.N.Nodup) (hi : X.N[i]? = some x := by rfl)
    (hx : Loc X.env.scope x := by first | exact Or.inl rfl | exact Or.inr rfl) (hs : swapsWith e (some (.Name x pos')) pos.line X.env = pure false := by rfl) (hf : X.fn x = true ∨ X.env.scope.names.lookup x = some .local := by first | exact .inl rfl | exact .inr rfl | assumption) :
    BG X B env os (.Assign [.Name x pos'] e pos :: rest) post (bnd w1 w2) :=
  PSs.imp (pss_cons (ps_set hN hi hx he hs hf) (PSs.ex hr)) fun D σ H ⟨F, P, S, hw, k⟩ => ⟨F, _, S, hw, fun y hy v F' H' S' _ ok => ⟨y, F', P, S'.store ⟨v, rfl, ok⟩, hy, k⟩⟩
/-- an expression alone -/
theorem b_expr {w1 : W α} {w2 : W β} (he : EE X B env os e r w1) (hr : BG X B env os rest post w2) (hs : swapsWith e none pos.line X.env = pure false := by rfl) : BG X B env os (.Expr e pos :: rest) post (bnd w1 fun _ => w2) :=
  PSs.imp (pss_cons (ps_expr he hs) hr) fun D σ H ⟨F, P, S, hw, k⟩ => ⟨F, _, S, hw, fun y hy v F' H' S' _ ok => ⟨F', P, S', hy, k⟩⟩
/-- if, one branch of which never comes to the rest -/
theorem b_ifA {wc : W Bool} {w1 w2 : W β} (hc : ET X B env os c wc) (hA : BG X B env os blkA (pX post) w1) (hr : BG X B env os rest post w2) : BG X B env os (.If c blkA [] pos :: rest) post (bnd wc fun b => if b = true then w1 else w2) :=
  PSs.imp (pss_cons (ps_if hc hA pss_nil) hr) fun D σ H ⟨F, P, S, hw, k⟩ => ⟨F, _, S, hw, fun b hb F' H' S' _ => by
    cases b with
    | true => exact ⟨F', P, S', hb, fun x hx => ⟨D.nx, k x hx⟩⟩
    | false => exact ⟨F', P, S', hb, k⟩⟩
/-- both branches go on -/
theorem b_ifJ {wc : W Bool} {w1 w2 : W S} {w3 : S → W β} (envS : S → Env) (osS : S → Os) (hc : ET X B env os c wc) (hA : BG X B env os blkA (pNx B envS osS) w1) (hB : BG X B env os blkB (pNx B envS osS) w2)
    (hr : ∀ s, BG X B (envS s) (osS s) rest post (w3 s)) : BG X B env os (.If c blkA blkB pos :: rest) post (bnd wc fun b => bnd (if b = true then w1 else w2) w3) :=
  PSs.imp (pss_cons (ps_if hc hA hB) (PSs.ex hr)) fun D σ H ⟨F, P, S, hw, k⟩ => ⟨F, _, S, hw, fun b hb F' H' S' _ => by
    cases b with
    | true => exact ⟨F', _, S', hb, fun s hs σ2 F2 H2 S2 => ⟨s, F2, P, S2, hs, k⟩⟩
    | false => exact ⟨F', _, S', hb, fun s hs σ2 F2 H2 S2 => ⟨s, F2, P, S2, hs, k⟩⟩⟩
end
end Mi
namespace Mi
open PySem L2 Evl
theorem Paired.get {α β : Type} {R : α → β → Prop} : ∀ {l : List α} {m : List β} {i : Nat} {y : β}, Paired R l m → m[i]? = some y → ∃ x, l[i]? = some x ∧ R x y
  | _, _, i, y, .nil, h => by simp at h
  | _, _, 0, y, .cons r t, h => by
    simp at h
    subst h
    exact ⟨_, rfl, r⟩
  | _, _, i + 1, y, .cons r t, h => by
    obtain ⟨x, h1, h2⟩ := Paired.get (i := i) t (by simpa using h)
    exact ⟨x, by simpa using h1, h2⟩
theorem Paired.get' {α β : Type} {R : α → β → Prop} : ∀ {l : List α} {m : List β} {i : Nat} {x : α}, Paired R l m → l[i]? = some x → ∃ y, m[i]? = some y ∧ R x y
  | _, _, i, y, .nil, h => by simp at h
  | _, _, 0, y, .cons r t, h => by
    simp at h
    subst h
    exact ⟨_, rfl, r⟩
  | _, _, i + 1, y, .cons r t, h => by
    obtain ⟨x, h1, h2⟩ := Paired.get' (i := i) t (by simpa using h)
    exact ⟨x, by simpa using h1, h2⟩
theorem Paired.app {α β : Type} {R : α → β → Prop} : ∀ {l l' : List α} {m m' : List β}, Paired R l m → Paired R l' m' → Paired R (l ++ l') (m ++ m')
  | _, _, _, _, .nil, h => h
  | _, _, _, _, .cons r t, h => .cons r (Paired.app t h)
theorem Paired.setR {α β : Type} {R : α → β → Prop} {x : α} {y : β} (r : R x y) : ∀ {l : List α} {m : List β} {i : Nat}, Paired R l m → Paired R (l.set i x) (m.set i y)
  | _, _, _, .nil => .nil
  | _, _, 0, .cons _ t => .cons r t
  | _, _, i + 1, .cons q t => .cons q (Paired.setR r (i := i) t)
theorem Paired.takeR {α β : Type} {R : α → β → Prop} : ∀ {l : List α} {m : List β} (n : Nat), Paired R l m → Paired R (l.take n) (m.take n)
  | _, _, 0, _ => .nil
  | _, _, _ + 1, .nil => .nil
  | _, _, n + 1, .cons r t => .cons r (Paired.takeR n t)
theorem Paired.dropR {α β : Type} {R : α → β → Prop} : ∀ {l : List α} {m : List β} (n : Nat), Paired R l m → Paired R (l.drop n) (m.drop n)
  | _, _, 0, r => r
  | _, _, _ + 1, .nil => .nil
  | _, _, n + 1, .cons _ t => Paired.dropR n t
/-- a list of values that stand for x's by a function -/
theorem Paired.eqMap {α : Type} {f : α → V} : ∀ {l : List V} {m : List α}, Paired (fun v x => v = f x) l m → l = m.map f
  | _, _, .nil => rfl
  | _, _, .cons r t => by
    subst r
    rw [List.map_cons, ← Paired.eqMap t]
theorem ints_map {F : Hp} {vs : List V} {xs : List Int} (h : Paired (rInt.ok F) vs xs) : vs = xs.map V.int := Paired.eqMap h
theorem bools_map {F : Hp} {vs : List V} {xs : List Bool} (h : Paired (rBool.ok F) vs xs) : vs = xs.map V.bl := Paired.eqMap h
/-- what the heap does not know the base does not know either -/
theorem Fn.fresh {B : Bs} {F H : Hp} {p : Addr} (s : Fn B F H) (hp : H p = none) : B.H p = none := by
  cases e : B.H p with
  | none => rfl
  | some o =>
    cases ef : B.F p with
    | none =>
      by_cases hio : p ∈ B.io
      · obtain ⟨u, hu⟩ := s.ios p hio
        rw [hp] at hu
        cases hu
      · have := (s.keep p o ef e hio).1
        rw [hp] at this
        cases this
    | some u =>
      have := s.fh p u (s.bf p u ef)
      rw [hp] at this
      cases this
theorem Sit.newOwn {B : Bs} {F H : Hp} {σ : L2.St} {env : Env} {os : Os} {p : Addr} {o : HO} {ow : Own} (s : Sit B F H σ env os) (hp : H p = none) (hb : ow.ok F o) : Sit B F (upd H p o) σ env ((p, ow) :: os) := by
  have fp : F p = none := fresh_back s.fh hp
  refine ⟨⟨s.fh.trans (Ex.new hp), s.fin.bf, s.fin.mrk, s.fin.bb, fun a ha => let ⟨o, h⟩ := s.fin.ios a ha; ⟨o, Ex.new hp a o h⟩, fun a u h1 h2 h3 => ?_⟩, s.env, fun q hq => ?_, ?_⟩
  · obtain ⟨k1, k2⟩ := s.fin.keep a u h1 h2 h3
    exact ⟨Ex.new hp a u k1, k2⟩
  · rcases List.mem_cons.mp hq with e | hq
    · subst e
      exact ⟨fp, ⟨o, upd_same, hb⟩, .inl (s.fin.fresh hp)⟩
    · obtain ⟨h1, ⟨u, h2, h3⟩, h4⟩ := s.ow q hq
      exact ⟨h1, ⟨u, Ex.new hp _ _ h2, h3⟩, h4⟩
  · rw [List.map_cons]
    refine List.nodup_cons.mpr ⟨fun hm => ?_, s.nd⟩
    obtain ⟨q, hq, e⟩ := List.mem_map.mp hm
    obtain ⟨_, ⟨u, h2, _⟩, _⟩ := s.ow q hq
    have e' : q.1 = p := e
    rw [e', hp] at h2
    cases h2
/-- the first own object will never change again -/
theorem Sit.freeze {B : Bs} {F H : Hp} {σ : L2.St} {env : Env} {os : Os} {p : Addr} {ow : Own} (s : Sit B F H σ env ((p, ow) :: os)) :
    ∃ F' o, Ex F F' ∧ F' p = some o ∧ ow.ok F' o ∧ Sit B F' H σ env os := by
  obtain ⟨h1, ⟨o, h2, h3⟩, h4⟩ := s.ow (p, ow) (List.mem_cons_self ..)
  have h1 : F p = none := h1
  have h2 : H p = some o := h2
  have e : Ex F (upd F p o) := Ex.new h1
  have nd := s.nd
  rw [List.map_cons] at nd
  obtain ⟨nd1, nd2⟩ := List.nodup_cons.mp nd
  refine ⟨upd F p o, o, e, upd_same, ow.mono e h3, ⟨fun a u ha => ?_, s.fin.bf.trans e, s.fin.mrk.trans e, s.fin.bb, s.fin.ios, fun a u k1 k2 k3 => ?_⟩, s.env.mono e, fun q hq => ?_, nd2⟩
  · by_cases hap : a = p
    · rw [hap, upd_same] at ha
      rw [hap, h2]
      exact ha
    · rw [upd_ne hap] at ha
      exact s.fh a u ha
  · obtain ⟨z1, z2⟩ := s.fin.keep a u k1 k2 k3
    refine ⟨z1, ?_⟩
    have hap : a ≠ p := by
      rintro rfl
      rcases h4 with q | q
      · have q' : B.H a = none := q
        rw [k2] at q'
        cases q'
      · exact k3 q
    rw [upd_ne hap]
    exact z2
  · obtain ⟨z1, ⟨u, z2, z3⟩, z4⟩ := s.ow q (List.mem_cons_of_mem _ hq)
    have hap : q.1 ≠ p := fun z => by
      have hm := List.mem_map_of_mem (f := Prod.fst) hq
      rw [z] at hm
      exact nd1 hm
    exact ⟨by rw [upd_ne hap]; exact z1, ⟨u, z2, q.2.mono e z3⟩, z4⟩
theorem set_same {α : Type} : ∀ {l : List α} {j : Nat} {x : α}, l[j]? = some x → l.set j x = l
  | [], _, _, _ => rfl
  | a :: l, 0, x, h => by
    simp at h
    subst h
    rfl
  | a :: l, j + 1, x, h => by
    show a :: l.set j x = a :: l
    rw [set_same (by simpa using h)]
/-- an own object is changed -/
theorem Sit.change {B : Bs} {F H : Hp} {σ : L2.St} {env : Env} {os : Os} {j : Nat} {p : Addr} {ow ow' : Own} {o' : HO} (s : Sit B F H σ env os) (hj : os[j]? = some (p, ow)) (hb : ow'.ok F o') : Sit B F (upd H p o') σ env (os.set j (p, ow')) := by
  have hm : (p, ow) ∈ os := List.mem_of_getElem? hj
  obtain ⟨h1, ⟨o, h2, h3⟩, h4⟩ := s.ow _ hm
  have h1 : F p = none := h1
  have h2 : H p = some o := h2
  have hjl : j < os.length := (List.getElem?_eq_some_iff.mp hj).1
  have hmap : (os.set j (p, ow')).map (·.1) = os.map (·.1) := by
    rw [List.map_set]
    exact set_same (by rw [List.getElem?_map, hj]; rfl)
  refine ⟨⟨fun a u ha => ?_, s.fin.bf, s.fin.mrk, s.fin.bb, fun a ha => ?_, fun a u k1 k2 k3 => ?_⟩, s.env, fun q hq => ?_, by rw [hmap]; exact s.nd⟩
  · have hap : a ≠ p := fun z => by rw [z, h1] at ha; cases ha
    rw [upd_ne hap]
    exact s.fh a u ha
  · by_cases hap : a = p
    · exact ⟨o', by rw [hap, upd_same]⟩
    · obtain ⟨u, hu⟩ := s.fin.ios a ha
      exact ⟨u, by rw [upd_ne hap]; exact hu⟩
  · obtain ⟨z1, z2⟩ := s.fin.keep a u k1 k2 k3
    have hap : a ≠ p := by
      rintro rfl
      rcases h4 with q | q
      · have q' : B.H a = none := q
        rw [k2] at q'
        cases q'
      · exact k3 q
    rw [upd_ne hap]
    exact ⟨z1, z2⟩
  · obtain ⟨i, hi⟩ := List.mem_iff_getElem?.mp hq
    by_cases hij : j = i
    · subst hij
      rw [List.getElem?_set_self hjl] at hi
      cases hi
      exact ⟨h1, ⟨o', upd_same, hb⟩, h4⟩
    · rw [List.getElem?_set_ne hij] at hi
      obtain ⟨z1, ⟨u, z2, z3⟩, z4⟩ := s.ow q (List.mem_of_getElem? hi)
      have hap : q.1 ≠ p := fun z => by
        have nd := s.nd
        have a1 : (os.map (·.1))[i]? = some p := by rw [List.getElem?_map, hi, ← z]; rfl
        have a2 : (os.map (·.1))[j]? = some p := by rw [List.getElem?_map, hj]; rfl
        exact hij (nd_ix nd a2 a1)
      exact ⟨z1, ⟨u, by rw [upd_ne hap]; exact z2, z3⟩, z4⟩
end Mi
namespace Mi
open PySem L2 Evl
def tNew (B : Bs) (env : Env) (os : Os) {α : Type} (r : Rp α) (w : W (List α)) : TE := fun σ H Q => ∃ F P, Sit B F H σ env os ∧ w P B.E0 ∧ ∀ xs, P xs → ∀ a F' H', Sit B F' H' σ env ((a, oLst r xs) :: os) → Ex F F' → Q (.ref a) H'
def EN (X : Cx) (B : Bs) (env : Env) (os : Os) (e : Expr) {α : Type} (r : Rp α) (w : W (List α)) : Prop := PE X e (tNew B env os r w)
section
variable {X : Cx} {B : Bs} {env : Env} {os : Os} {pos : Pos} {α β γ : Type} {r : Rp α} {s : Rp β} {t : Rp γ} {e a b c : Expr} {es : List Expr}
/-- it is let go: it will not change again -/
theorem e_new {w : W (List α)} (h : EN X B env os e r w) : EE X B env os e (rLst r) w := PE.imp h fun σ H Q ⟨F, P, S, hw, k⟩ => ⟨F, P, S, hw, fun xs hx a F' H' S' e' => by
  obtain ⟨F2, o, e2, h1, ⟨vs, h2, h3, h4⟩, S2⟩ := S'.freeze
  subst h2
  exact k xs hx (.ref a) F2 H' S2 (e'.trans e2) ⟨a, vs, rfl, h1, h3, h4⟩⟩
def tAL (B : Bs) (env : Env) (os : Os) (n : Nat) {α : Type} (r : Rp α) (w : W (List α)) : TA := fun σ H Q => ∃ F P, Sit B F H σ env os ∧ w P B.E0 ∧ ∀ xs, P xs → ∀ vs F' H', Sit B F' H' σ env os → Ex F F' → Paired (r.ok F') vs xs → vs.length = n → Q vs H'
def AL (X : Cx) (B : Bs) (env : Env) (os : Os) (es : List Expr) {α : Type} (r : Rp α) (w : W (List α)) : Prop := PA X es (tAL B env os es.length r w)
theorem PA.imp {t t' : TA} (h : PA X es t) (i : ∀ σ H Q, t' σ H Q → t σ H Q) : PA X es t' := ⟨fun pos pins s σ H Q I q => h.run pos pins s σ H Q I (i _ _ _ q)⟩
theorem PA.ex {ι : Type} {t : ι → TA} (h : ∀ i, PA X es (t i)) : PA X es (fun σ H Q => ∃ i, t i σ H Q) := ⟨fun pos pins s σ H Q I ⟨i, q⟩ => (h i).run pos pins s σ H Q I q⟩
theorem al_nil : AL X B env os [] r (ret []) := PA.imp pa_nil fun σ H Q ⟨F, P, S, hw, k⟩ => k [] hw [] F H S (Ex.refl F) .nil rfl
theorem al_cons {w1 : W α} {w2 : W (List α)} (h : EE X B env os e r w1) (ht : AL X B env os es r w2) (hs : starEach (e :: es) X.env = (false, eval e X.env) :: starEach es X.env := by rfl) : AL X B env os (e :: es) r (bnd w1 fun x => bnd w2 fun xs => ret (x :: xs)) :=
  PA.imp (pa_cons h ht hs) fun σ H Q ⟨F, P, S, hw, k⟩ => ⟨F, _, S, hw, fun x hx v F1 H1 S1 e1 ok1 => ⟨F1, _, S1, hx, fun xs hxs vs F2 H2 S2 e2 ok2 hl => k _ hxs (v :: vs) F2 H2 S2 (e1.trans e2) (.cons (r.mono e2 ok1) ok2) (by rw [List.length_cons, hl, List.length_cons])⟩⟩
theorem n_list {w : W (List α)} (h : AL X B env os es r w) (hz : es.length ≤ sizeLine := by decide) : EN X B env os (.List es pos) r w := PE.imp (pe_lst h) fun σ H Q ⟨F, P, S, hw, k⟩ => ⟨F, P, S, hw, fun xs hx vs F' H' S' e' ok hl =>
  ⟨by rw [hl]; exact hz, fun p hp => k xs hx p F' _ (S'.newOwn hp ⟨vs, rfl, by rw [hl]; exact hz, ok⟩) e'⟩⟩
theorem e_tup2 {w1 : W α} {w2 : α → W β} {x1} (ha : EE X B env os a r w1) (hb : ∀ x, EE X B env os b s (w2 x)) (hs : starEach [a, b] X.env = (false, eval a X.env) :: starEach [b] X.env := by rfl) (hs2 : starEach [b] X.env = (false, eval b X.env) :: starEach [] X.env := by rfl) :
    EE X B env os (.Tuple [a, b] x1 pos) (rT2 X.K r s) (bnd w1 fun x => bnd (w2 x) fun y => ret (x, y)) :=
  PE.imp (pe_tup (pa_cons ha (pa_cons (PE.ex hb) pa_nil hs2) hs)) fun σ H Q ⟨F, P, S, hw, k⟩ => ⟨F, _, S, hw, fun x hx v F1 H1 S1 e1 ok1 => ⟨x, F1, _, S1, hx, fun y hy u F2 H2 S2 e2 ok2 =>
    ⟨(by show 2 ≤ sizeLine; decide), fun p hp => by
      have g : Grow F2 H2 (upd F2 p (.tup [v, u])) (upd H2 p (.tup [v, u])) := Grow.alloc S2.fh hp
      exact k _ hy (.ref p) _ _ (S2.grow g) ((e1.trans e2).trans g.f) ⟨p, v, u, rfl, SqT.of upd_same, r.mono (e2.trans g.f) ok1, s.mono g.f ok2⟩⟩⟩⟩
theorem e_tup3 {w1 : W α} {w2 : α → W β} {w3 : α → β → W γ} {x1} (ha : EE X B env os a r w1) (hb : ∀ x, EE X B env os b s (w2 x)) (hc : ∀ x y, EE X B env os c t (w3 x y)) (hs : starEach [a, b, c] X.env = (false, eval a X.env) :: starEach [b, c] X.env := by rfl)
    (hs2 : starEach [b, c] X.env = (false, eval b X.env) :: starEach [c] X.env := by rfl) (hs3 : starEach [c] X.env = (false, eval c X.env) :: starEach [] X.env := by rfl) :
    EE X B env os (.Tuple [a, b, c] x1 pos) (rT3 X.K r s t) (bnd w1 fun x => bnd (w2 x) fun y => bnd (w3 x y) fun z => ret (x, y, z)) :=
  PE.imp (pe_tup (pa_cons ha (pa_cons (PE.ex hb) (pa_cons (PE.ex fun p : α × β => hc p.1 p.2) pa_nil hs3) hs2) hs)) fun σ H Q ⟨F, P, S, hw, k⟩ => ⟨F, _, S, hw, fun x hx v F1 H1 S1 e1 ok1 => ⟨x, F1, _, S1, hx, fun y hy u F2 H2 S2 e2 ok2 => ⟨(x, y), F2, _, S2, hy, fun z hz q F3 H3 S3 e3 ok3 =>
    ⟨(by show 3 ≤ sizeLine; decide), fun p hp => by
      have g : Grow F3 H3 (upd F3 p (.tup [v, u, q])) (upd H3 p (.tup [v, u, q])) := Grow.alloc S3.fh hp
      exact k _ hz (.ref p) _ _ (S3.grow g) (((e1.trans e2).trans e3).trans g.f) ⟨p, v, u, q, rfl, SqT.of upd_same, r.mono ((e2.trans e3).trans g.f) ok1, s.mono (e3.trans g.f) ok2, t.mono g.f ok3⟩⟩⟩⟩⟩
theorem ixN_map {n m : Nat} (h : n = m) (i : Int) : ixN n i = ixN m i := by rw [h]
theorem atI_paired {R : V → α → Prop} {vs : List V} {xs : List α} {i : Int} {x : α} (h : Paired R vs xs) (hx : atI xs i = some x) : ∃ v, atI vs i = some v ∧ R v x := by
  unfold atI at hx ⊢
  rw [ixN_map h.length i]
  cases e : ixN xs.length i with
  | none => rw [e] at hx; cases hx
  | some j =>
    rw [e] at hx
    exact Paired.get h hx
def idx (xs : List α) (i : Int) : W α := match atI xs i with
  | some x => ret x
  | none => fail
theorem idx_of {xs : List α} {i : Int} {P : α → Prop} {E : Er → Prop} (h : idx xs i P E) : ∃ x, atI xs i = some x ∧ P x := by
  unfold idx at h
  cases e : atI xs i with
  | none => rw [e] at h; exact False.elim h
  | some x => rw [e] at h; exact ⟨x, rfl, h⟩
theorem sem_idx {K : PySem.W.Frag} : R2T (rIxL K) (rLst r) rInt r (fun x i => idx x i) := fun F H v u x y P E Q fh ⟨p, vs, e1, h1, h2, h3⟩ e2 hw k => by
  obtain ⟨z, hz, pz⟩ := idx_of hw
  obtain ⟨v', hv', rz⟩ := atI_paired h3 hz
  exact ⟨p, vs, y, v', e1, e2, SqL.of (fh _ _ h1), hv', k z pz v' F H (Grow.refl fh) rz⟩
theorem sem_fst {K : PySem.W.Frag} : R2T (rIxT K) (rT2 K r s) rInt r (fun x i => chk (i = 0) (ret x.1)) := fun F H v u x y P E Q fh ⟨p, v1, v2, e1, h1, h2, h3⟩ e2 ⟨c, hw⟩ k =>
  ⟨p, _, y, v1, e1, e2, ex_t fh h1, (by subst c; rfl), k _ hw v1 F H (Grow.refl fh) h2⟩
theorem sem_snd {K : PySem.W.Frag} : R2T (rIxT K) (rT2 K r s) rInt s (fun x i => chk (i = 1) (ret x.2)) := fun F H v u x y P E Q fh ⟨p, v1, v2, e1, h1, h2, h3⟩ e2 ⟨c, hw⟩ k =>
  ⟨p, _, y, v2, e1, e2, ex_t fh h1, (by subst c; rfl), k _ hw v2 F H (Grow.refl fh) h3⟩
theorem e_idx {w1 : W (List α)} {w2 : List α → W Int} (ha : EE X B env os a (rLst r) w1) (hb : ∀ x, EE X B env os b rInt (w2 x)) (hs : PlainIx b := by exact fun _ _ => rfl) : EE X B env os (.Subscript a b pos) r (bnd w1 fun x => bnd (w2 x) fun i => idx x i) :=
  e_ix ix_list sem_idx hs ha hb
/-- the places of a pair -/
theorem e_fst {w1 : W (α × β)} {j} {pos2 : Pos} (ha : EE X B env os a (rT2 X.K r s) w1) (hs : PlainIx (.Constant (.int 0) j pos2) := by exact fun _ _ => rfl) : EE X B env os (.Subscript a (.Constant (.int 0) j pos2) pos) r (bnd w1 fun x => ret x.1) :=
  e_conv (e_ix ix_tup sem_fst hs ha (fun _ => e_int)) (by
      funext P E
      show w1 _ E = w1 _ E
      congr 1
      funext x
      exact propext ⟨fun h => ⟨rfl, h⟩, fun h => h.2⟩)
theorem e_snd {w1 : W (α × β)} {j} {pos2 : Pos} (ha : EE X B env os a (rT2 X.K r s) w1) (hs : PlainIx (.Constant (.int 1) j pos2) := by exact fun _ _ => rfl) : EE X B env os (.Subscript a (.Constant (.int 1) j pos2) pos) s (bnd w1 fun x => ret x.2) :=
  e_conv (e_ix ix_tup sem_snd hs ha (fun _ => e_int)) (by
      funext P E
      show w1 _ E = w1 _ E
      congr 1
      funext x
      exact propext ⟨fun h => ⟨rfl, h⟩, fun h => h.2⟩)
def C1T (q : List V → Hp → VK → Prop) (r : Rp α) (t : Rp γ) (f : α → W γ) : Prop := ∀ (F H : Hp) (v : V) (x : α) (P : γ → Prop) (E : Er → Prop) (Q : VK), Ex F H → r.ok F v x → f x P E → (∀ z, P z → ∀ v' F' H', Grow F H F' H' → t.ok F' v' z → Q v' H') → q [v] H Q
theorem one_call {q : List V → Hp → VK → Prop} {f : α → W γ} {w1 : W α} (sem : C1T q r t f) {σ : L2.St} {H : Hp} {Q : VK} (h : tOf B env os t (bnd w1 f) σ H Q) : tCB q (tCons (tOf B env os r w1) tNil) σ H Q := by
  obtain ⟨F, P, S, hw, k⟩ := h
  exact ⟨F, _, S, hw, fun x hx v F1 H1 S1 e1 ok1 => sem F1 H1 v x P B.E0 Q S1.fh ok1 hx fun z hz v' F3 H3 g ok3 => k z hz v' F3 H3 (S1.grow g) (e1.trans g.f) ok3⟩
theorem e_callB {id : String} {x : Str} {p : Pos} {q : List V → Hp → VK → Prop} {f : α → W γ} {w1 : W α} (hc : CallR X (.builtin id) q) (sem : C1T q r t f) (ha : EE X B env os a r w1) (hm : X.mg x = none) (hg : Gl X x := by rfl) (hv : bootBuiltins x = some (.builtin id) := by decide +kernel)
    (hn : x ≠ "__name__" := by decide) (hdb : (x == ("__debug__" : Str)) = false := by decide) (he : starEach [a] X.env = (false, eval a X.env) :: starEach [] X.env := by rfl) (hpl : (backTo pos (starEach [] X.env)).any (·.1) = false := by rfl) :
    EE X B env os (.Call (.Name x p) [a] [] pos) t (bnd w1 f) := PE.imp (pe_callB hc hg hm hv (pa_cons ha pa_nil he) hn hdb he hpl) fun _ _ _ h => one_call sem h
theorem e_callTy {id : String} {x : Str} {p : Pos} {q : List V → Hp → VK → Prop} {f : α → W γ} {w1 : W α} (hc : CallR X (.type id) q) (sem : C1T q r t f) (ha : EE X B env os a r w1) (hm : X.mg x = none) (hg : Gl X x := by rfl) (hv : bootBuiltins x = some (.type id) := by decide +kernel)
    (hn : x ≠ "__name__" := by decide) (hdb : (x == ("__debug__" : Str)) = false := by decide) (he : starEach [a] X.env = (false, eval a X.env) :: starEach [] X.env := by rfl) (hpl : (backTo pos (starEach [] X.env)).any (·.1) = false := by rfl) :
    EE X B env os (.Call (.Name x p) [a] [] pos) t (bnd w1 f) := PE.imp (pe_callTy hc hg hm hv (pa_cons ha pa_nil he) hn hdb he hpl) fun _ _ _ h => one_call sem h
theorem sem_len {K : PySem.W.Frag} : C1T (fun xs H Q => ∃ p ys, xs = [.ref p] ∧ (SqL K H p ys ∨ SqT K H p ys) ∧ Q (.int ys.length) H) (rLst r) rInt (fun x => ret (x.length : Int)) := fun F H v x P E Q fh ⟨p, vs, e1, h1, h2, h3⟩ hw k =>
  ⟨p, vs, by rw [e1], .inl (SqL.of (fh _ _ h1)), k _ hw _ F H (Grow.refl fh) (by rw [h3.length]; rfl)⟩
theorem sem_lenT {K : PySem.W.Frag} : C1T (fun xs H Q => ∃ p ys, xs = [.ref p] ∧ (SqL K H p ys ∨ SqT K H p ys) ∧ Q (.int ys.length) H) (rTup K r) rInt (fun x => ret (x.length : Int)) := fun F H v x P E Q fh ⟨p, vs, e1, h1, h2, h3⟩ hw k =>
  ⟨p, vs, by rw [e1], .inr (ex_t fh h1), k _ hw _ F H (Grow.refl fh) (by rw [h3.length]; rfl)⟩
theorem sem_all {K : PySem.W.Frag} : C1T (rAll K) (rLst rBool) rBool (fun x => ret (x.all id)) := fun F H v x P E Q fh ⟨p, vs, e1, h1, h2, h3⟩ hw k =>
  ⟨p, x, by rw [e1], SqL.of (by rw [← bools_map h3]; exact fh _ _ h1), k _ hw _ F H (Grow.refl fh) rfl⟩
theorem sem_intI : C1T (fun xs H Q => (∃ i, xs = [.int i] ∧ Q (.int i) H) ∨ ∃ k, xs = [.bl k] ∧ Q (.int (if k then 1 else 0)) H) rInt rInt (fun x => ret x) := fun F H v x P E Q fh e1 hw k =>
  .inl ⟨x, by rw [e1], k _ hw _ F H (Grow.refl fh) rfl⟩
variable {w : W (List α)} {x : Str} {p : Pos}
theorem e_len (ha : EE X B env os a (rLst r) w) (hm : X.mg "len" = none) (hg : Gl X "len" := by rfl) (he : starEach [a] X.env = (false, eval a X.env) :: starEach [] X.env := by rfl) (hpl : (backTo pos (starEach [] X.env)).any (·.1) = false := by rfl) :
    EE X B env os (.Call (.Name "len" p) [a] [] pos) rInt (bnd w fun x => ret (x.length : Int)) := e_callB call_len_seq sem_len ha hm hg PySem.boot_len (by decide) (by decide) he hpl
theorem e_lenT (ha : EE X B env os a (rTup X.K r) w) (hm : X.mg "len" = none) (hg : Gl X "len" := by rfl) (he : starEach [a] X.env = (false, eval a X.env) :: starEach [] X.env := by rfl) (hpl : (backTo pos (starEach [] X.env)).any (·.1) = false := by rfl) :
    EE X B env os (.Call (.Name "len" p) [a] [] pos) rInt (bnd w fun x => ret (x.length : Int)) := e_callB call_len_seq sem_lenT ha hm hg PySem.boot_len (by decide) (by decide) he hpl
theorem e_intI {w : W Int} (ha : EE X B env os a rInt w) (hm : X.mg "int" = none) (hg : Gl X "int" := by rfl) (he : starEach [a] X.env = (false, eval a X.env) :: starEach [] X.env := by rfl) (hpl : (backTo pos (starEach [] X.env)).any (·.1) = false := by rfl) :
    EE X B env os (.Call (.Name "int" p) [a] [] pos) rInt w := e_conv (e_callTy call_int1 sem_intI ha hm hg (by decide +kernel) (by decide) (by decide) he hpl) rfl
theorem e_all {w : W (List Bool)} (hc : X.calm = true) (ha : EE X B env os a (rLst rBool) w) (hm : X.mg "all" = none) (hg : Gl X "all" := by rfl) (he : starEach [a] X.env = (false, eval a X.env) :: starEach [] X.env := by rfl) (hpl : (backTo pos (starEach [] X.env)).any (·.1) = false := by rfl) :
    EE X B env os (.Call (.Name "all" p) [a] [] pos) rBool (bnd w fun x => ret (x.all id)) := e_callB (cr_all hc) sem_all ha hm hg (by decide +kernel) (by decide) (by decide) he hpl
end
end Mi
namespace Mi
open PySem L2 Evl
structure Walks {α : Type} (J : It) (F : Hp) (r : Rp α) (xs : List α) : Prop where
  go : ∀ i F1 H1, Ex F F1 → Ex F1 H1 → i < xs.length → J.go i H1
  yld : ∀ i F1 H1 v H2 x, Ex F F1 → Ex F1 H1 → J.yld i H1 v H2 → xs[i]? = some x → ∃ F2, Grow F1 H1 F2 H2 ∧ r.ok F2 v x
  stop : ∀ i F1 H1, Ex F F1 → Ex F1 H1 → xs.length ≤ i → J.stop i H1
def tSrc (B : Bs) (env : Env) (os : Os) {α : Type} (r : Rp α) (w : W (List α)) : TI := fun σ H R => ∃ F P, Sit B F H σ env os ∧ w P B.E0 ∧ ∀ xs, P xs → ∀ J F' H', Sit B F' H' σ env os → Ex F F' → Walks J F' r xs → xs.length ≤ sizeLine → R J H'
def ES (X : Cx) (B : Bs) (env : Env) (os : Os) (tg e : Expr) {α : Type} (r : Rp α) (w : W (List α)) : Prop := PI X tg e (tSrc B env os r w)
theorem PI.imp {X : Cx} {tg e : Expr} {t t' : TI} (h : PI X tg e t) (i : ∀ σ H R, t' σ H R → t σ H R) : PI X tg e t' := ⟨fun pins s σ H R I q => h.run pins s σ H R I (i _ _ _ q)⟩
def rangeI (lo hi : Int) : List Int := (List.range (hi - lo).toNat).map fun (k : Nat) => lo + (k : Int)
def RgOk (lo hi : Int) : Prop := -(2 ^ 62) ≤ lo ∧ lo < 2 ^ 62 ∧ -(2 ^ 62) ≤ hi ∧ hi < 2 ^ 62 ∧ hi - lo ≤ 16777216
theorem rangeI_len (lo hi : Int) : (rangeI lo hi).length = (hi - lo).toNat := by
  unfold rangeI
  rw [List.length_map, List.length_range]
theorem walks_rng {lo hi : Int} {F : Hp} : Walks (Itr lo (hi - lo).toNat) F rInt (rangeI lo hi) := by
  refine ⟨fun i F1 H1 _ _ h => ?_, fun i F1 H1 v H2 x _ fh y hx => ?_, fun i F1 H1 _ _ h => ?_⟩
  · rw [rangeI_len] at h
    exact h
  · obtain ⟨e1, e2⟩ := y
    subst e1
    refine ⟨F1, Grow.refl fh, ?_⟩
    unfold rangeI at hx
    rw [List.getElem?_map] at hx
    obtain ⟨k, hk, ek⟩ := Option.map_eq_some_iff.mp hx
    have : k = i := by
      rw [List.getElem?_range (by
        have := (List.getElem?_eq_some_iff.mp hk).1
        simpa using this)] at hk
      exact (Option.some.inj hk).symm
    subst this
    show v = .int x
    rw [e2, ← ek]
  · rw [rangeI_len] at h
    exact h
section
variable {X : Cx} {B : Bs} {env : Env} {os : Os} {pos : Pos} {α β γ : Type} {r : Rp α} {s : Rp β} {t : Rp γ} {e a b c tg : Expr}
theorem s_list {w : W (List α)} (h : EE X B env os e (rLst r) w) : ES X B env os tg e r w := PI.imp (pi_list h) fun σ H R ⟨F, P, S, hw, k⟩ => ⟨F, P, S, hw, fun xs hx v F' H' S' e' ⟨p, vs, e1, h1, h2, h3⟩ =>
  ⟨p, e1, ⟨vs, SqL.of (S'.fh _ _ h1)⟩, k xs hx _ F' H' S' e' ⟨fun i F1 H1 x1 x2 hi => by
    obtain ⟨v, hv⟩ : ∃ v, vs[i]? = some v := ⟨_, List.getElem?_eq_getElem (by rw [h3.length]; exact hi)⟩
    exact ⟨vs, v, SqL.of (x2 _ _ (x1 _ _ h1)), hv⟩, fun i F1 H1 u H2 x x1 x2 y hx => by
    obtain ⟨e2, y⟩ := y
    subst e2
    obtain ⟨v, hv, rv⟩ := Paired.get h3 hx
    have e3 : vs[i]? = some u := y vs (SqL.of (x2 _ _ (x1 _ _ h1)))
    rw [e3] at hv
    cases hv
    exact ⟨F1, Grow.refl x2, r.mono x1 rv⟩, fun i F1 H1 x1 x2 hi => ⟨vs, SqL.of (x2 _ _ (x1 _ _ h1)), by rw [h3.length]; exact hi⟩⟩ (by rw [← h3.length]; exact h2)⟩⟩
theorem len_rng {lo hi : Int} (h : RgOk lo hi) : (rangeI lo hi).length ≤ sizeLine := by
  rw [rangeI_len, sizeLine_eq]
  obtain ⟨_, _, _, _, h⟩ := h
  omega
def rng1 (n : Int) : W (List Int) := chk (RgOk 0 n) (ret (rangeI 0 n))
def rng2 (lo hi : Int) : W (List Int) := chk (RgOk lo hi) (ret (rangeI lo hi))
theorem s_rng1 {p : Pos} {w : W Int} (ha : EE X B env os a rInt w) (hm : X.mg "range" = none) (hg : Gl X "range" := by rfl) (hs : starEach [a] X.env = [(false, eval a X.env)] := by rfl) (he : starEach [a] X.env = (false, eval a X.env) :: starEach [] X.env := by rfl) :
    ES X B env os tg (.Call (.Name "range" p) [a] [] pos) rInt (bnd w rng1) := PI.imp (pi_range1 hg hm (pa_cons ha pa_nil he) hs) fun σ H R ⟨F, P, S, hw, k⟩ => ⟨F, _, S, hw, fun x ⟨c, hx⟩ v F' H' S' e' ok => by
  obtain ⟨_, _, c1, c2, _⟩ := id c
  refine ⟨x, by rw [ok], c1, c2, ?_⟩
  have q := k _ hx (Itr 0 (x - 0).toNat) F' H' S' e' walks_rng (len_rng c)
  rw [Int.sub_zero] at q
  exact q⟩
theorem s_rng2 {p : Pos} {w : W Int} {w2 : Int → W Int} (ha : EE X B env os a rInt w) (hb : ∀ x, EE X B env os b rInt (w2 x)) (hm : X.mg "range" = none) (hg : Gl X "range" := by rfl) (hs : starEach [a, b] X.env = [(false, eval a X.env), (false, eval b X.env)] := by rfl) (hs2 : starEach [b] X.env = [(false, eval b X.env)] := by rfl)
    (he : starEach [a, b] X.env = (false, eval a X.env) :: starEach [b] X.env := by rfl) (he2 : starEach [b] X.env = (false, eval b X.env) :: starEach [] X.env := by rfl) :
    ES X B env os tg (.Call (.Name "range" p) [a, b] [] pos) rInt (bnd w fun x => bnd (w2 x) fun y => rng2 x y) := PI.imp (pi_range2 hg hm (pa_cons ha (pa_cons (PE.ex hb) pa_nil he2) he) hs hs2) fun σ H R ⟨F, P, S, hw, k⟩ => ⟨F, _, S, hw, fun x hx v F1 H1 S1 e1 ok1 => ⟨x, F1, _, S1, hx, fun y ⟨c, hy⟩ u F2 H2 S2 e2 ok2 => by
  obtain ⟨c1, c2, c3, c4, _⟩ := id c
  exact ⟨x, y, by rw [ok1, ok2], ⟨c1, c2, c3, c4⟩, k _ hy _ F2 H2 S2 (e1.trans e2) walks_rng (len_rng c)⟩⟩⟩
theorem s_enum {p tpos : Pos} {elts : List Expr} {kk : Nat} {w : W (List α)} (ha : EE X B env os a (rLst r) w) (hm : X.mg "enumerate" = none) (hg : Gl X "enumerate" := by rfl) (hs : starEach [a] X.env = [(false, eval a X.env)] := by rfl)
    (he : starEach [a] X.env = (false, eval a X.env) :: starEach [] X.env := by rfl) :
    ES X B env os (.Tuple elts kk tpos) (.Call (.Name "enumerate" p) [a] [] pos) (rT2 X.K rInt r) (bnd w fun x => ret ((rangeI 0 x.length).zip x)) :=
  PI.imp (pi_enum hg hm (pa_cons ha pa_nil he) hs) fun σ H R ⟨F, P, S, hw, k⟩ => ⟨F, _, S, hw, fun x hx v F1 H1 S1 e1 ⟨p1, vs, q1, h1, z1, ok1⟩ => by
  subst q1
  refine ⟨p1, vs, rfl, SqL.of (S1.fh _ _ h1), ?_⟩
  have l1 := ok1.length
  have lr : (rangeI 0 (x.length : Int)).length = x.length := by rw [rangeI_len]; omega
  have lz : ((rangeI 0 (x.length : Int)).zip x).length = vs.length := by rw [List.length_zip, lr, l1]; exact Nat.min_self _
  refine k _ hx _ F1 H1 S1 e1 ⟨fun i F3 H3 x1 x2 hi => ?_, fun i F3 H3 u H4 z x1 x2 yy hz => ?_, fun i F3 H3 x1 x2 hi => ?_⟩ (by rw [lz]; exact z1)
  · rw [lz] at hi
    obtain ⟨v, hv⟩ : ∃ v, vs[i]? = some v := ⟨_, List.getElem?_eq_getElem hi⟩
    exact ⟨vs, v, SqL.of (x2 _ _ (x1 _ _ h1)), hv⟩
  · obtain ⟨T, v2, ev, hT, eH, y1⟩ := yy
    subst ev eH
    obtain ⟨z1', z2'⟩ := z
    have hz' := List.getElem?_zip_eq_some.mp hz
    obtain ⟨v, hv, rv⟩ := Paired.get ok1 hz'.2
    have q1 := y1 vs (SqL.of (x2 _ _ (x1 _ _ h1)))
    rw [q1] at hv
    cases hv
    have hi : z1' = (i : Int) := by
      have h := hz'.1
      unfold rangeI at h
      rw [List.getElem?_map] at h
      obtain ⟨m, hm, em⟩ := Option.map_eq_some_iff.mp h
      rw [List.getElem?_range (by have := (List.getElem?_eq_some_iff.mp hm).1; simpa using this)] at hm
      have := Option.some.inj hm
      omega
    have g : Grow F3 H3 (upd F3 T (.tup [.int (i : Nat), v2])) (upd H3 T (.tup [.int (i : Nat), v2])) := Grow.alloc x2 hT
    exact ⟨_, g, T, _, v2, rfl, SqT.of upd_same, (by show V.int _ = V.int _; rw [hi]), r.mono (x1.trans g.f) rv⟩
  · rw [lz] at hi
    exact ⟨vs, SqL.of (x2 _ _ (x1 _ _ h1)), hi⟩⟩
end
end Mi
namespace Mi
open PySem L2 Evl
/-- the target takes x: the slots is are written -/
def TgT (g : TG) {α : Type} (r : Rp α) (is : List Nat) (envT : Env → α → Env) : Prop := ∀ (F H : Hp) (v : V) (x : α) (σ : L2.St) (env : Env) (Q : L2.St → Hp → Prop), r.ok F v x → Ex F H → EnvOk F env σ →
  (∀ σ', EnvOk F (envT env x) σ' → (∀ vs : List Nat, (∀ i ∈ is, i ∈ vs) → wipe σ' vs = wipe σ vs) → Q σ' H) → g v σ H Q
theorem wipe_set {σ : L2.St} {i : Nat} {o : Option V} : ∀ {vs : List Nat}, i ∈ vs → wipe (σ.set i o) vs = wipe σ vs
  | [], h => by simp at h
  | v :: vs, h => by
    show (wipe (σ.set i o) vs).set v none = (wipe σ vs).set v none
    by_cases hm : i ∈ vs
    · rw [wipe_set hm]
    · have e : i = v := by
        rcases List.mem_cons.mp h with e | e
        · exact e
        · exact absurd e hm
      subst e
      have key : ∀ (us : List Nat), i ∉ us → wipe (σ.set i o) us = (wipe σ us).set i o := by
        intro us
        induction us with
        | nil => intro _; rfl
        | cons u us ih =>
          intro hn
          have h1 : i ≠ u := fun z => hn (z ▸ List.mem_cons_self ..)
          have h2 : i ∉ us := fun z => hn (List.mem_cons_of_mem _ z)
          show (wipe (σ.set i o) us).set u none = ((wipe σ us).set u none).set i o
          rw [ih h2, List.set_comm _ _ h1]
      rw [key vs hm, List.set_set]
section
variable {α β γ : Type} {r : Rp α} {s : Rp β} {t : Rp γ} {K : PySem.W.Frag}
theorem tg_name {i : Nat} : TgT (gName i) r [i] (fun env x => env.set i (sv r x)) := fun F H v x σ env Q ok fh he k =>
  k _ (EnvOk.set (s := sv r x) ⟨v, rfl, ok⟩ he) fun vs h => wipe_set (h i (List.mem_cons_self ..))
theorem tg_pair {i j : Nat} : TgT (gTup K 2 (gCons (gName i) (gCons (gName j) gNil))) (rT2 K r s) [i, j] (fun env x => (env.set i (sv r x.1)).set j (sv s x.2)) := fun F H v x σ env Q ⟨a, v1, v2, e1, h1, ok1, ok2⟩ fh he k =>
  ⟨a, [v1, v2], e1, ex_t fh h1, rfl, v1, [v2], rfl, v2, [], rfl, rfl, k _ (EnvOk.set (s := sv s x.2) ⟨v2, rfl, ok2⟩ (EnvOk.set (s := sv r x.1) ⟨v1, rfl, ok1⟩ he)) fun vs h => by
    rw [wipe_set (h j (by simp)), wipe_set (h i (by simp))]⟩
end
def wipeE (env : Env) : List Nat → Env
  | [] => env
  | v :: vs => (wipeE env vs).set v sa
theorem EnvOk.wipe {F : Hp} {env : Env} {σ : L2.St} (h : EnvOk F env σ) : ∀ vs : List Nat, EnvOk F (wipeE env vs) (L2.wipe σ vs)
  | [] => h
  | v :: vs => (EnvOk.wipe h vs).set trivial
theorem drop_cons {α : Type} {xs : List α} {i : Nat} {x : α} (h : xs[i]? = some x) : xs.drop i = x :: xs.drop (i + 1) := by
  obtain ⟨hl, e⟩ := List.getElem?_eq_some_iff.mp h
  rw [List.drop_eq_getElem_cons hl, e]
section
variable {X : Cx} {B : Bs} {env : Env} {os : Os} {α β : Type} {r : Rp α} {s : Rp β} {elt tg iter : Expr} {ifs : List Expr} {scope : Scope} {pos : Pos}
/-- the reading of a comprehension, by the mirror: M a mark, D the list so far ys, x the item -/
theorem lc_read {w : W (List α)} {c : α → W Bool} {f : α → W β} {own : List (Str × Nat)} {g : TG} {tt : TT} {te : TE} {is : List Nat} {envT : Env → α → Env}
    (st : ∀ M D ys x σ H Q, tOfT (B.at M) (envT (wipeE env (own.map (fun p : Str × Nat => p.2))) x) ((D, oLst s ys) :: os) (c x) σ H Q → tt σ H Q)
    (se : ∀ M D ys x σ H Q, tOf (B.at M) (envT (wipeE env (own.map (fun p : Str × Nat => p.2))) x) ((D, oLst s ys) :: os) s (f x) σ H Q → te σ H Q)
    (tgt : TgT g r is envT) (his : ∀ i ∈ is, i ∈ own.map (fun p : Str × Nat => p.2)) {σ : L2.St} {H : Hp} {Q : VK} (h : tNew B env os s (bnd w fun xs => filtW c f xs) σ H Q) :
    tLc (tSrc B env os r w) g tt te (own.map (fun p : Str × Nat => p.2)) σ H Q := by
  obtain ⟨F, P, S, hw, k⟩ := h
  refine ⟨F, _, S, hw, fun xs hxs J F1 H1 S1 e1 wk hz D hD => ?_⟩
  refine ⟨(fun i m H => m = xs.length - i ∧ i ≤ xs.length ∧ ∃ F' ys, ys.length ≤ i ∧ Sit (B.at F1) F' H σ env ((D, oLst s ys) :: os) ∧ filtW c f (xs.drop i) (fun zs => P (ys ++ zs)) B.E0 : Nat → Nat → Hp → Prop), ?_, ?_⟩
  · refine ⟨xs.length, by simp, Nat.zero_le _, F1, [], Nat.zero_le _, ?_, ?_⟩
    · have S1' : Sit (B.at F1) F1 H1 σ env os := ⟨⟨S1.fin.fh, S1.fin.bf, Ex.refl F1, S1.fin.bb, S1.fin.ios, S1.fin.keep⟩, S1.env, S1.ow, S1.nd⟩
      exact S1'.newOwn hD ⟨[], rfl, Nat.zero_le _, .nil⟩
    · rw [List.drop_zero]
      exact hxs
  rintro i m H2 ⟨rfl, hi, F2, ys, hyl, S2, hw2⟩
  have e12 : Ex F1 F2 := S2.fin.mrk
  by_cases hlt : i < xs.length
  · obtain ⟨x, hx⟩ : ∃ x, xs[i]? = some x := ⟨_, List.getElem?_eq_getElem hlt⟩
    refine .inr ⟨wk.go i F2 H2 e12 S2.fh hlt, (fun H' => ∃ F' ys, ys.length ≤ i + 1 ∧ Sit (B.at F1) F' H' σ env ((D, oLst s ys) :: os) ∧ filtW c f (xs.drop (i + 1)) (fun zs => P (ys ++ zs)) B.E0 : Hp → Prop), ?_, fun v H3 y => ?_⟩
    · intro H' h
      exact ⟨xs.length - (i + 1), by omega, rfl, hlt, h⟩
    obtain ⟨F3, gr, rv⟩ := wk.yld i F2 H2 v H3 x e12 S2.fh y hx
    have S3 : Sit (B.at F1) F3 H3 σ env ((D, oLst s ys) :: os) := S2.grow gr
    refine tgt F3 H3 v x (wipe σ (own.map (fun p : Str × Nat => p.2))) (wipeE env (own.map (fun p : Str × Nat => p.2))) _ rv S3.fh (S3.env.wipe _) fun σ' hσ hwipe => ⟨?_, ?_⟩
    · rw [hwipe _ his]
      have ww : ∀ (τ : L2.St) (vs : List Nat), wipe (wipe τ vs) vs = wipe τ vs := by
        intro τ vs
        have key : ∀ (us vs : List Nat), (∀ u ∈ us, u ∈ vs) → wipe (wipe τ us) vs = wipe τ vs := by
          intro us
          induction us with
          | nil => intro vs _; rfl
          | cons u us ih =>
            intro vs h
            show wipe ((wipe τ us).set u none) vs = wipe τ vs
            rw [wipe_set (h u (List.mem_cons_self ..)), ih vs fun z hz => h z (List.mem_cons_of_mem _ hz)]
        exact key vs vs fun _ h => h
      exact ww σ _
    · rw [drop_cons hx] at hw2
      have hw3 : c x (fun b => (if b = true then bnd (f x) fun y => bnd (filtW c f (xs.drop (i + 1))) fun ys => ret (y :: ys) else filtW c f (xs.drop (i + 1))) (fun zs => P (ys ++ zs)) B.E0) B.E0 := hw2
      have St : Sit (B.at F1) F3 H3 σ' (envT (wipeE env (own.map (fun p : Str × Nat => p.2))) x) ((D, oLst s ys) :: os) := ⟨S3.fin, hσ, S3.ow, S3.nd⟩
      refine st F1 D ys x σ' H3 _ ⟨F3, _, St, hw3, fun b hb F4 H4 S4 e34 => ?_⟩
      cases b with
      | false => exact ⟨F4, ys, by omega, ⟨S4.fin, S3.env.mono e34, S4.ow, S4.nd⟩, hb⟩
      | true =>
        have hb' : f x (fun y => filtW c f (xs.drop (i + 1)) (fun zs => P (ys ++ (y :: zs))) B.E0) B.E0 := hb
        refine se F1 D ys x σ' H4 _ ⟨F4, _, S4, hb', fun z hz v' F5 H5 S5 e45 okz => ?_⟩
        obtain ⟨hF5, ⟨o, ho, vs, eo, hl, pr⟩, hB5⟩ := S5.ow (D, oLst s ys) (List.mem_cons_self ..)
        subst eo
        have hlen : vs.length < sizeLine := by
          have := pr.length
          omega
        refine ⟨vs, ho, hlen, F5, ys ++ [z], by rw [List.length_append, List.length_singleton]; omega, ?_, ?_⟩
        · have S6 := S5.change (j := 0) (ow' := oLst s (ys ++ [z])) (o' := .lst (vs ++ [v'])) rfl ⟨vs ++ [v'], rfl, by rw [List.length_append, List.length_singleton]; omega, Paired.app pr (.cons okz .nil)⟩
          exact ⟨S6.fin, (S3.env.mono e34).mono e45, S6.ow, S6.nd⟩
        · have q : (fun zs => P (ys ++ [z] ++ zs)) = fun zs => P (ys ++ (z :: zs)) := by
            funext zs
            rw [List.append_assoc]
            rfl
          show filtW c f (xs.drop (i + 1)) (fun zs => P (ys ++ [z] ++ zs)) B.E0
          rw [q]
          exact hz
  · have e : i = xs.length := by omega
    subst e
    refine .inl ⟨wk.stop _ F2 H2 e12 S2.fh (Nat.le_refl _), ?_⟩
    rw [List.drop_length] at hw2
    have hp : P (ys ++ []) := hw2
    rw [List.append_nil] at hp
    exact k ys hp D F2 H2 ⟨⟨S2.fin.fh, S2.fin.bf, S1.fin.mrk.trans e12, S2.fin.bb, S2.fin.ios, S2.fin.keep⟩, S2.env, S2.ow, S2.nd⟩ (e1.trans e12)
theorem filtW_true {α β : Type} {f : α → W β} : ∀ xs : List α, filtW (fun _ => ret true) f xs = mapW f xs
  | [] => rfl
  | x :: xs => by
    show bnd (f x) _ = bnd (f x) _
    congr 1
    funext y
    rw [filtW_true xs]
/-- an item's place in a block -/
abbrev envI (env : Env) (own : List (Str × Nat)) {α : Type} (envT : Env → α → Env) (x : α) : Env := envT (wipeE env (own.map (fun p : Str × Nat => p.2))) x
abbrev teC (B : Bs) (env : Env) (os : Os) (own : List (Str × Nat)) {α β : Type} (envT : Env → α → Env) (s : Rp β) (f : α → W β) : TE := fun σ H Q => ∃ p : Hp × Addr × List β × α, tOf (B.at p.1) (envI env own envT p.2.2.2) ((p.2.1, oLst s p.2.2.1) :: os) s (f p.2.2.2) σ H Q
abbrev ttC (B : Bs) (env : Env) (os : Os) (own : List (Str × Nat)) {α β : Type} (envT : Env → α → Env) (s : Rp β) (c : α → W Bool) : TT := fun σ H Q => ∃ p : Hp × Addr × List β × α, tOfT (B.at p.1) (envI env own envT p.2.2.2) ((p.2.1, oLst s p.2.2.1) :: os) (c p.2.2.2) σ H Q
section
variable {w : W (List α)} {c : α → W Bool} {f : α → W β} {own : List (Str × Nat)} {g : TG} {is : List Nat} {envT : Env → α → Env} {test : Expr}
theorem lc_readM (tgt : TgT g r is envT) (his : ∀ i ∈ is, i ∈ own.map (fun p : Str × Nat => p.2)) {σ : L2.St} {H : Hp} {Q : VK} (h : tNew B env os s (bnd w fun xs => mapW f xs) σ H Q) :
    tLc (tSrc B env os r w) g tYes (teC B env os own envT s f) (own.map (fun p : Str × Nat => p.2)) σ H Q := by
  have e : (fun xs => mapW f xs) = fun xs => filtW (fun _ => ret true) f xs := by
    funext xs
    exact (filtW_true xs).symm
  rw [e] at h
  exact lc_read (own := own) (fun M D ys x σ H Q ⟨F, P, S, hw, k⟩ => k true hw F H S (Ex.refl F)) (fun M D ys x σ H Q h => ⟨(M, D, ys, x), h⟩) tgt his h
theorem lc_readF (tgt : TgT g r is envT) (his : ∀ i ∈ is, i ∈ own.map (fun p : Str × Nat => p.2)) {σ : L2.St} {H : Hp} {Q : VK} (h : tNew B env os s (bnd w fun xs => filtW c f xs) σ H Q) :
    tLc (tSrc B env os r w) g (ttC B env os own envT s c) (teC B env os own envT s f) (own.map (fun p : Str × Nat => p.2)) σ H Q :=
  lc_read (own := own) (fun M D ys x σ H Q h => ⟨(M, D, ys, x), h⟩) (fun M D ys x σ H Q h => ⟨(M, D, ys, x), h⟩) tgt his h
theorem ex_teC {Y : Cx} (h : ∀ (M : Hp) (D : Addr) (ys : List β) (x : α), EE Y (B.at M) (envI env own envT x) ((D, oLst s ys) :: os) elt s (f x)) : PE Y elt (teC B env os own envT s f) :=
  ⟨fun pins s σ H Q I ⟨p, q⟩ => (h p.1 p.2.1 p.2.2.1 p.2.2.2).run pins s σ H Q I q⟩
theorem ex_ttC {Y : Cx} (h : ∀ (M : Hp) (D : Addr) (ys : List β) (x : α), ET Y (B.at M) (envI env own envT x) ((D, oLst s ys) :: os) test (c x)) : PT Y test (ttC B env os own envT s c) :=
  ⟨fun pins s σ H Q I ⟨p, q⟩ => (h p.1 p.2.1 p.2.2.1 p.2.2.2).run pins s σ H Q I q⟩
variable (hc : X.calm = true) (hN : X.N.Nodup) (src : ES X B env os tg iter r w) (ok : BlkOk X.N X.env.scope scope own) (tgt : TgT g r is envT)
  (hg : ∀ (s : Shared) (H : Hp) (C : Addr) (cl : List (Str × Addr)) (fp : List Addr), PG (X.blk s H scope (compEnvC scope cl C X.env) fp) tg g) (his : ∀ i ∈ is, i ∈ own.map (fun p : Str × Nat => p.2))
  (ht : ∀ (s' : Shared) (H : Hp) (C : Addr) (cl : List (Str × Addr)) (fp : List Addr) (M : Hp) (D : Addr) (ys : List β) (x : α), ET (X.blk s' H scope (compEnvC scope cl C X.env) fp) (B.at M) (envI env own envT x) ((D, oLst s ys) :: os) test (c x))
  (he : ∀ (s' : Shared) (H : Hp) (C : Addr) (cl : List (Str × Addr)) (fp : List Addr) (M : Hp) (D : Addr) (ys : List β) (x : α), EE (X.blk s' H scope (compEnvC scope cl C X.env) fp) (B.at M) (envI env own envT x) ((D, oLst s ys) :: os) elt s (f x))
include hc hN src ok tgt hg his he
theorem n_comp (hs : ∀ x, foldedSetIterable iter X.env x = pure x := by intro _; rfl) : EN X B env os (.ListComp elt [⟨tg, iter, [], 0⟩] scope pos) s (bnd w fun xs => mapW f xs) :=
  PE.imp (pe_lc hc hN src ok hg (fun _ _ _ _ _ => pts_nil) (fun s' H C cl fp => ex_teC (he s' H C cl fp)) hs) fun σ H Q h => lc_readM tgt his h
include ht
theorem n_compF (hs : ∀ x, foldedSetIterable iter X.env x = pure x := by intro _; rfl) : EN X B env os (.ListComp elt [⟨tg, iter, [test], 0⟩] scope pos) s (bnd w fun xs => filtW c f xs) :=
  PE.imp (pe_lc hc hN src ok hg (fun s' H C cl fp => pts_one (ex_ttC (ht s' H C cl fp))) (fun s' H C cl fp => ex_teC (he s' H C cl fp)) hs)
    fun σ H Q h => lc_readF tgt his h
theorem c_compF {i : Nat} {y : Str} {py spos : Pos} (hy : X.N[i]? = some y) (hyl : X.env.scope.names.lookup y = some .local) (hsw : swapsWith (.ListComp elt [⟨tg, iter, [test], 0⟩] scope pos) (some (.Name y py)) spos.line X.env = pure true)
    (hs : ∀ x, foldedSetIterable iter X.env x = pure x := by intro _; rfl) : PS X (.Assign [.Name y py] (.ListComp elt [⟨tg, iter, [test], 0⟩] scope pos) spos) (tAsg (tNew B env os s (bnd w fun xs => filtW c f xs)) (gName i)) := by
  have h := ps_setLc (pos := pos) (spos := spos) (py := py) hc hN hy hyl hsw src ok hg (fun s' H C cl fp => pts_one (ex_ttC (ht s' H C cl fp))) (fun s' H C cl fp => ex_teC (he s' H C cl fp)) hs
  exact ⟨fun pins s σ H D I q => h.run pins s σ H D I (lc_readF tgt his q)⟩
end
end
end Mi
namespace Mi
open PySem L2 Evl
section
variable {X : Cx} {B : Bs} {env : Env} {os : Os} {α β ρ S : Type} {r : Rp α} {tg iter : Expr} {body rest : List Stmt} {pos : Pos} {post : Post β}
theorem Sit.at {F H : Hp} {σ : L2.St} (s : Sit B F H σ env os) (M : Hp) (h : Ex M F) : Sit (B.at M) F H σ env os := ⟨⟨s.fin.fh, s.fin.bf, h, s.fin.bb, s.fin.ios, s.fin.keep⟩, s.env, s.ow, s.nd⟩
theorem Sit.un {F H M : Hp} {σ : L2.St} (s : Sit (B.at M) F H σ env os) (h : Ex B.M M) : Sit B F H σ env os := ⟨⟨s.fin.fh, s.fin.bf, h.trans s.fin.mrk, s.fin.bb, s.fin.ios, s.fin.keep⟩, s.env, s.ow, s.nd⟩
theorem Fn.un {F H M : Hp} (s : Fn (B.at M) F H) (h : Ex B.M M) : Fn B F H := ⟨s.fh, s.bf, h.trans s.mrk, s.bb, s.ios, s.keep⟩
/-- what comes behind a loop -/
theorem b_forG {w : W (List α)} {f : S → α → W (Fl S ρ)} {w3 : Fl S ρ → W β} {g : TG} {is : List Nat} {envT : Env → α → Env} {osR : Os} {ro : Rp ρ} (inj : ρ → β) (envS : S → Env) (osS : S → Os) (s0 : S) (hc : X.calm = true) (hp : PassesOwn (model X.prog X.w) X.A X.env X.xe)
    (src : ES X B env os tg iter r w) (tgt : TgT g r is envT) (hg : PG X tg g)
    (hb : ∀ M s x, BG X (B.at M) (envT (envS s) x) (osS s) body (pFl (B.at M) osR ro envS osS) (f s x))
    (hr : ∀ s, BG X B (envS s) (osS s) rest post (w3 (.nx s))) (hrt : ∀ x, w3 (.rt x) = ret (inj x)) (hpo : RtOk B post osR ro inj)
    (le0 : EnvLe env (envS s0)) (os0 : os = osS s0) (hs : ∀ x, foldedSetIterable iter X.env x = pure x := by intro _; rfl) :
    BG X B env os (.For tg iter body [] pos :: rest) post (bnd w fun xs => bnd (forF f s0 xs) w3) := by
  have hb' : PSs X body (fun D σ H => ∃ p : Hp × S × α, tBG (B.at p.1) (envT (envS p.2.1) p.2.2) (osS p.2.1) (pFl (B.at p.1) osR ro envS osS) (f p.2.1 p.2.2) D σ H) := PSs.ex fun p => hb p.1 p.2.1 p.2.2
  have hr' : PSs X rest (fun D σ H => ∃ s, tBG B (envS s) (osS s) post (w3 (.nx s)) D σ H) := PSs.ex hr
  refine PSs.imp (pss_cons (ps_for hp hc src hg hb' hs) hr') fun D σ H ⟨F, P, S0, hw, k⟩ => ⟨F, _, S0, hw, fun xs hxs J F1 H1 S1 e1 wk hz => ?_⟩
  refine ⟨(fun i m σ H => m = xs.length - i ∧ i ≤ xs.length ∧ ∃ F' s, Sit (B.at F1) F' H σ (envS s) (osS s) ∧ forF f s (xs.drop i) (fun q => w3 q P B.E0) B.E0 : Nat → Nat → L2.St → Hp → Prop), ?_, ?_⟩
  · refine ⟨xs.length, by simp, Nat.zero_le _, F1, s0, ?_, ?_⟩
    · subst os0
      exact (S1.at F1 (Ex.refl F1)).le le0
    · rw [List.drop_zero]
      exact hxs
  rintro i m σ2 H2 ⟨rfl, hi, F2, s, S2, hw2⟩
  have e12 : Ex F1 F2 := S2.fin.mrk
  by_cases hlt : i < xs.length
  · obtain ⟨x, hx⟩ : ∃ x, xs[i]? = some x := ⟨_, List.getElem?_eq_getElem hlt⟩
    refine .inr ⟨wk.go i F2 H2 e12 S2.fh hlt, (fun σ' H' => ∃ F' s, Sit (B.at F1) F' H' σ' (envS s) (osS s) ∧ forF f s (xs.drop (i + 1)) (fun q => w3 q P B.E0) B.E0 : L2.St → Hp → Prop), ?_, fun v H3 y => ?_⟩
    · intro σ' H' h
      exact ⟨xs.length - (i + 1), by omega, rfl, hlt, h⟩
    obtain ⟨F3, gr, rv⟩ := wk.yld i F2 H2 v H3 x e12 S2.fh y hx
    have S3 := S2.grow gr
    refine tgt F3 H3 v x σ2 (envS s) _ rv S3.fh S3.env fun σ' hσ _ => ?_
    rw [drop_cons hx] at hw2
    have hw3 : f s x (fun q => flGo (fun s' => forF f s' (xs.drop (i + 1))) q (fun q => w3 q P B.E0) B.E0) B.E0 := hw2
    refine ⟨(F1, s, x), F3, _, ⟨S3.fin, hσ, S3.ow, S3.nd⟩, hw3, fun q hq => ?_⟩
    cases q with
    | nx s' => exact fun σ4 F4 H4 S4 => ⟨F4, s', S4, hq⟩
    | ct s' => exact fun σ4 F4 H4 S4 => ⟨F4, s', S4, hq⟩
    | bk s' => exact fun σ4 F4 H4 S4 => ⟨s', F4, P, S4.un S1.fin.mrk, hq, k⟩
    | rt z =>
      have hq' : w3 (.rt z) P B.E0 := hq
      rw [hrt z] at hq'
      exact fun v5 F5 H5 fn ow okv => hpo.ok D z (k _ hq') v5 F5 H5 (fn.un S1.fin.mrk) ow okv
  · have e : i = xs.length := by omega
    subst e
    rw [List.drop_length] at hw2
    have hq : w3 (.nx s) P B.E0 := hw2
    exact .inl ⟨wk.stop _ F2 H2 e12 S2.fh (Nat.le_refl _), s, F2, P, S2.un S1.fin.mrk, hq, k⟩
/-- a loop that is never left early -/
theorem b_for {w : W (List α)} {f : S → α → W S} {w3 : S → W β} {g : TG} {is : List Nat} {envT : Env → α → Env} (envS : S → Env) (osS : S → Os) (s0 : S) (hc : X.calm = true) (hp : PassesOwn (model X.prog X.w) X.A X.env X.xe)
    (src : ES X B env os tg iter r w) (tgt : TgT g r is envT) (hg : PG X tg g)
    (hb : ∀ M s x, BG X (B.at M) (envT (envS s) x) (osS s) body (pNx (B.at M) envS osS) (f s x))
    (hr : ∀ s, BG X B (envS s) (osS s) rest post (w3 s))
    (le0 : EnvLe env (envS s0)) (os0 : os = osS s0) (hs : ∀ x, foldedSetIterable iter X.env x = pure x := by intro _; rfl) :
    BG X B env os (.For tg iter body [] pos :: rest) post (bnd w fun xs => bnd (forW f s0 xs) w3) := by
  have hb' : PSs X body (fun D σ H => ∃ p : Hp × S × α, tBG (B.at p.1) (envT (envS p.2.1) p.2.2) (osS p.2.1) (pNx (B.at p.1) envS osS) (f p.2.1 p.2.2) D σ H) := PSs.ex fun p => hb p.1 p.2.1 p.2.2
  have hr' : PSs X rest (fun D σ H => ∃ s, tBG B (envS s) (osS s) post (w3 s) D σ H) := PSs.ex hr
  refine PSs.imp (pss_cons (ps_for hp hc src hg hb' hs) hr') fun D σ H ⟨F, P, S0, hw, k⟩ => ⟨F, _, S0, hw, fun xs hxs J F1 H1 S1 e1 wk hz => ?_⟩
  refine ⟨(fun i m σ H => m = xs.length - i ∧ i ≤ xs.length ∧ ∃ F' s, Sit (B.at F1) F' H σ (envS s) (osS s) ∧ forW f s (xs.drop i) (fun q => w3 q P B.E0) B.E0 : Nat → Nat → L2.St → Hp → Prop), ?_, ?_⟩
  · refine ⟨xs.length, by simp, Nat.zero_le _, F1, s0, ?_, ?_⟩
    · subst os0
      exact (S1.at F1 (Ex.refl F1)).le le0
    · rw [List.drop_zero]
      exact hxs
  rintro i m σ2 H2 ⟨rfl, hi, F2, s, S2, hw2⟩
  have e12 : Ex F1 F2 := S2.fin.mrk
  by_cases hlt : i < xs.length
  · obtain ⟨x, hx⟩ : ∃ x, xs[i]? = some x := ⟨_, List.getElem?_eq_getElem hlt⟩
    refine .inr ⟨wk.go i F2 H2 e12 S2.fh hlt, (fun σ' H' => ∃ F' s, Sit (B.at F1) F' H' σ' (envS s) (osS s) ∧ forW f s (xs.drop (i + 1)) (fun q => w3 q P B.E0) B.E0 : L2.St → Hp → Prop), ?_, fun v H3 y => ?_⟩
    · intro σ' H' h
      exact ⟨xs.length - (i + 1), by omega, rfl, hlt, h⟩
    obtain ⟨F3, gr, rv⟩ := wk.yld i F2 H2 v H3 x e12 S2.fh y hx
    have S3 := S2.grow gr
    refine tgt F3 H3 v x σ2 (envS s) _ rv S3.fh S3.env fun σ' hσ _ => ?_
    rw [drop_cons hx] at hw2
    exact ⟨(F1, s, x), F3, _, ⟨S3.fin, hσ, S3.ow, S3.nd⟩, hw2, fun s' hq σ4 F4 H4 S4 => ⟨F4, s', S4, hq⟩⟩
  · have e : i = xs.length := by omega
    subst e
    rw [List.drop_length] at hw2
    exact .inl ⟨wk.stop _ F2 H2 e12 S2.fh (Nat.le_refl _), s, F2, P, S2.un S1.fin.mrk, hw2, k⟩
end
/-- c and b until c is False: there is a number of turns -/
def whileN {S : Type} (c : S → W Bool) (b : S → W S) : Nat → S → W S
  | 0, _ => fail
  | n + 1, s => bnd (c s) fun t => if t = true then bnd (b s) (whileN c b n) else ret s
def whileW {S : Type} (c : S → W Bool) (b : S → W S) (s : S) : W S := fun P E => ∃ n, whileN c b n s P E
section
variable {X : Cx} {B : Bs} {env : Env} {os : Os} {β S : Type} {test : Expr} {body rest : List Stmt} {pos : Pos} {post : Post β}
theorem b_while {c : S → W Bool} {f : S → W S} {w3 : S → W β} (envS : S → Env) (osS : S → Os) (s0 : S) (hp : PassesOwn (model X.prog X.w) X.A X.env X.xe)
    (ht : ∀ s, ET X B (envS s) (osS s) test (c s)) (hb : ∀ s, BG X B (envS s) (osS s) body (pNx B envS osS) (f s)) (hr : ∀ s, BG X B (envS s) (osS s) rest post (w3 s))
    (le0 : EnvLe env (envS s0)) (os0 : os = osS s0) : BG X B env os (.While test body [] pos :: rest) post (bnd (whileW c f s0) w3) := by
  have ht' : PT X test (fun σ H Q => ∃ s, tOfT B (envS s) (osS s) (c s) σ H Q) := ⟨fun pins s σ H Q I ⟨i, q⟩ => (ht i).run pins s σ H Q I q⟩
  have hb' : PSs X body (fun D σ H => ∃ s, tBG B (envS s) (osS s) (pNx B envS osS) (f s) D σ H) := PSs.ex hb
  have hr' : PSs X rest (fun D σ H => ∃ s, tBG B (envS s) (osS s) post (w3 s) D σ H) := PSs.ex hr
  refine PSs.imp (pss_cons (ps_while hp ht' hb') hr') fun D σ H ⟨F, P, S0, ⟨n, hw⟩, k⟩ => ?_
  refine ⟨(fun m σ H => ∃ F' s, Sit B F' H σ (envS s) (osS s) ∧ whileN c f m s (fun q => w3 q P B.E0) B.E0 : Nat → L2.St → Hp → Prop), ⟨n, F, s0, ?_, hw⟩, ?_⟩
  · subst os0
    exact S0.le le0
  rintro m σ2 H2 ⟨F2, s, S2, hw2⟩
  cases m with
  | zero => exact False.elim hw2
  | succ m =>
    have hw3 : c s (fun t => (if t = true then bnd (f s) (whileN c f m) else ret s : W S) (fun q => w3 q P B.E0) B.E0) B.E0 := hw2
    refine ⟨s, F2, _, S2, hw3, fun t hq F3 H3 S3 e3 => ?_⟩
    cases t with
    | false => exact ⟨s, F3, P, S3, hq, k⟩
    | true =>
      refine ⟨(fun σ' H' => ∃ F' s, Sit B F' H' σ' (envS s) (osS s) ∧ whileN c f m s (fun q => w3 q P B.E0) B.E0 : L2.St → Hp → Prop), fun σ' H' h => ⟨m, Nat.lt_succ_self m, h⟩, ?_⟩
      exact ⟨s, F3, _, S3, hq, fun s' hs' σ4 F4 H4 S4 => ⟨F4, s', S4, hs'⟩⟩
end
end Mi
namespace Mi
open PySem L2 Evl
section
variable {X : Cx} {B : Bs} {env : Env} {os : Os} {pos : Pos} {α β γ : Type} {r : Rp α} {s : Rp β} {t : Rp γ} {e a b c : Expr}
def catL (xs ys : List α) : W (List α) := chk (xs.length + ys.length ≤ sizeLine) (ret (xs ++ ys))
theorem n_cat {w1 : W (List α)} {w2 : List α → W (List α)} (ha : EE X B env os a (rLst r) w1) (hb : ∀ x, EE X B env os b (rLst r) (w2 x)) : EN X B env os (.BinOp a .Add b pos) r (bnd w1 fun x => bnd (w2 x) fun y => catL x y) :=
  PE.imp (pe_op op_cat ha (PE.ex hb)) fun σ H Q ⟨F, P, S, hw, k⟩ => ⟨F, _, S, hw, fun x hx v F1 H1 S1 e1 ⟨p1, vs, q1, h1, z1, ok1⟩ => ⟨x, F1, _, S1, hx, fun y ⟨c, hy⟩ u F2 H2 S2 e2 ⟨p2, us, q2, h2, z2, ok2⟩ => by
  have hl : vs.length + us.length ≤ sizeLine := by rw [ok1.length, ok2.length]; exact c
  exact ⟨p1, p2, vs, us, q1, q2, S2.fh _ _ (e2 _ _ h1), S2.fh _ _ h2, hl, fun p hp => k _ hy p F2 _ (S2.newOwn hp ⟨_, rfl, by rw [List.length_append]; exact hl, Paired.app (Paired.imp (fun _ _ => r.mono e2) ok1) ok2⟩) (e1.trans e2)⟩⟩⟩
def repL (xs : List α) (k : Int) : W (List α) := chk (-(2 ^ 63) ≤ k ∧ k < 2 ^ 63 ∧ xs.length * k.toNat ≤ sizeLine) (ret (List.replicate k.toNat xs).flatten)
theorem flat_paired {R : V → α → Prop} {vs : List V} {xs : List α} (h : Paired R vs xs) : ∀ n : Nat, Paired R (List.replicate n vs).flatten (List.replicate n xs).flatten
  | 0 => .nil
  | n + 1 => by
    rw [List.replicate_succ, List.replicate_succ, List.flatten_cons, List.flatten_cons]
    exact Paired.app h (flat_paired h n)
theorem n_rep {w1 : W (List α)} {w2 : List α → W Int} (ha : EE X B env os a (rLst r) w1) (hb : ∀ x, EE X B env os b rInt (w2 x)) : EN X B env os (.BinOp a .Mult b pos) r (bnd w1 fun x => bnd (w2 x) fun k => repL x k) :=
  PE.imp (pe_op op_rep ha (PE.ex hb)) fun σ H Q ⟨F, P, S, hw, k⟩ => ⟨F, _, S, hw, fun x hx v F1 H1 S1 e1 ⟨p1, vs, q1, h1, z1, ok1⟩ => ⟨x, F1, _, S1, hx, fun y ⟨⟨c1, c2, c3⟩, hy⟩ u F2 H2 S2 e2 ok2 => by
  have hl : vs.length * y.toNat ≤ sizeLine := by rw [ok1.length]; exact c3
  exact ⟨p1, y, vs, q1, ok2, S2.fh _ _ (e2 _ _ h1), c1, c2, hl, fun p hp => k _ hy p F2 _ (S2.newOwn hp ⟨_, rfl, by
    rw [List.length_flatten, List.map_replicate, List.sum_replicate_nat, Nat.mul_comm]; exact hl, flat_paired (Paired.imp (fun _ _ => r.mono e2) ok1) y.toNat⟩) (e1.trans e2)⟩⟩⟩
def cutL (xs : List α) (lo hi : Option Int) : List α := (xs.drop (HT.sIx xs.length 0 lo)).take (HT.sIx xs.length xs.length hi - HT.sIx xs.length 0 lo)
theorem cut_paired {R : V → α → Prop} {vs : List V} {xs : List α} (h : Paired R vs xs) (lo hi : Option Int) : Paired R (cutV vs lo hi) (cutL xs lo hi) := by
  unfold cutV cutL
  rw [h.length]
  exact Paired.takeR _ (Paired.dropR _ h)
/-- a part of a slice -/
def tOpt (B : Bs) (env : Env) (os : Os) (w : W (Option Int)) : TO := fun σ H Q => ∃ F P, Sit B F H σ env os ∧ w P B.E0 ∧ ∀ x, P x → ∀ F' H', Sit B F' H' σ env os → Ex F F' → Q x H'
def EO (X : Cx) (B : Bs) (env : Env) (os : Os) (e : Option Expr) (w : W (Option Int)) : Prop := PO X e (tOpt B env os w)
theorem PO.imp {e : Option Expr} {t t' : TO} (h : PO X e t) (i : ∀ σ H Q, t' σ H Q → t σ H Q) : PO X e t' := ⟨fun pins s σ H Q I q => h.run pins s σ H Q I (i _ _ _ q)⟩
theorem PO.ex {e : Option Expr} {ι : Type} {t : ι → TO} (h : ∀ i, PO X e (t i)) : PO X e (fun σ H Q => ∃ i, t i σ H Q) := ⟨fun pins s σ H Q I ⟨i, q⟩ => (h i).run pins s σ H Q I q⟩
theorem o_none : EO X B env os none (ret none) := PO.imp po_none fun σ H Q ⟨F, P, S, hw, k⟩ => k none hw F H S (Ex.refl F)
theorem o_some {w : W Int} (h : EE X B env os e rInt w) : EO X B env os (some e) (bnd w fun i => ret (some i)) := PO.imp (po_some h) fun σ H Q ⟨F, P, S, hw, k⟩ => ⟨F, _, S, hw, fun x hx v F1 H1 S1 e1 ok => ⟨x, ok, k _ hx F1 H1 S1 e1⟩⟩
theorem n_slice {w1 : W (List α)} {w2 w3 : W (Option Int)} {lo hi : Option Expr} {p2 : Pos} (ha : EE X B env os a (rLst r) w1) (hl : EO X B env os lo w2) (hh : EO X B env os hi w3) :
    EN X B env os (.Subscript a (.Slice lo hi none p2) pos) r (bnd w1 fun x => bnd w2 fun l => bnd w3 fun h => ret (cutL x l h)) :=
  PE.imp (pe_slice sl_list ha hl hh) fun σ H Q ⟨F, P, S, hw, k⟩ => ⟨F, _, S, hw, fun x hx v F1 H1 S1 e1 ⟨p1, vs, q1, h1, z1, ok1⟩ => ⟨F1, _, S1, hx, fun l hl' F2 H2 S2 e2 => ⟨F2, _, S2, hl', fun h hh' F3 H3 S3 e3 => by
  exact ⟨p1, vs, q1, SqL.of (S3.fh _ _ (e3 _ _ (e2 _ _ h1))), fun p hp => k _ hh' p F3 _ (S3.newOwn hp ⟨_, rfl, Nat.le_trans (cutV_length vs l h) z1, cut_paired (Paired.imp (fun _ _ => r.mono (e2.trans e3)) ok1) l h⟩) ((e1.trans e2).trans e3)⟩⟩⟩⟩
/-- list(xs), of a list or a tuple -/
theorem n_listL {w : W (List α)} {p : Pos} (ha : EE X B env os a (rLst r) w) (hm : X.mg "list" = none) (hg : Gl X "list" := by rfl) (he : starEach [a] X.env = (false, eval a X.env) :: starEach [] X.env := by rfl) (hpl : (backTo pos (starEach [] X.env)).any (·.1) = false := by rfl) :
    EN X B env os (.Call (.Name "list" p) [a] [] pos) r w := PE.imp (pe_callTy call_list_of hg hm (by decide +kernel) (pa_cons ha pa_nil he) (by decide) (by decide) he hpl) fun σ H Q ⟨F, P, S, hw, k⟩ => ⟨F, _, S, hw, fun x hx v F1 H1 S1 e1 ⟨p1, vs, q1, h1, z1, ok1⟩ =>
  ⟨p1, vs, by rw [q1], .inl (SqL.of (S1.fh _ _ h1)), fun l hl => k x hx l F1 _ (S1.newOwn hl ⟨vs, rfl, z1, ok1⟩) e1⟩⟩
theorem n_listT {w : W (List α)} {p : Pos} (ha : EE X B env os a (rTup X.K r) w) (hm : X.mg "list" = none) (hg : Gl X "list" := by rfl) (he : starEach [a] X.env = (false, eval a X.env) :: starEach [] X.env := by rfl) (hpl : (backTo pos (starEach [] X.env)).any (·.1) = false := by rfl) :
    EN X B env os (.Call (.Name "list" p) [a] [] pos) r w := PE.imp (pe_callTy call_list_of hg hm (by decide +kernel) (pa_cons ha pa_nil he) (by decide) (by decide) he hpl) fun σ H Q ⟨F, P, S, hw, k⟩ => ⟨F, _, S, hw, fun x hx v F1 H1 S1 e1 ⟨p1, vs, q1, h1, z1, ok1⟩ =>
  ⟨p1, vs, by rw [q1], .inr (ex_t S1.fh h1), fun l hl => k x hx l F1 _ (S1.newOwn hl ⟨vs, rfl, z1, ok1⟩) e1⟩⟩
/-- tuple(xs) -/
theorem e_tupleL {w : W (List α)} {p : Pos} (ha : EE X B env os a (rLst r) w) (hm : X.mg "tuple" = none) (hg : Gl X "tuple" := by rfl) (he : starEach [a] X.env = (false, eval a X.env) :: starEach [] X.env := by rfl) (hpl : (backTo pos (starEach [] X.env)).any (·.1) = false := by rfl) :
    EE X B env os (.Call (.Name "tuple" p) [a] [] pos) (rTup X.K r) w := PE.imp (pe_callTy call_tuple_of hg hm (by decide +kernel) (pa_cons ha pa_nil he) (by decide) (by decide) he hpl) fun σ H Q ⟨F, P, S, hw, k⟩ => ⟨F, _, S, hw, fun x hx v F1 H1 S1 e1 ⟨p1, vs, q1, h1, z1, ok1⟩ =>
  ⟨p1, vs, by rw [q1], .inl ⟨SqL.of (S1.fh _ _ h1), fun l hl => by
    have g : Grow F1 H1 (upd F1 l (.tup vs)) (upd H1 l (.tup vs)) := Grow.alloc S1.fh hl
    exact k x hx (.ref l) _ _ (S1.grow g) (e1.trans g.f) ⟨l, vs, rfl, SqT.of upd_same, z1, Paired.imp (fun _ _ => r.mono g.f) ok1⟩⟩⟩⟩
end
theorem erase_perm {α : Type} : ∀ {l : List α} {j : Nat} {x : α}, l[j]? = some x → (x :: l.eraseIdx j).Perm l
  | [], _, _, h => by simp at h
  | a :: l, 0, x, h => by
    simp at h
    subst h
    exact List.Perm.refl _
  | a :: l, j + 1, x, h => by
    show (x :: a :: l.eraseIdx j).Perm (a :: l)
    exact (List.Perm.swap a x _).trans ((erase_perm (by simpa using h)).cons a)
theorem Sit.pick {B : Bs} {F H : Hp} {σ : L2.St} {env : Env} {os : Os} {j : Nat} {p : Addr × Own} (s : Sit B F H σ env os) (hj : os[j]? = some p) : Sit B F H σ env (p :: os.eraseIdx j) := by
  have hm : p ∈ os := List.mem_of_getElem? hj
  have hjl : j < os.length := (List.getElem?_eq_some_iff.mp hj).1
  have he : os[j] = p := (List.getElem?_eq_some_iff.mp hj).2
  have hp : (p :: os.eraseIdx j).Perm os := erase_perm hj
  refine ⟨s.fin, s.env, fun q hq => s.ow q ((hp.mem_iff).mp hq), ?_⟩
  exact (hp.map _).nodup_iff.mpr s.nd
section
variable {X : Cx} {B : Bs} {env : Env} {os : Os} {pos pos' : Pos} {α β γ : Type} {r : Rp α} {s : Rp β} {t : Rp γ} {e a b c : Expr} {rest : List Stmt} {post : Post β}
/-- name = a new list that the def will change -/
theorem b_own (i : Nat) {x : Str} {w1 : W (List α)} {w2 : List α → W β} (he : EN X B env os e r w1) (hr : ∀ a xs, BG X B (env.set i (sv (rAdr a) ())) ((a, oLst r xs) :: os) rest post (w2 xs)) (hN : X.N.Nodup) (hi : X.N[i]? = some x := by rfl)
    (hx : Loc X.env.scope x := by first | exact Or.inl rfl | exact Or.inr rfl) (hs : swapsWith e (some (.Name x pos')) pos.line X.env = pure false := by rfl) (hf : X.fn x = true ∨ X.env.scope.names.lookup x = some .local := by first | exact .inl rfl | exact .inr rfl | assumption) :
    BG X B env os (.Assign [.Name x pos'] e pos :: rest) post (bnd w1 w2) :=
  PSs.imp (pss_cons (ps_set hN hi hx he hs hf) (PSs.ex fun p : Addr × List α => hr p.1 p.2)) fun D σ H ⟨F, P, S, hw, k⟩ => ⟨F, _, S, hw, fun xs hx a F' H' S' _ => ⟨(a, xs), F', P, S'.store ⟨_, rfl, rfl⟩, hx, k⟩⟩
theorem b_setC (i : Nat) {x : Str} {w1 : W (List α)} {w2 : List α → W β} (c : PS X (.Assign [.Name x pos'] e pos) (tAsg (tNew B env os r w1) (gName i))) (hr : ∀ xs, BG X B (env.set i (sv (rLst r) xs)) os rest post (w2 xs)) :
    BG X B env os (.Assign [.Name x pos'] e pos :: rest) post (bnd w1 w2) :=
  PSs.imp (pss_cons c (PSs.ex hr)) fun D σ H ⟨F, P, S, hw, k⟩ => ⟨F, _, S, hw, fun xs hx a F' H' S' _ => by
  obtain ⟨F2, o, e2, h1, ⟨vs, h2, h3, h4⟩, S2⟩ := S'.freeze
  subst h2
  exact ⟨xs, F2, P, S2.store ⟨_, rfl, a, vs, rfl, h1, h3, h4⟩, hx, k⟩⟩
/-- it is let go -/
theorem b_freeze (i j : Nat) {a : Addr} {xs : List α} {w : W β} (hi : env[i]? = some (sv (rAdr a) ())) (hj : os[j]? = some (a, oLst r xs)) (h : BG X B (env.set i (sv (rLst r) xs)) (os.eraseIdx j) rest post w) : BG X B env os rest post w :=
  PSs.imp h fun D σ H ⟨F, P, S, hw, k⟩ => by
  obtain ⟨F2, o, e2, h1, ⟨vs, h2, h3, h4⟩, S2⟩ := (S.pick hj).freeze
  subst h2
  obtain ⟨ov, g1, v, g2, g3⟩ := S2.env.get hi
  have g3' : v = .ref a := g3
  subst g2 g3'
  have q : σ.set i (some (.ref a)) = σ := set_same g1
  have S3 := S2.store (i := i) (sl := sv (rLst r) xs) (v := .ref a) ⟨_, rfl, a, vs, rfl, h1, h3, h4⟩
  rw [q] at S3
  exact ⟨F2, P, S3, hw, k⟩
theorem Sit.own {F H : Hp} {σ : L2.St} {i j : Nat} {a : Addr} {xs : List α} (S : Sit B F H σ env os) (hi : env[i]? = some (sv (rAdr a) ())) (hj : os[j]? = some (a, oLst r xs)) : σ[i]? = some (some (.ref a)) ∧ F a = none ∧ ∃ vs, H a = some (.lst vs) ∧ vs.length ≤ sizeLine ∧ Paired (r.ok F) vs xs := by
  obtain ⟨ov, g1, v, g2, g3⟩ := S.env.get hi
  have g3' : v = .ref a := g3
  subst g2 g3'
  obtain ⟨z1, ⟨o, z2, vs, z3, z4, z5⟩, _⟩ := S.ow _ (List.mem_of_getElem? hj)
  subst z3
  exact ⟨g1, z1, vs, z2, z4, z5⟩
theorem e_idxO (i j : Nat) {x : Str} {p2 : Pos} {a : Addr} {xs : List α} {w : W Int} (hi : env[i]? = some (sv (rAdr a) ())) (hj : os[j]? = some (a, oLst r xs)) (hb : EE X B env os b rInt w) (hN : X.N[i]? = some x := by rfl)
    (hv : Vis X.env.scope x := by first | exact Or.inl rfl | exact Or.inr (Or.inl rfl) | exact Or.inr (Or.inr rfl)) (hd : (x == ("__debug__" : Str)) = false := by decide) (hcd : (x == ("__classdict__" : Str)) = false := by decide) (hs : PlainIx b := by exact fun _ _ => rfl) :
    EE X B env os (.Subscript (.Name x p2) b pos) r (bnd w fun k => idx xs k) :=
  PE.imp (pe_ix ix_list (pe_var hN hv hd hcd) hb hs) fun σ H Q ⟨F, P, S, hw, k⟩ => by
  obtain ⟨g1, _, _, _, _, _⟩ := S.own hi hj
  refine ⟨.ref a, g1, F, _, S, hw, fun z hz v F1 H1 S1 e1 ok => ?_⟩
  obtain ⟨_, g2, vs, g3, g4, g5⟩ := S1.own hi hj
  obtain ⟨y, hy, py⟩ := idx_of hz
  obtain ⟨u, hu, ru⟩ := atI_paired g5 hy
  exact ⟨a, vs, z, u, rfl, ok, SqL.of g3, hu, k y py u F1 H1 S1 e1 ru⟩
/-- found.append(e) -/
theorem b_append (i j : Nat) {x : Str} {p1 p2 p3 : Pos} {a : Addr} {xs : List α} {w : W α} {w2 : α → W β} (hi : env[i]? = some (sv (rAdr a) ())) (hj : os[j]? = some (a, oLst r xs)) (he : EE X B env os e r w)
    (hr : ∀ y, BG X B env (os.set j (a, oLst r (xs ++ [y]))) rest post (w2 y)) (hN : X.N[i]? = some x := by rfl)
    (hv : Vis X.env.scope x := by first | exact Or.inl rfl | exact Or.inr (Or.inl rfl) | exact Or.inr (Or.inr rfl)) (hd : (x == ("__debug__" : Str)) = false := by decide) (hcd : (x == ("__classdict__" : Str)) = false := by decide)
    (hbase : attributeBase (.Name x p1) "append" X.env (eval (.Name x p1) X.env) = eval (.Name x p1) X.env := by rfl)
    (hfew : ((backTo p3 (starEach [e] X.env)).all (fun x => !x.1) && (backToKw p3 (keywordEach [] X.env)).all (fun x => x.1.isSome) && decide (([e] : List Expr).length + ([] : List Keyword).length + (if ([] : List Keyword).isEmpty then 0 else 1) < 30)) = true := by rfl)
    (hline : (p2.endLine == p3.line) = true := by rfl) (hs : starEach [e] X.env = (false, eval e X.env) :: starEach [] X.env := by rfl) (hplain : (backTo p3 (starEach [] X.env)).any (·.1) = false := by rfl)
    (hsw : swapsWith (.Call (.Attribute (.Name x p1) "append" p2) [e] [] p3) none pos.line X.env = pure false := by rfl) :
    BG X B env os (.Expr (.Call (.Attribute (.Name x p1) "append" p2) [e] [] p3) pos :: rest) post (bnd w fun y => chk (xs.length < sizeLine) (w2 y)) :=
  PSs.imp (pss_cons (ps_expr (pe_bm PySem.F.plainAttrs_list PySem.F.slot_list_append PySem.F.type_list_append mt_append (pe_var hN hv hd hcd) (pa_cons he pa_nil hs) hbase hfew hline hs hplain) hsw) (PSs.ex hr)) fun D σ H ⟨F, P, S, hw, k⟩ => by
  obtain ⟨g1, g2, vs, g3, g4, g5⟩ := S.own hi hj
  refine ⟨.ref a, g1, .inl ⟨rfl, vs, SqL.of g3⟩, F, _, S, hw, fun y ⟨hc, hy⟩ v F1 H1 S1 e1 ok => ?_⟩
  obtain ⟨_, g2, vs', g3', g4', g5'⟩ := S1.own hi hj
  have hl : vs'.length < sizeLine := by rw [g5'.length]; exact hc
  exact ⟨a, vs', v, rfl, rfl, g3', hl, y, F1, P, S1.change hj ⟨_, rfl, by rw [List.length_append, List.length_singleton]; omega, Paired.app g5' (.cons ok .nil)⟩, hy, k⟩
end
end Mi
namespace Mi
open PySem L2 Evl
theorem Dp.up {K : PySem.W.Frag} {F H : Hp} {v : V} {d : PyData} (e : Ex F H) (h : Dp K F v d) : Dp K H v d := by
  refine (show ∀ {v d}, Dp K F v d → Dp K H v d from ?_) h
  intro v d h
  exact Dp.rec (K := K) (H := F) (motive_1 := fun v d _ => Dp K H v d) (motive_2 := fun vs ds _ => DpAll K H vs ds) .non .bl .int .str (fun h1 _ ih => .lst (ex_l e h1) ih) (fun h1 _ ih => .tup (ex_t e h1) ih) .nil (fun _ _ i1 i2 => .cons i1 i2) h
/-- what stands for x is the datum f x, at most n deep -/
structure DD (K : PySem.W.Frag) {α : Type} (r : Rp α) (f : α → PyData) (n : Nat) : Prop where
  ok : ∀ {F v x}, r.ok F v x → Dp K F v (f x) ∧ (f x).canLay0 = true ∧ (f x).depth ≤ n
section
variable {K : PySem.W.Frag} {α β γ : Type} {r : Rp α} {s : Rp β} {t : Rp γ} {f : α → PyData} {g : β → PyData} {h : γ → PyData} {n m k : Nat}
theorem dd_int : DD K rInt .int 0 := ⟨fun {F v x} e => by
  have e : v = .int x := e
  subst e
  exact ⟨.int x, by simp [PyData.canLay0], by simp [PyData.depth]⟩⟩
theorem dd_bool : DD K rBool .bool 0 := ⟨fun {F v x} e => by
  have e : v = .bl x := e
  subst e
  exact ⟨.bl x, by simp [PyData.canLay0], by simp [PyData.depth]⟩⟩
theorem dd_str : DD K rStr .str 0 := ⟨fun {F v x} ⟨e, _, h⟩ => by
  subst e
  exact ⟨.str x, by simpa [PyData.canLay0] using h, by simp [PyData.depth]⟩⟩
theorem dd_non : DD K rNon (fun _ => .none) 0 := ⟨fun {F v x} e => by
  have e : v = .non := e
  subst e
  exact ⟨.non, by simp [PyData.canLay0], by simp [PyData.depth]⟩⟩
theorem dd_D : DD K (rD K) id 30 := ⟨fun h => h⟩
theorem dd_all (d : DD K r f n) {F : Hp} : ∀ {vs : List V} {xs : List α}, Paired (r.ok F) vs xs → DpAll K F vs (xs.map f) ∧ PyData.canLayAll0 (xs.map f) = true ∧ PyData.depthAll (xs.map f) ≤ n
  | _, _, .nil => ⟨.nil, by simp [PyData.canLayAll0], by simp [PyData.depthAll]⟩
  | _, _, .cons r t => by
    obtain ⟨h1, h2, h3⟩ := d.ok r
    obtain ⟨k1, k2, k3⟩ := dd_all d t
    refine ⟨.cons h1 k1, ?_, ?_⟩
    · rw [List.map_cons, PyData.canLayAll0, h2, k2]
      rfl
    · rw [List.map_cons, PyData.depthAll]
      omega
theorem dd_lst (d : DD K r f n) : DD K (rLst r) (fun xs => .list (xs.map f)) (n + 1) := ⟨fun {F v x} ⟨a, vs, e, h1, h2, h3⟩ => by
  subst e
  obtain ⟨k1, k2, k3⟩ := dd_all d h3
  exact ⟨.lst (SqL.of h1) k1, by rw [PyData.canLay0]; exact k2, by rw [PyData.depth]; omega⟩⟩
theorem dd_tup (d : DD K r f n) : DD K (rTup K r) (fun xs => .tuple (xs.map f)) (n + 1) := ⟨fun {F v x} ⟨a, vs, e, h1, h2, h3⟩ => by
  subst e
  obtain ⟨k1, k2, k3⟩ := dd_all d h3
  exact ⟨.tup h1 k1, by rw [PyData.canLay0]; exact k2, by rw [PyData.depth]; omega⟩⟩
theorem dd_t2 (d : DD K r f n) (e : DD K s g m) : DD K (rT2 K r s) (fun x => .tuple [f x.1, g x.2]) (max n m + 1) := ⟨fun {F v x} ⟨a, v1, v2, e0, h1, h2, h3⟩ => by
  subst e0
  obtain ⟨k1, k2, k3⟩ := d.ok h2
  obtain ⟨l1, l2, l3⟩ := e.ok h3
  refine ⟨.tup h1 (.cons k1 (.cons l1 .nil)), ?_, ?_⟩
  · simp [PyData.canLay0, PyData.canLayAll0, k2, l2]
  · simp only [PyData.depth, PyData.depthAll]
    omega⟩
theorem dd_t3 (d : DD K r f n) (e : DD K s g m) (c : DD K t h k) : DD K (rT3 K r s t) (fun x => .tuple [f x.1, g x.2.1, h x.2.2]) (max n (max m k) + 1) := ⟨fun {F v x} ⟨a, v1, v2, v3, e0, h1, h2, h3, h4⟩ => by
  subst e0
  obtain ⟨k1, k2, k3⟩ := d.ok h2
  obtain ⟨l1, l2, l3⟩ := e.ok h3
  obtain ⟨p1, p2, p3⟩ := c.ok h4
  refine ⟨.tup h1 (.cons k1 (.cons l1 (.cons p1 .nil))), ?_, ?_⟩
  · simp [PyData.canLay0, PyData.canLayAll0, k2, l2, p2]
  · simp only [PyData.depth, PyData.depthAll]
    omega⟩
end
theorem shaped_of {d : PyData} {n : Nat} (h1 : d.canLay0 = true) (h2 : d.depth ≤ n) (h3 : n ≤ 64) : SeqAt.shaped d = true := by
  unfold SeqAt.shaped
  rw [h1, Bool.true_and]
  exact decide_eq_true (Nat.le_trans h2 h3)
section
variable {X : Cx} {B : Bs} {env : Env} {os : Os} {pos : Pos} {α β γ : Type} {r : Rp α} {s : Rp β} {f : α → PyData} {g : β → PyData} {n m : Nat} {a b : Expr} {w1 : W α} {w2 : α → W β}
theorem sem_eqD {K : PySem.W.Frag} (d : DD K r f n) (e : DD K s g m) (hn : n ≤ 64) (hm : m ≤ 64) : R2T (rEqD K) r s rBool (fun x y => ret (PyData.eqv (f x) (g y))) := fun F H v u x y P E Q fh o1 o2 hw k => by
  obtain ⟨k1, k2, k3⟩ := d.ok o1
  obtain ⟨l1, l2, l3⟩ := e.ok o2
  exact ⟨f x, g y, Dp.up fh k1, Dp.up fh l1, shaped_of k2 k3 hn, shaped_of l2 l3 hm, k _ hw _ F H (Grow.refl fh) rfl⟩
theorem e_eqD (hu : X.A.units + 64 < cLine) (d : DD X.K r f n) (e : DD X.K s g m) (ha : EE X B env os a r w1) (hb : ∀ x, EE X B env os b s (w2 x)) (hn : n ≤ 64 := by decide) (hm : m ≤ 64 := by decide) : EE X B env os (.Compare a [.Eq] [b] pos) rBool (bnd w1 fun x => bnd (w2 x) fun y => ret (PyData.eqv (f x) (g y))) := e_cmp (op_eqD hu) (sem_eqD d e hn hm) (nomark _) ha hb
theorem sem_eqI : R2T rEq rInt rInt rBool (fun x y => ret (decide (x = y))) := fun F H v u x y P E Q fh o1 o2 hw k => by
  have o1 : v = .int x := o1
  have o2 : u = .int y := o2
  subst o1 o2
  have e : decide (V.int x = V.int y) = decide (x = y) := by
    rw [Bool.eq_iff_iff]
    simp
  exact ⟨rfl, by rw [e]; exact k _ hw _ F H (Grow.refl fh) rfl⟩
theorem sem_neI : R2T rNe rInt rInt rBool (fun x y => ret (!decide (x = y))) := fun F H v u x y P E Q fh o1 o2 hw k => by
  have o1 : v = .int x := o1
  have o2 : u = .int y := o2
  subst o1 o2
  have e : decide (V.int x = V.int y) = decide (x = y) := by
    rw [Bool.eq_iff_iff]
    simp
  exact ⟨rfl, by rw [e]; exact k _ hw _ F H (Grow.refl fh) rfl⟩
theorem sem_eqS : R2T rEq rStr rStr rBool (fun x y => ret (decide (x = y))) := fun F H v u x y P E Q fh ⟨o1, _⟩ ⟨o2, _⟩ hw k => by
  subst o1 o2
  have e : decide (V.str x = V.str y) = decide (x = y) := by
    rw [Bool.eq_iff_iff]
    simp
  exact ⟨rfl, by rw [e]; exact k _ hw _ F H (Grow.refl fh) rfl⟩
theorem e_neI {w1 : W Int} {w2 : Int → W Int} (ha : EE X B env os a rInt w1) (hb : ∀ x, EE X B env os b rInt (w2 x)) : EE X B env os (.Compare a [.NotEq] [b] pos) rBool (bnd w1 fun x => bnd (w2 x) fun y => ret (!decide (x = y))) := e_cmp op_ne sem_neI (nomark _) ha hb
theorem e_eqS {w1 : W Str} {w2 : Str → W Str} (ha : EE X B env os a rStr w1) (hb : ∀ x, EE X B env os b rStr (w2 x)) : EE X B env os (.Compare a [.Eq] [b] pos) rBool (bnd w1 fun x => bnd (w2 x) fun y => ret (decide (x = y))) := e_cmp op_eq sem_eqS (nomark _) ha hb
def rRepr (K : PySem.W.Frag) : List V → Hp → VK → Prop := fun xs H Q => ∃ x d, xs = [x] ∧ Dp K H x d ∧ d.canLay0 = true ∧ d.depth ≤ 64 ∧ d.showable = true ∧ d.shown.length ≤ sizeLine ∧ Q (.str d.shown) H
theorem call_reprD (hu : X.A.units + 100 < cLine) (hg : X.A.guards = some []) : CallR X (.builtin "repr") (rRepr X.K) := by
  intro pins s σ H xs us Q I r h
  obtain ⟨x, d, rfl, hd, hc, hdp, hs, hz, q⟩ := h
  cases r with
  | cons rx rn =>
    cases rn
    rename_i u
    obtain ⟨as, rd⟩ := Dp.reads I d x u hd rx
    have fin : ∀ (h' : Heap) (t tk : Nat), (∀ b o, s.heap.get? b = some o → h'.get? b = some o) → EP X pins σ Q (.str d.shown t) { s with heap := h', toks := tk } := fun h' t tk k => ⟨.str d.shown, H, I.kept k, ⟨t, rfl⟩, q⟩
    cases u with
    | ref a =>
      exact repr_of_reads' rd hs (PyData.noDict_hsm (PyData.hasDict_of_canLay d hc)) hg (by omega) (fun _ _ e => e) (fun h' t tk k => fin h' t tk k) hz
    | int i t =>
      cases rd
      have hs' : i.natAbs.log2 < 1920 := by simpa [PyData.showable] using hs
      exact PySem.P.repr_of_int hs' (fin s.heap _ _ fun _ _ e => e)
    | str y t =>
      cases rd
      exact PySem.P.repr_of_str (fin s.heap _ _ fun _ _ e => e) hz
    | bool b =>
      cases rd
      exact PySem.P.repr_of_bool (fin s.heap _ _ fun _ _ e => e)
    | none =>
      cases rd
      exact PySem.P.repr_of_none (fin s.heap _ _ fun _ _ e => e)
    | _ => cases rd
def reprW (d : PyData) : W Str := chk (d.showable = true ∧ d.shown.length ≤ sizeLine ∧ PyData.strOk d.shown = true) (ret d.shown)
theorem sem_repr {K : PySem.W.Frag} (d : DD K r f n) (hn : n ≤ 64) : C1T (rRepr K) r rStr (fun x => reprW (f x)) := fun F H v x P E Q fh ok ⟨⟨c1, c2, c3⟩, hw⟩ k => by
  obtain ⟨k1, k2, k3⟩ := d.ok ok
  exact ⟨v, f x, rfl, Dp.up fh k1, k2, by omega, c1, c2, k _ hw _ F H (Grow.refl fh) ⟨rfl, c2, c3⟩⟩
theorem e_repr {p : Pos} (hu : X.A.units + 100 < cLine) (hgu : X.A.guards = some []) (d : DD X.K r f n) (ha : EE X B env os a r w1) (hm : X.mg "repr" = none) (hn : n ≤ 64 := by decide) (hg : Gl X "repr" := by rfl) (he : starEach [a] X.env = (false, eval a X.env) :: starEach [] X.env := by rfl) (hpl : (backTo pos (starEach [] X.env)).any (·.1) = false := by rfl) :
    EE X B env os (.Call (.Name "repr" p) [a] [] pos) rStr (bnd w1 fun x => reprW (f x)) := e_callB (call_reprD hu hgu) (sem_repr d hn) ha hm hg (by decide +kernel) (by decide) (by decide) he hpl
end
end Mi
namespace Mi
open PySem L2 Evl
open PyProof.Rows (envOfC)
/-- a def's promise where no repr runs around it -/
structure FnG (P : Program) (w : World) (K : PySem.W.Frag) (mg : Str → Option Value) (base : Heap) (CX : CXT) (k : Nat) (f : Addr) (fd : FuncData) (ps : List Str) (sp : Sp) : Prop where
  lens : ∀ vs H Q E, sp vs H Q E → vs.length = ps.length
  go : ∀ (A : Around) (outer : List PySem.Env) (s : Shared) (H : Hp) (args : Args) (us : List Value) (vs : List V) (Q : VK) (E : XK), A.guards = some [] → Room k A → Env0 P w K mg base A outer s H →
    BindsTo s fd args (ps.zip us) → Vals vs us → sp vs H Q E → codeAny (model P w) A (.call (.ref f) args) (CR CX outer P w H s Q E) s
section
variable {P : Program} {w : World} {K : PySem.W.Frag} {mg : Str → Option Value} {base : Heap} {CX : CXT} {k j : Nat} {f : Addr} {fd : FuncData} {ps N : List Str} {sp sp' : Sp}
theorem FnG.of (F : FnOk P w K mg base CX k f fd ps sp) : FnG P w K mg base CX k f fd ps sp := ⟨F.len, fun A o s H a us vs Q E _ h1 h2 h3 h4 h5 => F.run A o s H a us vs Q E h1 h2 h3 h4 h5⟩
theorem FnG.mono (F : FnG P w K mg base CX j f fd ps sp) (h : j ≤ k) : FnG P w K mg base CX k f fd ps sp := ⟨F.lens, fun A o s H a us vs Q E hg hr => F.go A o s H a us vs Q E hg (hr.mono h)⟩
/-- a def's body keeps the promise; what is raised does not leave it -/
theorem fnG_of {x qual : Str} {st : Stmt} (F : Fun K x qual st f fd) (S : FnScope N ps (defScope st)) (ln : ∀ vs H Q E, sp vs H Q E → vs.length = ps.length)
    (hbody : ∀ (cdv : Value) (A : Around) (outer : List PySem.Env) (s : Shared) (H : Hp) (vs : List V) (Q : VK) (E : XK), Room k (A.deeper (envOfC qual (defScope st) s.heap.objs.size f cdv)) → A.guards = some [] → sp vs H Q E →
      ∃ t, PSs (cxOf CX P w K mg base N qual (defScope st) f cdv A outer s H E).nox (defBody st) t ∧ t { nx := fun _ H' => Q .non H', rt := Q } (L2.start N vs) H) : FnG P w K mg base CX (k + 1) f fd ps sp := by
  obtain ⟨oc, od, kV, doc, pm, an, cdv, ct, osl, rfl, lk, hcd⟩ := F.ex
  refine ⟨ln, fun A outer s H args us vs Q E hgu hr e0 hb r hsp => ?_⟩
  have hl := ln _ _ _ _ hsp
  have hk0 : ∀ b o, base.get? b = some o → s.heap.get? b = some o := fun b o e => (e0.bs b o e).1
  have KX := e0.mod.kin.keeps hk0
  refine codeAny_call_function hr.depth (KX _ _ lk) rfl S.co S.gen rfl (PySem.W.codeRec_of KX hcd) (hb _ _ _ _ ?_)
  refine wpAny_newFunctionEnv_cells S.kind (fun ⟨n, v⟩ hy => ?_) fun env he s1 x => ?_
  · rcases S.par n (List.of_mem_zip hy).1 with q | q
    · exact .inl q
    · exact .inr ⟨q, PySem.W.cellsFrom_some _ _ _ (.inl q)⟩
  subst he
  refine ⟨(e0.mod.nolimit.keeps hk0).keeps x.toInCall.keep, codeAny_func ?_⟩
  obtain ⟨t, ht, hq⟩ := hbody cdv A outer s H vs Q E (hr.deeper _) hgu hsp
  have I := inv_start (CX := CX) (E := E) S hr.hd e0 hl r x
  refine wpAny_mono (ht.nox.run [] s1 (L2.start N vs) H _ I hq) (fun fl s' hs => ?_) fun e s' hs => hs
  cases fl with
  | ret u =>
    obtain ⟨v, σ', H', J, rv, q⟩ := hs
    exact ⟨v, H', J.os, J.bare, J.base, J.hok, rv, q⟩
  | next =>
    obtain ⟨σ', H', J, q⟩ := hs
    exact ⟨.non, H', J.os, J.bare, J.base, J.hok, rfl, q⟩
  | brk =>
    obtain ⟨_, _, _, q⟩ := hs
    exact False.elim q
  | cont =>
    obtain ⟨_, _, _, q⟩ := hs
    exact False.elim q
end
/-- the base at a def's entry -/
abbrev bs0 (F H : Hp) (os : Os) : Bs := { F := F, H := H, M := F, io := os.map (·.1), E0 := fun _ => False }
/-- by the mirror w: the arguments by slots, the objects handed in to be changed -/
def spW {ι ρ : Type} (args : ι → Env) (os : ι → Os) (w : ι → W ρ) (ro : Rp ρ) : Sp := fun vs H Q _ => ∃ (i : ι) (F : Hp) (P : ρ → Prop), Ex F H ∧ EnvOk F (args i) (vs.map some) ∧ (∀ p ∈ os i, F p.1 = none ∧ ∃ o, H p.1 = some o ∧ p.2.ok F o) ∧ ((os i).map (·.1)).Nodup ∧
  w i P (fun _ => False) ∧ ∀ x, P x → ∀ v F' H', Fn (bs0 F H (os i)) F' H' → OsOk (bs0 F H (os i)) F' H' (os i) → ro.ok F' v x → Q v H'
/-- a body's end -/
def pFn (B : Bs) (osR : Os) {ρ : Type} (ro : Rp ρ) : Post ρ := fun D x => (∀ v F H, Fn B F H → OsOk B F H osR → ro.ok F v x → D.rt v H) ∧ ∀ σ F H, Fn B F H → OsOk B F H osR → ro.ok F .non x → D.nx σ H
theorem RtOk.fn {B : Bs} {osR : Os} {ρ : Type} {ro : Rp ρ} : RtOk B (pFn B osR ro) osR ro (fun x => x) := ⟨fun _ _ h => h.1⟩
theorem NxOk.fn {B : Bs} {osR : Os} {env : Env} {os : Os} (ho : OsW os osR) : NxOk B (pFn B osR rNon) env os () := ⟨fun D q σ F H z => q.2 σ F H z.fin (ho.ok z) rfl⟩
theorem bs0_start {F H : Hp} {os : Os} (fh : Ex F H) (h : ∀ p ∈ os, F p.1 = none ∧ ∃ o, H p.1 = some o ∧ p.2.ok F o) : Fn (bs0 F H os) F H :=
  ⟨fh, Ex.refl F, Ex.refl F, fh, fun a ha => by
    obtain ⟨p, hp, e⟩ := List.mem_map.mp ha
    obtain ⟨_, o, ho, _⟩ := h p hp
    exact ⟨o, by rw [← e]; exact ho⟩, fun a o h1 h2 _ => ⟨h2, h1⟩⟩
/-- the slots at the entry -/
def entry (a : Env) (n : Nat) : Env := a ++ List.replicate n sa
theorem entry_ok {F : Hp} {a : Env} {vs : List V} {N : List Str} (h : EnvOk F a (vs.map some)) : EnvOk F (entry a (N.length - vs.length)) (L2.start N vs) := by
  unfold entry L2.start
  refine Paired.app h ?_
  induction N.length - vs.length with
  | zero => exact .nil
  | succ n ih =>
    rw [List.replicate_succ, List.replicate_succ]
    exact .cons trivial ih
section
variable {P : Program} {w : World} {K : PySem.W.Frag} {mg : Str → Option Value} {base : Heap} {k : Nat} {f : Addr} {fd : FuncData} {ps N : List Str} {ι ρ : Type} {args : ι → Env} {os : ι → Os} {wf : ι → W ρ} {ro : Rp ρ}
theorem spW_len (hl : ∀ i, (args i).length = ps.length) : ∀ vs H Q E, spW args os wf ro vs H Q E → vs.length = ps.length := fun vs H Q E ⟨i, F, P, _, he, _⟩ => by
  have := he.len
  rw [List.length_map, hl i] at this
  exact this.symm
theorem fnW {x qual : Str} {st : Stmt} (F : Fun K x qual st f fd) (S : FnScope N ps (defScope st)) (hl : ∀ i, (args i).length = ps.length)
    (body : ∀ (cdv : Value) (A : Around) (outer : List PySem.Env) (s : Shared) (H : Hp) (E : XK) (B : Bs) (i : ι), Room k (A.deeper (envOfC qual (defScope st) s.heap.objs.size f cdv)) → A.guards = some [] →
      BG (cxOf CX0 P w K mg base N qual (defScope st) f cdv A outer s H E).nox B (entry (args i) (N.length - ps.length)) (os i) (defBody st) (pFn B (os i) ro) (wf i)) : FnG P w K mg base CX0 (k + 1) f fd ps (spW args os wf ro) := by
  refine fnG_of F S (spW_len hl) fun cdv A outer s H vs Q E hr hgu hsp => ?_
  have hvl := spW_len hl vs H Q E hsp
  obtain ⟨i, F0, P0, fh, he, ho, nd, hw, hk⟩ := hsp
  refine ⟨_, body cdv A outer s H E (bs0 F0 H (os i)) i hr hgu, F0, P0, ⟨bs0_start fh ho, ?_, fun p hp => ?_, nd⟩, hw, fun y hy => ⟨fun v F' H' fn ow ok => hk y hy v F' H' fn ow ok, fun σ F' H' fn ow ok => hk y hy .non F' H' fn ow ok⟩⟩
  · rw [← hvl]
    exact entry_ok he
  · obtain ⟨h1, o, h2, h3⟩ := ho p hp
    exact ⟨h1, ⟨o, h2, h3⟩, .inr (List.mem_map_of_mem hp)⟩
/-- where the def needs no «no repr around»: the library's own promise -/
theorem okW {x qual : Str} {st : Stmt} (F : Fun K x qual st f fd) (S : FnScope N ps (defScope st)) (hl : ∀ i, (args i).length = ps.length)
    (body : ∀ (cdv : Value) (A : Around) (outer : List PySem.Env) (s : Shared) (H : Hp) (E : XK) (B : Bs) (i : ι), Room k (A.deeper (envOfC qual (defScope st) s.heap.objs.size f cdv)) →
      BG (cxOf CX0 P w K mg base N qual (defScope st) f cdv A outer s H E).nox B (entry (args i) (N.length - ps.length)) (os i) (defBody st) (pFn B (os i) ro) (wf i)) : FnOk P w K mg base CX0 (k + 1) f fd ps (spW args os wf ro) := by
  refine F.ok S (spW_len hl) fun cdv A outer s H vs Q E hr hsp => ?_
  have hvl := spW_len hl vs H Q E hsp
  obtain ⟨i, F0, P0, fh, he, ho, nd, hw, hk⟩ := hsp
  refine ⟨_, body cdv A outer s H E (bs0 F0 H (os i)) i hr, F0, P0, ⟨bs0_start fh ho, ?_, fun p hp => ?_, nd⟩, hw, fun y hy => ⟨fun v F' H' fn ow ok => hk y hy v F' H' fn ow ok, fun σ F' H' fn ow ok => hk y hy .non F' H' fn ow ok⟩⟩
  · rw [← hvl]
    exact entry_ok he
  · obtain ⟨h1, o, h2, h3⟩ := ho p hp
    exact ⟨h1, ⟨o, h2, h3⟩, .inr (List.mem_map_of_mem hp)⟩
end
def tAA (B : Bs) (env : Env) (os : Os) {ι : Type} (sl : ι → Env) (w : W ι) : TA := fun σ H Q => ∃ F P, Sit B F H σ env os ∧ w P B.E0 ∧ ∀ i, P i → ∀ vs F' H', Sit B F' H' σ env os → Ex F F' → EnvOk F' (sl i) (vs.map some) → Q vs H'
def AA (X : Cx) (B : Bs) (env : Env) (os : Os) (es : List Expr) {ι : Type} (sl : ι → Env) (w : W ι) : Prop := PA X es (tAA B env os sl w)
section
variable {X : Cx} {B : Bs} {env : Env} {os : Os} {pos p : Pos} {α β ι κ ρ : Type} {r : Rp α} {sl : ι → Env} {args : ι → Env} {osf : ι → Os} {wf : ι → W ρ} {ro : Rp ρ} {e : Expr} {es : List Expr} {x : Str} {k : Nat} {f : Addr} {fd : FuncData} {ps : List Str}
theorem aa_nil : AA X B env os [] (fun _ : Unit => []) (ret ()) := PA.imp pa_nil fun σ H Q ⟨F, P, S, hw, k⟩ => k () hw [] F H S (Ex.refl F) .nil
theorem aa_cons {w1 : W α} {w2 : α → W ι} (h : EE X B env os e r w1) (ht : ∀ y, AA X B env os es sl (w2 y)) (hs : starEach (e :: es) X.env = (false, eval e X.env) :: starEach es X.env := by rfl) :
    AA X B env os (e :: es) (fun q : α × ι => sv r q.1 :: sl q.2) (bnd w1 fun y => bnd (w2 y) fun i => ret (y, i)) :=
  PA.imp (pa_cons h (PA.ex ht) hs) fun σ H Q ⟨F, P, S, hw, k⟩ => ⟨F, _, S, hw, fun y hy v F1 H1 S1 e1 ok1 => ⟨y, F1, _, S1, hy, fun i hi vs F2 H2 S2 e2 ok2 => k _ hi (v :: vs) F2 H2 S2 (e1.trans e2) (.cons ⟨v, rfl, r.mono e2 ok1⟩ ok2)⟩⟩
/-- behind a call: the state of the caller -/
theorem Sit.back {F F' H H' : Hp} {σ : L2.St} {osf : Os} (S : Sit B F H σ env os) (ho : OsLe os osf) (fn : Fn (bs0 F H osf) F' H') (ow : OsOk (bs0 F H osf) F' H' osf) : Sit B F' H' σ env os := by
  have e : Ex F F' := fn.bf
  have apart : ∀ a, (∀ p ∈ osf, p.1 ≠ a) → a ∉ osf.map (·.1) := fun a h hm => by
    obtain ⟨p, hp, ep⟩ := List.mem_map.mp hm
    exact h p hp ep
  refine ⟨⟨fn.fh, S.fin.bf.trans e, S.fin.mrk.trans e, S.fin.bb, fun a ha => ?_, fun a o h1 h2 h3 => ?_⟩, S.env.mono e, fun p hp => ?_, S.nd⟩
  · obtain ⟨o, hoa⟩ := S.fin.ios a ha
    by_cases hm : a ∈ osf.map (·.1)
    · exact fn.ios a hm
    · cases ef : F a with
      | none => exact ⟨o, (fn.keep a o ef hoa hm).1⟩
      | some u => exact ⟨u, fn.fh a u (e a u ef)⟩
  · obtain ⟨k1, k2⟩ := S.fin.keep a o h1 h2 h3
    refine fn.keep a o k2 k1 (apart a fun p hp ep => ?_)
    rcases (S.ow p (ho p hp)).2.2 with q | q
    · rw [ep, h2] at q
      cases q
    · exact h3 (ep ▸ q)
  · obtain ⟨h1, ⟨o, h2, h3⟩, h4⟩ := S.ow p hp
    by_cases hm : p.1 ∈ osf.map (·.1)
    · obtain ⟨q, hq, eq⟩ := List.mem_map.mp hm
      have same : q = p := by
        obtain ⟨i, hi⟩ := List.mem_iff_getElem?.mp (ho q hq)
        obtain ⟨j, hj⟩ := List.mem_iff_getElem?.mp hp
        have a1 : (os.map (·.1))[i]? = some p.1 := by rw [List.getElem?_map, hi, ← eq]; rfl
        have a2 : (os.map (·.1))[j]? = some p.1 := by rw [List.getElem?_map, hj]; rfl
        have ij := nd_ix S.nd a1 a2
        subst ij
        rw [hi] at hj
        exact Option.some.inj hj
      subst same
      obtain ⟨z1, z2, _⟩ := ow q hq
      exact ⟨z1, z2, h4⟩
    · obtain ⟨z1, z2⟩ := fn.keep p.1 o h1 h2 hm
      exact ⟨z2, ⟨o, z1, p.2.mono e h3⟩, h4⟩
theorem call_back {w : W ι} {σ : L2.St} {H : Hp} {Q : VK} (ho : ∀ i, OsLe os (osf i)) (hnd : ∀ i, ((osf i).map (·.1)).Nodup) (h : tOf B env os ro (bnd w fun i => noX (wf i)) σ H Q) : tAA B env os args w σ H fun vs H1 => spW args osf wf ro vs H1 Q E0 := by
  obtain ⟨F, P, S, hw, k⟩ := h
  refine ⟨F, _, S, hw, fun i hi vs F1 H1 S1 e1 ok => ⟨i, F1, P, S1.fh, ok, fun p hp => ?_, hnd i, hi, fun y hy v F2 H2 fn ow okv => ?_⟩⟩
  · obtain ⟨h1, h2, _⟩ := S1.ow p (ho i p hp)
    exact ⟨h1, h2⟩
  · exact k y hy v F2 H2 (S1.back (ho i) fn ow) (e1.trans fn.bf) okv
theorem run_fnG {pins : List (Addr × Obj)} {σ : St} {H : Hp} {s : Shared} {Q : VK} {us : List Value} {vs : List V} {sp : Sp} (F : FnG X.prog X.w X.K X.mg X.base CX0 k f fd ps sp) (hgu : X.A.guards = some []) (hr : Room k X.A) (hb : Binds X.K fd ps [])
    (I : Inv X pins σ H s) (r : Vals vs us) (h : sp vs H Q E0) : wpAny (model X.prog X.w) X.A (call (.ref f) us) (EP X pins σ Q) X.xe s := by
  have hl : us.length = ps.length := by rw [← r.length]; exact F.lens _ _ _ _ h
  have b := hb s us I.kIn (by rw [List.append_nil]; exact hl)
  rw [List.append_nil] at b
  refine wpAny_call (codeAny_mono (F.go X.A X.stack s H ⟨us, []⟩ us vs Q E0 hgu hr I.env0 b r h) fun res s' hq => ?_)
  cases res with
  | error e => exact False.elim hq
  | ok fl =>
    cases fl with
    | ret u => exact I.after hq
    | next => exact False.elim hq
    | brk => exact False.elim hq
    | cont => exact False.elim hq
/-- f(e, ..), f a def by its mirror -/
theorem e_callG {w : W ι} (G : FnG X.prog X.w X.K X.mg X.base CX0 k f fd ps (spW args osf wf ro)) (hgu : X.A.guards = some []) (hr : Room k X.A) (hm : X.mg x = some (.ref f)) (hk : PySem.W.keepIn X.K (.ref f) = true) (hb : Binds X.K fd ps [])
    (ha : AA X B env os (e :: es) args w) (ho : ∀ i, OsLe os (osf i)) (hnd : ∀ i, ((osf i).map (·.1)).Nodup) (hg : Gl X x := by rfl) (hdb : (x == ("__debug__" : Str)) = false := by decide)
    (he : starEach (e :: es) X.env = (false, eval e X.env) :: starEach es X.env := by rfl) (hpl : (backTo pos (starEach es X.env)).any (·.1) = false := by rfl) :
    EE X B env os (.Call (.Name x p) (e :: es) [] pos) ro (bnd w fun i => noX (wf i)) := by
  refine ⟨fun pins s σ H Q I h => ?_⟩
  refine wpAny_Call_Name_kw (ld_glob I hg hm ?_ hdb)
  refine PySem.W.callWith_K (h₀ := X.base) I.ok.mod.kin hk (thn (ha.run pos pins s σ H _ I (call_back ho hnd h)) fun us s1 ⟨vs, H1, I1, r, q⟩ => ⟨I1.kIn, ?_⟩) he hpl
  exact run_fnG G hgu hr hb I1 r q
theorem e_call {w : W ι} (G : FnOk X.prog X.w X.K X.mg X.base CX0 k f fd ps (spW args osf wf ro)) (hr : Room k X.A) (hm : X.mg x = some (.ref f)) (hk : PySem.W.keepIn X.K (.ref f) = true) (hb : Binds X.K fd ps [])
    (ha : AA X B env os (e :: es) args w) (ho : ∀ i, OsLe os (osf i)) (hnd : ∀ i, ((osf i).map (·.1)).Nodup) (hg : Gl X x := by rfl) (hdb : (x == ("__debug__" : Str)) = false := by decide)
    (he : starEach (e :: es) X.env = (false, eval e X.env) :: starEach es X.env := by rfl) (hpl : (backTo pos (starEach es X.env)).any (·.1) = false := by rfl) :
    EE X B env os (.Call (.Name x p) (e :: es) [] pos) ro (bnd w fun i => noX (wf i)) :=
  PE.imp (pe_call G hr hg hm hk hb .nil pass0 ha hdb he hpl) fun σ H Q h => by
    have q := call_back (args := args) ho hnd h
    obtain ⟨F, P, S, hw, k⟩ := q
    refine ⟨F, P, S, hw, fun i hi vs F' H' S' e' ok => ?_⟩
    show spW args osf wf ro (vs ++ []) H' Q E0
    rw [List.append_nil]
    exact k i hi vs F' H' S' e' ok
end
end Mi
namespace Mi
open PySem L2 Evl
open PyProof.Rows (envOfC IntsAre AllBare)
end Mi
namespace Mi
open PySem L2 Evl
def oHet (ss : List Slot) : Own := ⟨fun F o => ∃ vs : List V, o = .lst vs ∧ Paired (fun (s : Slot) (v : V) => s.ok F (some v)) ss vs, fun e ⟨vs, h1, h2⟩ => ⟨vs, h1, Paired.imp (fun s _ => s.mono e) h2⟩⟩
section
variable {X : Cx} {B : Bs} {env : Env} {os : Os} {pos : Pos} {α β : Type} {r : Rp α} {e : Expr} {rest : List Stmt} {post : Post β}
theorem Sit.het {F H : Hp} {σ : L2.St} {i j : Nat} {a : Addr} {ss : List Slot} (S : Sit B F H σ env os) (hi : env[i]? = some (sv (rAdr a) ())) (hj : os[j]? = some (a, oHet ss)) : σ[i]? = some (some (.ref a)) ∧ F a = none ∧ ∃ vs, H a = some (.lst vs) ∧ Paired (fun (s : Slot) (v : V) => s.ok F (some v)) ss vs := by
  obtain ⟨ov, g1, v, g2, g3⟩ := S.env.get hi
  have g3' : v = .ref a := g3
  subst g2 g3'
  obtain ⟨z1, ⟨o, z2, vs, z3, z5⟩, _⟩ := S.ow _ (List.mem_of_getElem? hj)
  subst z3
  exact ⟨g1, z1, vs, z2, z5⟩
theorem atI_nat' {α : Type} {xs : List α} {n : Nat} {x : α} {c : Int} (hc : c = (n : Int)) (h : xs[n]? = some x) : atI xs c = some x := by
  rw [hc]
  exact atI_nat h
theorem e_hidx (i j n : Nat) {x : Str} {p2 p3 : Pos} {c : Int} {q} {a : Addr} {ss : List Slot} {y : α} (hi : env[i]? = some (sv (rAdr a) ())) (hj : os[j]? = some (a, oHet ss)) (hn : ss[n]? = some (sv r y)) (hc : c = (n : Int) := by rfl) (hN : X.N[i]? = some x := by rfl)
    (hv : Vis X.env.scope x := by first | exact Or.inl rfl | exact Or.inr (Or.inl rfl) | exact Or.inr (Or.inr rfl)) (hd : (x == ("__debug__" : Str)) = false := by decide) (hcd : (x == ("__classdict__" : Str)) = false := by decide) (hs : PlainIx (.Constant (.int c) q p3) := by exact fun _ _ => rfl) :
    EE X B env os (.Subscript (.Name x p2) (.Constant (.int c) q p3) pos) r (ret y) :=
  PE.imp (pe_ix ix_list (pe_var hN hv hd hcd) pe_int hs) fun σ H Q ⟨F, P, S, hw, k⟩ => by
  obtain ⟨g1, g2, vs, g3, g5⟩ := S.het hi hj
  obtain ⟨v, hv, w, ew, okw⟩ := Paired.get' g5 hn
  cases ew
  exact ⟨.ref a, g1, a, vs, c, v, rfl, rfl, SqL.of g3, atI_nat' hc hv, k y hw v F H S (Ex.refl F) okw⟩
theorem b_hput (i j n : Nat) {x : Str} {p1 p2 p3 : Pos} {c : Int} {q} {a : Addr} {ss : List Slot} {w : W α} {w2 : α → W β} (hi : env[i]? = some (sv (rAdr a) ())) (hj : os[j]? = some (a, oHet ss)) (hn : n < ss.length) (he : EE X B env os e r w)
    (hr : ∀ y, BG X B env (os.set j (a, oHet (ss.set n (sv r y)))) rest post (w2 y)) (hc : c = (n : Int) := by rfl) (hN : X.N[i]? = some x := by rfl)
    (hv : Vis X.env.scope x := by first | exact Or.inl rfl | exact Or.inr (Or.inl rfl) | exact Or.inr (Or.inr rfl)) (hd : (x == ("__debug__" : Str)) = false := by decide) (hcd : (x == ("__classdict__" : Str)) = false := by decide)
    (ha : ∀ v, assign (.Subscript (.Name x p1) (.Constant (.int c) q p3) p2) X.env v = (do
      let ov ← holding [v] (eval (.Name x p1) X.env)
      let iv ← holding [v, ov] (eval (.Constant (.int c) q p3) X.env)
      standAt p2
      holding [v, ov, iv] (setItem ov iv v)
      release [v, ov, iv] []) := by intro _; rfl)
    (hs : swapsWithSole [.Subscript (.Name x p1) (.Constant (.int c) q p3) p2] e pos.line X.env = pure false := by rfl) (hw : swappedStores [.Subscript (.Name x p1) (.Constant (.int c) q p3) p2] e X.env = pure none := by rfl)
    (h1 : (assignEach [.Subscript (.Name x p1) (.Constant (.int c) q p3) p2] X.env).map (·.2) = [assign (.Subscript (.Name x p1) (.Constant (.int c) q p3) p2) X.env] := by rfl) :
    BG X B env os (.Assign [.Subscript (.Name x p1) (.Constant (.int c) q p3) p2] e pos :: rest) post (bnd w w2) :=
  PSs.imp (pss_cons (ps_asg he (pg_sub (pe_var hN hv hd hcd) pe_int set_list ha) hs hw h1) (PSs.ex hr)) fun D σ H ⟨F, P, S, hw, k⟩ => ⟨F, _, S, hw, fun y hy v F1 H1 S1 e1 ok => by
  obtain ⟨g1, g2, vs, g3, g5⟩ := S1.het hi hj
  have hlt : n < vs.length := by rw [← Paired.length g5]; exact hn
  have hix : ixN vs.length c = some n := by
    unfold ixN
    rw [hc, if_pos (by omega), if_pos (by omega)]
    simp
  exact ⟨.ref a, g1, a, vs, c, n, rfl, rfl, g3, hix, y, F1, P, S1.change hj ⟨_, rfl, Paired.setR (R := fun (s : Slot) (v : V) => s.ok F1 (some v)) (x := sv r y) (y := v) ⟨v, rfl, ok⟩ g5⟩, hy, k⟩⟩
/-- an own object is seen in more detail -/
theorem b_open {ι : Type} (j : Nat) {a : Addr} {o : Own} {oi : ι → Own} {w : W β} (hj : os[j]? = some (a, o)) (hop : ∀ F h, o.ok F h → ∃ i, (oi i).ok F h) (hr : ∀ i, BG X B env (os.set j (a, oi i)) rest post w) : BG X B env os rest post w :=
  PSs.imp (PSs.ex hr) fun D σ H ⟨F, P, S, hw, k⟩ => by
  obtain ⟨z1, ⟨h, z2, z3⟩, z4⟩ := S.ow _ (List.mem_of_getElem? hj)
  obtain ⟨i, hi⟩ := hop F h z3
  have S2 := S.change (ow' := oi i) (o' := h) hj hi
  have e : upd H a h = H := by
    funext b
    by_cases hb : b = a
    · subst hb
      rw [upd_same]
      exact z2.symm
    · rw [upd_ne hb]
  rw [e] at S2
  exact ⟨i, F, P, S2, hw, k⟩
end
abbrev bagS (cells : List Int) (n : Nat) (d m k : Int) : List Slot := [sv (rLst rInt) cells, sv rInt (n : Int), sv rInt d, sv rInt m, sv rInt k]
def oBag (cells : List Int) : Own := ⟨fun F o => ∃ p : Nat × Int × Int × Int, (oHet (bagS cells p.1 p.2.1 p.2.2.1 p.2.2.2)).ok F o, fun e ⟨p, h⟩ => ⟨p, (oHet _).mono e h⟩⟩
/-- any number below most -/
def drawW (most : Int) : W Int := fun P _ => 0 < most ∧ most.natAbs.log2 < 9000 ∧ ∀ r, 0 ≤ r → r < most → P r
def anyW {α : Type} (xs : List α) : W α := bnd (noX (drawW (xs.length : Int))) fun i => idx xs i
/-- the script, as it was handed in -/
def rScr (K : PySem.W.Frag) : Rp (List Int) := ⟨fun F v xs => ∃ a, v = .ref a ∧ SqL K F a (xs.map V.int) ∧ xs.length ≤ sizeLine, fun e ⟨a, h1, h2, h3⟩ => ⟨a, h1, ex_l e h2, h3⟩⟩
end Mi
namespace Mi
open PySem L2 Evl
section
variable {X : Cx} {B : Bs} {env : Env} {os : Os} {pos : Pos} {α β γ δ : Type} {r : Rp α} {s : Rp γ} {t : Rp δ} {e a b c : Expr} {rest : List Stmt} {post : Post β} {i j l : Nat} {x y z : Str} {px py pz pt pt2 : Pos} {kt k2 : Nat}
variable {w1 : W α} {w2 : α → W γ} {w3 : α → γ → W δ} {w4 : α → γ → W β} {w5 : α → γ → δ → W β}
abbrev tA2 (B : Bs) (env : Env) (os : Os) (r : Rp α) (s : Rp γ) (w1 : W α) (w2 : α → W γ) : TA := tCons (tOf B env os r w1) (tCons (fun σ H Q => ∃ x, tOf B env os s (w2 x) σ H Q) tNil)
abbrev tA3 (B : Bs) (env : Env) (os : Os) (r : Rp α) (s : Rp γ) (t : Rp δ) (w1 : W α) (w2 : α → W γ) (w3 : α → γ → W δ) : TA := tCons (tOf B env os r w1) (tCons (fun σ H Q => ∃ x, tOf B env os s (w2 x) σ H Q) (tCons (fun σ H Q => ∃ p : α × γ, tOf B env os t (w3 p.1 p.2) σ H Q) tNil))
theorem pa2 (ha : EE X B env os a r w1) (hb : ∀ x, EE X B env os b s (w2 x)) (hs : starEach [a, b] X.env = (false, eval a X.env) :: starEach [b] X.env := by rfl) (hs2 : starEach [b] X.env = (false, eval b X.env) :: starEach [] X.env := by rfl) : PA X [a, b] (tA2 B env os r s w1 w2) :=
  pa_cons ha (pa_cons (PE.ex hb) pa_nil hs2) hs
theorem pa3 (ha : EE X B env os a r w1) (hb : ∀ x, EE X B env os b s (w2 x)) (hc : ∀ x y, EE X B env os c t (w3 x y)) (hs : starEach [a, b, c] X.env = (false, eval a X.env) :: starEach [b, c] X.env := by rfl)
    (hs2 : starEach [b, c] X.env = (false, eval b X.env) :: starEach [c] X.env := by rfl) (hs3 : starEach [c] X.env = (false, eval c X.env) :: starEach [] X.env := by rfl) : PA X [a, b, c] (tA3 B env os r s t w1 w2 w3) :=
  pa_cons ha (pa_cons (PE.ex hb) (pa_cons (PE.ex fun p : α × γ => hc p.1 p.2) pa_nil hs3) hs2) hs
/-- a, b = e1, e2, by the statement's rule -/
theorem b_par2 (cc : PS X (.Assign [.Tuple [.Name x px, .Name y py] kt pt] (.Tuple [a, b] k2 pt2) pos) (tPar i j (tA2 B env os r s w1 w2))) (hr : ∀ u v, BG X B ((env.set i (sv r u)).set j (sv s v)) os rest post (w4 u v)) :
    BG X B env os (.Assign [.Tuple [.Name x px, .Name y py] kt pt] (.Tuple [a, b] k2 pt2) pos :: rest) post (bnd w1 fun u => bnd (w2 u) fun v => w4 u v) :=
  PSs.imp (pss_cons cc (PSs.ex fun p : α × γ => hr p.1 p.2)) fun D σ H ⟨F, P, S, hw, k⟩ => ⟨F, _, S, hw, fun u hu v1 F1 H1 S1 e1 ok1 => ⟨u, F1, _, S1, hu, fun v hv v2 F2 H2 S2 e2 ok2 =>
    ⟨v1, v2, rfl, (u, v), F2, P, (S2.store (sl := sv r u) ⟨v1, rfl, r.mono e2 ok1⟩).store (sl := sv s v) ⟨v2, rfl, ok2⟩, hv, k⟩⟩⟩
theorem b_par2T (cc : PS X (.Assign [.Tuple [.Name x px, .Name y py] kt pt] (.Tuple [a, b] k2 pt2) pos) (tAsg (tTup (tA2 B env os r s w1 w2)) (gTup X.K 2 (gCons (gName i) (gCons (gName j) gNil))))) (hr : ∀ u v, BG X B ((env.set i (sv r u)).set j (sv s v)) os rest post (w4 u v)) :
    BG X B env os (.Assign [.Tuple [.Name x px, .Name y py] kt pt] (.Tuple [a, b] k2 pt2) pos :: rest) post (bnd w1 fun u => bnd (w2 u) fun v => w4 u v) :=
  PSs.imp (pss_cons cc (PSs.ex fun p : α × γ => hr p.1 p.2)) fun D σ H ⟨F, P, S, hw, k⟩ => ⟨F, _, S, hw, fun u hu v1 F1 H1 S1 e1 ok1 => ⟨u, F1, _, S1, hu, fun v hv v2 F2 H2 S2 e2 ok2 =>
    ⟨(by show 2 ≤ sizeLine; decide), fun p hp => by
      have g : Grow F2 H2 (upd F2 p (.tup [v1, v2])) (upd H2 p (.tup [v1, v2])) := Grow.alloc S2.fh hp
      have S3 := S2.grow g
      exact ⟨p, [v1, v2], rfl, SqT.of upd_same, rfl, v1, [v2], rfl, v2, [], rfl, rfl, (u, v), _, P, (S3.store (sl := sv r u) ⟨v1, rfl, r.mono (e2.trans g.f) ok1⟩).store (sl := sv s v) ⟨v2, rfl, s.mono g.f ok2⟩, hv, k⟩⟩⟩⟩
theorem b_par3 (cc : PS X (.Assign [.Tuple [.Name x px, .Name y py, .Name z pz] kt pt] (.Tuple [a, b, c] k2 pt2) pos) (tPar3 i j l (tA3 B env os r s t w1 w2 w3))) (hr : ∀ u v q, BG X B (((env.set i (sv r u)).set j (sv s v)).set l (sv t q)) os rest post (w5 u v q)) :
    BG X B env os (.Assign [.Tuple [.Name x px, .Name y py, .Name z pz] kt pt] (.Tuple [a, b, c] k2 pt2) pos :: rest) post (bnd w1 fun u => bnd (w2 u) fun v => bnd (w3 u v) fun q => w5 u v q) :=
  PSs.imp (pss_cons cc (PSs.ex fun p : α × γ × δ => hr p.1 p.2.1 p.2.2)) fun D σ H ⟨F, P, S, hw, k⟩ => ⟨F, _, S, hw, fun u hu v1 F1 H1 S1 e1 ok1 => ⟨u, F1, _, S1, hu, fun v hv v2 F2 H2 S2 e2 ok2 => ⟨(u, v), F2, _, S2, hv, fun q hq v3 F3 H3 S3 e3 ok3 =>
    ⟨v1, v2, v3, rfl, (u, v, q), F3, P, ((S3.store (sl := sv r u) ⟨v1, rfl, r.mono (e2.trans e3) ok1⟩).store (sl := sv s v) ⟨v2, rfl, s.mono e3 ok2⟩).store (sl := sv t q) ⟨v3, rfl, ok3⟩, hq, k⟩⟩⟩⟩
theorem b_par3T (cc : PS X (.Assign [.Tuple [.Name x px, .Name y py, .Name z pz] kt pt] (.Tuple [a, b, c] k2 pt2) pos) (tAsg (tTup (tA3 B env os r s t w1 w2 w3)) (gTup X.K 3 (gCons (gName i) (gCons (gName j) (gCons (gName l) gNil)))))) (hr : ∀ u v q, BG X B (((env.set i (sv r u)).set j (sv s v)).set l (sv t q)) os rest post (w5 u v q)) :
    BG X B env os (.Assign [.Tuple [.Name x px, .Name y py, .Name z pz] kt pt] (.Tuple [a, b, c] k2 pt2) pos :: rest) post (bnd w1 fun u => bnd (w2 u) fun v => bnd (w3 u v) fun q => w5 u v q) :=
  PSs.imp (pss_cons cc (PSs.ex fun p : α × γ × δ => hr p.1 p.2.1 p.2.2)) fun D σ H ⟨F, P, S, hw, k⟩ => ⟨F, _, S, hw, fun u hu v1 F1 H1 S1 e1 ok1 => ⟨u, F1, _, S1, hu, fun v hv v2 F2 H2 S2 e2 ok2 => ⟨(u, v), F2, _, S2, hv, fun q hq v3 F3 H3 S3 e3 ok3 =>
    ⟨(by show 3 ≤ sizeLine; decide), fun p hp => by
      have g : Grow F3 H3 (upd F3 p (.tup [v1, v2, v3])) (upd H3 p (.tup [v1, v2, v3])) := Grow.alloc S3.fh hp
      have S4 := S3.grow g
      exact ⟨p, [v1, v2, v3], rfl, SqT.of upd_same, rfl, v1, [v2, v3], rfl, v2, [v3], rfl, v3, [], rfl, rfl, (u, v, q), _, P, ((S4.store (sl := sv r u) ⟨v1, rfl, r.mono ((e2.trans e3).trans g.f) ok1⟩).store (sl := sv s v) ⟨v2, rfl, s.mono (e3.trans g.f) ok2⟩).store (sl := sv t q) ⟨v3, rfl, t.mono g.f ok3⟩, hq, k⟩⟩⟩⟩⟩
end
end Mi
namespace Mi
open PySem L2 Evl
section
variable {X : Cx} {B : Bs} {env : Env} {os : Os} {pos p : Pos} {α β ι κ ρ : Type} {r : Rp α} {sl : κ → Env} {args : ι → Env} {osf : ι → Os} {wf : ι → W ρ} {ro : Rp ρ} {e : Expr} {kws : List Keyword} {x : Str} {k : Nat} {f : Addr} {fd : FuncData} {ps ks : List Str} {g : {α : Type} → List α → List α}
theorem PK.imp {t t' : TA} (h : PK X kws t) (i : ∀ σ H Q, t' σ H Q → t σ H Q) : PK X kws t' := ⟨fun pos pins s σ H Q I q => h.run pos pins s σ H Q I (i _ _ _ q)⟩
theorem PK.ex {ι : Type} {t : ι → TA} (h : ∀ i, PK X kws (t i)) : PK X kws (fun σ H Q => ∃ i, t i σ H Q) := ⟨fun pos pins s σ H Q I ⟨i, q⟩ => (h i).run pos pins s σ H Q I q⟩
end
theorem OsLe.mem {os : Os} {p : Addr × Own} (h : p ∈ os) : OsLe os [p] := fun q hq => by
  rcases List.mem_cons.mp hq with e | e
  · exact e ▸ h
  · cases e
theorem OsLe.none {os : Os} : OsLe os [] := fun q hq => by cases hq
/-- behind a loop that may be left by return -/
def flEnd {S ρ β : Type} (inj : ρ → β) (k : S → W β) : Fl S ρ → W β
  | .rt x => ret (inj x)
  | .nx s => k s
  | .bk _ => fail
  | .ct _ => fail
@[simp] theorem flEnd_rt {S ρ β : Type} (inj : ρ → β) (k : S → W β) (x : ρ) : flEnd inj k (.rt x) = ret (inj x) := rfl
@[simp] theorem flEnd_nx {S ρ β : Type} (inj : ρ → β) (k : S → W β) (s : S) : flEnd inj k (.nx s) = k s := rfl
section
variable {X : Cx} {B : Bs} {env : Env} {os : Os} {pos : Pos} {α β : Type} {r : Rp α} {f : α → PyData} {n : Nat}
theorem eqv_nil {xs : List α} : PyData.eqv (.list (xs.map f)) (.list []) = xs.isEmpty := by
  cases xs <;> simp [PyData.eqv, PyData.eqvAll]
end
end Mi
namespace Mi
open PySem L2 Evl
section
variable {X : Cx} {B : Bs} {env : Env} {os : Os} {pos : Pos} {α β γ ρ S : Type} {r : Rp α} {s : Rp β} {f : α → PyData} {g : β → PyData} {n m : Nat} {e a b tg : Expr}
theorem t_conv {w w' : W Bool} (h : ET X B env os e w) (q : w' = w) : ET X B env os e w' := q ▸ h
theorem n_conv {w w' : W (List α)} (h : EN X B env os e r w) (q : w' = w) : EN X B env os e r w' := q ▸ h
theorem s_conv {w w' : W (List α)} (h : ES X B env os tg e r w) (q : w' = w) : ES X B env os tg e r w' := q ▸ h
theorem wn_br {α β : Type} (x : α) (f : α → W β) : bnd (ret x) f = f x := funext fun _ => rfl
theorem wn_rb {α : Type} (m : W α) : bnd m ret = m := funext fun _ => rfl
theorem wn_bb {α β γ : Type} (m : W α) (f : α → W β) (g : β → W γ) : bnd (bnd m f) g = bnd m fun x => bnd (f x) g := funext fun _ => rfl
section
variable {w1 : W Int} {w2 : Int → W Int}
theorem t_lt (ha : EE X B env os a rInt w1) (hb : ∀ x, EE X B env os b rInt (w2 x)) : ET X B env os (.Compare a [.Lt] [b] pos) (bnd w1 fun x => bnd (w2 x) fun y => ret (decide (x < y))) := t_cmp op_lt (r2i fun _ _ _ => rfl) (nomark _) ha hb
theorem t_le (ha : EE X B env os a rInt w1) (hb : ∀ x, EE X B env os b rInt (w2 x)) : ET X B env os (.Compare a [.LtE] [b] pos) (bnd w1 fun x => bnd (w2 x) fun y => ret (decide (x ≤ y))) := t_cmp op_le (r2i fun _ _ _ => rfl) (nomark _) ha hb
theorem t_gt (ha : EE X B env os a rInt w1) (hb : ∀ x, EE X B env os b rInt (w2 x)) : ET X B env os (.Compare a [.Gt] [b] pos) (bnd w1 fun x => bnd (w2 x) fun y => ret (decide (y < x))) := t_cmp op_gt (r2i fun _ _ _ => rfl) (nomark _) ha hb
theorem t_ge (ha : EE X B env os a rInt w1) (hb : ∀ x, EE X B env os b rInt (w2 x)) : ET X B env os (.Compare a [.GtE] [b] pos) (bnd w1 fun x => bnd (w2 x) fun y => ret (decide (y ≤ x))) := t_cmp op_ge (r2i fun _ _ _ => rfl) (nomark _) ha hb
theorem t_eqI (ha : EE X B env os a rInt w1) (hb : ∀ x, EE X B env os b rInt (w2 x)) : ET X B env os (.Compare a [.Eq] [b] pos) (bnd w1 fun x => bnd (w2 x) fun y => ret (decide (x = y))) := t_cmp op_eq sem_eqI (nomark _) ha hb
theorem t_neI (ha : EE X B env os a rInt w1) (hb : ∀ x, EE X B env os b rInt (w2 x)) : ET X B env os (.Compare a [.NotEq] [b] pos) (bnd w1 fun x => bnd (w2 x) fun y => ret (!decide (x = y))) := t_cmp op_ne sem_neI (nomark _) ha hb
end
theorem t_eqS {w1 : W Str} {w2 : Str → W Str} (ha : EE X B env os a rStr w1) (hb : ∀ x, EE X B env os b rStr (w2 x)) : ET X B env os (.Compare a [.Eq] [b] pos) (bnd w1 fun x => bnd (w2 x) fun y => ret (decide (x = y))) := t_cmp op_eq sem_eqS (nomark _) ha hb
theorem t_neNilO (i j : Nat) {x : Str} {p1 p2 : Pos} {a : Addr} {xs : List α} (hu : X.A.units + 64 < cLine) (d : DD X.K r f n) (hi : env[i]? = some (sv (rAdr a) ())) (hj : os[j]? = some (a, oLst r xs)) (hn : n + 1 ≤ 64 := by decide) (hN : X.N[i]? = some x := by rfl)
    (hv : Vis X.env.scope x := by first | exact Or.inl rfl | exact Or.inr (Or.inl rfl) | exact Or.inr (Or.inr rfl)) (hd : (x == ("__debug__" : Str)) = false := by decide) (hcd : (x == ("__classdict__" : Str)) = false := by decide) :
    ET X B env os (.Compare (.Name x p1) [.NotEq] [.List [] p2] pos) (ret (!xs.isEmpty)) :=
  PT.imp (pt_cmpR (op_neD hu) (pe_var hN hv hd hcd) (pe_lst pa_nil) (nomark _)) fun σ H Q ⟨F, P, S, hw, k⟩ => by
  obtain ⟨g1, g2, vs, g3, g4, g5⟩ := S.own hi hj
  refine ⟨.ref a, g1, Nat.zero_le _, fun p hp => ?_⟩
  have g : Grow F H (upd F p (.lst [])) (upd H p (.lst [])) := Grow.alloc S.fh hp
  have S2 := S.grow g
  obtain ⟨k1, k2, k3⟩ := dd_all d (F := upd H p (.lst [])) (Paired.imp (fun _ _ => r.mono (g.f.trans S2.fh)) g5)
  refine ⟨.list (xs.map f), .list [], .lst (SqL.of (Ex.new hp _ _ g3)) k1, .lst (SqL.of upd_same) .nil, shaped_of (n := n + 1) (by rw [PyData.canLay0]; exact k2) (by rw [PyData.depth]; omega) hn, by decide, ?_⟩
  rw [eqv_nil]
  exact ⟨_, rfl, k _ hw _ _ S2 g.f⟩
theorem strOk_app {x y : Str} (h1 : PyData.strOk x = true) (h2 : PyData.strOk y = true) : PyData.strOk (x ++ y) = true := by
  unfold PyData.strOk at *
  show (x.cps ++ y.cps).all _ = true
  rw [Array.all_append, h1, h2]
  rfl
theorem Sit.sub {F H : Hp} {σ : L2.St} {os' : Os} (s : Sit B F H σ env os) (h : os'.Sublist os) : Sit B F H σ env os' := ⟨s.fin, s.env, fun p hp => s.ow p (h.subset hp), s.nd.sublist (h.map _)⟩
theorem NxOk.nxS {envS : S → Env} {osS : S → Os} {s : S} (h : EnvLe env (envS s)) (ho : (osS s).Sublist os) : NxOk B (pNx B envS osS) env os s := ⟨fun D q σ F H z => q σ F H ((z.le h).sub ho)⟩
theorem NxOk.flS {osR : Os} {ro : Rp ρ} {envS : S → Env} {osS : S → Os} {s : S} (h : EnvLe env (envS s)) (ho : (osS s).Sublist os) : NxOk B (pFl B osR ro envS osS) env os (.nx s) := ⟨fun D q σ F H z => q σ F H ((z.le h).sub ho)⟩
end
/-- bag(script): a new list of the script's first cells and four ints -/
def spBag (K : PySem.W.Frag) : Sp := fun vs H Q _ => ∃ (a : Addr) (ns : List Int), vs = [.ref a] ∧ SqL K H a (ns.map V.int) ∧ ns.length ≤ sizeLine ∧ ∀ (b c : Addr) (cells : List Int) (m : Int) (H' : Hp), Ex H H' → H b = none → H c = none → b ≠ c → cells.length ≤ sizeLine →
  H' c = some (.lst (cells.map V.int)) → H' b = some (.lst [.ref c, .int 0, .int 0, .int m, .int 0]) → Q (.ref b) H'
section
variable {X : Cx} {B : Bs} {env : Env} {os : Os} {pos pos' p : Pos} {β : Type} {e : Expr} {rest : List Stmt} {post : Post β}
theorem ints_paired {F : Hp} : ∀ xs : List Int, Paired (rInt.ok F) (xs.map V.int) xs
  | [] => .nil
  | _ :: xs => .cons rfl (ints_paired xs)
theorem b_bag (i : Nat) {x bagf : Str} {k : Nat} {f : Addr} {fd : FuncData} {ps : List Str} {xs : List Int} {w : W β} (G : FnOk X.prog X.w X.K X.mg X.base CX0 k f fd ps (spBag X.K)) (hr : Room k X.A) (hm : X.mg bagf = some (.ref f)) (hk : PySem.W.keepIn X.K (.ref f) = true) (hb : Binds X.K fd ps [])
    (he : EE X B env os e (rScr X.K) (ret xs)) (hrest : ∀ b cells, BG X B (env.set i (sv (rAdr b) ())) ((b, oBag cells) :: os) rest post w) (hN : X.N.Nodup) (hi : X.N[i]? = some x := by rfl)
    (hx : Loc X.env.scope x := by first | exact Or.inl rfl | exact Or.inr rfl) (hg : Gl X bagf := by rfl) (hdb : (bagf == ("__debug__" : Str)) = false := by decide)
    (hst : starEach [e] X.env = (false, eval e X.env) :: starEach [] X.env := by rfl) (hpl : (backTo p (starEach [] X.env)).any (·.1) = false := by rfl)
    {p0 : Pos} (hs : swapsWith (.Call (.Name bagf p0) [e] [] p) (some (.Name x pos')) pos.line X.env = pure false := by rfl) (hf : X.fn x = true ∨ X.env.scope.names.lookup x = some .local := by first | exact .inl rfl | exact .inr rfl | assumption) :
    BG X B env os (.Assign [.Name x pos'] (.Call (.Name bagf p0) [e] [] p) pos :: rest) post w :=
  PSs.imp (pss_cons (ps_set hN hi hx (pe_call G hr hg hm hk hb .nil pass0 (pa_cons he pa_nil hst) hdb hst hpl) hs hf) (PSs.ex fun q : Addr × List Int => hrest q.1 q.2)) fun D σ H ⟨F, P, S, hw, k⟩ => ⟨F, fun z => z = xs, S, rfl, fun z hz v F1 H1 S1 e1 ⟨a, ev, hsq, hl⟩ => by
  subst hz ev
  refine ⟨a, z, rfl, ex_l S1.fh hsq, hl, fun b c cells m H' hex hb0 hc0 hbc hcl hc' hb' => ?_⟩
  have fc : F1 c = none := fresh_back S1.fh hc0
  have fb : F1 b = none := fresh_back S1.fh hb0
  have eF : Ex F1 (upd F1 c (.lst (cells.map V.int))) := Ex.new fc
  have S2 : Sit B (upd F1 c (.lst (cells.map V.int))) H' σ env ((b, oBag cells) :: os) := by
    refine ⟨⟨fun q u hq => ?_, S1.fin.bf.trans eF, S1.fin.mrk.trans eF, S1.fin.bb, fun q hq => ?_, fun q u k1 k2 k3 => ?_⟩, S1.env.mono eF, fun q hq => ?_, ?_⟩
    · by_cases hqc : q = c
      · rw [hqc, upd_same] at hq
        rw [hqc, hc']
        exact hq
      · rw [upd_ne hqc] at hq
        exact hex q u (S1.fh q u hq)
    · obtain ⟨u, hu⟩ := S1.fin.ios q hq
      exact ⟨u, hex q u hu⟩
    · obtain ⟨z1, z2⟩ := S1.fin.keep q u k1 k2 k3
      have hqc : q ≠ c := ne_of_none z1 hc0
      exact ⟨hex q u z1, by rw [upd_ne hqc]; exact z2⟩
    · rcases List.mem_cons.mp hq with e | hq
      · subst e
        refine ⟨by rw [upd_ne hbc]; exact fb, ⟨_, hb', (0, 0, m, 0), _, rfl, .cons ⟨.ref c, rfl, c, _, rfl, upd_same, by rw [List.length_map]; exact hcl, ints_paired cells⟩ (.cons ⟨_, rfl, rfl⟩ (.cons ⟨_, rfl, rfl⟩ (.cons ⟨_, rfl, rfl⟩ (.cons ⟨_, rfl, rfl⟩ .nil))))⟩, .inl (S1.fin.fresh hb0)⟩
      · obtain ⟨z1, ⟨u, z2, z3⟩, z4⟩ := S1.ow q hq
        have hqc : q.1 ≠ c := ne_of_none z2 hc0
        exact ⟨by rw [upd_ne hqc]; exact z1, ⟨u, hex _ _ z2, q.2.mono eF z3⟩, z4⟩
    · rw [List.map_cons]
      refine List.nodup_cons.mpr ⟨fun hm => ?_, S1.nd⟩
      obtain ⟨q, hq, e⟩ := List.mem_map.mp hm
      obtain ⟨_, ⟨u, h2, _⟩, _⟩ := S1.ow q hq
      have e' : q.1 = b := e
      rw [e', hb0] at h2
      cases h2
  exact ⟨(b, cells), _, P, S2.store ⟨_, rfl, rfl⟩, hw, k⟩⟩
end
theorem bag_in {cells : List Int} : ∀ F h, (oBag cells).ok F h → ∃ p : Nat × Int × Int × Int, (oHet (bagS cells p.1 p.2.1 p.2.2.1 p.2.2.2)).ok F h := fun _ _ h => h
theorem bag_out {cells : List Int} {i : Int} {n : Nat} {d m k : Int} (e : i = (n : Int)) : ∀ F h, (oHet [sv (rLst rInt) cells, sv rInt i, sv rInt d, sv rInt m, sv rInt k]).ok F h → (oBag cells).ok F h := fun _ _ h => ⟨(n, d, m, k), by rw [e] at h; exact h⟩
/-- what a turn of the bag's mixing makes; each draw lies below most -/
theorem BG.imp {X : Cx} {B : Bs} {env : Env} {os : Os} {blk : List Stmt} {β : Type} {post : Post β} {w w' : W β} (h : BG X B env os blk post w) (i : ∀ P E, w' P E → w P E) : BG X B env os blk post w' :=
  PSs.imp h fun D σ H ⟨F, P, S, hw, k⟩ => ⟨F, P, S, i _ _ hw, k⟩
theorem mul_small {a b : Int} (h : b.natAbs < 2 ^ 64) : IntMulOk a b := IntMulOk.of_right (intBits_le_64 (by omega) (by omega))
theorem mul_smallL {a b : Int} (h : a.natAbs < 2 ^ 64) : IntMulOk a b := IntMulOk.of_left (intBits_le_64 (by omega) (by omega))
end Mi
namespace Mi
open PySem L2 Evl
def drC (cells : List Int) (n : Nat) (d most : Int) : W Bool := bnd (ret (decide (d < most))) fun x => if x = true then bnd (ret (decide ((n : Int) < (cells.length : Int)))) fun z => ret z else ret false
def drA (cells : List Int) (n : Nat) (m : Int) : W Unit :=
  bnd (bnd (idx cells (n : Int)) fun t => ret t) fun cell => bnd (ret ((n : Int) + 1)) fun i1 => chk (i1 = (n : Int) + 1) <|
  bnd (bnd (mulI m 40639) fun t1 => bnd (modI cell 2147483549) fun t2 => bnd (modI (t1 + t2 + 41) 2147483579) fun t3 => ret t3) fun _ =>
  bnd (bnd (powI 10 18) fun t => bnd (if decide (t ≤ cell) = true then ret cell else ret 0) fun z => ret z) fun _ => ret ()
def drB (d most : Int) : W Int := bnd (bnd (modI d most) fun t => ret t) fun digit => bnd (bnd (divI d most) fun t => ret t) fun _ => bnd (ret digit) fun z => ret z
def drR (m k most : Int) : W Int :=
  bnd (ret (k + 1)) fun k1 => bnd (bnd (mulI k1 8353) fun t => bnd (modI (m + t) 2147483543) fun t => ret t) fun base =>
  bnd (bnd (mulI base base) fun t1 => bnd (modI t1 2147483563) fun t2 => bnd (modI base 41039) fun t3 => bnd (mulI t2 (t3 + 13)) fun t4 => ret t4) fun late =>
  bnd (bnd (mulI 30011 base) fun t1 => bnd (modI (late + t1 + 709) 2147483579) fun t2 => ret t2) fun m1 =>
  bnd (bnd (divI m1 79) fun t1 => bnd (modI m1 9011) fun t2 => bnd (mulI t2 59) fun t3 => bnd (modI (t1 + t3) most) fun t4 => ret t4) fun z => ret z
/-- what the mirror checks may be used -/
theorem b_chk {X : Cx} {B : Bs} {env : Env} {os : Os} {blk : List Stmt} {β : Type} {post : Post β} {w : W β} {c : Prop} (h : c → BG X B env os blk post w) : BG X B env os blk post (chk c w) :=
  ⟨fun pins s σ H D I ⟨F, P, S, ⟨hc, hw⟩, k⟩ => (h hc).run pins s σ H D I ⟨F, P, S, hw, k⟩⟩
theorem modI_of {x y : Int} {P : Int → Prop} {E : Er → Prop} (h : 0 < y) (k : ∀ r, 0 ≤ r → r < y → P r) : modI x y P E := ⟨by omega, k _ (Int.fmod_nonneg_of_pos x h) (Int.fmod_lt_of_pos x h)⟩
theorem divI_of {x y : Int} {P : Int → Prop} {E : Er → Prop} (h : y ≠ 0) (h2 : y.natAbs.log2 < 9000) (k : ∀ r, P r) : divI x y P E := ⟨⟨h, h2⟩, k _⟩
theorem mulI_of {x y : Int} {P : Int → Prop} {E : Er → Prop} (h : IntMulOk x y) (k : P (x * y)) : mulI x y P E := ⟨h, k⟩
theorem drC_of {cells : List Int} {n : Nat} {d most : Int} {P : Bool → Prop} {E : Er → Prop} (h1 : n < cells.length → P true) (h2 : P false) : drC cells n d most P E := by
  unfold drC
  show (if decide (d < most) = true then bnd (ret (decide ((n : Int) < (cells.length : Int)))) fun z => ret z else ret false) P E
  by_cases a : d < most
  · rw [if_pos (decide_eq_true a)]
    show P (decide ((n : Int) < (cells.length : Int)))
    by_cases b : n < cells.length
    · rw [decide_eq_true (show (n : Int) < (cells.length : Int) by omega)]
      exact h1 b
    · rw [decide_eq_false (show ¬ (n : Int) < (cells.length : Int) by omega)]
      exact h2
  · rw [if_neg (by simpa using a)]
    exact h2
theorem idx_nat {α : Type} {xs : List α} {n : Nat} {x : α} (h : xs[n]? = some x) : idx xs (n : Int) = ret x := by
  unfold idx
  rw [atI_nat h]
theorem drA_of {cells : List Int} {n : Nat} {m : Int} {P : Unit → Prop} {E : Er → Prop} (h : n < cells.length) (k : P ()) : drA cells n m P E := by
  unfold drA
  rw [idx_nat (List.getElem?_eq_getElem h)]
  refine ⟨rfl, ?_⟩
  refine mulI_of (mul_small (by decide)) ?_
  refine modI_of (by decide) fun r _ _ => ?_
  refine modI_of (by decide) fun r2 _ _ => ?_
  refine ⟨⟨by decide, by decide, by decide⟩, ?_⟩
  show (if _ then ret _ else ret _ : W Int) (fun _ => P ()) E
  split <;> exact k
theorem drB_of {d most : Int} {P : Int → Prop} {E : Er → Prop} (h : 0 < most) (h2 : most.natAbs.log2 < 9000) (k : ∀ r, 0 ≤ r → r < most → P r) : drB d most P E := by
  unfold drB
  refine modI_of h fun r h1 h3 => ?_
  exact divI_of (by omega) h2 fun _ => k r h1 h3
theorem drR_of {m k most : Int} {P : Int → Prop} {E : Er → Prop} (h : 0 < most) (h2 : most.natAbs.log2 < 9000) (kk : ∀ r, 0 ≤ r → r < most → P r) : drR m k most P E := by
  unfold drR
  refine mulI_of (mul_small (by decide)) ?_
  refine modI_of (by decide) fun base b1 b2 => ?_
  refine mulI_of (mul_small (by omega)) ?_
  refine modI_of (by decide) fun t2 c1 c2 => ?_
  refine modI_of (by decide) fun t3 d1 d2 => ?_
  refine mulI_of (mul_small (by omega)) ?_
  refine mulI_of (mul_smallL (by decide)) ?_
  refine modI_of (by decide) fun m1 e1 e2 => ?_
  refine divI_of (by decide) (by decide) fun q => ?_
  refine modI_of (by decide) fun t5 f1 f2 => ?_
  refine mulI_of (mul_small (by decide)) ?_
  exact modI_of h fun r g1 g2 => kk r g1 g2
end Mi
namespace Mi
open PySem L2 Evl
theorem room100 {k : Nat} {A : Around} (hr : Room k A) : A.units + 100 < cLine := by
  have := hr.un
  omega
theorem guards_deeper {A : Around} {q : Str} {sc : Scope} {n : Nat} {f : Addr} {c : Value} (h : A.guards = some []) : (A.deeper (PyProof.Rows.envOfC q sc n f c)).guards = some [] := h
/-- whether two things show themselves alike -/
def sameW {α β : Type} (f : α → PyData) (g : β → PyData) (x : α) (y : β) : W Bool := bnd (reprW (f x)) fun a => bnd (reprW (g y)) fun b => ret (decide (a = b))
end Mi
namespace Mi
open PySem L2 Evl
section
variable {X : Cx} {B : Bs} {env : Env} {os : Os} {pos : Pos} {α β : Type} {r : Rp α} {s : Rp β} {f : α → PyData} {n : Nat} {e a : Expr} {rest : List Stmt} {post : Post β}
theorem bg_nx {S ρ : Type} {env : Env} {blk : List Stmt} {rt : ρ → β} {w : S → W β} {s : S} (h : BG X B env os blk post (w s)) : BG X B env os blk post (flEnd rt w (.nx s)) := h
/-- seen by another reading -/
theorem e_map {w : W α} {g : α → β} (hg : ∀ {F v x}, r.ok F v x → s.ok F v (g x)) (h : EE X B env os e r w) : EE X B env os e s (bnd w fun x => ret (g x)) :=
  PE.imp h fun σ H Q ⟨F, P, S, hw, k⟩ => ⟨F, _, S, hw, fun x hx v F1 H1 S1 e1 ok => k _ hx v F1 H1 S1 e1 (hg ok)⟩
theorem e_toD {w : W α} (d : DD X.K r f n) (h : EE X B env os e r w) (hn : n ≤ 30 := by decide) : EE X B env os e (rD X.K) (bnd w fun x => ret (f x)) :=
  e_map (s := rD X.K) (fun {F v x} ok => ⟨(d.ok ok).1, (d.ok ok).2.1, Nat.le_trans (d.ok ok).2.2 hn⟩) h
/-- a part of the script -/
theorem n_sliceScr {w1 : W (List Int)} {w2 w3 : W (Option Int)} {lo hi : Option Expr} {p2 : Pos} (ha : EE X B env os a (rScr X.K) w1) (hl : EO X B env os lo w2) (hh : EO X B env os hi w3) :
    EN X B env os (.Subscript a (.Slice lo hi none p2) pos) rInt (bnd w1 fun x => bnd w2 fun l => bnd w3 fun h => ret (cutL x l h)) :=
  PE.imp (pe_slice sl_list ha hl hh) fun σ H Q ⟨F, P, S, hw, k⟩ => ⟨F, _, S, hw, fun x hx v F1 H1 S1 e1 ⟨p1, q1, h1, z1⟩ => ⟨F1, _, S1, hx, fun l hl' F2 H2 S2 e2 => ⟨F2, _, S2, hl', fun h hh' F3 H3 S3 e3 => by
  exact ⟨p1, x.map V.int, q1, ex_l S3.fh (ex_l e3 (ex_l e2 h1)), fun p hp => k _ hh' p F3 _ (S3.newOwn hp ⟨_, rfl, Nat.le_trans (cutV_length _ l h) (by rw [List.length_map]; exact z1), cut_paired (ints_paired x) l h⟩) ((e1.trans e2).trans e3)⟩⟩⟩⟩
theorem ints_of {F : Hp} : ∀ {vs : List V} {xs : List Int}, Paired (rInt.ok F) vs xs → vs = xs.map V.int
  | _, _, .nil => rfl
  | _, _, .cons h t => by
    rw [List.map_cons, ← ints_of t]
    have h' : _ = V.int _ := h
    rw [h']
/-- what the bag's maker gives back -/
def pBag (B : Bs) : Post (List Int × Int) := fun D x => ∀ (b c : Addr) (H : Hp), Ex B.F H → B.H b = none → B.H c = none → b ≠ c → x.1.length ≤ sizeLine → H c = some (.lst (x.1.map V.int)) → H b = some (.lst [.ref c, .int 0, .int 0, .int x.2, .int 0]) → D.rt (.ref b) H
theorem b_bagR {w1 : W (List Int)} {w2 : List Int → W Int} {m : Expr} {q1 q2 q4 : Nat} {p1 p2 p4 p5 : Pos} (hio : ∀ a, a ∉ B.io) (ha : EN X B env [] a rInt w1) (hm : ∀ x c, EE X B env [(c, oLst rInt x)] m rInt (w2 x))
    (h1 : starEach [a, .Constant (.int 0) q1 p1, .Constant (.int 0) q2 p2, m, .Constant (.int 0) q4 p4] X.env = (false, eval a X.env) :: starEach [.Constant (.int 0) q1 p1, .Constant (.int 0) q2 p2, m, .Constant (.int 0) q4 p4] X.env := by rfl)
    (h2 : starEach [.Constant (.int 0) q1 p1, .Constant (.int 0) q2 p2, m, .Constant (.int 0) q4 p4] X.env = (false, eval (.Constant (.int 0) q1 p1) X.env) :: starEach [.Constant (.int 0) q2 p2, m, .Constant (.int 0) q4 p4] X.env := by rfl)
    (h3 : starEach [.Constant (.int 0) q2 p2, m, .Constant (.int 0) q4 p4] X.env = (false, eval (.Constant (.int 0) q2 p2) X.env) :: starEach [m, .Constant (.int 0) q4 p4] X.env := by rfl)
    (h4 : starEach [m, .Constant (.int 0) q4 p4] X.env = (false, eval m X.env) :: starEach [.Constant (.int 0) q4 p4] X.env := by rfl)
    (h5 : starEach [.Constant (.int 0) q4 p4] X.env = (false, eval (.Constant (.int 0) q4 p4) X.env) :: starEach [] X.env := by rfl) :
    BG X B env [] [.Return (some (.List [a, .Constant (.int 0) q1 p1, .Constant (.int 0) q2 p2, m, .Constant (.int 0) q4 p4] p5)) pos] (pBag B) (bnd w1 fun x => bnd (w2 x) fun y => ret (x, y)) :=
  PSs.imp (pss_one (ps_ret (pe_lst (pa_cons ha (pa_cons pe_int (pa_cons pe_int (pa_cons (PE.ex (ι := List Int × Addr) fun q => hm q.1 q.2) (pa_cons pe_int pa_nil h5) h4) h3) h2) h1)))) fun D σ H ⟨F, P, S, hw, k⟩ =>
  ⟨F, _, S, hw, fun x hx c F1 H1 S1 e1 => ⟨(x, c), F1, _, S1, hx, fun y hy v F2 H2 S2 e2 hv => ⟨by show 5 ≤ sizeLine; decide, fun b hb => by
    have hv' : v = V.int y := hv
    subst hv'
    obtain ⟨z1, ⟨o, z2, vs, z3, z4, z5⟩, z6⟩ := S2.ow (c, oLst rInt x) (List.mem_cons_self)
    subst z3
    have evs := ints_of z5
    subst evs
    have hbc : b ≠ c := fun e => by
      rw [e] at hb
      rw [hb] at z2
      cases z2
    have eb : Ex B.F H2 := S2.fin.bf.trans S2.fh
    refine k (x, y) hy b c _ (eb.trans (Ex.new hb)) (S2.fin.fresh hb) ?_ hbc (by rw [List.length_map] at z4; exact z4) ?_ upd_same
    · rcases z6 with z | z
      · exact z
      · exact absurd z (hio _)
    · rw [upd_ne (Ne.symm hbc)]
      exact z2⟩⟩⟩
theorem forW_of {α S : Type} {f : S → α → W S} {E : Er → Prop} {I : S → Prop} : ∀ {xs : List α} {s : S} {P : S → Prop}, (∀ s x Q, I s → (∀ s', I s' → Q s') → f s x Q E) → I s → (∀ s, I s → P s) → forW f s xs P E
  | [], s, P, hf, hs, hp => hp s hs
  | x :: xs, s, P, hf, hs, hp => hf s x _ hs fun s' h' => forW_of hf h' hp
end
end Mi
namespace Mi
open PySem L2 Evl
/-- every answer of w is one that I allows, and w gives one -/
def Ok {α : Type} (w : W α) (I : α → Prop) : Prop := ∀ (P : α → Prop) (E : Er → Prop), (∀ x, I x → P x) → w P E
section
variable {α β γ S ρ : Type} {I J : α → Prop} {w m : W α}
theorem Ok.ret {x : α} (h : I x) : Ok (ret x) I := fun P E hp => hp x h
theorem Ok.eq {x : α} : Ok (Mi.ret x) (· = x) := fun P E hp => hp x rfl
theorem Ok.bnd {f : α → W β} {I : β → Prop} (h : Ok m J) (k : ∀ x, J x → Ok (f x) I) : Ok (bnd m f) I := fun P E hp => h _ E fun x hx => k x hx P E hp
theorem Ok.chk {c : Prop} (hc : c) (h : Ok w I) : Ok (chk c w) I := fun P E hp => ⟨hc, h P E hp⟩
theorem Ok.noX (h : Ok w I) : Ok (noX w) I := fun P E hp => h P _ hp
theorem Ok.mono (h : Ok w J) (i : ∀ x, J x → I x) : Ok w I := fun P E hp => h P E fun x hx => hp x (i x hx)
theorem Ok.run {P : α → Prop} {E : Er → Prop} (h : Ok w P) : w P E := h P E fun _ hx => hx
theorem Ok.ite {c : Prop} [Decidable c] {w1 w2 : W α} (h1 : c → Ok w1 I) (h2 : ¬ c → Ok w2 I) : Ok (if c then w1 else w2) I := by
  split
  · exact h1 ‹_›
  · exact h2 ‹_›
theorem Ok.bndE {f : α → W β} {I : β → Prop} {x : α} (h : Ok m (· = x)) (k : Ok (f x) I) : Ok (Mi.bnd m f) I := Ok.bnd h fun y hy => by
  subst hy
  exact k
theorem Ok.retB {f : α → W β} {I : β → Prop} {x : α} (k : Ok (f x) I) : Ok (Mi.bnd (Mi.ret x) f) I := k
theorem Ok.draw {k : Int} (h0 : 0 < k) (h : k.natAbs.log2 < 9000) : Ok (drawW k) fun r => 0 ≤ r ∧ r < k := fun P E hp => ⟨h0, h, fun r h1 h2 => hp r ⟨h1, h2⟩⟩
theorem Ok.idxN {xs : List α} {n : Nat} {x : α} (h : xs[n]? = some x) : Ok (idx xs (n : Int)) (· = x) := by
  rw [idx_nat h]
  exact Ok.eq
theorem Ok.any {xs : List α} (h0 : 0 < xs.length) (h1 : xs.length < 2 ^ 64) (h : ∀ x ∈ xs, I x) : Ok (anyW xs) I := by
  refine Ok.bnd (Ok.noX (Ok.draw (by omega) ?_)) fun r ⟨r0, r1⟩ => ?_
  · refine Nat.lt_of_lt_of_le (Nat.log2_lt (by omega) |>.mpr (show _ < 2 ^ 64 from ?_)) (by decide)
    omega
  · obtain ⟨n, rfl⟩ := Int.eq_ofNat_of_zero_le r0
    have hn : n < xs.length := by omega
    exact (Ok.idxN (List.getElem?_eq_getElem hn)).mono fun x e => e ▸ h _ (List.getElem_mem hn)
theorem Ok.map {f : α → W β} {g : α → β} : ∀ {xs : List α}, (∀ x ∈ xs, Ok (f x) (· = g x)) → Ok (mapW f xs) (· = xs.map g)
  | [], _ => Ok.eq
  | x :: xs, h => Ok.bndE (h x List.mem_cons_self) (Ok.bndE (Ok.map fun y hy => h y (List.mem_cons_of_mem _ hy)) Ok.eq)
theorem Ok.filt {c : α → W Bool} {f : α → W β} {p : α → Bool} {g : α → β} : ∀ {xs : List α}, (∀ x ∈ xs, Ok (c x) (· = p x)) → (∀ x ∈ xs, p x = true → Ok (f x) (· = g x)) → Ok (filtW c f xs) (· = (xs.filter p).map g)
  | [], _, _ => Ok.eq
  | x :: xs, h, k => by
    have ih := Ok.filt (xs := xs) (c := c) (f := f) (p := p) (g := g) (fun y hy => h y (List.mem_cons_of_mem _ hy)) fun y hy => k y (List.mem_cons_of_mem _ hy)
    refine Ok.bndE (h x List.mem_cons_self) ?_
    by_cases q : p x = true
    · rw [if_pos q, List.filter_cons_of_pos q]
      exact Ok.bndE (k x List.mem_cons_self q) (Ok.bndE ih Ok.eq)
    · rw [if_neg q, List.filter_cons_of_neg q]
      exact ih
theorem Ok.forW {f : S → α → W S} {J : S → Prop} : ∀ {xs : List α} {s0 : S} (inv : Nat → S → Prop), inv 0 s0 → (∀ k (hk : k < xs.length) s, inv k s → Ok (f s xs[k]) (inv (k + 1))) → (∀ s, inv xs.length s → J s) → Ok (forW f s0 xs) J
  | [], s0, inv, h0, _, h2 => Ok.ret (h2 _ h0)
  | x :: xs, s0, inv, h0, h1, h2 => Ok.bnd (h1 0 (by simp) s0 h0) fun s hs => Ok.forW (fun k => inv (k + 1)) hs (fun k hk s hs => h1 (k + 1) (by simpa using hk) s hs) fun s hs => h2 s hs
theorem Ok.forF {f : S → α → W (Fl S ρ)} {J : Fl S ρ → Prop} : ∀ {xs : List α} {s0 : S} (inv : Nat → S → Prop) (R : ρ → Prop), inv 0 s0 → (∀ k (hk : k < xs.length) s, inv k s → Ok (f s xs[k]) fun r => match r with | .nx s => inv (k + 1) s | .rt z => R z | _ => False) →
    (∀ s, inv xs.length s → J (.nx s)) → (∀ z, R z → J (.rt z)) → Ok (forF f s0 xs) J
  | [], s0, inv, R, h0, _, h2, _ => Ok.ret (h2 _ h0)
  | x :: xs, s0, inv, R, h0, h1, h2, h3 => Ok.bnd (h1 0 (by simp) s0 h0) fun r hr => by
    cases r with
    | nx s => exact Ok.forF (fun k => inv (k + 1)) R hr (fun k hk s hs => h1 (k + 1) (by simpa using hk) s hs) (fun s hs => h2 s hs) h3
    | rt z => exact Ok.ret (h3 z hr)
    | bk s => exact False.elim hr
    | ct s => exact False.elim hr
theorem Ok.mulR {x y : Int} (hy : y.natAbs < 2 ^ 64) : Ok (mulI x y) (· = x * y) := Ok.chk (mul_small hy) Ok.eq
theorem Ok.mulL {x y : Int} (hx : x.natAbs < 2 ^ 64) : Ok (mulI x y) (· = x * y) := Ok.chk (mul_smallL hx) Ok.eq
theorem log2_lt {n m : Nat} (h : n < 2 ^ m) (hm : 0 < m) : n.log2 < m := by
  by_cases e : n = 0
  · subst e
    exact hm
  · exact (Nat.log2_lt e).mpr h
theorem Ok.mod {x y : Int} (h : y ≠ 0) : Ok (modI x y) (· = x.fmod y) := Ok.chk h Ok.eq
theorem Ok.rng1 {n : Nat} (h : n ≤ 16777216) : Ok (rng1 (n : Int)) (· = (List.range n).map fun k : Nat => (k : Int)) := by
  refine Ok.chk ⟨by omega, by omega, by omega, by omega, by omega⟩ (Ok.ret ?_)
  unfold rangeI
  rw [show ((n : Int) - 0).toNat = n by omega]
  exact List.map_congr_left fun k _ => by omega
theorem Ok.rng2 {a n : Nat} (h : a ≤ n) (h2 : n ≤ 16777216) : Ok (rng2 (a : Int) (n : Int)) (· = (List.range (n - a)).map fun k : Nat => ((a + k : Nat) : Int)) := by
  refine Ok.chk ⟨by omega, by omega, by omega, by omega, by omega⟩ (Ok.ret ?_)
  unfold rangeI
  rw [show ((n : Int) - (a : Int)).toNat = n - a by omega]
  exact List.map_congr_left fun k _ => by omega
theorem Ok.mapR0 {f : Int → W β} {g : Nat → β} {n : Nat} (h : ∀ k, k < n → Ok (f (k : Int)) (· = g k)) : Ok (mapW f ((List.range n).map fun k : Nat => (k : Int))) (· = (List.range n).map g) := by
  refine (Ok.map (g := fun i : Int => g i.toNat) fun x hx => ?_).mono fun ys e => ?_
  · obtain ⟨k, hk, rfl⟩ := List.mem_map.mp hx
    exact h k (List.mem_range.mp hk)
  · rw [e, List.map_map]
    exact List.map_congr_left fun k _ => rfl
end
theorem piled_le {ts : List Str} {m : Nat} (h : ∀ t ∈ ts, t.length ≤ m) : piled ts ≤ ts.length * (m + 2) := by
  induction ts with
  | nil => simp [piled]
  | cons t ts ih =>
    have := ih fun u hu => h u (List.mem_cons_of_mem _ hu)
    have := h t List.mem_cons_self
    rw [piled_cons, List.length_cons, Nat.add_mul]
    omega
theorem textFrom_len_le : ∀ (ts : List Str) (k : Nat) (acc : Str), (textFrom k acc ts).length ≤ acc.length + piled ts
  | [], k, acc => by
    show acc.length ≤ _
    omega
  | t :: r, k, acc => by
    have h := textFrom_len_le r (k + 1) (acc ++ (if k > 0 then ", " else "" : String) ++ t)
    have e : (acc ++ (if k > 0 then ", " else "" : String) ++ t).length = acc.length + (if k > 0 then 2 else 0) + t.length := by
      rw [strLen_append, strLen_append]
      split <;> rfl
    rw [e] at h
    rw [piled_cons]
    show (textFrom (k + 1) _ r).length ≤ _
    have : (if k > 0 then 2 else 0 : Nat) ≤ 2 := by split <;> decide
    omega
theorem listText_len_le (ts : List Str) : (listText ts).length ≤ 2 + piled ts := by
  unfold listText
  rw [strLen_append]
  have := textFrom_len_le ts 0 "["
  have e : ((("[" : String) : Str)).length = 1 := rfl
  have e2 : ((("]" : String) : Str)).length = 1 := rfl
  omega
theorem strOk_str (s : String) : PyData.strOk (Str.ofString s) = true := by
  unfold PyData.strOk
  rw [Str.ofString_eq_toList, ← Array.all_toList, List.all_eq_true]
  intro y hy
  obtain ⟨c, _, rfl⟩ := List.mem_map.mp (by simpa using hy)
  have := c.valid
  simp only [decide_eq_true_eq]
  unfold Char.toNat
  rcases this with h | ⟨_, h⟩
  · exact Nat.lt_trans h (by decide)
  · exact h
theorem textFrom_ok : ∀ (ts : List Str) (k : Nat) (acc : Str), PyData.strOk acc = true → (∀ t ∈ ts, PyData.strOk t = true) → PyData.strOk (textFrom k acc ts) = true
  | [], k, acc, h, _ => h
  | t :: r, k, acc, h, h2 => by
    show PyData.strOk (textFrom (k + 1) _ r) = true
    exact textFrom_ok r (k + 1) _ (strOk_app (strOk_app h (strOk_str _)) (h2 t List.mem_cons_self)) fun u hu => h2 u (List.mem_cons_of_mem _ hu)
theorem listText_ok {ts : List Str} (h : ∀ t ∈ ts, PyData.strOk t = true) : PyData.strOk (listText ts) = true := strOk_app (textFrom_ok ts 0 _ (strOk_str _) h) (strOk_str _)
/-- it can be shown, in at most m signs -/
structure Shw (d : PyData) (m : Nat) : Prop where
  s : d.showable = true
  l : d.shown.length ≤ m
  o : PyData.strOk d.shown = true
theorem Shw.mono {d : PyData} {m n : Nat} (h : Shw d m) (hm : m ≤ n) : Shw d n := ⟨h.s, Nat.le_trans h.l hm, h.o⟩
theorem Shw.int {i : Int} (h : i.natAbs < 2 ^ 1920) : Shw (.int i) 1921 := by
  have q : i.natAbs.log2 < 1920 := log2_lt h (by decide)
  refine ⟨by simp [PyData.showable, q], ?_, ?_⟩
  · rw [PyData.shown]
    exact PyProof.Rows.int_text_len_1921 q
  · rw [PyData.shown]
    exact strOk_str _
theorem Shw.list {ds : List PyData} {m n : Nat} (h : ∀ d ∈ ds, Shw d m) (hn : ds.length ≤ n) : Shw (.list ds) (n * (m + 2) + 2) := by
  have e : ∀ ds : List PyData, PyData.shownAll ds = ds.map PyData.shown := fun ds => by
    induction ds with
    | nil => rfl
    | cons d ds ih => rw [PyData.shownAll, ih, List.map_cons]
  have e2 : ∀ ds : List PyData, (∀ d ∈ ds, d.showable = true) → PyData.showableAll ds = true := fun ds => by
    induction ds with
    | nil => exact fun _ => rfl
    | cons d ds ih => exact fun h => by rw [PyData.showableAll, h d List.mem_cons_self, ih fun u hu => h u (List.mem_cons_of_mem _ hu)]; rfl
  refine ⟨by rw [PyData.showable]; exact e2 ds fun d hd => (h d hd).s, ?_, ?_⟩
  · rw [PyData.shown, e]
    refine Nat.le_trans (listText_len_le _) ?_
    have := piled_le (ts := ds.map PyData.shown) (m := m) fun t ht => by
      obtain ⟨d, hd, rfl⟩ := List.mem_map.mp ht
      exact (h d hd).l
    rw [List.length_map] at this
    have := Nat.mul_le_mul_right (m + 2) hn
    omega
  · rw [PyData.shown, e]
    refine listText_ok fun t ht => ?_
    obtain ⟨d, hd, rfl⟩ := List.mem_map.mp ht
    exact (h d hd).o
theorem Ok.repr {d : PyData} {m : Nat} (h : Shw d m) (hm : m ≤ sizeLine) : Ok (reprW d) (· = d.shown) := Ok.chk ⟨h.s, Nat.le_trans h.l hm, h.o⟩ Ok.eq
theorem Ok.same {α β : Type} {f : α → PyData} {g : β → PyData} {x : α} {y : β} {m : Nat} (h : Shw (f x) m) (hm : m ≤ sizeLine) (e : f x = g y) : Ok (sameW f g x y) (· = true) := by
  unfold sameW
  refine Ok.bndE (Ok.repr h hm) (Ok.bndE (Ok.repr (e ▸ h) hm) (Ok.ret ?_))
  rw [e]
  simp
end Mi
namespace Mi
open PySem L2 Evl
open PyProof.Rows (envOfC)
theorem c_conv {X : Cx} {B : Bs} {env : Env} {os : Os} {α : Type} {r : Rp α} {st : Stmt} {g : TG} {w w' : W (List α)} (h : PS X st (tAsg (tNew B env os r w) g)) (q : w = w') : PS X st (tAsg (tNew B env os r w') g) := q ▸ h
def Flds (F : Hp) (fs : List (Str × Slot)) (vs : List (Str × V)) : Prop := Paired (fun (p : Str × Slot) (q : Str × V) => p.1 = q.1 ∧ p.2.ok F (some q.2)) fs vs
theorem Flds.mono {F F' : Hp} {fs : List (Str × Slot)} {vs : List (Str × V)} (e : Ex F F') (h : Flds F fs vs) : Flds F' fs vs := Paired.imp (fun p _ ⟨h1, h2⟩ => ⟨h1, p.2.mono e h2⟩) h
theorem Flds.get {F : Hp} {f : Str} {s : Slot} : ∀ {fs : List (Str × Slot)} {vs : List (Str × V)}, Flds F fs vs → fs.lookup f = some s → ∃ v, vs.lookup f = some v ∧ s.ok F (some v)
  | _, _, .nil, h => by cases h
  | (g, s') :: fs, (g', v) :: vs, .cons ⟨e, h1⟩ t, h => by
    have e : g = g' := e
    subst e
    rw [List.lookup_cons] at h ⊢
    cases q : (f == g) with
    | true =>
      rw [q] at h
      cases h
      exact ⟨v, rfl, h1⟩
    | false =>
      rw [q] at h
      exact Flds.get t h
theorem Flds.none {F : Hp} {f : Str} : ∀ {fs : List (Str × Slot)} {vs : List (Str × V)}, Flds F fs vs → fs.lookup f = none → vs.lookup f = none
  | _, _, .nil, h => rfl
  | (g, s') :: fs, (g', v) :: vs, .cons ⟨e, h1⟩ t, h => by
    have e : g = g' := e
    subst e
    rw [List.lookup_cons] at h ⊢
    cases q : (f == g) with
    | true =>
      rw [q] at h
      cases h
    | false =>
      rw [q] at h
      exact Flds.none t h
theorem Flds.len {F : Hp} {fs : List (Str × Slot)} {vs : List (Str × V)} (h : Flds F fs vs) : fs.length = vs.length := Paired.length h
def putS (f : Str) (s : Slot) : List (Str × Slot) → List (Str × Slot)
  | [] => [(f, s)]
  | (g, x) :: r => if g = f then (g, s) :: r else (g, x) :: putS f s r
theorem Flds.put {F : Hp} {f : Str} {s : Slot} {v : V} (hs : s.ok F (some v)) : ∀ {fs : List (Str × Slot)} {vs : List (Str × V)}, Flds F fs vs → Flds F (putS f s fs) (putF f v vs)
  | _, _, .nil => .cons ⟨rfl, hs⟩ .nil
  | (g, x) :: fs, (g', y) :: vs, .cons ⟨e, h1⟩ t => by
    have e : g = g' := e
    subst e
    unfold putS putF
    by_cases q : g = f
    · rw [if_pos q, if_pos q]
      exact .cons ⟨rfl, hs⟩ t
    · rw [if_neg q, if_neg q]
      exact .cons ⟨rfl, h1⟩ (Flds.put hs t)
/-- an object that will not change: its class, its fields by name -/
def rObj {α : Type} (C : Addr) (fl : α → List (Str × Slot)) : Rp α := ⟨fun F v x => ∃ a dx vs, v = .ref a ∧ F a = some (.ins C dx vs) ∧ Flds F (fl x) vs, fun e ⟨a, dx, vs, h1, h2, h3⟩ => ⟨a, dx, vs, h1, e _ _ h2, h3.mono e⟩⟩
/-- one that is being made -/
def oObj (C : Addr) (fs : List (Str × Slot)) : Own := ⟨fun F o => ∃ dx vs, o = .ins C dx vs ∧ Flds F fs vs, fun e ⟨dx, vs, h1, h2⟩ => ⟨dx, vs, h1, h2.mono e⟩⟩
section
variable {X : Cx} {B : Bs} {env : Env} {os : Os} {pos : Pos} {α β γ : Type} {r : Rp α} {s : Rp β} {C : Addr} {fl : α → List (Str × Slot)} {f : Str} {e : Expr} {rest : List Stmt} {post : Post β}
/-- e.f -/
theorem e_fld {w : W α} {g : α → β} (c : Cls X.K C) (n : NoAttr X.K C f) (he : EE X B env os e (rObj C fl) w) (hg : ∀ x, (fl x).lookup f = some (sv s (g x)) := by exact fun _ => rfl) (hb : attributeBase e f X.env (eval e X.env) = eval e X.env := by rfl) :
    EE X B env os (.Attribute e f pos) s (bnd w fun x => ret (g x)) :=
  PE.imp (pe_fld he hb) fun σ H Q ⟨F, P, S, hw, k⟩ => ⟨F, _, S, hw, fun x hx v F1 H1 S1 e1 ⟨a, dx, vs, ev, ha, hf⟩ => by
    obtain ⟨u, h1, u', h2, h3⟩ := hf.get (hg x)
    cases h2
    exact ⟨a, C, dx, vs, _, ev, S1.fh _ _ ha, c, n, h1, k _ hx _ F1 H1 S1 e1 h3⟩⟩
theorem Sit.obj {F H : Hp} {σ : L2.St} {i j : Nat} {a : Addr} {fs : List (Str × Slot)} (S : Sit B F H σ env os) (hi : env[i]? = some (sv (rAdr a) ())) (hj : os[j]? = some (a, oObj C fs)) : σ[i]? = some (some (.ref a)) ∧ F a = none ∧ ∃ dx vs, H a = some (.ins C dx vs) ∧ Flds F fs vs := by
  obtain ⟨ov, g1, v, g2, g3⟩ := S.env.get hi
  have g3' : v = .ref a := g3
  subst g2 g3'
  obtain ⟨z1, ⟨o, z2, dx, vs, z3, z5⟩, _⟩ := S.ow _ (List.mem_of_getElem? hj)
  subst z3
  exact ⟨g1, z1, dx, vs, z2, z5⟩
/-- self.f = e, self being made -/
theorem b_fldO (i j : Nat) {x : Str} {p1 p2 : Pos} {a : Addr} {fs : List (Str × Slot)} {w : W α} {w2 : α → W β} (c : Cls X.K C) (n : NoAttr X.K C f) (hi : env[i]? = some (sv (rAdr a) ())) (hj : os[j]? = some (a, oObj C fs)) (he : EE X B env os e r w)
    (hr : ∀ y, BG X B env (os.set j (a, oObj C (putS f (sv r y) fs))) rest post (w2 y)) (hz : decide (fs.length < 1000) = true := by rfl) (hN : X.N[i]? = some x := by rfl)
    (hv : Vis X.env.scope x := by first | exact Or.inl rfl | exact Or.inr (Or.inl rfl) | exact Or.inr (Or.inr rfl)) (hd : (x == ("__debug__" : Str)) = false := by decide) (hcd : (x == ("__classdict__" : Str)) = false := by decide)
    (hs : swapsWith e (some (.Attribute (.Name x p1) f p2)) pos.line X.env = pure false := by rfl) :
    BG X B env os (.Assign [.Attribute (.Name x p1) f p2] e pos :: rest) post (bnd w w2) :=
  PSs.imp (pss_cons (ps_fld (pe_var hN hv hd hcd) he hs) (PSs.ex hr)) fun D σ H ⟨F, P, S, hw, k⟩ => ⟨F, _, S, hw, fun y hy v F1 H1 S1 e1 ok => by
  obtain ⟨g1, g2, dx, vs, g3, g5⟩ := S1.obj hi hj
  refine ⟨.ref a, g1, a, C, dx, vs, rfl, g3, c, n, ?_, y, F1, P, S1.change hj ⟨dx, _, rfl, Flds.put (s := sv r y) ⟨v, rfl, ok⟩ g5⟩, hy, k⟩
  rw [← g5.len]
  exact of_decide_eq_true hz⟩
end
/-- a made object's promise: the arguments by slots; the mirror gives the fields -/
def spI {ι ρ : Type} (C : Addr) (args : ι → Env) (w : ι → W ρ) (fl : ρ → List (Str × Slot)) : Sp := fun vs H Q _ => ∃ (i : ι) (F : Hp) (P : ρ → Prop) (x dx : Addr) (us : List V), vs = .ref x :: us ∧ Ex F H ∧ F x = none ∧ H x = some (.ins C dx []) ∧ EnvOk F (args i) (us.map some) ∧
  w i P (fun _ => False) ∧ ∀ r, P r → ∀ F' H', Fn (bs0 F H [(x, oObj C [])]) F' H' → OsOk (bs0 F H [(x, oObj C [])]) F' H' [(x, oObj C (fl r))] → Q .non H'
def pIn {ρ : Type} (B : Bs) (C x : Addr) (fl : ρ → List (Str × Slot)) : Post ρ := fun D r => (∀ F H, Fn B F H → OsOk B F H [(x, oObj C (fl r))] → D.rt .non H) ∧ ∀ σ F H, Fn B F H → OsOk B F H [(x, oObj C (fl r))] → D.nx σ H
theorem NxOk.init {B : Bs} {C x : Addr} {ρ : Type} {fl : ρ → List (Str × Slot)} {r : ρ} {env : Env} {os : Os} (ho : OsW os [(x, oObj C (fl r))]) : NxOk B (pIn B C x fl) env os r := ⟨fun D q σ F H z => q.2 σ F H z.fin (ho.ok z)⟩
section
variable {P : Program} {w : World} {K : PySem.W.Frag} {mg : Str → Option Value} {base : Heap} {k : Nat} {f C : Addr} {fd : FuncData} {ps N : List Str} {ι ρ : Type} {args : ι → Env} {wf : ι → W ρ} {fl : ρ → List (Str × Slot)}
theorem spI_len (hl : ∀ i, (args i).length + 1 = ps.length) : ∀ vs H Q E, spI C args wf fl vs H Q E → vs.length = ps.length := fun vs H Q E ⟨i, F, P, x, dx, us, ev, _, _, _, he, _⟩ => by
  have := he.len
  rw [List.length_map] at this
  rw [ev, List.length_cons, ← this, hl i]
end
theorem Sit.backI {B : Bs} {F F' H H' : Hp} {σ : L2.St} {env : Env} {os : Os} {x : Addr} {o o2 : Own} (S : Sit B F H σ env ((x, o) :: os)) (fn : Fn (bs0 F H [(x, o)]) F' H') (ow : OsOk (bs0 F H [(x, o)]) F' H' [(x, o2)]) : Sit B F' H' σ env ((x, o2) :: os) := by
  have e : Ex F F' := fn.bf
  obtain ⟨z1, ⟨ob, z2, z3⟩, z4⟩ := S.ow (x, o) (List.mem_cons_self)
  have z1 : F x = none := z1
  obtain ⟨y1, ⟨ob2, y2, y3⟩, _⟩ := ow (x, o2) (List.mem_cons_self)
  have nd := S.nd
  rw [List.map_cons] at nd
  obtain ⟨nd1, nd2⟩ := List.nodup_cons.mp nd
  have nin : ∀ a, a ≠ x → a ∉ ([(x, o)] : Os).map (·.1) := fun a h hm => h (by simpa using hm)
  refine ⟨⟨fn.fh, S.fin.bf.trans e, S.fin.mrk.trans e, S.fin.bb, fun a ha => ?_, fun a u h1 h2 h3 => ?_⟩, S.env.mono e, fun p hp => ?_, ?_⟩
  · by_cases hx : a = x
    · subst hx
      exact ⟨ob2, y2⟩
    · obtain ⟨u, hu⟩ := S.fin.ios a ha
      cases ef : F a with
      | none => exact ⟨u, (fn.keep a u ef hu (nin a hx)).1⟩
      | some q => exact ⟨q, fn.fh a q (e a q ef)⟩
  · obtain ⟨k1, k2⟩ := S.fin.keep a u h1 h2 h3
    refine fn.keep a u k2 k1 (nin a ?_)
    rintro rfl
    rcases z4 with q | q
    · have q' : B.H a = none := q
      rw [h2] at q'
      cases q'
    · exact h3 q
  · rcases List.mem_cons.mp hp with ep | hp
    · subst ep
      exact ⟨y1, ⟨ob2, y2, y3⟩, z4⟩
    · obtain ⟨h1, ⟨u, h2, h3⟩, h4⟩ := S.ow p (List.mem_cons_of_mem _ hp)
      have hx : p.1 ≠ x := fun z => by
        have hm := List.mem_map_of_mem (f := Prod.fst) hp
        rw [z] at hm
        exact nd1 hm
      obtain ⟨k1, k2⟩ := fn.keep p.1 u h1 h2 (nin _ hx)
      exact ⟨k2, ⟨u, k1, p.2.mono e h3⟩, h4⟩
  · rw [List.map_cons]
    exact nd
def spIS {α ρ : Type} (C : Addr) (r : Rp α) (wf : List α → W ρ) (fl : ρ → List (Str × Slot)) : Sp := fun vs H Q _ => ∃ (xs : List α) (F : Hp) (P : ρ → Prop) (x dx : Addr) (us : List V), vs = .ref x :: us ∧ Ex F H ∧ F x = none ∧ H x = some (.ins C dx []) ∧ Paired (r.ok F) us xs ∧ xs.length ≤ sizeLine ∧
  wf xs P (fun _ => False) ∧ ∀ r, P r → ∀ F' H', Fn (bs0 F H [(x, oObj C [])]) F' H' → OsOk (bs0 F H [(x, oObj C [])]) F' H' [(x, oObj C (fl r))] → Q .non H'
section
variable {P : Program} {w : World} {K : PySem.W.Frag} {mg : Str → Option Value} {base : Heap} {k : Nat} {f C : Addr} {fd : FuncData} {ps N : List Str} {α ρ : Type} {r : Rp α} {wf : List α → W ρ} {fl : ρ → List (Str × Slot)}
/-- how a def binds self and a star parameter -/
def BindStar (K : PySem.W.Frag) (fd : FuncData) (self pv : Str) : Prop := ∀ us rest : List Value, us.length = [self].length → bindArgs fd ⟨us ++ rest, []⟩ = (newTuple rest >>= fun t => pure ([self].zip us ++ [(pv, t)]))
theorem bindStar_of {K : PySem.W.Frag} {fd : FuncData} {self pv : Str} (h0 : ∀ a, bindArgs fd ⟨[a], []⟩ = (newTuple [] >>= fun t => pure [(self, a), (pv, t)])) (h1 : ∀ a r rs, bindArgs fd ⟨a :: r :: rs, []⟩ = (newTuple (r :: rs) >>= fun t => pure [(self, a), (pv, t)])) : BindStar K fd self pv :=
  StX.bind_star1 (B := fun us => bindArgs fd ⟨us, []⟩) h0 h1
theorem initS {x qual self pv : Str} {st : Stmt} (F : Fun K x qual st f fd) (S : FnScope N [self, pv] (defScope st)) (hb : BindStar K fd self pv)
    (body : ∀ (cdv : Value) (A : Around) (outer : List PySem.Env) (s : Shared) (H : Hp) (E : XK) (B : Bs) (a : Addr) (xs : List α), Room k (A.deeper (envOfC qual (defScope st) s.heap.objs.size f cdv)) →
      BG (cxOf CX0 P w K mg base N qual (defScope st) f cdv A outer s H E).nox B (entry [sv (rAdr a) (), sv (rTup K r) xs] (N.length - 2)) [(a, oObj C [])] (defBody st) (pIn B C a fl) (wf xs)) : FnR P w K mg base CX0 (k + 1) f (spIS C r wf fl) := by
  obtain ⟨oc, od, kV, doc, pm, an, cdv, ct, osl, rfl, lk, hcd⟩ := F.ex
  have z := StX.fn_star (P := P) (w := w) (mg := mg) (base := base) (ps := [self]) (pv := pv) (sp := spI C (fun xs : List α => [sv (rTup K r) xs]) wf fl) (k := k) lk hcd S StX.cxUp_none hb fun A outer s H vs Q E hr hsp => by
    obtain ⟨xs, F0, P0, a, dx, us, ev, fh, fa, ha, he, hw, hk⟩ := hsp
    subst ev
    have ow : ∀ p ∈ ([(a, oObj C [])] : Os), F0 p.1 = none ∧ ∃ o, H p.1 = some o ∧ p.2.ok F0 o := fun p hp => by
      rw [List.mem_singleton.mp hp]
      exact ⟨fa, _, ha, dx, [], rfl, .nil⟩
    have hus : us.length = 1 := by
      have := he.len
      rw [List.length_map] at this
      exact this.symm
    obtain ⟨t, ht, hq⟩ : ∃ t, PSs (cxOf CX0 P w K mg base N qual (defScope st) f cdv A outer s H E).nox (defBody st) t ∧ t { nx := fun _ H' => Q .non H', rt := Q } (L2.start N (.ref a :: us)) H := by
      refine ⟨_, body cdv A outer s H E (bs0 F0 H [(a, oObj C [])]) a xs hr, F0, P0, ⟨bs0_start fh ow, ?_, fun p hp => ?_, by simp⟩, hw, fun y hy => ⟨fun F' H' fn ow => hk y hy F' H' fn ow, fun σ F' H' fn ow => hk y hy F' H' fn ow⟩⟩
      · have h2 : (V.ref a :: us).length = 2 := by rw [List.length_cons, hus]
        rw [← h2]
        exact entry_ok (.cons ⟨_, rfl, rfl⟩ he)
      · obtain ⟨h1, o, h2, h3⟩ := ow p hp
        exact ⟨h1, ⟨o, h2, h3⟩, .inr (List.mem_map_of_mem hp)⟩
    exact ⟨t, ht.nox, hq⟩
  intro A outer s H us vs Q E hr e0 rv hsp
  obtain ⟨xs, F0, P0, a, dx, vs', ev, fh, fa, ha, he, hz, hw, hk⟩ := hsp
  refine z A outer s H us vs Q E hr e0 rv ⟨[.ref a], vs', ev, rfl, by rw [he.length]; exact hz, fun p hp => ?_⟩
  have g : Grow F0 H (upd F0 p (.tup vs')) (upd H p (.tup vs')) := Grow.alloc fh hp
  have fh' := g.fh fh
  have hap : a ≠ p := ne_of_none ha hp
  have fa' : upd F0 p (.tup vs') a = none := by rw [upd_ne hap]; exact fa
  have ha' : upd H p (.tup vs') a = some (.ins C dx []) := by rw [upd_ne hap]; exact ha
  refine ⟨xs, upd F0 p (.tup vs'), P0, a, dx, [.ref p], rfl, fh', fa', ha', .cons ⟨_, rfl, p, vs', rfl, SqT.of upd_same, by rw [he.length]; exact hz, Paired.imp (fun _ _ => r.mono g.f) he⟩ .nil, hw, fun q hq F' H' fn ow => ?_⟩
  refine hk q hq F' H' ⟨fn.fh, g.f.trans fn.bf, g.f.trans fn.mrk, fh, fn.ios, fun b o h1 h2 h3 => ?_⟩ fun y hy => ?_
  · have hbp : b ≠ p := ne_of_none h2 hp
    refine fn.keep b o ?_ ?_ h3
    · show upd F0 p (.tup vs') b = none
      rw [upd_ne hbp]
      exact h1
    · show upd H p (.tup vs') b = some o
      rw [upd_ne hbp]
      exact h2
  · obtain ⟨h1, h2, h3⟩ := ow y hy
    refine ⟨h1, h2, .inr ?_⟩
    rw [List.mem_singleton.mp hy]
    simp
end
section
variable {X : Cx} {B : Bs} {env : Env} {os : Os} {pos p : Pos} {ρ α : Type} {r : Rp α} {wf : List α → W ρ} {fl : ρ → List (Str × Slot)} {e : Expr} {es : List Expr} {x : Str} {k : Nat} {f C : Addr}
theorem madeS {F H : Hp} {σ : L2.St} {vs : List V} {xs : List α} {P : ρ → Prop} {Q : VK} {E : XK} (S : Sit B F H σ env os) (ok : Paired (r.ok F) vs xs) (hz : xs.length ≤ sizeLine) (hw : wf xs P (fun _ => False))
    (k : ∀ z, P z → ∀ v F' H', Sit B F' H' σ env os → Ex F F' → (rObj C fl).ok F' v z → Q v H') (x dx : Addr) (hx : H x = none) (hdx : H dx = none) (hne : dx ≠ x) :
    spIS C r wf fl (.ref x :: vs) (upd (upd H dx (.own x)) x (.ins C dx [])) (fun v H2 => v = .non ∧ Q (.ref x) H2) E := by
  have g : Grow F H (upd F dx (.own x)) (upd H dx (.own x)) := Grow.alloc S.fh hdx
  have S1 := S.grow g
  have hx1 : upd H dx (.own x) x = none := by rw [upd_ne (Ne.symm hne)]; exact hx
  have S2 := S1.newOwn (o := .ins C dx []) (ow := oObj C []) hx1 ⟨dx, [], rfl, .nil⟩
  refine ⟨xs, upd F dx (.own x), P, x, dx, vs, rfl, S2.fh, ?_, upd_same, Paired.imp (fun _ _ => r.mono g.f) ok, hz, hw, fun r hr F' H' fn ow => ⟨rfl, ?_⟩⟩
  · exact (S2.ow (x, oObj C []) List.mem_cons_self).1
  · obtain ⟨F2, o, e2, h1, ⟨dx', vs', h2, h3⟩, S4⟩ := (S2.backI fn ow).freeze
    subst h2
    exact k r hr (.ref x) F2 H' S4 ((g.f.trans fn.bf).trans e2) ⟨x, dx', vs', rfl, h1, h3⟩
/-- C(a, b, ..), C over a star parameter -/
theorem e_makeS {w : W (List α)} (M : Mk X.K C f) (G : FnR X.prog X.w X.K X.mg X.base CX0 k f (spIS C r wf fl)) (hr : Room (k + 1) X.A) (hm : X.mg x = some (.ref C)) (ha : AL X B env os (e :: es) r w) (hz : (e :: es).length ≤ sizeLine := by decide)
    (hg : Gl X x := by rfl) (hdb : (x == ("__debug__" : Str)) = false := by decide) (he : starEach (e :: es) X.env = (false, eval e X.env) :: starEach es X.env := by rfl) (hpl : (backTo pos (starEach es X.env)).any (·.1) = false := by rfl) :
    EE X B env os (.Call (.Name x p) (e :: es) [] pos) (rObj C fl) (bnd w fun i => noX (wf i)) :=
  PE.imp (StX.pe_makeR M G hr hg hm pass0 ha hdb he hpl) fun σ H Q ⟨F, P, S, hw, k⟩ => ⟨F, _, S, hw, fun xs hi vs F1 H1 S1 e1 ok hvl y dy h1 h2 h3 =>
    madeS S1 ok (by rw [← ok.length, hvl]; exact hz) hi (fun z hz v F' H' S' e' ok' => k z hz v F' H' S' (e1.trans e') ok') y dy h1 h2 h3⟩
/-- C() -/
theorem e_makeS0 (M : Mk X.K C f) (G : FnR X.prog X.w X.K X.mg X.base CX0 k f (spIS C r wf fl)) (hr : Room (k + 1) X.A) (hm : X.mg x = some (.ref C)) (hg : Gl X x := by rfl) (hdb : (x == ("__debug__" : Str)) = false := by decide) :
    EE X B env os (.Call (.Name x p) [] [] pos) (rObj C fl) (noX (wf [])) := by
  have z : PE X (.Call (.Name x p) [] [] pos) (StX.tMakeR C (spIS C r wf fl) (fun _ _ _ => False) tNil) := by
    refine ⟨fun pins s σ H Q I h => ?_⟩
    refine wpAny_Call_Name_kw (ld_glob I hg hm ?_ hdb)
    exact PySem.W.callWith_K0 I.kIn M.kp (StX.run_makeR (us := []) M G hr pass0 I .nil h)
  exact PE.imp z fun σ H Q ⟨F, P, S, hw, k⟩ => fun y dy h1 h2 h3 => madeS S .nil (Nat.zero_le _) hw (fun z hz v F' H' S' e' ok' => k z hz v F' H' S' e' ok') y dy h1 h2 h3
/-- C(*xs) -/
theorem e_makeS1 {w : W (List α)} {sp_ : Pos} (M : Mk X.K C f) (G : FnR X.prog X.w X.K X.mg X.base CX0 k f (spIS C r wf fl)) (hr : Room (k + 1) X.A) (hm : X.mg x = some (.ref C)) (he : EE X B env os e (rLst r) w) (hg : Gl X x := by rfl) (hdb : (x == ("__debug__" : Str)) = false := by decide)
    (hst : starEach [.Starred e sp_] X.env = [(true, eval e X.env)] := by rfl) : EE X B env os (.Call (.Name x p) [.Starred e sp_] [] pos) (rObj C fl) (bnd w fun i => noX (wf i)) := by
  refine ⟨fun pins s σ H Q I h => ?_⟩
  obtain ⟨F, P, S, hw, k⟩ := h
  refine wpAny_Call_Name_kw (ld_glob I hg hm ?_ hdb)
  refine PySem.W.callWith_S (h₀ := X.base) I.ok.mod.kin M.kp (thn (he.run pins s σ H (fun v H1 => ∃ a xs, v = V.ref a ∧ SqL X.K H1 a xs ∧ ∀ y dy, H1 y = none → H1 dy = none → dy ≠ y → spIS C r wf fl (.ref y :: xs) (upd (upd H1 dy (.own y)) y (.ins C dy [])) (fun v H2 => v = .non ∧ Q (.ref y) H2) (fun _ _ _ => False)) I ⟨F, _, S, hw, fun xs hxs v F1 H1 S1 e1 ⟨a, vs, ev, h1, z1, ok⟩ => ?_⟩) fun v s1 ⟨y, H1, I1, ry, a, xs, ey, hx, q⟩ => ?_) hst
  · refine ⟨a, vs, ev, SqL.of (S1.fh _ _ h1), fun y dy h1 h2 h3 => ?_⟩
    exact madeS S1 ok (by rw [← ok.length]; exact z1) hxs (fun z hz v F' H' S' e' ok' => k z hz v F' H' S' (e1.trans e') ok') y dy h1 h2 h3
  · subst ey
    obtain rfl : v = Value.ref a := ry
    exact StX.star_lst I1 hx fun us s2 I2 rv => ⟨I2.kIn, StX.run_makeR M G hr pass0 I2 rv q⟩
end
end Mi
namespace Mi
open PySem L2 Evl
open PyProof.Rows (Call_ boot_enumerate)
def IteT (K : PySem.W.Frag) (a : Addr) : It :=
  ⟨fun i H => ∃ (vs : List V) (v : V), SqT K H a vs ∧ vs[i]? = some v,
   fun i H u H' => ∃ T v, u = .ref T ∧ H T = none ∧ H' = upd H T (.tup [.int (i : Nat), v]) ∧ ∀ vs, SqT K H a vs → vs[i]? = some v,
   fun i H => ∃ vs : List V, SqT K H a vs ∧ vs.length ≤ i⟩
def EnT (a e it : Addr) (i : Nat) (h : Heap) : Prop := (∃ old, IsEnum h e it ((i : Nat) : Int) old) ∧ h.IsTupleIter it a i ∧ e ≠ it
theorem turn_enumT {P : Program} {w : World} {K : PySem.W.Frag} {elts : List Expr} {kk : Nat} {tpos : Pos} (a e it : Addr) : Turn P w K (.Tuple elts kk tpos) (IteT K a) [e, it] e (EnT a e it) where
  mem := List.mem_cons_self
  obj := by
    rintro i h ⟨⟨old, h1⟩, ⟨o, h2, h3, h4⟩, _⟩ b hb
    rcases List.mem_cons.mp hb with q | q
    · exact ⟨_, q ▸ h1, fun v z => by cases z⟩
    · exact ⟨o, (List.mem_singleton.mp q) ▸ h2, fun v z => by rw [h4] at z; cases z⟩
  keep := by
    rintro i h h' ⟨⟨old, h1⟩, ⟨o, h2, h3, h4⟩, hne⟩ k
    exact ⟨⟨old, k e List.mem_cons_self _ h1⟩, ⟨o, k it (by simp) _ h2, h3, h4⟩, hne⟩
  item := by
    intro X hP hw hK hc i pins s σ H E I hf st ⟨vs, v, hq, hv⟩
    subst hP hw hK
    obtain ⟨⟨old, h1⟩, h2, hne⟩ := st
    obtain ⟨its, rv, p, hz⟩ := I.tuple hq
    obtain ⟨u, hu, ru⟩ := rv.get hv
    have hit : a ≠ it := fun z => by
      obtain ⟨o1, q1, q2, _⟩ := h2
      obtain ⟨o2, q3, q4, _⟩ := p
      rw [z, q1] at q3
      cases q3
      rw [q2] at q4
      exact absurd q4 (by decide)
    have hE : e ≠ a := fun z => by
      obtain ⟨o2, q3, q4, _⟩ := p
      have q1 := h1
      rw [z] at q1
      have q5 := Option.some.inj (q1.symm.trans q3)
      rw [← q5] at q4
      have q4 : Value.type "enumerate" = Value.type "tuple" := q4
      exact absurd q4 (by decide)
    have D := Draws.tuple (prog := X.prog) (w := X.w) (A := X.A.in1) (I.ok.hd hc) it a hit its.toArray
    have lt1 : e < s.heap.objs.size := Heap.lt_size h1
    have lt2 : it < s.heap.objs.size := let ⟨_, q, _⟩ := h2; Heap.lt_size q
    have hi : i < its.toArray.size := by
      rw [List.size_toArray]
      exact (List.getElem?_eq_some_iff.mp hu).1
    refine wpAny_pyNext_enum_itemC D h1 ⟨h2, p⟩ hi hne (by simp [hne, hE]) fun x h' tk hP ho hs hT hsz hk => ?_
    have ex : x = u := by
      have q : its[i]? = some x := by simpa using hP
      rw [q] at hu
      exact Option.some.inj hu
    subst ex
    refine ⟨_, rfl, wpAny_letOwnedTupleGo_enum (s := { s with heap := h', toks := tk + 1 }) ho fun h2' he' sb => ?_⟩
    have hT2 : h2'.get? s.heap.objs.size = some { cls := .type "tuple", data := .seq #[.int i tk, x] } := (sb.2 _ (Nat.ne_of_gt lt1)).trans hT
    have new : ObjOk X.prog X.w (upd H s.heap.objs.size (.tup [.int (i : Nat), v])) h2' s.heap.objs.size (.tup [.int (i : Nat), v]) := ⟨Nat.le_of_lt (by show 2 < sizeLine; decide), [.int i tk, x], .cons ⟨_, rfl⟩ (.cons ru .nil), _, hT2, rfl, _, rfl⟩
    have kept : ∀ b ob, b ∉ [e, it] → s.heap.get? b = some ob → h2'.get? b = some ob := fun b ob hb q => by
      have b1 : b ≠ e := fun z => hb (by simp [z])
      have b2 : b ≠ it := fun z => hb (by simp [z])
      exact (sb.2 b b1).trans (hk b ob b1 b2 q)
    have I1 : Inv X pins σ (upd H s.heap.objs.size (.tup [.int (i : Nat), v])) { s with heap := h2', toks := tk + 1 } := I.turnedNew (ch := [e, it]) kept hf (Nat.le_refl _) new
    refine ⟨.ref s.heap.objs.size, _, I1, rfl, ⟨_, v, rfl, I.hok.fresh (Nat.le_refl _), rfl, fun ys hy => by rw [I.tuple_inj hy hq]; exact hv⟩, ⟨⟨x, ?_⟩, ?_, hne⟩, fun b hb => ?_⟩
    · rw [show ((i + 1 : Nat) : Int) = (i : Int) + 1 from by omega]
      exact he'
    · obtain ⟨o, q1, q2⟩ := hs.1
      exact ⟨o, (sb.2 it (Ne.symm hne)).trans q1, q2⟩
    · have hb' : b < s.heap.objs.size := by
        rcases List.mem_cons.mp hb with z | z
        · exact z ▸ lt1
        · exact (List.mem_singleton.mp z) ▸ lt2
      rw [upd_ne (Nat.ne_of_lt hb')]
      exact (hf b hb).1
  done := by
    intro X hP hw hK hc i pins s σ H E I hf st ⟨vs, hq, hv⟩
    subst hP hw hK
    obtain ⟨⟨old, h1⟩, h2, hne⟩ := st
    obtain ⟨its, rv, p, hz⟩ := I.tuple hq
    obtain ⟨f0, f1, f2, f3, f4, f5⟩ := hf it (by simp)
    have hl := rv.length
    have ty : s.TypeIs (.ref e) "enumerate" := ⟨_, h1, rfl⟩
    unfold pyNext
    refine wpAny_bind (wpAny_attempt ?_)
    refine wpAny_callSpecial?_slot (name := Str.ofString "__next__") ty F.slot_enumerate_next ?_
    refine wpAny_call_entry F.slot_enumerate_next ty F.entry_enumerate_next ?_ (F.args_enumerate_next_1 _)
    show wpAny _ _ (field (.ref e) 2 >>= fun x => _) _ _ s
    refine wpAny_bind (wpAny_field (x := .ref it) h1 rfl rfl ?_)
    refine wpAny_bind (wpAny_nextOf_tuple_end (I.ok.hd hc) h2 p (by simp; omega) fun h' x eb ⟨o, ho, hcls⟩ => ?_)
    refine wpAny_bind (wpAny_isInstance (T := "StopIteration") (b := true) ⟨o, ho, hcls⟩ isSubtype_stop (wpAny_pure ⟨rfl, ?_⟩))
    exact I.turned (t' := s.toks) (fun b o hb q => eb b o hb q) f0 f1 f3 f4 f5
  self := fun A i s Q E st h => by
    obtain ⟨⟨old, h1⟩, _⟩ := st
    exact wpAny_pyIter_enum h1 h
/-- enumerate(v) begins: the iterator of v, the enumerate object -/
abbrev enumObj (it : Addr) : Obj := { cls := .type "enumerate", data := .fields #[.none, .bool false, .ref it, rawInt 0, .none, .none] }
theorem meets_enum1 {v : Value} {o : Obj} {G : Heap → Prop} (B : Begins v o G) :
    Meets (Builtin.«enumerate.__new__» ⟨[.type "enumerate", v], []⟩) (fun _ R s => G s.heap ∧ R (.ok (.ret (.ref (s.heap.push o).objs.size))) { s with heap := (s.heap.push o).push (enumObj s.heap.objs.size) }) :=
  .of_wp fun prog w A R s ⟨g0, k0⟩ => by
    obtain ⟨h0, g0', d0, t0, o0⟩ := s
    have sub0 := sub_enumerate
    have it0 : ∀ {A' : Around} {E : Value → Shared → Prop} {Q : Value → Shared → Prop}, Q (.ref h0.objs.size) ⟨h0.push o, g0', d0, t0, o0⟩ → wpAny (model prog w) A' (pyIter v) Q E ⟨h0, g0', d0, t0, o0⟩ := fun q => B.iter prog w _ _ ⟨h0, g0', d0, t0, o0⟩ _ g0 q
    wp_walk using it0
    refine wpAny_stack_any fun st => wpAny_pure ?_
    split
    · rename_i c _ _ _ _ _
      by_cases hc : (c == Value.type "enumerate") = true
      · wp_walk using it0
        exact ⟨_, rfl, k0⟩
      · wp_walk using it0
        exact ⟨_, rfl, k0⟩
    · wp_walk using it0
      exact ⟨_, rfl, k0⟩
theorem call_enum1 {prog : Program} {w : World} {A : Around} {E : Value → Shared → Prop} {s : Shared} {v : Value} {o : Obj} {G : Heap → Prop} {Q : Value → Shared → Prop} (B : Begins v o G) (hG : G s.heap)
    (k : ∀ h', IsEnum h' (s.heap.objs.size + 1) s.heap.objs.size 0 .none → h'.get? s.heap.objs.size = some o → (∀ b ob, s.heap.get? b = some ob → h'.get? b = some ob) → Q (.ref (s.heap.objs.size + 1)) { s with heap := h' }) :
    wpAny (model prog w) A (call (.type "enumerate") [v]) Q E s := by
  refine callType_new F.called_enumerate (by decide) (F.typeCall_enumerate_1 _) (F.newCall_enumerate_1 _) (fun obj => F.args_object_init_2 obj _) F.entry_enumerate_new (meets_enum1 B) ⟨hG, ?_⟩
  have sz : (s.heap.push o).objs.size = s.heap.objs.size + 1 := Heap.size_push _ _
  have isE : IsEnum ((s.heap.push o).push (enumObj s.heap.objs.size)) (s.heap.objs.size + 1) s.heap.objs.size 0 .none := by
    have z := Heap.get?_push_size (s.heap.push o) (o := enumObj s.heap.objs.size) rfl
    rwa [sz] at z
  show _ ∧ _
  rw [sz]
  exact ⟨⟨_, isE, rfl⟩, k _ isE (Heap.get?_push_of_some _ (Heap.get?_push_size _ B.free)) fun b ob x => Heap.get?_push_of_some _ (Heap.get?_push_of_some _ x)⟩
def iEnumT (K : PySem.W.Frag) (ta : TA) : TI := fun σ H R => ta σ H fun vs H1 => ∃ a xs, vs = [.ref a] ∧ SqT K H1 a xs ∧ R (IteT K a) H1
theorem pi_enumT {X : Cx} {e : Expr} {ta : TA} {p pos tpos : Pos} {elts : List Expr} {kk : Nat} (hg : Gl X "enumerate") (hm : X.mg "enumerate" = none) (ha : PA X [e] ta) (hs : starEach [e] X.env = [(false, eval e X.env)] := by rfl) :
    PI X (.Tuple elts kk tpos) (.Call (.Name "enumerate" p) [e] [] pos) (iEnumT X.K ta) := by
  refine ⟨fun pins s σ H R I h => ?_⟩
  refine Call_ (ld_blt I hg hm boot_enumerate (PyProof.Rows.callWith_type1 (thn (ha.run pos pins s σ H _ I h) fun us s1 ⟨vs, H1, I1, rv, qv⟩ => ?_) hs rfl))
  obtain ⟨a, xs, rfl, hq, q⟩ := qv
  obtain ⟨u, rfl, ru⟩ : ∃ u, us = [u] ∧ RelV (.ref a) u := by
    cases rv with
    | cons r t =>
      cases t
      exact ⟨_, rfl, r⟩
  obtain rfl : u = Value.ref a := ru
  obtain ⟨its, rv', p', hz⟩ := I1.tuple hq
  refine call_enum1 (begins_tuple a its.toArray) p' fun h' he hi hk => wpAny_pyIter_enum he ?_
  have I2 : Inv X pins σ H1 { s1 with heap := h' } := I1.kept (t' := s1.toks) hk
  refine ⟨_, [s1.heap.objs.size + 1, s1.heap.objs.size], _, _, H1, rfl, I2, turn_enumT a _ _, ⟨⟨.none, he⟩, ⟨_, hi, rfl, rfl⟩, Nat.succ_ne_self _⟩, fun b hb => ?_, q⟩
  have le : s1.heap.objs.size ≤ b := by
    rcases List.mem_cons.mp hb with z | z
    · rw [z]; exact Nat.le_succ _
    · rw [List.mem_singleton.mp z]; exact Nat.le_refl _
  exact I1.fpOk le (I1.hok.fresh le)
section
variable {X : Cx} {B : Bs} {env : Env} {os : Os} {pos : Pos} {α β γ : Type} {r : Rp α} {s : Rp β} {t : Rp γ} {e a b c : Expr}
theorem s_enumT {p tpos : Pos} {elts : List Expr} {kk : Nat} {w : W (List α)} (ha : EE X B env os a (rTup X.K r) w) (hm : X.mg "enumerate" = none) (hg : Gl X "enumerate" := by rfl) (hs : starEach [a] X.env = [(false, eval a X.env)] := by rfl)
    (he : starEach [a] X.env = (false, eval a X.env) :: starEach [] X.env := by rfl) :
    ES X B env os (.Tuple elts kk tpos) (.Call (.Name "enumerate" p) [a] [] pos) (rT2 X.K rInt r) (bnd w fun x => ret ((rangeI 0 x.length).zip x)) :=
  PI.imp (pi_enumT hg hm (pa_cons ha pa_nil he) hs) fun σ H R ⟨F, P, S, hw, k⟩ => ⟨F, _, S, hw, fun x hx v F1 H1 S1 e1 ⟨p1, vs, q1, h1, z1, ok1⟩ => by
  subst q1
  refine ⟨p1, vs, rfl, ex_t S1.fh h1, ?_⟩
  have l1 := ok1.length
  have lr : (rangeI 0 (x.length : Int)).length = x.length := by rw [rangeI_len]; omega
  have lz : ((rangeI 0 (x.length : Int)).zip x).length = vs.length := by rw [List.length_zip, lr, l1]; exact Nat.min_self _
  refine k _ hx _ F1 H1 S1 e1 ⟨fun i F3 H3 x1 x2 hi => ?_, fun i F3 H3 u H4 z x1 x2 yy hz => ?_, fun i F3 H3 x1 x2 hi => ?_⟩ (by rw [lz]; exact z1)
  · rw [lz] at hi
    exact ⟨vs, vs[i], ex_t x2 (ex_t x1 h1), List.getElem?_eq_getElem hi⟩
  · obtain ⟨T, v2, ev, hT, eH, y1⟩ := yy
    subst ev eH
    obtain ⟨z1', z2'⟩ := z
    have hz' := List.getElem?_zip_eq_some.mp hz
    obtain ⟨v, hv, rv⟩ := Paired.get ok1 hz'.2
    have q1 := y1 vs (ex_t x2 (ex_t x1 h1))
    rw [q1] at hv
    cases hv
    have hi : z1' = (i : Int) := by
      have h := hz'.1
      unfold rangeI at h
      rw [List.getElem?_map] at h
      obtain ⟨m, hm, em⟩ := Option.map_eq_some_iff.mp h
      rw [List.getElem?_range (by have := (List.getElem?_eq_some_iff.mp hm).1; simpa using this)] at hm
      have := Option.some.inj hm
      omega
    have g : Grow F3 H3 (upd F3 T (.tup [.int (i : Nat), v2])) (upd H3 T (.tup [.int (i : Nat), v2])) := Grow.alloc x2 hT
    exact ⟨_, g, T, _, v2, rfl, SqT.of upd_same, (by show V.int _ = V.int _; rw [hi]), r.mono (x1.trans g.f) rv⟩
  · rw [lz] at hi
    exact ⟨vs, ex_t x2 (ex_t x1 h1), hi⟩⟩
end
end Mi
namespace Mi
open PySem L2 Evl
section
variable {X : Cx} {B : Bs} {env : Env} {os : Os} {pos p : Pos} {α β γ ι ρ : Type} {r : Rp α} {s : Rp β} {t : Rp γ} {e a b c o : Expr} {es : List Expr} {rest : List Stmt} {post : Post β}
section
variable {args : α × ι → Env} {wf : α × ι → W ρ} {ro : Rp ρ} {sl : ι → Env} {k : Nat} {f C g : Addr} {fd : FuncData} {ps : List Str} {m : Str} {fl : α → List (Str × Slot)} {apos : Pos}
theorem e_prop {wf : α × Unit → W ρ} {w1 : W α} {pr : Addr} (G : FnOk X.prog X.w X.K X.mg X.base CX0 k g fd ps (spW (fun q : α × Unit => [sv (rObj C fl) q.1]) (fun _ => []) wf ro)) (hr : Room (k + 1) X.A) (cl : Cls X.K C) (hp : PropOf X.K C m pr g) (hb : Binds X.K fd ps [])
    (ho : EE X B env os o (rObj C fl) w1) (hab : attributeBase o m X.env (eval o X.env) = eval o X.env := by rfl) : EE X B env os (.Attribute o m pos) ro (bnd w1 fun x => noX (wf (x, ()))) :=
  PE.imp (pe_prop ho cl hp G hr hb .nil pass0 hab) fun σ H Q ⟨F, P, S, hw, kk⟩ => ⟨F, _, S, hw, fun x hx v F1 H1 S1 e1 ⟨y, dx, vs, ev, hy, hf⟩ => by
    subst ev
    refine ⟨y, dx, vs, rfl, S1.fh _ _ hy, (x, ()), F1, P, S1.fh, .cons ⟨_, rfl, y, dx, vs, rfl, hy, hf⟩ .nil, fun z hz => (by cases hz), List.nodup_nil, hx, fun z hz v F' H' fn ow okz => ?_⟩
    exact kk z hz v F' H' (S1.back OsLe.none fn ow) (e1.trans fn.bf) okz⟩
end
/-- what type all of a kind have -/
def TyR (K : PySem.W.Frag) {α : Type} (r : Rp α) (t : Value) : Prop := ∀ (F H : Hp) (v : V) (x : α), r.ok F v x → Ex F H → TyX K H v t
theorem ty_int {K : PySem.W.Frag} : TyR K rInt (.type "int") := fun F H v x e _ => by
  have e : v = .int x := e
  rw [e]
  exact .base (.int x)
theorem ty_lst {K : PySem.W.Frag} {r : Rp α} : TyR K (rLst r) (.type "list") := fun F H v x ⟨a, vs, e, h, _⟩ q => by
  rw [e]
  exact .base (.lst (q _ _ h))
theorem ty_obj {K : PySem.W.Frag} {C : Addr} {fl : α → List (Str × Slot)} (c : C8.InsC K C) : TyR K (rObj C fl) (.ref C) := fun F H v x ⟨a, dx, vs, e, h, _⟩ q => by
  rw [e]
  exact .base (.ins (q _ _ h) c.cl c.ha c.hn c.htk c.hm)
theorem kit_refl {K : PySem.W.Frag} {C : Addr} : PySem.W.kitOne K (.ref C) (.ref C) = some true := by
  unfold PySem.W.kitOne
  rw [if_pos (by simp)]
theorem kit_up {K : PySem.W.Frag} {C : Addr} {T : String} {k : Bool} (hs : PySem.W.subIn K (.ref C) (.type T) = some k) (hm : PySem.W.kitMeta T = true := by decide +kernel) : PySem.W.kitOne K (.ref C) (.type T) = some k := by
  unfold PySem.W.kitOne
  rw [if_neg (by intro h; cases beq_iff_eq.mp h)]
  unfold PySem.W.kitCls
  dsimp only
  rw [if_pos hm]
  exact hs
theorem kit_down {K : PySem.W.Frag} {C : Addr} {t : Value} {k : Bool} (ht : PySem.W.typeIn K (.ref C) = some (.type "type")) (hc : PySem.W.isClsIn K C = true) (hs : PySem.W.subIn K t (.ref C) = some k) (hne : (t == Value.ref C) = false) : PySem.W.kitOne K t (.ref C) = some k := by
  unfold PySem.W.kitOne
  rw [if_neg (by rw [hne]; decide)]
  unfold PySem.W.kitCls
  dsimp only
  rw [if_pos (by rw [ht, show (PySem.W.clsIn K C).isSome = true from hc]; rfl)]
  exact hs
/-- isinstance(e, T), T a built-in type -/
theorem e_isB {w : W α} {t : Value} {x : Str} {T : String} {k : Bool} {p1 p2 : Pos} (ty : TyR X.K r t) (hk : PySem.W.kitOne X.K t (.type T) = some k) (ha : EE X B env os a r w) (hm : X.mg "isinstance" = none) (hx : X.mg x = none)
    (hv : bootBuiltins x = some (.type T) := by decide +kernel) (hn : x ≠ "__name__" := by decide) (hd : (x == ("__debug__" : Str)) = false := by decide)
    (hg : Gl X "isinstance" := by rfl) (hgx : Gl X x := by rfl) (hs : starEach [a, .Name x p2] X.env = (false, eval a X.env) :: starEach [.Name x p2] X.env := by rfl) (hs2 : starEach [.Name x p2] X.env = (false, eval (.Name x p2) X.env) :: starEach [] X.env := by rfl) (hpl : (backTo pos (starEach [.Name x p2] X.env)).any (·.1) = false := by rfl) :
    EE X B env os (.Call (.Name "isinstance" p1) [a, .Name x p2] [] pos) rBool (bnd w fun _ => ret k) :=
  PE.imp (pe_callB call_isi hg hm (by decide +kernel) (pa_cons ha (pa_cons (pe_bltn (v := .ty T) hgx hx hv rfl hn hd) pa_nil hs2) hs) (by decide) (by decide) hs hpl) fun σ H Q ⟨F, P, S, hw, kk⟩ => ⟨F, _, S, hw, fun x hx v F1 H1 S1 e1 ok =>
    ⟨v, .ty T, t, .type T, k, rfl, .ty T, ty F1 H1 v x ok S1.fh, hk, kk k hx (.bl k) F1 H1 S1 e1 rfl⟩⟩
/-- isinstance(e, C), C an own class -/
theorem e_isC {w : W α} {t : Value} {x : Str} {C : Addr} {k : Bool} {p1 p2 : Pos} (ty : TyR X.K r t) (hk : PySem.W.kitOne X.K t (.ref C) = some k) (ha : EE X B env os a r w) (hm : X.mg "isinstance" = none) (hx : X.mg x = some (.ref C)) (hd : (x == ("__debug__" : Str)) = false := by decide)
    (hg : Gl X "isinstance" := by rfl) (hgx : Gl X x := by rfl) (hs : starEach [a, .Name x p2] X.env = (false, eval a X.env) :: starEach [.Name x p2] X.env := by rfl) (hs2 : starEach [.Name x p2] X.env = (false, eval (.Name x p2) X.env) :: starEach [] X.env := by rfl) (hpl : (backTo pos (starEach [.Name x p2] X.env)).any (·.1) = false := by rfl) :
    EE X B env os (.Call (.Name "isinstance" p1) [a, .Name x p2] [] pos) rBool (bnd w fun _ => ret k) :=
  PE.imp (pe_callB call_isi hg hm (by decide +kernel) (pa_cons ha (pa_cons (pe_glob (v := .ref C) hgx hx rfl hd) pa_nil hs2) hs) (by decide) (by decide) hs hpl) fun σ H Q ⟨F, P, S, hw, kk⟩ => ⟨F, _, S, hw, fun x hx v F1 H1 S1 e1 ok =>
    ⟨v, .ref C, t, .ref C, k, rfl, .own C, ty F1 H1 v x ok S1.fh, hk, kk k hx (.bl k) F1 H1 S1 e1 rfl⟩⟩
end
end Mi
namespace Mi
open PySem L2 Evl
section
variable {X : Cx} {B : Bs} {env : Env} {os : Os} {pos p : Pos} {α β γ : Type} {r : Rp α} {s : Rp β} {e a b c tg : Expr} {es : List Expr} {rest : List Stmt} {post : Post β}
theorem pair_rev {R : V → α → Prop} : ∀ {vs : List V} {xs : List α}, Paired R vs xs → Paired R vs.reverse xs.reverse
  | _, _, .nil => .nil
  | _, _, .cons h t => by
    rw [List.reverse_cons, List.reverse_cons]
    exact Paired.app (pair_rev t) (.cons h .nil)
theorem pair_last {R : V → α → Prop} {vs : List V} {xs : List α} (h : Paired R vs xs) : Paired R vs.dropLast xs.dropLast := by
  rw [List.dropLast_eq_take, List.dropLast_eq_take, h.length]
  exact Paired.takeR _ h
theorem n_rev {w : W (List α)} {q : Nat} {p1 p2 p3 : Pos} (ha : EE X B env os a (rLst r) w) : EN X B env os (.Subscript a (.Slice none none (some (.UnaryOp .USub (.Constant (.int 1) q p1) p2)) p3) pos) r (bnd w fun x => ret x.reverse) :=
  PE.imp (pe_revL ha) fun σ H Q ⟨F, P, S, hw, k⟩ => ⟨F, _, S, hw, fun x hx v F1 H1 S1 e1 ⟨p1, vs, q1, h1, z1, ok⟩ => ⟨p1, vs, q1, SqL.of (S1.fh _ _ h1), fun l hl =>
    k _ hx l F1 _ (S1.newOwn hl ⟨_, rfl, by rw [List.length_reverse]; exact z1, pair_rev ok⟩) e1⟩⟩
theorem b_pop (i j : Nat) {x : Str} {p1 p2 p3 : Pos} {a : Addr} {xs : List α} {w : W β} (hi : env[i]? = some (sv (rAdr a) ())) (hj : os[j]? = some (a, oLst r xs)) (hr : BG X B env (os.set j (a, oLst r xs.dropLast)) rest post w) (hN : X.N[i]? = some x := by rfl)
    (hv : Vis X.env.scope x := by first | exact Or.inl rfl | exact Or.inr (Or.inl rfl) | exact Or.inr (Or.inr rfl)) (hd : (x == ("__debug__" : Str)) = false := by decide) (hcd : (x == ("__classdict__" : Str)) = false := by decide)
    (hbase : attributeBase (.Name x p1) "pop" X.env (eval (.Name x p1) X.env) = eval (.Name x p1) X.env := by rfl) (hline : (p2.endLine == p3.line) = true := by rfl) (hsw : swapsWith (.Call (.Attribute (.Name x p1) "pop" p2) [] [] p3) none pos.line X.env = pure false := by rfl) :
    BG X B env os (.Expr (.Call (.Attribute (.Name x p1) "pop" p2) [] [] p3) pos :: rest) post (chk (xs ≠ []) w) :=
  PSs.imp (pss_cons (ps_expr (pe_bm0 PySem.F.plainAttrs_list PySem.F.slot_list_pop PySem.F.type_list_pop mt_pop (pe_var hN hv hd hcd) hbase hline) hsw) hr) fun D σ H ⟨F, P, S, ⟨hne, hw⟩, k⟩ => by
  obtain ⟨g1, g2, vs, g3, g4, g5⟩ := S.own hi hj
  have hl : 0 < vs.length := by rw [g5.length]; exact List.length_pos_iff.mpr hne
  refine ⟨.ref a, g1, .inl ⟨rfl, vs, SqL.of g3⟩, a, vs, vs[vs.length - 1], rfl, rfl, g3, List.getElem?_eq_getElem (by omega), F, P, S.change hj ⟨_, rfl, ?_, pair_last g5⟩, hw, k⟩
  rw [List.length_dropLast]
  omega
end
end Mi
namespace Mi
open PySem L2 Evl
section
variable {α β γ S : Type}
theorem Ok.while {c : S → W Bool} {b : S → W S} {J : S → Prop} (inv : S → Prop) (m : S → Nat) (step : ∀ s, inv s → ∃ v : Bool, Ok (c s) (· = v) ∧ (v = true → Ok (b s) fun s' => inv s' ∧ m s' < m s) ∧ (v = false → J s)) : ∀ {s0 : S}, inv s0 → Ok (whileW c b s0) J := by
  intro s0 h0 P E hp
  have all : ∀ (k : Nat) (s : S), m s < k → inv s → whileN c b k s P E := by
    intro k
    induction k with
    | zero => exact fun s h => absurd h (Nat.not_lt_zero _)
    | succ k ih =>
      intro s hk hs
      obtain ⟨v, h1, h2, h3⟩ := step s hs
      refine h1 _ E fun x hx => ?_
      subst hx
      cases x with
      | false => exact hp _ (h3 rfl)
      | true => exact h2 rfl _ E fun s' ⟨q1, q2⟩ => ih s' (by omega) q1
  exact ⟨_, all _ s0 (Nat.lt_succ_self _) h0⟩
/-- what a text shows -/
theorem hex_ok (c : Nat) : ∀ d ∈ (Nat.toDigits 16 c).map Char.toNat, d < 0x110000 := fun d hd => by
  obtain ⟨ch, _, rfl⟩ := List.mem_map.mp hd
  have := ch.valid
  unfold Char.toNat
  rcases this with h | ⟨_, h⟩
  · exact Nat.lt_trans h (by decide)
  · exact h
theorem reprChar_ok {q c : Nat} (hc : c < 0x110000) : ∀ d ∈ Builtin.Str.reprChar q c, d < 0x110000 := by
  intro d hd
  have small : ∀ {l : List Nat}, (∀ x ∈ l, x < 0x110000) → d ∈ l → d < 0x110000 := fun h m => h d m
  unfold Builtin.Str.reprChar at hd
  have hexs : ∀ (n : Nat), d ∈ List.replicate n 48 ++ (Nat.toDigits 16 c).map Char.toNat → d < 0x110000 := fun n m => by
    rcases List.mem_append.mp m with m | m
    · rw [(List.mem_replicate.mp m).2]
      decide
    · exact hex_ok c d m
  dsimp only at hd
  split at hd
  · exact small (fun x hx => by simp at hx; rcases hx with rfl | rfl <;> omega) hd
  · split at hd
    · exact small (fun x hx => by simp at hx; rcases hx with rfl | rfl <;> decide) hd
    · split at hd
      · exact small (fun x hx => by simp at hx; rcases hx with rfl | rfl <;> decide) hd
      · split at hd
        · exact small (fun x hx => by simp at hx; rcases hx with rfl | rfl <;> decide) hd
        · split at hd
          · rw [List.mem_singleton.mp hd]
            exact hc
          · split at hd
            · rcases List.mem_append.mp hd with m | m
              · exact small (fun x hx => by simp at hx; rcases hx with rfl | rfl <;> decide) m
              · exact hexs _ m
            · split at hd
              · rcases List.mem_append.mp hd with m | m
                · exact small (fun x hx => by simp at hx; rcases hx with rfl | rfl <;> decide) m
                · exact hexs _ m
              · rcases List.mem_append.mp hd with m | m
                · exact small (fun x hx => by simp at hx; rcases hx with rfl | rfl <;> decide) m
                · exact hexs _ m
theorem reprText_okS {x : Str} (h : PyData.strOk x = true) : PyData.strOk (reprText x) = true := by
  have hx : ∀ c ∈ x.cps.toList, c < 0x110000 := fun c hc => by
    unfold PyData.strOk at h
    rw [← Array.all_toList, List.all_eq_true] at h
    exact of_decide_eq_true (h c hc)
  have hq : reprQuote x < 0x110000 := by
    unfold reprQuote
    split <;> decide
  have acc : ∀ (l : List Nat) (a : Array Nat), (∀ c ∈ l, c < 0x110000) → (∀ c ∈ a.toList, c < 0x110000) → ∀ c ∈ (l.foldl (fun out c => out ++ (Builtin.Str.reprChar (reprQuote x) c).toArray) a).toList, c < 0x110000 := by
    intro l
    induction l with
    | nil => exact fun a _ h2 => h2
    | cons c l ih =>
      intro a h1 h2
      refine ih _ (fun d hd => h1 d (List.mem_cons_of_mem _ hd)) fun d hd => ?_
      simp only [Array.toList_append] at hd
      rcases List.mem_append.mp hd with m | m
      · exact h2 d m
      · exact reprChar_ok (h1 c List.mem_cons_self) d m
  unfold PyData.strOk
  rw [← Array.all_toList, List.all_eq_true]
  intro d hd
  refine decide_eq_true ?_
  unfold reprText at hd
  rw [Array.toList_push, ← Array.foldl_toList] at hd
  rcases List.mem_append.mp hd with m | m
  · exact acc _ _ hx (fun c hc => by simp at hc; rw [hc]; exact hq) d m
  · rw [List.mem_singleton.mp m]
    exact hq
theorem Shw.str {x : Str} {n : Nat} (h : PyData.strOk x = true) (hn : x.length ≤ n) : Shw (.str x) (10 * n + 2) := by
  refine ⟨by simp [PyData.showable], ?_, ?_⟩
  · rw [PyData.shown]
    have hx : ∀ c ∈ x.cps.toList, c < 16 ^ 8 := fun c hc => by
      unfold PyData.strOk at h
      rw [← Array.all_toList, List.all_eq_true] at h
      have := of_decide_eq_true (h c hc)
      omega
    have := StrLaws.reprText_len x hx
    omega
  · rw [PyData.shown]
    exact reprText_okS h
end
end Mi
namespace Mi
open PySem L2 Evl NdefX
open PyProof.Rows (envOfC)
section
variable {P : Program} {w : World} {K : PySem.W.Frag} {mg : Str → Option Value} {base : Heap} {C f cc : Addr} {F : NF} {fd : FuncData} {N ps : List Str}
theorem loadName_blt {X : Cx} {E : Value → Shared → Prop} {pins : List (Addr × Obj)} {s : Shared} {σ : L2.St} {H : Hp} {x : Str} {u : Value} {Q : Value → Shared → Prop} (I : Inv X pins σ H s) (hg : X.env.kindOf x = some .globalImplicit) (hm : X.mg x = none) (hv : bootBuiltins x = some u) (h : Q u s)
    (hn : x ≠ "__name__" := by decide) : wpAny (model X.prog X.w) X.A (loadName X.env x) Q E s := by
  obtain ⟨mb, h1, h2⟩ := I.mod.blt
  exact PySem.W.ks_loadName_global I.ok.kind hg (Calls.loadGlobal_builtin (by rw [I.ok.glob]; exact I.mod.glob.keeps I.bk) hm (by rw [I.ok.blt]; exact h1.keeps I.bk) ((h2 x hn).trans hv) h)
/-- what an own exception's __init__ with one field leaves -/
def spE1 (C : Addr) (f1 code : Str) : Sp := fun vs H Q _ => ∃ (a : Addr) (x : V), vs = [.ref a, x] ∧ H a = some (exo a C none) ∧ ∀ dx, H dx = none → dx ≠ a → Q .non (upd (upd (upd H dx (exd dx [(f1, x)])) a (exo a C (some dx))) dx (exd dx [("code", .str code), (f1, x)]))
/-- the first statement's form -/
structure SupOk (F : NF) (f : Addr) (e : Expr) (t : Str) (pos : Pos) : Prop where
  ok : ∃ (j : Nat) (p0 p1 p2 p3 p4 : Pos), e = .Call (.Attribute (.Call (.Name "super" p0) [] [] p1) "__init__" p2) [.Constant (.str t) j p3] [] p4 ∧ ∀ L : Addr,
    (∃ pl : Sem Bool, eval (.Call (.Attribute (.Call (.Name "super" p0) [] [] p1) "__init__" p2) [.Constant (.str t) j p3] [] p4) (envF F f L) = (do
      let ov ← attributeBase (.Call (.Name "super" p0) [] [] p1) "__init__" (envF F f L) (eval (.Call (.Name "super" p0) [] [] p1) (envF F f L))
      standAt p2.atName
      let (f', first) ← holding [ov] (getMethod ov "__init__" pl)
      callWith p4 f' first (backTo p4 (starEach [.Constant (.str t) j p3] (envF F f L))) [])) ∧ interactive (envF F f L) = false ∧ swapsWith e none pos.line (envF F f L) = pure false
end
end Mi
namespace Mi
open PySem L2 Evl NdefX
open PyProof.Rows (envOfC)
end Mi
namespace PySem.W
open PySem PySem.Spec PySem.Calls PyProof.Rows
/-- a lambda's words, its defaults at dV -/
abbrev lmFn (q : Str) (params : Arguments) (body : Expr) (scope : Scope) (cl : List (Str × Addr)) (dV pm cdv ct : Value) : FuncData :=
  { name := "<lambda>", qualname := q, params, body := .expr body, scope, globals := mainGlobals, closure := cl, defaults := dV, kwdefaults := .none, doc := .none, pyModule := pm, annotations := none, code := cdv, closureTuple := ct, builtins := builtinsNs }
section
variable {M : Model} {A : Around} {E : Value → Shared → Prop} {s : Shared} {name qual : Str} {params : Arguments} {body : Expr} {scope : Scope} {env : Env} {c P : Addr} {ps : Array Value} {pos : Pos} {firstLine : Nat} {mg : Str → Option Value}
  {clos : List (Str × Addr)} {Q : Value → Shared → Prop} {dV : Value}
theorem lm_makeTail (hcl : closureFor scope env = pure clos) (hge0 : env.globals = mainGlobals) (hg : s.heap.Ns mainGlobals mg) (hcode : env.code = .ref c) (C : CodeHd s.heap c P) (hP : s.heap.get? P = some (tabObj ps)) (ht : TriplesOk ps.toList)
    (hnf : codeAmong pos ps.toList = none) (hgP : mainGlobals ≠ P) (hb : s.heap.BuiltinsAt mg P)
    (h : ∀ c' ctv h' tk, Heap.ExtBut P s.heap h' → s.heap.objs.size ≤ c' → c' < h'.objs.size → h'.CodeRec (.ref c') qual → h'.get? P = some (tabObj (ps ++ #[rawInt pos.line, rawInt pos.col, .ref c'])) →
      Q (.ref h'.objs.size) { s with heap := h'.push { cls := .type "function", data := .func (lmFn qual params body scope clos dV ((mg "__name__").getD .none) (.ref c') ctv) }, toks := tk }) :
    wpAny M A (makeTail "<lambda>" qual params (.expr body) scope env dV .none none pos firstLine) Q E s := by
  obtain ⟨bm, ob, hbm, hne0, _, hneP, hbo, hcls, hdict, hdata⟩ := hb
  unfold makeTail
  rw [hcl, hge0]
  refine wpAny_bind (wpAny_pure ?_)
  cases clos with
  | nil =>
    simp only [List.isEmpty_nil, if_true]
    refine wpAny_bind (wpAny_pure ?_)
    refine wpAny_bind (wpAny_functionCodeX hcode (C.code hP ht) (C.tab hP) hnf fun c' h' tk hx hge hlt _ hrec htb _ => ?_)
    have hg' := hg.extBut hx hgP
    refine wpAny_bind (wpAny_builtinsFor hg' hbm hne0 (hx _ _ hneP hbo) hcls hdict hdata ?_)
    refine wpAny_bind (wpAny_nsGet hg' ?_)
    exact wpAny_bind (wpAny_pure (wpAny_newObj_type (h c' .none h' tk hx hge hlt hrec htb.2) (by size_fits)))
  | cons q r =>
    simp only [List.isEmpty_cons, Bool.false_eq_true, if_false]
    refine wpAny_bind (wpAny_newTextTuple ?_)
    refine wpAny_bind (wpAny_functionCodeX hcode ((C.keeps fun b o e => Heap.get?_push_of_some _ e).code (Heap.get?_push_of_some _ hP) ht) ((C.keeps fun b o e => Heap.get?_push_of_some _ e).tab (Heap.get?_push_of_some _ hP)) hnf fun c' h' tk hx hge hlt _ hrec htb _ => ?_)
    have hg' := (hg.push _).extBut hx hgP
    have hx' : Heap.ExtBut P s.heap h' := fun b o hb' e => hx b o hb' (Heap.get?_push_of_some _ e)
    have hge' : s.heap.objs.size ≤ c' := Nat.le_trans (by rw [Heap.size_push]; omega) hge
    refine wpAny_bind (wpAny_builtinsFor hg' hbm hne0 (hx' _ _ hneP hbo) hcls hdict hdata ?_)
    refine wpAny_bind (wpAny_nsGet hg' ?_)
    exact wpAny_bind (wpAny_pure (wpAny_newObj_type (h c' _ h' tk hx' hge' hlt hrec htb.2) (by size_fits)))
theorem lm_makeTailHit {cv : Value} (hcl : closureFor scope env = pure clos) (hge0 : env.globals = mainGlobals) (hg : s.heap.Ns mainGlobals mg) (hcode : env.code = .ref c) (C : CodeHd s.heap c P) (hP : s.heap.get? P = some (tabObj ps)) (ht : TriplesOk ps.toList)
    (hf : codeAmong pos ps.toList = some cv) (hb : s.heap.BuiltinsAt mg P)
    (h : ∀ (ctv : Value) (h' : Heap) (tk : Tok), (∀ b o, s.heap.get? b = some o → h'.get? b = some o) → s.heap.objs.size ≤ h'.objs.size →
      Q (.ref h'.objs.size) { s with heap := h'.push { cls := .type "function", data := .func (lmFn qual params body scope clos dV ((mg "__name__").getD .none) cv ctv) }, toks := tk }) :
    wpAny M A (makeTail "<lambda>" qual params (.expr body) scope env dV .none none pos firstLine) Q E s := by
  obtain ⟨bm, ob, hbm, hne0, _, hneP, hbo, hcls, hdict, hdata⟩ := hb
  unfold makeTail
  rw [hcl, hge0]
  refine wpAny_bind (wpAny_pure ?_)
  cases clos with
  | nil =>
    simp only [List.isEmpty_nil, if_true]
    refine wpAny_bind (wpAny_pure ?_)
    refine wpAny_bind (wpAny_functionCode_hit hcode (C.code hP ht) hf ?_)
    refine wpAny_bind (wpAny_builtinsFor hg hbm hne0 hbo hcls hdict hdata ?_)
    refine wpAny_bind (wpAny_nsGet hg ?_)
    exact wpAny_bind (wpAny_pure (wpAny_newObj_type (h .none s.heap s.toks (fun _ _ e => e) (Nat.le_refl _)) (by size_fits)))
  | cons q r =>
    simp only [List.isEmpty_cons, Bool.false_eq_true, if_false]
    refine wpAny_bind (wpAny_newTextTuple ?_)
    refine wpAny_bind (wpAny_functionCode_hit hcode ((C.keeps fun b o e => Heap.get?_push_of_some _ e).code (Heap.get?_push_of_some _ hP) ht) hf ?_)
    refine wpAny_bind (wpAny_builtinsFor (hg.push _) hbm hne0 (Heap.get?_push_of_some _ hbo) hcls hdict hdata ?_)
    refine wpAny_bind (wpAny_nsGet (hg.push _) ?_)
    have hsz : ∀ oT : Obj, s.heap.objs.size ≤ (s.heap.push oT).objs.size := fun oT => by rw [Heap.size_push]; omega
    exact wpAny_bind (wpAny_pure (wpAny_newObj_type (h _ _ s.toks (fun b o e => Heap.get?_push_of_some _ e) (hsz _)) (by size_fits)))
end
end PySem.W
namespace Mi
open PySem L2 Evl LamX
open PyProof.Rows (envOfC)
/-- a lambda's object at g -/
structure LamD where
  q : Str
  params : Arguments
  body : Expr
  scope : Scope
  cl : List (Str × Addr)
def LamO (g c' : Addr) (D : LamD) (dV : Value) : HO := .ext fun h => ∃ (pm ctv : Value), h.get? g = some ({ cls := .type "function", data := .func (PySem.W.lmFn D.q D.params D.body D.scope D.cl dV pm (.ref c') ctv) } : Obj)
/-- the table of the running def's lambdas -/
def oTab (q : Str) : Own := ⟨fun F o => ∃ ps : Array Value, o = .tbl ps ∧ TriplesOk ps.toList ∧ ∀ (pos : Pos) (cv : Value), codeAmong pos ps.toList = some cv → ∃ c, cv = .ref c ∧ F c = some (CodeO c q), fun e ⟨ps, h1, h2, h3⟩ => ⟨ps, h1, h2, fun pos cv h => let ⟨c, a, b⟩ := h3 pos cv h; ⟨c, a, e _ _ b⟩⟩⟩
/-- what the defaults are: none, or one that is 0 -/
def DfOk (F : Hp) (df : Bool) (dV : Value) : Prop := if df then ∃ td, dV = .ref td ∧ F td = some (.tup [.int 0]) else dV = .none
/-- a lambda just made, seen from the def that made it -/
def rLam (D : LamD) (df : Bool) : Rp Unit := ⟨fun F v _ => ∃ g c' dV, v = .ref g ∧ F g = some (LamO g c' D dV) ∧ F c' = some (CodeO c' D.q) ∧ DfOk F df dV, fun {F F' v x} e ⟨g, c', dV, h1, h2, h3, h4⟩ => ⟨g, c', dV, h1, e _ _ h2, e _ _ h3, by
  unfold DfOk at h4 ⊢
  cases df with
  | true =>
    obtain ⟨td, a, b⟩ := h4
    exact ⟨td, a, e _ _ b⟩
  | false => exact h4⟩⟩
theorem upd_comm {H : Hp} {a b : Addr} {o u : HO} (h : a ≠ b) : upd (upd H a o) b u = upd (upd H b u) a o := by
  funext x
  by_cases h1 : x = a
  · subst h1
    rw [upd_ne h, upd_same, upd_same]
  · rw [upd_ne h1]
    by_cases h2 : x = b
    · subst h2
      rw [upd_same, upd_same]
    · rw [upd_ne h2, upd_ne h2, upd_ne h1]
theorem lamO_ok {P : Program} {w : World} {H : Hp} {h : Heap} {g c' : Addr} {D : LamD} {dV pm ctv : Value} (e : h.get? g = some ({ cls := .type "function", data := .func (PySem.W.lmFn D.q D.params D.body D.scope D.cl dV pm (.ref c') ctv) } : Obj)) : ObjOk P w H h g (LamO g c' D dV) :=
  ⟨⟨pm, ctv, e⟩, ⟨_, e⟩, fun h1 h2 ⟨pm, ctv, z⟩ st => ⟨pm, ctv, st _ z⟩⟩
section
variable {X : Cx} {B : Bs} {env : Env} {os : Os}
/-- the making, the defaults being at hand -/
theorem lam_core {pins : List (Addr × Obj)} {s : Shared} {σ : L2.St} {F H : Hp} {Q : Value → Shared → Prop} {c P : Addr} {params : Arguments} {body : Expr} {scope : Scope} {pos : Pos} {dV : Value} {df : Bool} {j : Nat}
    (TB : TabB X.base X.mg c P) (hcode : X.env.code = .ref c) (hj : os[j]? = some (P, oTab (X.env.qual ++ "<lambda>"))) (hfree : ∀ y ∈ scope.names, y.2 = .free → ∃ c, X.env.cells.lookup y.1 = some c)
    (I : Inv X pins σ H s) (S : Sit B F H σ env os) (hd : DfOk F df dV)
    (k : ∀ g F' H' s', Inv X pins σ H' s' → Sit B F' H' σ env os → Ex F F' → (rLam ⟨X.env.qual ++ "<lambda>", params, body, scope, cloFrom X.env.cells scope.names []⟩ df).ok F' (.ref g) () → Q (.ref g) s') :
    wpAny (model X.prog X.w) X.A (makeTail "<lambda>" (X.env.qual ++ "<lambda>") params (.expr body) scope X.env dV .none none pos pos.line) Q X.xe s := by
  obtain ⟨z1, ⟨o, z2, ps, z3, ht, ha⟩, z4⟩ := S.ow _ (List.mem_of_getElem? hj)
  subst z3
  have hP : H P = some (.tbl ps) := z2
  have hP' : s.heap.get? P = some { cls := .none, data := .fields ps } := I.hok P _ hP
  have bP : s.heap.BuiltinsAt X.mg P := TB.bm.keeps I.bk
  cases hc : codeAmong pos ps.toList with
  | none =>
    refine PySem.W.lm_makeTail (mg := X.mg) (c := c) (P := P) (ps := ps) (closure_ok hfree) I.ok.glob (I.mod.glob.keeps I.bk) hcode (TB.code.keeps I.bk) hP' ht hc TB.gP bP fun c' ctv h' tk hx hge hlt hrec htb => ?_
    obtain ⟨c2, oc, vs, t, e2, hoc, hdd, hv⟩ := hrec
    cases e2
    have nC : H c' = none := I.hok.fresh hge
    have nPc : P ≠ c' := ne_of_none hP nC
    have I1 := inv_table (t' := tk) (more := #[rawInt pos.line, rawInt pos.col, .ref c']) (h' := h') I hP (fun b o hb e => hx b o hb e) htb hge ⟨oc, vs, t, hoc, hdd, hv⟩
    have g : Grow F H (upd F c' (CodeO c' (X.env.qual ++ "<lambda>"))) (upd H c' (CodeO c' (X.env.qual ++ "<lambda>"))) := Grow.alloc S.fh nC
    have S1 := S.grow g
    have eL : (ps ++ #[rawInt pos.line, rawInt pos.col, .ref c']).toList = ps.toList ++ [rawInt pos.line, rawInt pos.col, .ref c'] := by simp
    have S2 := S1.change (ow' := oTab (X.env.qual ++ "<lambda>")) (o' := .tbl (ps ++ #[rawInt pos.line, rawInt pos.col, .ref c'])) hj ⟨_, rfl, by rw [eL]; exact PySem.TriplesOk_snoc _ _ _ _ ht, fun p' cv hcv => by
      rw [eL] at hcv
      rcases among_app _ ht hcv with z | z
      · obtain ⟨c0, e1, e2⟩ := ha p' cv z
        exact ⟨c0, e1, g.f _ _ e2⟩
      · exact ⟨c', z, upd_same⟩⟩
    rw [set_same hj] at S2
    rw [upd_comm nPc] at I1
    have nF := I1.hok.fresh (Nat.le_refl _)
    have I2 := I1.laid (t' := tk) (a := h'.objs.size) (o := LamO h'.objs.size c' ⟨X.env.qual ++ "<lambda>", params, body, scope, cloFrom X.env.cells scope.names []⟩ dV) (h' := h'.push { cls := .type "function", data := .func (PySem.W.lmFn (X.env.qual ++ "<lambda>") params body scope (cloFrom X.env.cells scope.names []) dV ((X.mg "__name__").getD .none) (.ref c') ctv) })
      (fun b o e => Heap.get?_push_of_some _ e) (Nat.le_refl _) (lamO_ok (D := ⟨X.env.qual ++ "<lambda>", params, body, scope, cloFrom X.env.cells scope.names []⟩) (Heap.get?_push_size _ rfl))
    have g2 := Grow.alloc (o := LamO h'.objs.size c' ⟨X.env.qual ++ "<lambda>", params, body, scope, cloFrom X.env.cells scope.names []⟩ dV) S2.fh nF
    have S3 := S2.grow g2
    refine k _ _ _ _ I2 S3 (g.f.trans g2.f) ⟨_, c', dV, rfl, upd_same, ?_, ?_⟩
    · exact g2.f _ _ upd_same
    · unfold DfOk at hd ⊢
      cases df with
      | true =>
        obtain ⟨td, a, b⟩ := hd
        exact ⟨td, a, g2.f _ _ (g.f _ _ b)⟩
      | false => exact hd
  | some cv =>
    obtain ⟨c', e, hco⟩ := ha pos cv hc
    subst e
    refine PySem.W.lm_makeTailHit (mg := X.mg) (c := c) (P := P) (ps := ps) (closure_ok hfree) I.ok.glob (I.mod.glob.keeps I.bk) hcode (TB.code.keeps I.bk) hP' ht hc bP fun ctv h' tk hx hsz => ?_
    have I1 : Inv X pins σ H { s with heap := h', toks := tk } := I.kept hx
    have nF : H h'.objs.size = none := I1.hok.fresh (Nat.le_refl _)
    have I2 := I1.laid (t' := tk) (a := h'.objs.size) (o := LamO h'.objs.size c' ⟨X.env.qual ++ "<lambda>", params, body, scope, cloFrom X.env.cells scope.names []⟩ dV) (h' := h'.push { cls := .type "function", data := .func (PySem.W.lmFn (X.env.qual ++ "<lambda>") params body scope (cloFrom X.env.cells scope.names []) dV ((X.mg "__name__").getD .none) (.ref c') ctv) })
      (fun b o e => Heap.get?_push_of_some _ e) (Nat.le_refl _) (lamO_ok (D := ⟨X.env.qual ++ "<lambda>", params, body, scope, cloFrom X.env.cells scope.names []⟩) (Heap.get?_push_size _ rfl))
    have g2 := Grow.alloc (o := LamO h'.objs.size c' ⟨X.env.qual ++ "<lambda>", params, body, scope, cloFrom X.env.cells scope.names []⟩ dV) S.fh nF
    have S3 := S.grow g2
    refine k _ _ _ _ I2 S3 g2.f ⟨_, c', dV, rfl, upd_same, g2.f _ _ hco, ?_⟩
    unfold DfOk at hd ⊢
    cases df with
    | true =>
      obtain ⟨td, a, b⟩ := hd
      exact ⟨td, a, g2.f _ _ b⟩
    | false => exact hd
theorem e_lam0 {c P : Addr} {params : Arguments} {body : Expr} {scope : Scope} {pos : Pos} (j : Nat) (TB : TabB X.base X.mg c P) (hcode : X.env.code = .ref c) (hj : os[j]? = some (P, oTab (X.env.qual ++ "<lambda>"))) (L : ∀ y ∈ scope.names, y.2 = .free → X.env.scope.names.lookup y.1 = some .cell ∨ X.env.scope.names.lookup y.1 = some .free) (hdef : defaultsOf params X.env = ([], []) := by rfl) :
    EE X B env os (.Lambda params body scope pos) (rLam ⟨X.env.qual ++ "<lambda>", params, body, scope, cloFrom X.env.cells scope.names []⟩ false) (ret ()) :=
  ⟨fun pins s σ H Q I ⟨F, P, S, hw, k⟩ => by
    refine PySem.W.kla_eval hdef ?_
    rw [makeFunction_eq]
    simp only [List.zip_nil_right, List.filterMap_nil, List.isEmpty_nil, if_true, pure_bind]
    exact lam_core (df := false) TB hcode hj (fun y hy e => (L y hy e).elim (fun z => I.ok.has _ (.inl z)) fun z => I.ok.has _ (.inr z)) I S rfl fun g F' H' s' I' S' e ok => ⟨.ref g, H', I', rfl, k () hw _ F' H' S' e ok⟩⟩
theorem e_lam1 {c P : Addr} {params : Arguments} {body : Expr} {scope : Scope} {pos dp : Pos} {di : Nat} (j : Nat) (TB : TabB X.base X.mg c P) (hcode : X.env.code = .ref c) (hj : os[j]? = some (P, oTab (X.env.qual ++ "<lambda>"))) (L : ∀ y ∈ scope.names, y.2 = .free → X.env.scope.names.lookup y.1 = some .cell ∨ X.env.scope.names.lookup y.1 = some .free)
    (hdef : defaultsOf params X.env = ([eval (.Constant (.int 0) di dp) X.env], []) := by rfl) :
    EE X B env os (.Lambda params body scope pos) (rLam ⟨X.env.qual ++ "<lambda>", params, body, scope, cloFrom X.env.cells scope.names []⟩ true) (ret ()) :=
  ⟨fun pins s σ H Q I ⟨F, P, S, hw, k⟩ => by
    rw [arm_eval_Lambda, hdef]
    show wpAny _ _ (do let dv ← evalAll [eval (.Constant (.int 0) di dp) X.env]; let kdv ← holding dv (evalAllOpt []); makeFunction "<lambda>" (X.env.qual ++ "<lambda>") params (.expr body) scope X.env dv kdv [] pos pos.line) _ _ _
    refine wpAny_bind ?_
    unfold evalAll
    refine wpAny_bind (thn (pe_int.run pins s σ H (fun v H1 => v = .int 0 ∧ H1 = H) I ⟨rfl, rfl⟩) fun u s1 ⟨v, H1, I1, r1, e1, e2⟩ => ?_)
    subst e1 e2
    unfold evalAll
    refine wpAny_bind (wpAny_holding (wpAny_pure (wpAny_pure ?_)))
    refine wpAny_bind (wpAny_holding (wpAny_pure ?_))
    rw [makeFunction_eq]
    simp only [List.zip_nil_right, List.filterMap_nil, List.isEmpty_nil, List.isEmpty_cons, if_true, pure_bind]
    refine wpAny_bind ?_
    refine wpAny_newTextTuple ?_
    have nT : H1 s1.heap.objs.size = none := I1.hok.fresh (Nat.le_refl _)
    have I2 := I1.laid (t' := s1.toks) (a := s1.heap.objs.size) (o := .tup [.int 0]) (h' := s1.heap.push { cls := .type "tuple", data := .seq [u].toArray }) (fun b o e => Heap.get?_push_of_some _ e) (Nat.le_refl _)
      ⟨by show 1 ≤ sizeLine; rw [sizeLine_eq]; omega, [u], .cons r1 .nil, by
        exact ⟨_, Heap.get?_push_size _ rfl, rfl, _, rfl⟩⟩
    have g := Grow.alloc (o := .tup [.int 0]) S.fh nT
    have S2 := S.grow g
    refine lam_core (df := true) TB hcode hj (fun y hy e => (L y hy e).elim (fun z => I.ok.has _ (.inl z)) fun z => I.ok.has _ (.inr z)) I2 S2 ⟨_, rfl, upd_same⟩ fun gg F' H' s' I' S' e ok => ⟨.ref gg, H', I', rfl, k () hw _ F' H' S' (g.f.trans e) ok⟩⟩
end
end Mi
namespace Mi
open PySem L2 Evl
open PyProof.Rows (envOfC)
/-- own exceptions: the code, the class, the name of the field beside the code -/
abbrev ETab := List (String × Addr × Option Str)
def ErAt (K : PySem.W.Frag) (tb : ETab) (F : Hp) (e : Er) (cls : Value) (d : Option Addr) : Prop :=
  ∃ (C : Addr) (fo : Option Str) (dd : Addr) (fs : List (Str × V)), (e.cls, C, fo) ∈ tb ∧ cls = .ref C ∧ d = some dd ∧ F dd = some (.xd fs) ∧ fs.lookup ("code" : Str) = some (V.str (Str.ofString e.cls)) ∧
    (match fo with | none => e.vals = [] | some f => ∃ (v : V) (x : PyData), e.vals = [x] ∧ fs.lookup f = some v ∧ (rD K).ok F v x)
theorem ErAt.mono {K : PySem.W.Frag} {tb : ETab} {F F' : Hp} {e : Er} {cls : Value} {d : Option Addr} (x : Ex F F') (h : ErAt K tb F e cls d) : ErAt K tb F' e cls d := by
  obtain ⟨C, fo, dd, fs, h1, h2, h3, h4, h5, h6⟩ := h
  refine ⟨C, fo, dd, fs, h1, h2, h3, x _ _ h4, h5, ?_⟩
  cases fo with
  | none => exact h6
  | some f =>
    obtain ⟨v, y, a, b, c⟩ := h6
    exact ⟨v, y, a, b, (rD K).mono x c⟩
/-- the wish of what is raised -/
def eB (K : PySem.W.Frag) (tb : ETab) (B : Bs) : XK := fun cls d H => ∃ e F, B.E0 e ∧ Fn (B.at B.F) F H ∧ ErAt K tb F e cls d
abbrev wB (K : PySem.W.Frag) (tb : ETab) (B : Bs) : WX := fun cls d _ H => eB K tb B cls d H
theorem Fn.low {B : Bs} {F H : Hp} (s : Fn B F H) : Fn (B.at B.F) F H := ⟨s.fh, s.bf, s.bf, s.bb, s.ios, s.keep⟩
/-- behind a call that raised: the caller's base -/
theorem Sit.backE {B : Bs} {F F' H H' : Hp} {σ : L2.St} {env : Env} {os osf : Os} (S : Sit B F H σ env os) (ho : OsLe os osf) (fn : Fn (bs0 F H osf) F' H') : Fn (B.at B.F) F' H' := by
  have e : Ex F F' := fn.bf
  have apart : ∀ a, (∀ p ∈ osf, p.1 ≠ a) → a ∉ osf.map (·.1) := fun a h hm => by
    obtain ⟨p, hp, ep⟩ := List.mem_map.mp hm
    exact h p hp ep
  refine ⟨fn.fh, S.fin.bf.trans e, S.fin.bf.trans e, S.fin.bb, fun a ha => ?_, fun a o h1 h2 h3 => ?_⟩
  · obtain ⟨o, hoa⟩ := S.fin.ios a ha
    by_cases hm : a ∈ osf.map (·.1)
    · exact fn.ios a hm
    · cases ef : F a with
      | none => exact ⟨o, (fn.keep a o ef hoa hm).1⟩
      | some u => exact ⟨u, fn.fh a u (e a u ef)⟩
  · obtain ⟨k1, k2⟩ := S.fin.keep a o h1 h2 h3
    refine fn.keep a o k2 k1 (apart a fun p hp ep => ?_)
    rcases (S.ow p (ho p hp)).2.2 with q | q
    · rw [ep, h2] at q
      cases q
    · exact h3 (ep ▸ q)
/-- a def's promise that may raise -/
def spX (K : PySem.W.Frag) (tb : ETab) {ι ρ : Type} (args : ι → Env) (os : ι → Os) (w : ι → W ρ) (ro : Rp ρ) : Sp := fun vs H Q E => ∃ (i : ι) (F : Hp) (P : ρ → Prop) (PE : Er → Prop), Ex F H ∧ EnvOk F (args i) (vs.map some) ∧ (∀ p ∈ os i, F p.1 = none ∧ ∃ o, H p.1 = some o ∧ p.2.ok F o) ∧ ((os i).map (·.1)).Nodup ∧
  w i P PE ∧ (∀ x, P x → ∀ v F' H', Fn (bs0 F H (os i)) F' H' → OsOk (bs0 F H (os i)) F' H' (os i) → ro.ok F' v x → Q v H') ∧ ∀ e, PE e → ∀ cls d F' H', Fn (bs0 F H (os i)) F' H' → ErAt K tb F' e cls d → E cls d H'
section
variable {P : Program} {w : World} {K : PySem.W.Frag} {tb : ETab} {mg : Str → Option Value} {base : Heap} {k : Nat} {f : Addr} {fd : FuncData} {ps N : List Str} {ι ρ : Type} {args : ι → Env} {os : ι → Os} {wf : ι → W ρ} {ro : Rp ρ}
theorem spX_len (hl : ∀ i, (args i).length = ps.length) : ∀ vs H Q E, spX K tb args os wf ro vs H Q E → vs.length = ps.length := fun vs H Q E ⟨i, F, P, PE, _, he, _⟩ => by
  have := he.len
  rw [List.length_map, hl i] at this
  exact this.symm
theorem okX {x qual : Str} {st : Stmt} (F : Fun K x qual st f fd) (S : FnScope N ps (defScope st)) (hl : ∀ i, (args i).length = ps.length)
    (body : ∀ (cdv : Value) (A : Around) (outer : List PySem.Env) (s : Shared) (H : Hp) (E : XK) (B : Bs) (i : ι), Room k (A.deeper (envOfC qual (defScope st) s.heap.objs.size f cdv)) →
      Takes (cxOf (L2.CX P w) P w K mg base N qual (defScope st) f cdv A outer s H E) (wB K tb B) → PassesOwn (model P w) (A.deeper (envOfC qual (defScope st) s.heap.objs.size f cdv)) (envOfC qual (defScope st) s.heap.objs.size f cdv) (cxOf (L2.CX P w) P w K mg base N qual (defScope st) f cdv A outer s H E).xe →
      BG (cxOf (L2.CX P w) P w K mg base N qual (defScope st) f cdv A outer s H E) B (entry (args i) (N.length - ps.length)) (os i) (defBody st) (pFn B (os i) ro) (wf i)) : FnOk P w K mg base (L2.CX P w) (k + 1) f fd ps (spX K tb args os wf ro) := by
  refine F.okX S (spX_len hl) fun cdv A outer s H vs Q E hr hsp => ?_
  have hvl := spX_len hl vs H Q E hsp
  obtain ⟨i, F0, P0, PE, fh, he, ho, nd, hw, hk, hx⟩ := hsp
  refine ⟨_, body cdv A outer s H E { bs0 F0 H (os i) with E0 := PE } i hr ((takes_of rfl rfl rfl rfl).imp fun cls d σ H' ⟨e, F', h1, h2, h3⟩ => hx e h1 cls d F' H' ⟨h2.fh, h2.bf, h2.mrk, h2.bb, h2.ios, h2.keep⟩ h3) (passes_of rfl),
    F0, P0, ⟨?_, ?_, fun p hp => ?_, nd⟩, hw, fun y hy => ⟨fun v F' H' fn ow ok => hk y hy v F' H' ⟨fn.fh, fn.bf, fn.mrk, fn.bb, fn.ios, fn.keep⟩ ow ok, fun σ F' H' fn ow ok => hk y hy .non F' H' ⟨fn.fh, fn.bf, fn.mrk, fn.bb, fn.ios, fn.keep⟩ ow ok⟩⟩
  · have z := bs0_start fh ho
    exact ⟨z.fh, z.bf, z.mrk, z.bb, z.ios, z.keep⟩
  · rw [← hvl]
    exact entry_ok he
  · obtain ⟨h1, o, h2, h3⟩ := ho p hp
    exact ⟨h1, ⟨o, h2, h3⟩, .inr (List.mem_map_of_mem hp)⟩
end
section
variable {X : Cx} {B : Bs} {env : Env} {os : Os} {tb : ETab} {pos p pos2 : Pos} {α β ι ρ : Type} {r : Rp α} {args : ι → Env} {osf : ι → Os} {wf : ι → W ρ} {ro : Rp ρ} {e : Expr} {es : List Expr} {rest : List Stmt} {post : Post β} {x : Str} {k : Nat} {f C : Addr} {fd : FuncData} {ps : List Str}
/-- f(e, ..), f a def that may raise -/
theorem passB (tk : Takes X (wB X.K tb B)) : Passes (L2.CX X.prog X.w) X (eB X.K tb B) := passes_call tk fun _ _ _ _ h => h
end
def spIX (K : PySem.W.Frag) (tb : ETab) {ι ρ : Type} (C : Addr) (args : ι → Env) (w : ι → W ρ) (fl : ρ → List (Str × Slot)) : Sp := fun vs H Q E => ∃ (i : ι) (F : Hp) (P : ρ → Prop) (PE : Er → Prop) (x dx : Addr) (us : List V), vs = .ref x :: us ∧ Ex F H ∧ F x = none ∧ H x = some (.ins C dx []) ∧ EnvOk F (args i) (us.map some) ∧
  w i P PE ∧ (∀ r, P r → ∀ F' H', Fn (bs0 F H [(x, oObj C [])]) F' H' → OsOk (bs0 F H [(x, oObj C [])]) F' H' [(x, oObj C (fl r))] → Q .non H') ∧ ∀ e, PE e → ∀ cls d F' H', Fn (bs0 F H [(x, oObj C [])]) F' H' → ErAt K tb F' e cls d → E cls d H'
section
variable {P : Program} {w : World} {K : PySem.W.Frag} {tb : ETab} {mg : Str → Option Value} {base : Heap} {k : Nat} {f C : Addr} {fd : FuncData} {ps N : List Str} {ι ρ α : Type} {r : Rp α} {args : ι → Env} {wf : ι → W ρ} {wl : List α → W ρ} {fl : ρ → List (Str × Slot)}
/-- the body of such a def -/
theorem bodyIX {A : Around} {outer : List PySem.Env} {s : Shared} {H : Hp} {E : XK} {Q : VK} {vs : List V} {qual : Str} {sc : Scope} {cdv : Value} {blk : List Stmt} (hl : ∀ i, (args i).length + 1 = ps.length) (hsp : spIX K tb C args wf fl vs H Q E)
    (body : ∀ (B : Bs) (a : Addr) (i : ι), Takes (cxOf (L2.CX P w) P w K mg base N qual sc f cdv A outer s H E) (wB K tb B) →
      BG (cxOf (L2.CX P w) P w K mg base N qual sc f cdv A outer s H E) B (entry (sv (rAdr a) () :: args i) (N.length - ps.length)) [(a, oObj C [])] blk (pIn B C a fl) (wf i)) :
    ∃ t, PSs (cxOf (L2.CX P w) P w K mg base N qual sc f cdv A outer s H E) blk t ∧ t { nx := fun _ H' => Q .non H', rt := Q } (L2.start N vs) H := by
  obtain ⟨i, F0, P0, PE, a, dx, us, ev, fh, fa, ha, he, hw, hk, hx⟩ := hsp
  subst ev
  have ow : ∀ p ∈ ([(a, oObj C [])] : Os), F0 p.1 = none ∧ ∃ o, H p.1 = some o ∧ p.2.ok F0 o := fun p hp => by
    rw [List.mem_singleton.mp hp]
    exact ⟨fa, _, ha, dx, [], rfl, .nil⟩
  have hvl : (V.ref a :: us).length = ps.length := by
    have := he.len
    rw [List.length_map] at this
    rw [List.length_cons, ← this, hl i]
  refine ⟨_, body { bs0 F0 H [(a, oObj C [])] with E0 := PE } a i ((takes_of rfl rfl rfl rfl).imp fun cls d σ H' ⟨e, F', h1, h2, h3⟩ => hx e h1 cls d F' H' ⟨h2.fh, h2.bf, h2.mrk, h2.bb, h2.ios, h2.keep⟩ h3),
    F0, P0, ⟨?_, ?_, fun p hp => ?_, by simp⟩, hw, fun y hy => ⟨fun F' H' fn ow => hk y hy F' H' ⟨fn.fh, fn.bf, fn.mrk, fn.bb, fn.ios, fn.keep⟩ ow, fun σ F' H' fn ow => hk y hy F' H' ⟨fn.fh, fn.bf, fn.mrk, fn.bb, fn.ios, fn.keep⟩ ow⟩⟩
  · have z := bs0_start fh ow
    exact ⟨z.fh, z.bf, z.mrk, z.bb, z.ios, z.keep⟩
  · rw [← hvl]
    exact entry_ok (.cons ⟨_, rfl, rfl⟩ he)
  · obtain ⟨h1, o, h2, h3⟩ := ow p hp
    exact ⟨h1, ⟨o, h2, h3⟩, .inr (List.mem_map_of_mem hp)⟩
end
section
variable {X : Cx} {B : Bs} {env : Env} {os : Os} {tb : ETab} {pos p : Pos} {ρ α : Type} {r : Rp α} {wf : List α → W ρ} {fl : ρ → List (Str × Slot)} {e : Expr} {es : List Expr} {x : Str} {k : Nat} {f C : Addr}
theorem Sit.backEI {F F' H H' : Hp} {σ : L2.St} {x : Addr} {o : Own} (S : Sit B F H σ env ((x, o) :: os)) (hx : B.H x = none) (fn : Fn (bs0 F H [(x, o)]) F' H') : Fn (B.at B.F) F' H' := by
  have e : Ex F F' := fn.bf
  have nin : ∀ a, a ≠ x → a ∉ ([(x, o)] : Os).map (·.1) := fun a h hm => h (by simpa using hm)
  refine ⟨fn.fh, S.fin.bf.trans e, S.fin.bf.trans e, S.fin.bb, fun a ha => ?_, fun a u h1 h2 h3 => ?_⟩
  · obtain ⟨u, hu⟩ := S.fin.ios a ha
    by_cases hax : a = x
    · subst hax
      obtain ⟨q, hq⟩ := fn.ios a (by simp)
      exact ⟨q, hq⟩
    · cases ef : F a with
      | none => exact ⟨u, (fn.keep a u ef hu (nin a hax)).1⟩
      | some q => exact ⟨q, fn.fh a q (e a q ef)⟩
  · obtain ⟨k1, k2⟩ := S.fin.keep a u h1 h2 h3
    refine fn.keep a u k2 k1 (nin a ?_)
    rintro rfl
    rw [hx] at h2
    cases h2
end
end Mi
namespace Mi
open PySem L2 Evl LamX
open PyProof.Rows (envOfC)
def cellHO (c : Addr) (o : Obj) : HO := .ext fun h => h.get? c = some o
def addC (Z : Addr → Option Obj) (H : Hp) : Hp := fun b => match Z b with | some o => some (cellHO b o) | none => H b
def remC (Z : Addr → Option Obj) (H : Hp) : Hp := fun b => match Z b with | some _ => none | none => H b
section
variable {Z : Addr → Option Obj} {F H F' H' : Hp} {P : Program} {w : World} {h h' : Heap} {b : Addr} {o : Obj}
theorem addC_some (e : Z b = some o) : addC Z H b = some (cellHO b o) := by
  unfold addC
  rw [e]
theorem addC_none (e : Z b = none) : addC Z H b = H b := by
  unfold addC
  rw [e]
theorem remC_some (e : Z b = some o) : remC Z H b = none := by
  unfold remC
  rw [e]
theorem remC_none (e : Z b = none) : remC Z H b = H b := by
  unfold remC
  rw [e]
theorem remC_of {u : HO} (e : remC Z H b = some u) : Z b = none ∧ H b = some u := by
  unfold remC at e
  cases q : Z b with
  | none =>
    rw [q] at e
    exact ⟨rfl, e⟩
  | some o =>
    rw [q] at e
    cases e
theorem addC_of {u : HO} (e : addC Z H b = some u) : (Z b = none ∧ H b = some u) ∨ ∃ o, Z b = some o ∧ u = cellHO b o := by
  unfold addC at e
  cases q : Z b with
  | none =>
    rw [q] at e
    exact .inl ⟨rfl, e⟩
  | some o =>
    rw [q] at e
    cases e
    exact .inr ⟨o, rfl, rfl⟩
theorem ex_add (hz : ∀ b o, Z b = some o → F b = none) : Ex F (addC Z F) := fun b u e => by
  cases q : Z b with
  | none => rw [addC_none q]; exact e
  | some o => rw [hz b o q] at e; cases e
theorem ex_addC (e : Ex F F') : Ex (addC Z F) (addC Z F') := fun b u h => by
  rcases addC_of h with ⟨q, z⟩ | ⟨o, q, z⟩
  · rw [addC_none q]; exact e _ _ z
  · rw [addC_some q, z]
theorem ex_remC (e : Ex F F') : Ex (remC Z F) (remC Z F') := fun b u h => by
  obtain ⟨q, z⟩ := remC_of h
  rw [remC_none q]
  exact e _ _ z
theorem hok_add (k : HOk P w H h) (hz : ∀ b o, Z b = some o → h.get? b = some o ∧ H b = none) : HOk P w (addC Z H) h := fun b u e => by
  rcases addC_of e with ⟨q, z⟩ | ⟨o, q, z⟩
  · exact (k b u z).stay (fun _ _ _ y => y) (fun c y => by
      cases qc : Z c with
      | none => rw [addC_none qc]; exact y
      | some o => rw [(hz c o qc).2] at y; cases y) fun c xs y => by
      cases qc : Z c with
      | none => rw [addC_none qc]; exact y
      | some o => rw [(hz c o qc).2] at y; cases y
  · subst z
    exact ⟨(hz b o q).1, ⟨o, (hz b o q).1⟩, fun h1 h2 y st => st _ y⟩
theorem hok_rem (k : HOk P w H h) (hz : ∀ b o, Z b = some o → H b = some (cellHO b o)) : HOk P w (remC Z H) h := fun b u e => by
  obtain ⟨q, z⟩ := remC_of e
  exact (k b u z).stay (fun _ _ _ y => y) (fun c y => by
      cases qc : Z c with
      | none => rw [remC_none qc]; exact y
      | some o => rw [hz c o qc] at y; cases y) fun c xs y => by
      cases qc : Z c with
      | none => rw [remC_none qc]; exact y
      | some o => rw [hz c o qc] at y; cases y
theorem cell_at (k : HOk P w H h) (e : H b = some (cellHO b o)) : h.get? b = some o := by
  have x : ObjOk P w H h b (.ext fun h => h.get? b = some o) := k b _ e
  exact x.1
/-- into the closure's own frame -/
theorem env0_rem {K : PySem.W.Frag} {mg : Str → Option Value} {base : Heap} {A : Around} {outer : List PySem.Env} {s : Shared} (e0 : Env0 P w K mg base A outer s H) (hz : ∀ b o, Z b = some o → H b = some (cellHO b o)) : Env0 P w K mg base A outer s (remC Z H) :=
  ⟨e0.frames, e0.mod, fun b o e => ⟨(e0.bs b o e).1, by
    cases q : Z b with
    | none => rw [remC_none q]; exact (e0.bs b o e).2
    | some o => exact remC_some q⟩, e0.bsz, e0.funs, fun b hb => by
    cases q : Z b with
    | none => rw [remC_none q]; exact e0.frf b hb
    | some o => exact remC_some q, hok_rem e0.hok hz, e0.bare⟩
theorem env0_add {K : PySem.W.Frag} {mg : Str → Option Value} {base : Heap} {A : Around} {outer : List PySem.Env} {s : Shared} (e0 : Env0 P w K mg base A outer s H) (hz : ∀ b o, Z b = some o → s.heap.get? b = some o ∧ H b = none ∧ b ∉ frs outer ∧ base.get? b = none) : Env0 P w K mg base A outer s (addC Z H) :=
  ⟨e0.frames, e0.mod, fun b o e => ⟨(e0.bs b o e).1, by
    cases q : Z b with
    | none => rw [addC_none q]; exact (e0.bs b o e).2
    | some o => rw [(hz b o q).2.2.2] at e; cases e⟩, e0.bsz, e0.funs, fun b hb => by
    cases q : Z b with
    | none => rw [addC_none q]; exact e0.frf b hb
    | some o => exact absurd hb (hz b o q).2.2.1, hok_add e0.hok fun b o q => ⟨(hz b o q).1, (hz b o q).2.1⟩, e0.bare⟩
/-- behind the closure's run: the cells tracked again -/
theorem un_add {fs : List Addr} (un : Un fs [] (remC Z H) H' h h') (hz : ∀ b o, Z b = some o → H b = some (cellHO b o)) : Un fs [] H (addC Z H') h h' := by
  have nZ : ∀ b u, H b = some u → (∀ φ, u ≠ .ext φ) → Z b = none := fun b u e n => by
    cases q : Z b with
    | none => rfl
    | some o =>
      rw [hz b o q] at e
      cases e
      exact absurd rfl (n _)
  have nN : ∀ b, H b = none → Z b = none := fun b e => by
    cases q : Z b with
    | none => rfl
    | some o => rw [hz b o q] at e; cases e
  refine ⟨fun b o q n => un.keep b o q (by rw [remC_none (nN b n)]; exact n), fun b o q n => un.slot b o q (by rw [remC_none (nN b n)]; exact n), fun b o q n hx => ?_, un.there, fun b xs q => ?_, fun b o u q => ?_, fun b ps q => ?_⟩
  · rw [addC_none (nN b n)]
    exact un.free b o q (by rw [remC_none (nN b n)]; exact n) hx
  · have z := nZ b _ q (fun φ z => by cases z)
    rw [addC_none z]
    exact un.tups b xs (by rw [remC_none z]; exact q)
  · have z := nZ b _ q (fun φ z => by cases z)
    rw [addC_none z]
    exact un.frzs b o u (by rw [remC_none z]; exact q)
  · have z := nZ b _ q (fun φ z => by cases z)
    rw [addC_none z]
    exact un.tbls b ps (by rw [remC_none z]; exact q)
/-- behind a call with the cells tracked: they are let go -/
theorem un_rem {fs : List Addr} (un : Un fs [] (addC Z H) H' h h') (hok : HOk P w H' h') (hz : ∀ b o, Z b = some o → h.get? b = some o ∧ H b = none ∧ b ∉ fs) (hk : ∀ b o, Z b = some o → H' b = some (cellHO b o)) : Un fs [] H (remC Z H') h h' := by
  have at_ : ∀ b u, H b = some u → addC Z H b = some u := fun b u e => by
    cases q : Z b with
    | none => rw [addC_none q]; exact e
    | some o => rw [(hz b o q).2.1] at e; cases e
  have out : ∀ b u, H' b = some u → (∀ φ, u ≠ .ext φ) → remC Z H' b = some u := fun b u e n => by
    cases q : Z b with
    | none => rw [remC_none q]; exact e
    | some o =>
      rw [hk b o q] at e
      cases e
      exact absurd rfl (n _)
  refine ⟨fun b o q n hf hx => ?_, fun b o q n hf hx => ?_, fun b o q n hx => ?_, un.there, fun b xs q => out b _ (un.tups b xs (at_ _ _ q)) (fun φ z => by cases z), fun b o u q => out b _ (un.frzs b o u (at_ _ _ q)) (fun φ z => by cases z), fun b ps q => ?_⟩
  · cases z : Z b with
    | none => exact un.keep b o q (by rw [addC_none z]; exact n) hf hx
    | some o' =>
      have e1 := (hz b o' z).1
      rw [q] at e1
      cases e1
      exact cell_at hok (hk b o z)
  · cases z : Z b with
    | none => exact un.slot b o q (by rw [addC_none z]; exact n) hf hx
    | some o' => exact absurd hf (hz b o' z).2.2
  · cases z : Z b with
    | none => rw [remC_none z]; exact un.free b o q (by rw [addC_none z]; exact n) hx
    | some o' => exact remC_some z
  · obtain ⟨m, e⟩ := un.tbls b ps (at_ _ _ q)
    exact ⟨m, out b _ e (fun φ z => by cases z)⟩
theorem cx_add {outer : List PySem.Env} {s s' : Shared} {E E' : XK} {u : Value} (c : L2.CX P w outer (remC Z H) s E u s') (hz : ∀ b o, Z b = some o → H b = some (cellHO b o)) (hok : HOk P w H s.heap) (hfr : ∀ b o, Z b = some o → b ∉ frs outer) (hE : ∀ cls d H', (∀ b o, Z b = some o → H' b = none) → E cls d H' → E' cls d (addC Z H')) : L2.CX P w outer H s E' u s' := by
  obtain ⟨a, B, H', cls, d, rfl, fl, hokB, ub, na, os, ag, hE0⟩ := c
  have nN : ∀ b, H b = none → Z b = none := fun b e => by
    cases q : Z b with
    | none => rfl
    | some o => rw [hz b o q] at e; cases e
  have nZ : ∀ b u, H b = some u → (∀ φ, u ≠ .ext φ) → Z b = none := fun b u e n => by
    cases q : Z b with
    | none => rfl
    | some o =>
      rw [hz b o q] at e
      cases e
      exact absurd rfl (n _)
  have hB : ∀ b o, Z b = some o → B.get? b = some o ∧ H' b = none := fun b o q => by
    have e1 := cell_at hok (hz b o q)
    exact ⟨ub.keep b o e1 (remC_some q) (hfr b o q), ub.free b o e1 (remC_some q)⟩
  refine ⟨a, B, addC Z H', cls, d, rfl, fl, hok_add hokB hB, ⟨fun b o q n hf => ub.keep b o q (by rw [remC_none (nN b n)]; exact n) hf, ub.slot, fun b o q n => by rw [addC_none (nN b n)]; exact ub.free b o q (by rw [remC_none (nN b n)]; exact n), ub.there, fun b xs q => ?_, fun b o u q => ?_, fun b ps q => ?_⟩, ?_, os, ag, hE _ _ _ (fun b o q => (hB b o q).2) hE0⟩
  · have z := nZ b _ q (fun φ z => by cases z)
    rw [addC_none z]
    exact ub.tups b xs (by rw [remC_none z]; exact q)
  · have z := nZ b _ q (fun φ z => by cases z)
    rw [addC_none z]
    exact ub.frzs b o u (by rw [remC_none z]; exact q)
  · have z := nZ b _ q (fun φ z => by cases z)
    rw [addC_none z]
    exact ub.tbls b ps (by rw [remC_none z]; exact q)
  · have hza : Z a = none := by
      cases q : Z a with
      | none => rfl
      | some o =>
        have e1 := (hB a o q).1
        rw [fl.2.1] at e1
        cases e1
    rw [addC_none hza]
    exact na
end
end Mi
namespace Mi
open PySem L2 Evl LamX
open PyProof.Rows (envOfC)
/-- a lambda's names: ps its parameters; else captured ones and globals -/
structure LamS2 (sc scope : Scope) (ps : List Str) : Prop where
  kind : scope.kind = .function
  co : scope.isCoroutine = false
  gen : scope.isGenerator = false
  nocell : ∀ y ∈ scope.names, y.2 ≠ .cell
  loc : ∀ y ∈ scope.names, y.2 = .local → y.1 ∈ ps
  par : ∀ y ∈ ps, scope.names.lookup y = some .local
  free : ∀ y ∈ scope.names, y.2 = .free → sc.names.lookup y.1 = some .cell ∨ sc.names.lookup y.1 = some .free
def lamS2B (sc scope : Scope) (ps : List Str) : Bool :=
  decide (scope.kind = .function) && !scope.isCoroutine && !scope.isGenerator && scope.names.all (fun y => !decide (y.2 = .cell)) && scope.names.all (fun y => !decide (y.2 = .local) || decide (y.1 ∈ ps)) && ps.all (fun y => decide (scope.names.lookup y = some .local)) &&
    scope.names.all (fun y => !decide (y.2 = .free) || decide (sc.names.lookup y.1 = some .cell) || decide (sc.names.lookup y.1 = some .free))
theorem lamS2_by {sc scope : Scope} {ps : List Str} (h : lamS2B sc scope ps = true) : LamS2 sc scope ps := by
  unfold lamS2B at h
  simp only [Bool.and_eq_true, Bool.or_eq_true, Bool.not_eq_true', decide_eq_true_eq, decide_eq_false_iff_not, List.all_eq_true] at h
  obtain ⟨⟨⟨⟨⟨⟨h1, h2⟩, h3⟩, h4⟩, h5⟩, h6⟩, h7⟩ := h
  refine ⟨h1, h2, h3, h4, fun y hy e => (h5 y hy).elim (fun z => absurd e z) id, h6, fun y hy e => ?_⟩
  rcases h7 y hy with (z | z) | z
  · exact absurd e z
  · exact .inl z
  · exact .inr z
theorem LamS2.has {X : Cx} {scope : Scope} {ps : List Str} (L : LamS2 X.env.scope scope ps) (ok : X.Ok) : ∀ y ∈ scope.names, y.2 = .free → ∃ c, X.env.cells.lookup y.1 = some c := fun y hy e => by
  rcases L.free y hy e with k | k
  · exact ok.has _ (.inl k)
  · exact ok.has _ (.inr k)
section
variable {X : Cx} {pins : List (Addr × Obj)} {σ : L2.St} {H HZ : Hp} {s s1 : Shared}
/-- the state at the entry of a lambda's frame -/
theorem lam_inv {A : Around} {outer : List PySem.Env} {E : XK} {scope : Scope} {f c' : Addr} {h₁ : Heap} {tk : Nat} {ps : List Str} {us : List Value} (ok : X.Ok) (L : LamS2 X.env.scope scope ps) (e0 : Env0 X.prog X.w X.K X.mg X.base A outer s1 HZ) (hd : A.handled = none)
    (hns : h₁.Ns s1.heap.objs.size fun y => (ps.zip us).reverse.lookup y) (kp : ∀ b o, s1.heap.get? b = some o → h₁.get? b = some o)
    (hc : ∀ y c, X.env.cells.lookup y = some c → HZ c = none ∧ ∃ v, s1.heap.IsCell c v)
    (hl : ∀ (i : Nat) (y : Str) (v : V), X.N[i]? = some y → σ[i]? = some (some v) → Vis scope y → scope.names.lookup y = some .free ∧ ∃ c u, X.env.cells.lookup y = some c ∧ RelV v u ∧ s1.heap.IsCell c (some u)) (hlen : σ.length = X.N.length) :
    Inv (lamCx X A outer s1 HZ E scope f c') [] σ HZ { s1 with heap := h₁, toks := tk } := by
  have hfree := L.has ok
  have cm : ∀ {y c}, (cloFrom X.env.cells scope.names []).lookup y = some c → X.env.cells.lookup y = some c := fun {y c} e => by
    rcases cloFrom_mem (PySem.mem_of_lookup e) with hm | ⟨h1, h2⟩
    · cases hm
    · obtain ⟨c1, hc⟩ := hfree _ h1 rfl
      have hc : X.env.cells.lookup y = some c1 := hc
      have e2 : c = c1 := by
        rw [h2, hc] <;> rfl
      rw [e2]
      exact hc
  have look : ∀ {y}, scope.names.lookup y = some .free → ∃ c, (cloFrom X.env.cells scope.names []).lookup y = some c := fun {y} hl => by
    have hy : (y, NameKind.free) ∈ scope.names := PySem.mem_of_lookup hl
    exact mem_lookup (cloFrom_has (cells := X.env.cells) (acc := []) hy)
  have cellK : ∀ {c : Addr} {v : Option Value}, s1.heap.IsCell c v → h₁.IsCell c v := fun {c v} ⟨o, ho, hd⟩ => ⟨_, kp _ _ ho, hd⟩
  have noA : ∀ b : Addr, b ∉ (lamCx X A outer s1 HZ E scope f c').ex := fun b z => absurd (show b ∈ ([] : List Addr) from z) (by simp)
  refine ⟨⟨e0.mod, L.kind, rfl, rfl, Nat.le_refl _, fun y z c e1 e2 => ok.inj y z c (cm e1) (cm e2), fun y hy => ?_, fun y c z _ => ?_, fun _ => hd, Around.frames_deeper e0.frames, .inr ⟨rfl, rfl⟩, fun b z => absurd z (noA b), e0.bs, e0.bsz, fun b _ _ => noA b,
      fun b z => absurd z (noA b), e0.funs, e0.frf⟩,
    rfl, e0.bare, Un.kept kp, ⟨_, hns, fun i y v e1 e2 e3 => ?_⟩, fun y c e => ?_, e0.hok.fresh (Nat.le_refl _), fun y c e => (hc y c (cm e)).1, fun q hq => absurd (show q ∈ ([] : List (Addr × Obj)) ++ [] from hq) (by simp), e0.hok.kept kp, hlen⟩
  · have hy : scope.names.lookup y = some .cell ∨ scope.names.lookup y = some .free := hy
    rcases hy with hy | hy
    · exact absurd rfl (L.nocell _ (PySem.mem_of_lookup hy))
    · exact look hy
  · have z : false = true := z
    cases z
  · obtain ⟨k, c, u, h1, h2, h3⟩ := hl i y v e1 e2 e3
    obtain ⟨c2, hc2⟩ := look k
    have := cm hc2
    rw [h1] at this
    cases this
    exact ⟨u, h2, .inr ⟨.inr k, c, hc2, cellK h3⟩⟩
  · obtain ⟨v, z⟩ := (hc y c (cm e)).2
    exact ⟨v, cellK z⟩
end
open Classical in
noncomputable def cellZ (X : Cx) (h : Heap) : Addr → Option Obj := fun b => if ∃ y, X.env.cells.lookup y = some b then h.get? b else none
theorem cellZ_of {X : Cx} {h : Heap} {b : Addr} {o : Obj} (e : cellZ X h b = some o) : (∃ y, X.env.cells.lookup y = some b) ∧ h.get? b = some o := by
  unfold cellZ at e
  split at e
  · rename_i q
    exact ⟨q, e⟩
  · cases e
theorem cellZ_at {X : Cx} {h : Heap} {y : Str} {c : Addr} (e : X.env.cells.lookup y = some c) : cellZ X h c = h.get? c := by
  unfold cellZ
  rw [if_pos ⟨y, e⟩]
/-- how its parameters are bound: none, or one by its default -/
def LamBind (D : LamD) (df : Bool) (ps : List Str) : Prop :=
  if df then ps.length = 1 ∧ ∀ (td : Addr) (pm cv ct : Value), ∃ k, bindArgs (PySem.W.lmFn D.q D.params D.body D.scope D.cl (.ref td) pm cv ct) ⟨[], []⟩ = seqItems? (.ref td) >>= k ∧ ∀ u, k (some #[u]) = pure (ps.zip [u])
  else ps = [] ∧ ∀ (pm cv ct : Value), bindArgs (PySem.W.lmFn D.q D.params D.body D.scope D.cl .none pm cv ct) ⟨[], []⟩ = pure []
theorem wipe_none {σ : L2.St} {vs : List Nat} {i : Nat} {v : V} (h : (wipe σ vs)[i]? = some (some v)) : i ∉ vs ∧ σ[i]? = some (some v) := by
  induction vs with
  | nil => exact ⟨by simp, h⟩
  | cons a vs ih =>
    have h' : ((wipe σ vs).set a none)[i]? = some (some v) := h
    rw [List.getElem?_set] at h'
    split at h'
    · split at h' <;> cases h'
    · rename_i hne
      obtain ⟨h1, h2⟩ := ih h'
      exact ⟨fun z => by
        rcases List.mem_cons.mp z with e | e
        · exact hne e.symm
        · exact h1 e, h2⟩
theorem wipe_len {σ : L2.St} : ∀ vs : List Nat, (wipe σ vs).length = σ.length
  | [] => rfl
  | a :: vs => by
    show ((wipe σ vs).set a none).length = _
    rw [List.length_set, wipe_len vs]
/-- what stands for x leans on no object that is told by what is true of it -/
def PlR {α : Type} (r : Rp α) : Prop := ∀ (F F' : Hp) (v : V) (x : α), (∀ a o, F a = some o → (∀ φ, o ≠ .ext φ) → F' a = some o) → r.ok F v x → r.ok F' v x
theorem pl_int : PlR rInt := fun _ _ _ _ _ h => h
theorem pl_str : PlR rStr := fun _ _ _ _ _ h => h
section
variable {α β : Type} {r : Rp α} {s : Rp β} {K : PySem.W.Frag}
theorem pl_lst (h : PlR r) : PlR (rLst r) := fun F F' v x e ⟨a, vs, h1, h2, h3, h4⟩ => ⟨a, vs, h1, e _ _ h2 (fun φ z => by cases z), h3, Paired.imp (fun _ _ q => h F F' _ _ e q) h4⟩
theorem sqt_pl {F F' : Hp} {a : Addr} {vs : List V} (e : ∀ a o, F a = some o → (∀ φ, o ≠ .ext φ) → F' a = some o) (h : SqT K F a vs) : SqT K F' a vs := by
  rcases h with (h | ⟨o, h⟩) | h
  · exact .inl (.inl (e _ _ h (fun φ z => by cases z)))
  · exact .inl (.inr ⟨o, e _ _ h (fun φ z => by cases z)⟩)
  · exact .inr h
theorem sql_pl {F F' : Hp} {a : Addr} {vs : List V} (e : ∀ a o, F a = some o → (∀ φ, o ≠ .ext φ) → F' a = some o) (h : SqL K F a vs) : SqL K F' a vs := by
  rcases h with (h | ⟨o, h⟩) | h
  · exact .inl (.inl (e _ _ h (fun φ z => by cases z)))
  · exact .inl (.inr ⟨o, e _ _ h (fun φ z => by cases z)⟩)
  · exact .inr h
theorem pl_t2 (h : PlR r) (k : PlR s) : PlR (rT2 K r s) := fun F F' v x e ⟨a, v1, v2, h1, h2, h3, h4⟩ => ⟨a, v1, v2, h1, sqt_pl e h2, h _ _ _ _ e h3, k _ _ _ _ e h4⟩
theorem pl_D : PlR (rD K) := fun F F' v d e ⟨h, hc⟩ => ⟨by
  refine (show ∀ {v d}, Dp K F v d → Dp K F' v d from ?_) h
  intro v d h
  exact Dp.rec (K := K) (H := F) (motive_1 := fun v d _ => Dp K F' v d) (motive_2 := fun vs ds _ => DpAll K F' vs ds) .non .bl .int .str (fun h1 _ ih => .lst (sql_pl e h1) ih) (fun h1 _ ih => .tup (sqt_pl e h1) ih) .nil (fun _ _ i1 i2 => .cons i1 i2) h, hc⟩
end
end Mi
namespace Mi
open PySem L2 Evl
open PyProof.Rows (envOfC)
theorem flyingZ_keeps {B h h' : Heap} {l : List PySem.Env} {a : Addr} {Z : Obj → Prop} (R : HandSPX.FlyingZ B l a Z h) (k : ∀ b o, h.get? b = some o → h'.get? b = some o) : HandSPX.FlyingZ B l a Z h' := by
  obtain ⟨f1, f2, f3, oe, ws, T, oT, ts, he, hc, hd, h1, hn, hne, hT, hdT, h3⟩ := R
  exact ⟨fun b o q => k b o (f1 b o q), f2, f3.of_keeps fun b o q _ => ⟨o, k b o q, rfl⟩, oe, ws, T, oT, ts, k _ _ he, hc, hd, h1, hn, hne, k _ _ hT, hdT, h3⟩
/-- what the clause 'except (x1, x2) as n' wishes, where it takes all that comes -/
def wTup (K : PySem.W.Frag) (c1 c2 : Value) (i : Nat) (ts : Addr → Obj → Value → Option Addr → TS) (D : Ends) : WX := fun cls d σ H =>
  PySem.W.exmAny K cls [c1, c2] = some true ∧ ∀ a oe, H a = none → Zc cls d oe → (∃ vs, oe.data = .fields vs) → ts a oe cls d { nx := fun σ' H' => D.nx (σ'.set i none) H', rt := D.rt, bk := fun σ' H' => D.bk (σ'.set i none) H', ct := fun σ' H' => D.ct (σ'.set i none) H' } (σ.set i (some (.ref a))) H
section
variable {X : Cx} {x1 x2 n : Str} {c1 c2 : Value} {i kk : Nat} {body suite : List Stmt} {b₀ : Stmt} {np1 np2 tp pos pos' : Pos} {tb : WX → TS} {ts : Addr → Obj → Value → Option Addr → TS} {hds : List ExceptHandler}
theorem ps_try_tup2 (hs : X.stack = X.env :: X.outer) (hf : X.env.frame = some X.env.locals) (hN : X.N.Nodup) (hi : X.N[i]? = some n) (hln : X.env.kindOf n = some .local) (hc1 : Names X x1 c1) (hc2 : Names X x2 c2)
    (hb : ∀ (W : WX) (pn : List (Addr × Obj)) (xe : Value → Shared → Prop), Takes (X.tr pn xe) W → PassesOwn (model X.prog X.w) X.A X.env xe → PSs (X.tr pn xe) body (tb W))
    (hsu : ∀ (a : Addr) (oe : Obj) (cls : Value) (d : Option Addr) (pn : List (Addr × Obj)), Zc cls d oe → (∃ vs, oe.data = .fields vs) → PSs (X.suite a ((a, oe) :: pn)) (b₀ :: suite) (ts a oe cls d)) :
    PS X (.Try body (.ExceptHandler (some (.Tuple [.Name x1 np1, .Name x2 np2] kk tp)) (some n) (b₀ :: suite) pos' :: hds) [] [] pos) (fun D σ H => tb (wTup X.K c1 c2 i ts D) D σ H) := by
  refine ⟨fun pins s σ H D I h => ?_⟩
  have ok := I.ok
  have hfr : X.A.frames = some (X.env :: X.outer) := by rw [ok.frames, hs]
  have hloc : Loc X.env.scope n := .inl hln
  refine wpAny_Try_except ?_
  refine wpAny_mono ((hb (wTup X.K c1 c2 i ts D) (X.pn ++ pins) (fun e s₁ => wpAny (model X.prog X.w) X.A (noteFrame e X.env) (fun _ s₂ => wpAny (model X.prog X.w) X.A (setFlight e none) (fun _ s₃ =>
    wpAny (model X.prog X.w) X.A (handleBy e X.env (.ExceptHandler (some (.Tuple [.Name x1 np1, .Name x2 np2] kk tp)) (some n) (b₀ :: suite) pos' :: hds)) (SP X pins D) X.xe s₃) X.xe s₂) X.xe s₁) (fun u s' xx => ?_) PassesOwn.looking).run [] s σ H D (I.toTry _) h) (fun f s1 hsp => ?_) (fun e s1 he => he)
  · -- the catch
    obtain ⟨a, B, sI, pins', σ', H', cls, d, rfl, J', nb, up, sky, na, os, ag, hb1, hyes⟩ := xx
    have J : Inv X pins σ' H' sI := J'.ofTry ok
    have sky' : Sky B (X.env :: X.outer) a (Zc cls d) X.env.locals s'.heap := by rw [← hs]; exact sky
    show wpAny (model X.prog X.w) X.A (noteFrame (.ref a) X.env) _ _ _
    refine Sky.land Zc.steady hfr hf sky' fun h3 fl3 up3 => ?_
    have J3 : Inv X pins σ' H' { s' with heap := h3 } := J.landed nb fl3.1 (up.trans up3) os ag
    obtain ⟨oe3, vs3, he3, hz3, hd3⟩ := fl3.there
    have notFr : ∀ {h : Heap} {o : Obj} {vs : Array Value}, h.FunFrames B (X.env :: X.outer) → h.get? a = some o → o.data = .fields vs → a ∉ frs (X.env :: X.outer) := fun {h o vs} ff e dd hm => by
      obtain ⟨_, o', e', hnf⟩ := ff.mem hm
      rw [e] at e'; cases e'
      exact hnf _ dd
    have nfr := notFr fl3.2.2.1 he3 hd3
    have nL : a ≠ X.env.locals := fun z => nfr (List.mem_filterMap.mpr ⟨X.env, List.mem_cons_self, by rw [hf, z]⟩)
    have nF : a ∉ X.fs := fun hm => by
      obtain ⟨e, he, q⟩ := List.mem_filterMap.mp hm
      exact nfr (List.mem_filterMap.mpr ⟨e, List.mem_cons_of_mem _ he, q⟩)
    have S3 := J3.suite he3 hd3 na nL nF
    refine wpAny_handleBy_cons (codeAny_handlers_test ?_) (by intro q; cases q)
    have LT : PySem.W.Looks (model X.prog X.w) h3 (typeOf (.ref a)) cls := fun A Q E s k q => wpAny_typeOf_ref (k _ _ he3) (by rw [hz3.1]; exact q)
    have test : ∀ {x : Str} {c : Value} {np : Pos} {Q : Value → Shared → Prop} {E : Value → Shared → Prop}, Names X x c → Q c { s' with heap := h3 } → wpAny (model X.prog X.w) (X.A.mark (some (.ref a))) (eval (.Name x np) X.env) Q E { s' with heap := h3 } := fun {x c np Q E} hc q => by
      obtain ⟨hg, hdbg, hm | ⟨hm, hv, hnn⟩⟩ := hc
      · exact ld_glob (X := X.suite a ((a, oe3) :: (X.pn ++ pins))) S3 hg hm q hdbg
      · exact ld_blt (X := X.suite a ((a, oe3) :: (X.pn ++ pins))) S3 hg hm hv q hnn hdbg
    refine wpAny_Tuple ?_
    refine wpAny_items_cons (test hc1 ?_)
    refine wpAny_items_cons (test hc2 ?_)
    refine wpAny_items_nil ⟨by size_fits, ?_⟩
    have kp : ∀ q o, h3.get? q = some o → (h3.push { cls := .type "tuple", data := .seq [c1, c2].toArray }).get? q = some o := fun _ _ z => Heap.get?_push_of_some _ z
    have LM := PySem.W.exm_tup2 (M := model X.prog X.w) (J3.kIn.keeps kp) (LT.keeps kp) (Heap.get?_push_size h3 rfl) hb1
    refine LM.here ?_
    have fl3' := flyingZ_keeps fl3 kp
    have up3' := up3.trans (Heap.UpToSlots.of_keeps kp)
    refine codeAny_handlers_suite_as ?_
    refine HandSPX.lands_againZ (s := { s' with heap := h3.push { cls := .type "tuple", data := .seq [c1, c2].toArray } }) fl3' fun h4 fl4 up4 => ?_
    have J4 : Inv X pins σ' H' { s' with heap := h4 } := J.landed nb fl4.1 ((up.trans up3').trans up4) os ag
    obtain ⟨oe4, vs4, he4, hz4, hd4⟩ := fl4.there
    have S4 := J4.suite he4 hd4 na nL nF
    refine store_ok (X := X.suite a ((a, oe4) :: (X.pn ++ pins))) (v := .ref a) S4 hN hi hloc rfl (fun s5 S5 => ?_) (.inr hln)
    refine wpAny_mono ((hsu a oe4 cls d (X.pn ++ pins) hz4 ⟨_, hd4⟩).run [] s5 _ H' _ S5 (hyes a oe4 na hz4 ⟨_, hd4⟩)) (fun f s6 hsp => ?_) (fun _ _ z => False.elim z)
    have end_ : ∀ {σ6 : L2.St} {H6 : Hp} {Q : Shared → Prop}, Inv (X.suite a ((a, oe4) :: (X.pn ++ pins))) [] σ6 H6 s6 → (∀ s7, Inv X pins (σ6.set i none) H6 s7 → Q s7) →
        wpAny (model X.prog X.w) X.A (do bindName X.env n .none; unbindBehindTheSuite X.env n pos') (fun _ s7 => Q s7) X.xe s6 := fun {σ6 H6 Q} S6 hq => gone_ok (S6.unsuite ok) hN hi hln hq
    cases f with
    | next =>
      obtain ⟨σ6, H6, S6, q6⟩ := hsp
      exact end_ S6 fun s7 J7 => ⟨_, _, J7, q6⟩
    | brk =>
      obtain ⟨σ6, H6, S6, q6⟩ := hsp
      exact end_ S6 fun s7 J7 => ⟨_, _, J7, q6⟩
    | cont =>
      obtain ⟨σ6, H6, S6, q6⟩ := hsp
      exact end_ S6 fun s7 J7 => ⟨_, _, J7, q6⟩
    | ret u =>
      obtain ⟨v6, σ6, H6, S6, r6, q6⟩ := hsp
      exact end_ S6 fun s7 J7 => ⟨_, _, _, J7, r6, q6⟩
  · cases f with
    | next =>
      obtain ⟨σ', H', J', q⟩ := hsp
      exact wpAny_execs_nil ⟨σ', H', J'.ofTry ok, q⟩
    | brk =>
      obtain ⟨σ', H', J', q⟩ := hsp
      exact ⟨σ', H', J'.ofTry ok, q⟩
    | cont =>
      obtain ⟨σ', H', J', q⟩ := hsp
      exact ⟨σ', H', J'.ofTry ok, q⟩
    | ret u =>
      obtain ⟨v, σ', H', J', r, q⟩ := hsp
      exact ⟨v, σ', H', J'.ofTry ok, r, q⟩
end
end Mi
namespace Mi
open PySem L2 Evl
open PyProof.Rows (envOfC)
section
variable {X : Cx} {B : Bs} {env : Env} {os : Os} {pos : Pos} {α β : Type} {r : Rp α} {a b : Expr} {es : List Expr}
/-- (e, ..) of one kind -/
theorem e_tupL {w : W (List α)} {kk : Nat} (h : AL X B env os es r w) (hz : es.length ≤ sizeLine := by decide) : EE X B env os (.Tuple es kk pos) (rTup X.K r) w := PE.imp (pe_tup h) fun σ H Q ⟨F, P, S, hw, k⟩ => ⟨F, P, S, hw, fun xs hx vs F' H' S' e' ok hl =>
  ⟨by rw [hl]; exact hz, fun p hp => by
    have g : Grow F' H' (upd F' p (.tup vs)) (upd H' p (.tup vs)) := Grow.alloc S'.fh hp
    exact k xs hx (.ref p) _ _ (S'.grow g) (e'.trans g.f) ⟨p, vs, rfl, SqT.of upd_same, by rw [hl]; exact hz, Paired.imp (fun _ _ => r.mono g.f) ok⟩⟩⟩
/-- in a tuple, a list of texts or numbers -/
theorem inV_str (x : Str) (ys : List Str) : inV (.str x) (ys.map V.str) = decide (x ∈ ys) := by
  induction ys with
  | nil => rfl
  | cons y ys ih =>
    unfold inV at ih ⊢
    rw [List.map_cons, List.any_cons, ih]
    show ((y == x) || _) = _
    rw [Bool.eq_iff_iff, Bool.or_eq_true, beq_iff_eq, decide_eq_true_eq, decide_eq_true_eq, List.mem_cons]
    exact ⟨fun h => h.elim (fun e => .inl e.symm) .inr, fun h => h.elim (fun e => .inl e.symm) .inr⟩
theorem strs_map {F : Hp} : ∀ {vs : List V} {xs : List Str}, Paired (rStr.ok F) vs xs → vs = xs.map V.str
  | _, _, .nil => rfl
  | _, _, .cons h t => by
    rw [List.map_cons, ← strs_map t, h.1]
theorem sem_inST {K : PySem.W.Frag} : R2T (rIn K false) rStr (rTup K rStr) rBool (fun x ys => ret (decide (x ∈ ys))) := fun F H v u x ys P E Q fh o1 ⟨p, vs, e1, h1, h2, h3⟩ hw k => by
  have e := strs_map h3
  subst e
  refine ⟨p, _, e1, .inr (ex_t fh h1), by rw [o1.1]; rfl, by simp [flatV], ?_⟩
  show Q (.bl (inV v (ys.map V.str))) H
  rw [o1.1, inV_str]
  exact k _ hw _ F H (Grow.refl fh) rfl
theorem t_inST {w1 : W Str} {w2 : Str → W (List Str)} (ha : EE X B env os a rStr w1) (hb : ∀ x, EE X B env os b (rTup X.K rStr) (w2 x)) (hm : behindInMarks .In b = false := by rfl) : ET X B env os (.Compare a [.In] [b] pos) (bnd w1 fun x => bnd (w2 x) fun y => ret (decide (x ∈ y))) := t_cmp op_in_seq sem_inST hm ha hb
end
/-- the exception at p, pinned while it is handled -/
def rExc (K : PySem.W.Frag) (tb : ETab) (p : Addr × Obj) : Rp Er := ⟨fun F v e => v = .ref p.1 ∧ (∃ vs, p.2.data = .fields vs) ∧ ∃ cls d, Zc cls d p.2 ∧ ErAt K tb F e cls d, fun x ⟨h1, h2, cls, d, h3, h4⟩ => ⟨h1, h2, cls, d, h3, h4.mono x⟩⟩
abbrev FTab := List (String × Option Str)
structure TbOk (K : PySem.W.Frag) (tb : ETab) (ft : FTab) : Prop where
  xf : ∀ t ∈ tb, XfC K t.2.1
  nc : ∀ t ∈ tb, PySem.W.findIn K (.ref t.2.1) "code" = some none
  nf : ∀ t ∈ tb, ∀ f, t.2.2 = some f → PySem.W.findIn K (.ref t.2.1) f = some none
  st : ∀ t ∈ tb, (Str.ofString t.1).length ≤ sizeLine ∧ PyData.strOk (Str.ofString t.1) = true
  ft : ∀ t ∈ tb, ft.lookup t.1 = some t.2.2
def excF (ft : FTab) (e : Er) (f : Str) : W PyData := chk (ft.lookup e.cls = some (some f)) (ret (e.vals.headD .none))
section
variable {X : Cx} {B : Bs} {env : Env} {os : Os} {pos : Pos} {tb : ETab} {ft : FTab} {q : Addr × Obj}
theorem pe_xfP {e : Expr} {te : TE} {n : Str} (hp : q ∈ X.pn) (he : PE X e te) (hb : attributeBase e n X.env (eval e X.env) = eval e X.env := by rfl) :
    PE X (.Attribute e n pos) (fun σ H Q => te σ H fun x H1 => x = .ref q.1 ∧ ∃ (C : Addr) (d : Option Addr), XfC X.K C ∧ PySem.W.findIn X.K (.ref C) n = some none ∧ Zc (.ref C) d q.2 ∧ (∃ vs, q.2.data = .fields vs) ∧ ∃ (dd : Addr) (fs : List (Str × V)) (v : V), d = some dd ∧ H1 dd = some (.xd fs) ∧ fs.lookup n = some v ∧ Q v H1) := by
  refine ⟨fun pins s σ H Q I h => ?_⟩
  refine attr_of hb (thn (he.run pins s σ H _ I h) fun u s1 hh => ?_)
  obtain ⟨x, H1, I1, rx, ex, C, d, T, hno, hz, hf, dd, fs, v, ed, ea, l, q'⟩ := hh
  subst ex
  obtain rfl : u = Value.ref q.1 := rx
  subst ed
  obtain ⟨ha, _⟩ := I1.pin q (List.mem_append_left _ hp)
  obtain ⟨vs, hd⟩ := hf
  have hx : ObjOk X.prog X.w H1 s1.heap dd (.xd fs) := I1.hok dd _ ea
  obtain ⟨mA, hns, hr⟩ := hx
  obtain ⟨od, ho, hl⟩ := lookIn_ns hns
  obtain ⟨u, hu, ru⟩ := RelO.some_of (v := v) (o := mA n) (by rw [← l]; exact hr n)
  have J : PySem.W.InstAt s1.heap q.1 q.2 C (some od) := ⟨ha, hz.1, by unfold PySem.W.notCls; rw [hd] <;> rfl, by rw [hz.2]; exact ho⟩
  exact HandSPX.exc_get I1.kIn J T.ga T.gg T.exC (PySem.W.findObj_own T.hdC hno rfl (by rw [hl, hu])) (handed_of ru) ⟨v, H1, I1.tok _, ru, q'⟩
theorem e_excCode (i : Nat) {x : Str} {p1 : Pos} {e : Er} (hp : q ∈ X.pn) (T : TbOk X.K tb ft) (he : env[i]? = some (sv (rExc X.K tb q) e) := by rfl) (hN : X.N[i]? = some x := by rfl) (hv : Vis X.env.scope x := by first | exact Or.inl rfl | exact Or.inr (Or.inl rfl) | exact Or.inr (Or.inr rfl))
    (hd : (x == ("__debug__" : Str)) = false := by decide) (hcd : (x == ("__classdict__" : Str)) = false := by decide) (hb : attributeBase (.Name x p1) "code" X.env (eval (.Name x p1) X.env) = eval (.Name x p1) X.env := by rfl) :
    EE X B env os (.Attribute (.Name x p1) "code" pos) rStr (ret (Str.ofString e.cls)) :=
  PE.imp (pe_xfP hp (pe_var hN hv hd hcd) hb) fun σ H Q ⟨F, P, S, hw, k⟩ => by
    obtain ⟨ov, h1, v, h2, h3, hf, cls, d, hz, C, fo, dd, fs, m1, m2, m3, m4, m5, m6⟩ := S.env.get he
    subst h2 h3 m2
    exact ⟨_, h1, rfl, C, d, T.xf _ m1, T.nc _ m1, hz, hf, dd, fs, _, m3, S.fh _ _ m4, m5, k _ hw _ F H S (Ex.refl F) ⟨rfl, (T.st _ m1).1, (T.st _ m1).2⟩⟩
theorem e_excFld (i : Nat) {x f : Str} {p1 : Pos} {e : Er} (hp : q ∈ X.pn) (T : TbOk X.K tb ft) (he : env[i]? = some (sv (rExc X.K tb q) e) := by rfl) (hN : X.N[i]? = some x := by rfl) (hv : Vis X.env.scope x := by first | exact Or.inl rfl | exact Or.inr (Or.inl rfl) | exact Or.inr (Or.inr rfl))
    (hd : (x == ("__debug__" : Str)) = false := by decide) (hcd : (x == ("__classdict__" : Str)) = false := by decide) (hb : attributeBase (.Name x p1) f X.env (eval (.Name x p1) X.env) = eval (.Name x p1) X.env := by rfl) :
    EE X B env os (.Attribute (.Name x p1) f pos) (rD X.K) (excF ft e f) :=
  PE.imp (pe_xfP hp (pe_var hN hv hd hcd) hb) fun σ H Q ⟨F, P, S, ⟨hc, hw⟩, k⟩ => by
    obtain ⟨ov, h1, v, h2, h3, hf, cls, d, hz, C, fo, dd, fs, m1, m2, m3, m4, m5, m6⟩ := S.env.get he
    subst h2 h3 m2
    have e1 := T.ft _ m1
    rw [hc] at e1
    have e1 : some (some f) = some fo := e1
    cases e1
    obtain ⟨v, y, z1, z2, z3⟩ := m6
    rw [z1] at hw
    exact ⟨_, h1, rfl, C, d, T.xf _ m1, T.nf _ m1 f rfl, hz, hf, dd, fs, v, m3, S.fh _ _ m4, z2, k _ hw v F H S (Ex.refl F) z3⟩
end
structure FnS (P : Program) (w : World) (K : PySem.W.Frag) (mg : Str → Option Value) (base : Heap) (k : Nat) (f : Addr) (fd : FuncData) (ps : List Str) (sp : Addr × Obj → Sp) : Prop where
  len : ∀ p vs H Q E, sp p vs H Q E → vs.length = ps.length
  run : ∀ (A : Around) (outer : List PySem.Env) (s : Shared) (H : Hp) (args : Args) (us : List Value) (vs : List V) (Q : VK) (p : Addr × Obj), L2H.RoomH k A → L2H.PinOk outer H s p → Env0 P w K mg base A outer s H → BindsTo s fd args (ps.zip us) → Vals vs us → sp p vs H Q E0 →
    codeAny (model P w) A (.call (.ref f) args) (CR CX0 outer P w H s Q E0) s
section
variable {P : Program} {w : World} {K : PySem.W.Frag} {mg : Str → Option Value} {base : Heap} {k : Nat} {f : Addr} {fd : FuncData} {ps N : List Str} {ι ρ : Type} {args : Addr × Obj → ι → Env} {wf : ι → W ρ} {ro : Rp ρ}
theorem okS {x qual : Str} {st : Stmt} (F : Fun K x qual st f fd) (S : FnScope N ps (defScope st)) (hl : ∀ p i, (args p i).length = ps.length)
    (body : ∀ (cdv : Value) (A : Around) (outer : List PySem.Env) (s : Shared) (H : Hp) (B : Bs) (p : Addr × Obj) (i : ι),
      BG (L2H.cxH CX0 P w K mg base N qual (defScope st) f cdv A outer s H E0 p) B (entry (args p i) (N.length - ps.length)) [] (defBody st) (pFn B [] ro) (wf i)) : FnS P w K mg base (k + 1) f fd ps (fun p => spW (args p) (fun _ => []) wf ro) := by
  obtain ⟨oc, od, kV, doc, pm, an, cdv, ct, osl, rfl, lk, hcd⟩ := F.ex
  refine ⟨fun p => spW_len (hl p), fun A outer s H args' us vs Q p hr hpin e0 hb r hsp => ?_⟩
  have hvl := spW_len (hl p) vs H Q E0 hsp
  have KX : K.In s.heap := e0.mod.kin.keeps fun b o e => (e0.bs b o e).1
  have lim : s.heap.NoLimit := e0.mod.nolimit.keeps fun b o e => (e0.bs b o e).1
  have hkind : ∀ y ∈ ps.zip us, (defScope st).names.lookup y.1 = some .local ∨ ((defScope st).names.lookup y.1 = some .cell ∧ ((cellsFrom (s.heap.objs.size + 1) (defScope st).names []).lookup y.1).isSome = true) := fun ⟨n, v⟩ hy => by
    rcases S.par n (List.of_mem_zip hy).1 with q | q
    · exact .inl q
    · exact .inr ⟨q, PySem.W.cellsFrom_some _ _ _ (.inl q)⟩
  obtain ⟨i, F0, P0, fh, he, ho, nd, hw, hk⟩ := hsp
  refine codeAny_call_function hr.depth (KX _ _ lk) rfl S.co S.gen rfl (PySem.W.codeRec_of KX hcd) (hb _ _ _ _ ?_)
  refine wpAny_newFunctionEnv_cells S.kind hkind fun env he' s1 x => ?_
  subst he'
  refine ⟨lim.keeps x.toInCall.keep, codeAny_func ?_⟩
  have I : Inv (L2H.cxH CX0 P w K mg base N qual (defScope st) f cdv A outer s H E0 p) [] (L2.start N vs) H s1 := L2H.inv_startH S hpin e0 hvl r x
  refine wpAny_mono ((body cdv A outer s H (bs0 F0 H []) p i).run [] s1 (L2.start N vs) H { nx := fun _ H' => Q .non H', rt := Q } I ⟨F0, P0, ⟨bs0_start fh ho, by rw [← hvl]; exact entry_ok he, fun p hp => (by cases hp), List.nodup_nil⟩, hw,
    fun y hy => ⟨fun v F' H' fn ow ok => hk y hy v F' H' fn ow ok, fun σ F' H' fn ow ok => hk y hy .non F' H' fn ow ok⟩⟩) (fun fl s' hs => ?_) fun e s' hs => hs
  have fin : ∀ {σ' : L2.St} {H' : Hp} {v : V} {u : Value}, Inv (L2H.cxH CX0 P w K mg base N qual (defScope st) f cdv A outer s H E0 p) [] σ' H' s' → RelV v u → Q v H' → CE outer P w H s Q u s' :=
    fun {σ' H' v u} J rv q => ⟨v, H', J.os, J.bare, J.base, J.hok, rv, q⟩
  cases fl with
  | ret u =>
    obtain ⟨v, σ', H', J, rv, q⟩ := hs
    exact fin J rv q
  | next =>
    obtain ⟨σ', H', J, q⟩ := hs
    exact fin (v := V.non) (u := Value.none) J rfl q
  | brk =>
    obtain ⟨_, _, _, q⟩ := hs
    exact False.elim q
  | cont =>
    obtain ⟨_, _, _, q⟩ := hs
    exact False.elim q
end
section
variable {X : Cx} {B : Bs} {env : Env} {os : Os} {pos p : Pos} {ι ρ : Type} {args : Addr × Obj → ι → Env} {wf : ι → W ρ} {ro : Rp ρ} {e : Expr} {es : List Expr} {x : Str} {k : Nat} {f : Addr} {fd : FuncData} {ps : List Str} {q : Addr × Obj}
theorem e_callS {w : W ι} (G : FnS X.prog X.w X.K X.mg X.base k f fd ps (fun p => spW (args p) (fun _ => []) wf ro)) (hp : q ∈ X.pn) (hr : L2H.RoomH k X.A) (hm : X.mg x = some (.ref f)) (hk : PySem.W.keepIn X.K (.ref f) = true) (hb : Binds X.K fd ps [])
    (ha : AA X B env os (e :: es) (args q) w) (hg : Gl X x := by rfl) (hdb : (x == ("__debug__" : Str)) = false := by decide)
    (he : starEach (e :: es) X.env = (false, eval e X.env) :: starEach es X.env := by rfl) (hpl : (backTo pos (starEach es X.env)).any (·.1) = false := by rfl) :
    EE X B env os (.Call (.Name x p) (e :: es) [] pos) ro (bnd w fun i => noX (wf i)) := by
  refine ⟨fun pins s σ H Q I h => ?_⟩
  refine wpAny_Call_Name_kw (ld_glob I hg hm ?_ hdb)
  refine PySem.W.callWith_K (h₀ := X.base) I.ok.mod.kin hk (thn (ha.run pos pins s σ H _ I (call_back (args := args q) (osf := fun _ => []) (fun _ => OsLe.none) (fun _ => List.nodup_nil) h)) fun us s1 ⟨vs, H1, I1, r, qq⟩ => ⟨I1.kIn, ?_⟩) he hpl
  show wpAny _ _ (call (.ref f) us) _ _ _
  have hl : us.length = ps.length := by rw [← r.length]; exact G.len q _ _ _ _ qq
  have b := hb s1 us I1.kIn (by rw [List.append_nil]; exact hl)
  rw [List.append_nil] at b
  have P1 := I1.pin q (List.mem_append_left _ hp)
  have hpin : L2H.PinOk X.stack H1 s1 q := ⟨P1.1, P1.2.1, fun hm => (List.mem_cons.mp (I1.stkSub q.1 hm)).elim P1.2.2.1 P1.2.2.2.1, P1.2.2.2.2⟩
  refine wpAny_call (codeAny_mono (G.run X.A X.stack s1 H1 ⟨us, []⟩ us vs Q q hr hpin I1.env0 b r qq) fun res s' hq => ?_)
  cases res with
  | error e => exact False.elim hq
  | ok fl =>
    cases fl with
    | ret u => exact I1.after hq
    | next => exact False.elim hq
    | brk => exact False.elim hq
    | cont => exact False.elim hq
end
end Mi
namespace Mi
open PySem L2 Evl
open PyProof.Rows (envOfC)
/-- try: w1, what is raised goes to w2 -/
def tryW {α : Type} (w1 : W α) (w2 : Er → W α) : W α := fun P E => w1 P fun e => w2 e P E
theorem takes_len {X : Cx} {W W' : WX} (t : Takes X W) (h : ∀ c d σ H, σ.length = X.N.length → W' c d σ H → W c d σ H) : Takes X W' := fun u s' ⟨a, B, sI, pins, σ, H, cls, d, e, I, nb, up, sky, na, os, ag, w⟩ =>
  t u s' ⟨a, B, sI, pins, σ, H, cls, d, e, I, nb, up, sky, na, os, ag, h _ _ _ _ I.len w⟩
theorem env_sa {F : Hp} : ∀ {σ : L2.St} {n : Nat}, σ.length = n → EnvOk F (List.replicate n sa) σ
  | [], _, h => by subst h; exact .nil
  | o :: σ, _, h => by
    subst h
    rw [List.length_cons, List.replicate_succ]
    exact .cons trivial (env_sa rfl)
end Mi
namespace Mi
open PySem L2 Evl LamX
open PyProof.Rows (envOfC IntsAre AllBare)
theorem sqL_but {K : PySem.W.Frag} {H : Hp} {P a : Addr} {xs : List V} {ps : Array Value} (hP : H P = some (.tbl ps)) (h : SqL K H a xs) : SqL K (del H P) a xs := by
  have ne : ∀ o, H a = some o → o ≠ .tbl ps → a ≠ P := fun o e n z => by
    subst z
    rw [hP] at e
    exact n (Option.some.inj e).symm
  rcases h with (h | ⟨o, h⟩) | h
  · exact .inl (.inl ((del_ne (ne _ h (by intro z; cases z))).trans h))
  · exact .inl (.inr ⟨o, (del_ne (ne _ h (by intro z; cases z))).trans h⟩)
  · exact .inr h
theorem law_runT {P : Program} {w : World} {K : PySem.W.Frag} {mg mb : Str → Option Value} {k : Nat} {fa a c T : Addr} {fd : FuncData} {x : Str} {sp : Sp} {s : Shared} {vs : List Value}
    (KX : K.In s.heap) (hns : s.heap.Ns mainGlobals mg) (hb : s.heap.Ns builtinsNs mb) (hbb : ∀ x : Str, x ≠ "__name__" → mb x = bootBuiltins x) (hlim : s.heap.NoLimit) (hg : s.gens = #[])
    (hT : s.heap.get? T = some { cls := .none, data := .fields #[] }) (nT : K.lookup T = none) (C : PySem.W.CodeHd s.heap c T)
    (hbm : ∃ (bm : Addr) (ob : Obj), mg "__builtins__" = some (.ref bm) ∧ bm ≠ builtinsNs ∧ s.heap.get? bm = some ob ∧ ob.cls = .type "module" ∧ ob.dict = some builtinsNs ∧ ob.data = .plain)
    (ha : s.heap.get? a = some { cls := .type "list", data := .seq vs.toArray }) (hr : Room k callerA)
    (F : ∀ base : Heap, K.In base → base.Ns mainGlobals mg → TabB base mg c T → FnG P w K mg base CX0 k fa fd [x] sp) (hbind : ∀ (s : Shared) (u : Value), BindsTo s fd ⟨[u], []⟩ [(x, u)])
    {H : Hp} (hH : H T = some (.tbl #[])) (hO : ∀ b, H b = none ∨ b = T ∨ ∃ o xs, H b = some (.frz o (.lst xs))) (hok : HOk P w H s.heap) (hA : ∀ b, H b ≠ none → b = T ∨ b = a ∧ K.lookup a = none) (hsp : sp [.ref a] H (fun v _ => v = .bl true) fun _ _ _ => False) :
    codeAny (model P w) callerA (.call (.ref fa) ⟨[.ref a], []⟩) (fun r s' => r = .ok (.ret (.bool true)) ∧ OldK s.heap s'.heap ∧ s'.os = s.os ∧ AllBare s'.gens) s := by
  have noD : ∀ {b : Addr} {o : Obj}, s.heap.get? b = some o → (∀ vs n, o.data ≠ .seq vs n) → o.data ≠ .fields #[] → H b = none := fun {b o} e h1 h2 => by
    cases q : H b with
    | none => rfl
    | some u =>
      rcases hA b (by rw [q]; simp) with e' | ⟨e', _⟩
      · rw [e', hT] at e
        cases e
        exact (h2 rfl).elim
      · rw [e', ha] at e
        cases e
        exact (h1 _ _ rfl).elim
  have here : ∀ {b : Addr} {o : Obj}, s.heap.get? b = some o → H b = none → (hidT s.heap H).get? b = some o := fun e n => hidT_get e n
  have ns_ : ∀ {b : Addr} {m : Str → Option Value}, s.heap.Ns b m → (hidT s.heap H).Ns b m := fun {b m} ⟨o, es, ep, e, d, r⟩ => by
    refine ⟨o, es, ep, here e (noD e (fun vs n z => ?_) fun z => ?_), d, r⟩ <;> rw [d] at z <;> cases z
  have kin : K.In (hidT s.heap H) := fun b o e => here (KX b o e) (by
    cases q : H b with
    | none => rfl
    | some u =>
      rcases hA b (by rw [q]; simp) with e' | ⟨e', n⟩
      · rw [e', nT] at e
        cases e
      · rw [e', n] at e
        cases e)
  have md : L2.Mod K mg (hidT s.heap H) := ⟨kin, ns_ hns, ⟨mb, ns_ hb, hbb⟩, hlim.elim fun mc hm => ⟨mc, ns_ hm.1, hm.2⟩⟩
  have TB : TabB (hidT s.heap H) mg c T := by
    refine ⟨?_, ?_, fun z => ?_⟩
    · obtain ⟨o, us, file, tf, flags, tg, inF, text, tt, e1, r1, r2, r3, r4, r5, r6, r7, r8, hne⟩ := C
      refine ⟨o, us, file, tf, flags, tg, inF, text, tt, here e1 (noD e1 (fun vs n z => ?_) fun z => ?_), r1, r2, r3, r4, r5, r6, r7, r8, hne⟩
      · rw [r2] at z
        cases z
      · rw [r2] at z
        cases z
        simp at r3
    · obtain ⟨bm, ob, b1, b2, b3, b4, b5, b6⟩ := hbm
      have nG : bm ≠ mainGlobals := fun q => by
        obtain ⟨o, es, ep, e, hd, _⟩ := hns
        rw [q, e] at b3
        cases b3
        rw [hd] at b6
        cases b6
      have nP : bm ≠ T := fun q => by
        rw [q, hT] at b3
        cases b3
        cases b6
      refine ⟨bm, ob, b1, b2, nG, nP, here b3 (noD b3 (fun vs n z => ?_) fun z => ?_), b4, b5, b6⟩ <;> rw [b6] at z <;> cases z
    · obtain ⟨o, es, ep, e, hd, _⟩ := hns
      rw [z, hT] at e
      cases e
      cases hd
  have e0 : Env0 P w K mg (hidT s.heap H) callerA [] s H :=
    { frames := rfl, mod := md, bs := fun b o e => of_hidT e, bsz := Nat.le_of_eq (hidT_size _ _), funs := trivial, frf := fun b hb => (by cases hb), hok := hok, bare := .of_eq hg }
  refine codeAny_mono ((F _ kin (ns_ hns) TB).go callerA [] s H ⟨[.ref a], []⟩ [.ref a] [.ref a] _ _ rfl hr e0 (hbind s (.ref a)) (.cons rfl .nil) hsp) fun r s' h => ?_
  cases r with
  | error e => exact False.elim h
  | ok fl =>
    cases fl with
    | next => exact False.elim h
    | brk => exact False.elim h
    | cont => exact False.elim h
    | ret u =>
      obtain ⟨v, H', os, bare, un, hok', rv, q⟩ := h
      have q : v = .bl true := q
      subst q
      have rv : u = Value.bool true := rv
      subst rv
      have key : ∀ b o, b ≠ T → s.heap.get? b = some o → s'.heap.get? b = some o := fun b o nb e => by
        cases q : H b with
        | none => exact un.keep b o e q (fun z => by cases z) (fun z => by cases z)
        | some u =>
          rcases hO b with z | z | ⟨ob, xs, z⟩
          · rw [q] at z
            cases z
          · exact absurd z nb
          · have e1 := (hok b _ z).1
            have e2 := (hok' b _ (un.frzs b ob _ z)).1
            rw [e] at e1
            cases e1
            exact e2
      obtain ⟨more, hm⟩ : ∃ more : Array Value, s'.heap.get? T = some { cls := .none, data := .fields more } := by
        obtain ⟨more, z⟩ := un.tbls T #[] hH
        exact ⟨_, hok' T _ z⟩
      refine ⟨rfl, ⟨fun b o e => ?_, fun b o e => ?_⟩, os, bare⟩
      · by_cases hb : b = T
        · subst hb
          rw [hT] at e
          cases e
          exact .inr (.inl ⟨(C.tab hT).isCodeTable, rfl, #[], more, rfl, by rw [Array.empty_append]; exact hm⟩)
        · exact .inl (key b o hb e)
      · by_cases hb : b = T
        · subst hb
          exact ⟨_, hm⟩
        · exact ⟨o, key b o hb e⟩
theorem law_callGT {P : Program} {w : World} {K : PySem.W.Frag} {mg mb : Str → Option Value} {k : Nat} {fa a c T : Addr} {fd : FuncData} {x : Str} {sp : Sp} {s : Shared} {vs : List Value} {ns : List Int}
    (KX : K.In s.heap) (hns : s.heap.Ns mainGlobals mg) (hb : s.heap.Ns builtinsNs mb) (hbb : ∀ x : Str, x ≠ "__name__" → mb x = bootBuiltins x) (hlim : s.heap.NoLimit) (hg : s.gens = #[])
    (hT : s.heap.get? T = some { cls := .none, data := .fields #[] }) (nT : K.lookup T = none) (C : PySem.W.CodeHd s.heap c T)
    (hbm : ∃ (bm : Addr) (ob : Obj), mg "__builtins__" = some (.ref bm) ∧ bm ≠ builtinsNs ∧ s.heap.get? bm = some ob ∧ ob.cls = .type "module" ∧ ob.dict = some builtinsNs ∧ ob.data = .plain)
    (ha : s.heap.get? a = some { cls := .type "list", data := .seq vs.toArray }) (hi : IntsAre vs ns) (hl : ns.length ≤ sizeLine) (hr : Room k callerA)
    (F : ∀ base : Heap, K.In base → base.Ns mainGlobals mg → TabB base mg c T → FnG P w K mg base CX0 k fa fd [x] sp) (hbind : ∀ (s : Shared) (u : Value), BindsTo s fd ⟨[u], []⟩ [(x, u)])
    (hsp : ∀ H : Hp, H T = some (.tbl #[]) → SqL K H a (ns.map V.int) → sp [.ref a] H (fun v _ => v = .bl true) fun _ _ _ => False) :
    codeAny (model P w) callerA (.call (.ref fa) ⟨[.ref a], []⟩) (fun r s' => r = .ok (.ret (.bool true)) ∧ OldK s.heap s'.heap ∧ s'.os = s.os ∧ AllBare s'.gens) s := by
  have rv := vals_ints hi
  have lenV := hi.length
  have aT : a ≠ T := fun z => by
    subst z
    rw [ha] at hT
    have z' : Data.seq vs.toArray _ = Data.fields #[] := congrArg Obj.data (Option.some.inj hT)
    cases z'
  cases hk : K.lookup a with
  | some o =>
    have e := (KX a o hk).symm.trans ha
    have e' := Option.some.inj e
    subst e'
    obtain ⟨H, eH⟩ : ∃ H : Hp, H = fun b => if b = T then some (HO.tbl #[]) else none := ⟨_, rfl⟩
    have at_ : ∀ b, H b = if b = T then some (HO.tbl #[]) else none := fun b => by rw [eH]
    have at_T : H T = some (.tbl #[]) := (at_ T).trans (if_pos rfl)
    refine law_runT KX hns hb hbb hlim hg hT nT C hbm ha hr F hbind at_T (fun b => ?_) (fun b u z => ?_) (fun b z => ?_) (hsp _ at_T (.inr ⟨_, vs.toArray, _, hk, rfl, rfl, rfl, ?_, ?_⟩))
    · by_cases h : b = T
      · exact .inr (.inl h)
      · exact .inl ((at_ b).trans (if_neg h))
    · by_cases h : b = T
      · subst h
        cases at_T.symm.trans z
        exact hT
      · cases ((at_ b).trans (if_neg h)).symm.trans z
    · by_cases h : b = T
      · exact .inl h
      · exact absurd ((at_ b).trans (if_neg h)) z
    · rw [List.size_toArray, lenV]
      exact hl
    · exact rv
  | none =>
    obtain ⟨H, eH⟩ : ∃ H : Hp, H = fun b => if b = a then some (HO.frz { cls := .type "list", data := .seq vs.toArray } (.lst (ns.map V.int))) else if b = T then some (HO.tbl #[]) else none := ⟨_, rfl⟩
    have at_ : ∀ b, H b = if b = a then some (HO.frz { cls := .type "list", data := .seq vs.toArray } (.lst (ns.map V.int))) else if b = T then some (HO.tbl #[]) else none := fun b => by rw [eH]
    have at_T : H T = some (.tbl #[]) := (at_ T).trans ((if_neg (Ne.symm aT)).trans (if_pos rfl))
    have at_a : H a = some (HO.frz { cls := .type "list", data := .seq vs.toArray } (.lst (ns.map V.int))) := (at_ a).trans (if_pos rfl)
    refine law_runT KX hns hb hbb hlim hg hT nT C hbm ha hr F hbind at_T (fun b => ?_) (fun b u z => ?_) (fun b z => ?_) (hsp _ at_T (.inl (.inr ⟨_, at_a⟩)))
    · by_cases h : b = a
      · exact .inr (.inr ⟨_, _, by rw [h]; exact at_a⟩)
      · by_cases h2 : b = T
        · exact .inr (.inl h2)
        · exact .inl ((((at_ b).trans (if_neg h))).trans (if_neg h2))
    · by_cases h : b = a
      · subst h
        cases at_a.symm.trans z
        exact ⟨ha, by rw [List.length_map]; exact hl, vs, _, rv, ha⟩
      · have z1 := ((at_ b).trans (if_neg h)).symm.trans z
        by_cases h2 : b = T
        · subst h2
          cases at_T.symm.trans z
          exact hT
        · cases (if_neg h2).symm.trans z1
    · by_cases h : b = a
      · exact .inr ⟨h, hk⟩
      · by_cases h2 : b = T
        · exact .inl h2
        · exact absurd ((((at_ b).trans (if_neg h))).trans (if_neg h2)) z
/-- the goal that the head leaves -/
theorem walk_GT {l : PySem.W.OpenLaw} {n k : Nat} {q : Program} {loose : List Str} {XP : (Str → Option Value) → Heap → Prop} {YP : World → Heap → Prop} {d : DefRec} {K : Params → PySem.W.Frag} {sp : PySem.W.Frag → Addr → Sp} {x : Str} {ts : List Addr}
    (hn : l.most = some n) (hn2 : n ≤ sizeLine) (hdf : d.params.defaults = []) (hr : Room k callerA) (hY : ∀ (w : World) (h : Heap), YP w h → (K w.params).In h ∧ ∀ P ∈ ts, h.get? P = some { cls := .none, data := .fields #[] })
    (F : ∀ (w : World) (mg : Str → Option Value) (fa : Addr) (h : Heap), (K w.params).In h → h.Ns mainGlobals mg → mg d.name = some (.ref fa) →
      ∃ (fd : FuncData) (c T : Addr), T ∈ ts ∧ PySem.W.codeHdIn (K w.params) c T = true ∧ (K w.params).lookup T = none ∧ (∀ (s : Shared) (u : Value), BindsTo s fd ⟨[u], []⟩ [(x, u)]) ∧ ∀ base : Heap, (K w.params).In base → base.Ns mainGlobals mg → TabB base mg c T → FnG l.prog w (K w.params) mg base CX0 k fa fd [x] (sp (K w.params) T))
    (hsp : ∀ (K : PySem.W.Frag) (H : Hp) (a T : Addr) (ns : List Int), ns.length ≤ n → H T = some (.tbl #[]) → SqL K H a (ns.map V.int) → sp K T [.ref a] H (fun v _ => v = .bl true) fun _ _ _ => False) :
    PySem.W.WalkO q loose XP YP l.row.toRowW d [] (fun f vs => PySem.call f vs) :=
  Att.attach_callB hn hdf fun w s₀ s₁ mg mb fa o pm cd doc a vs ns G Y ho hd hcd hmg hobj hints hlen hbits hg => by
    obtain ⟨KX, ht⟩ := hY w _ Y
    obtain ⟨fd, c, T, hm, hc, nT, hb, hF⟩ := F w mg fa _ KX G.T.g hmg
    exact law_callGT KX G.T.g G.T.b G.T.builtins G.T.nolimit hg (ht T hm) nT (PySem.W.codeHd_of_K KX hc) G.T.bmain hobj hints (Nat.le_trans hlen hn2) hr hF hb fun H hH hS => hsp _ H a T ns hlen hH hS
/-- the law's promise, one's own table beside the script -/
theorem sp_tab {K : PySem.W.Frag} {H : Hp} {a T : Addr} {ns : List Int} {q : Str} {wf : List Int → W Bool} (hl : ns.length ≤ 63) (hT : H T = some (.tbl #[])) (hS : SqL K H a (ns.map V.int)) (ht : wf ns (fun x => x = true) fun _ => False) :
    spW (fun i : List Int × Unit => [sv (rScr K) i.1]) (fun _ => [(T, oTab q)]) (fun i => wf i.1) rBool [.ref a] H (fun v _ => v = .bl true) fun _ _ _ => False :=
  ⟨(ns, ()), del H T, fun x => x = true, fun b u e => by
    by_cases h : b = T
    · subst h
      rw [del_same] at e
      cases e
    · rw [del_ne h] at e
      exact e, .cons ⟨_, rfl, a, rfl, sqL_but hT hS, Nat.le_trans hl (by decide)⟩ .nil, fun p hp => by
    rw [List.mem_singleton.mp hp]
    exact ⟨del_same, _, hT, #[], rfl, trivial, fun pos cv h => by cases h⟩, by simp, ht, fun x hx v F' H' _ _ ok => by subst hx; exact ok⟩
end Mi
namespace Mi
open PySem L2 Evl
section
variable {X : Cx} {k : Nat} {f C : Addr} {fd : FuncData} {ps : List Str} {sp : Sp}
theorem run_at {pins : List (Addr × Obj)} {σ : L2.St} {H : Hp} {s : Shared} {Q : VK} {us : List Value} {vs : List V} {A' : Around} {E' : Value → Shared → Prop} (G : FnOk X.prog X.w X.K X.mg X.base CX0 k f fd ps sp) (hr : Room k A') (hb : Binds X.K fd ps [])
    (I : Inv X pins σ H s) (e0 : Env0 X.prog X.w X.K X.mg X.base A' X.stack s H) (r : Vals vs us) (h : sp vs H Q fun _ _ _ => False) : wpAny (model X.prog X.w) A' (call (.ref f) us) (EP X pins σ Q) E' s := by
  have hl : us.length = ps.length := by rw [← r.length]; exact G.len _ _ _ _ h
  have b := hb s us I.kIn (by rw [List.append_nil]; exact hl)
  rw [List.append_nil] at b
  refine wpAny_call (codeAny_mono (G.run A' X.stack s H ⟨us, []⟩ us vs Q _ hr e0 b r h) fun res s' hq => ?_)
  cases res with
  | error e => exact False.elim hq
  | ok fl =>
    cases fl with
    | ret u => exact I.after hq
    | next => exact False.elim hq
    | brk => exact False.elim hq
    | cont => exact False.elim hq
theorem boolX {x : Value} {Q : Value → Shared → Prop} {E : Value → Shared → Prop} {prog : Program} {w : World} {A : Around} {s : Shared} (h : wpAny (model prog w) A.in1.in1 (truthy x) (fun b s' => Q (.bool b) s') E s) : wpAny (model prog w) A (call (.type "bool") [x]) Q E s := by
  refine PySem.callType_newIn F.called_bool F.newNe_bool (F.typeCall_bool_1 x) (F.newCall_bool_1 x) (fun obj => F.args_object_init_2 obj x) F.entry_bool_new
    (S := fun A R s => wpAny (model prog w) A.in1 (truthy x) (fun b s' => R (.ok (.ret (.bool b))) s') (fun e s' => R (.error e) s') s) (fun A R s hs => ?_) (wpAny_mono h (fun b s' q => ⟨rfl, q⟩) fun _ _ z => z)
  obtain ⟨hp, g, d, tk, os⟩ := s
  have f1 := F.conv_sub_bool
  repeat (any_goals (first | assumption | (with_reducible refine wpAny_bind (m := truthy _) ?_) | wp_step))
  refine wpAny_mono hs (fun b s' q => ?_) fun _ _ z => z
  repeat (any_goals (first | assumption | wp_step))
theorem call_boolO (G : FnOk X.prog X.w X.K X.mg X.base CX0 k f fd ps sp) (hr : Room (k + 2) X.A) (hb : Binds X.K fd ps []) (hs : PySem.W.findIn X.K (.ref C) "__bool__" = some (some (.ref f))) (hf : PySem.W.isFn X.K (.ref f) = true) :
    CallR X (.type "bool") (fun xs H Q => ∃ a dx fs, xs = [.ref a] ∧ H a = some (.ins C dx fs) ∧ sp [.ref a] H (fun v H' => ∃ b, v = .bl b ∧ Q (.bl b) H') fun _ _ _ => False) := by
  intro pins s σ H xs us Q I r ⟨a, dx, fs, ex, ha, hsp⟩
  subst ex
  obtain rfl := Vals.ref1 r
  obtain ⟨mA, J, _⟩ := ins_get I.hok ha
  obtain ⟨od, J, _⟩ := J.look
  obtain ⟨m, hF⟩ := I.fr
  refine boolX (PySem.W.truthy_K hF I.ok.mod.kin J hs hf (wpAny_mono (run_at (us := [.ref a]) (vs := [.ref a]) G (Room.in1 (k := k + 1) hr).in1 hb I I.env0.in1.in1 (.cons rfl .nil) hsp) (fun v s' z => ?_) fun _ _ z => z))
  obtain ⟨vv, H', I', rv, b, e, q⟩ := z
  subst e
  cases rv
  exact ⟨.bl b, H', I', rfl, q⟩
theorem ownEq {op : CmpOp} (hu : X.A.units + 100 < cLine) (G : FnOk X.prog X.w X.K X.mg X.base CX0 k f fd ps sp) (hr : Room k X.A) (hb : Binds X.K fd ps []) (hs : PySem.W.findIn X.K (.ref C) (cmpInfo op).2.1 = some (some (.ref f))) (hf : PySem.W.isFn X.K (.ref f) = true) :
    OpR X (richCompare op) (fun x y H Q => ∃ a t dx fs, x = .ref a ∧ H a = some (.ins C dx fs) ∧ TyX X.K H y t ∧ PySem.W.notFirst X.K C t = true ∧ sp [.ref a, y] H Q fun _ _ _ => False) := by
  intro pins s σ H x y v u Q I rx ry ⟨a, t, dx, fs, ex, ha, ty, nf, hsp⟩
  subst ex
  cases rx
  obtain ⟨mA, J, _⟩ := ins_get I.hok ha
  obtain ⟨od, J, _⟩ := J.look
  obtain ⟨m, hF⟩ := I.fr
  obtain ⟨P, Z, p, _⟩ := kit_of I ry ty
  refine PySem.W.cmp_K (by omega) hF I.ok.mod.kin J (Z.ty _ _ I.kIn p) nf hs hf (wpAny_mono (run_at (us := [.ref a, u]) (vs := [.ref a, y]) G hr hb I I.env0 (.cons rfl (.cons ry .nil)) hsp) (fun v s' z => ?_) fun _ _ z => z)
  obtain ⟨vv, H', I', rv, q⟩ := z
  exact SlX.cmpback rv ⟨vv, H', I', rv, q⟩
end
section
variable {X : Cx} {B : Bs} {env : Env} {os : Os} {pos p : Pos} {α β ρ : Type} {s : Rp β} {a b : Expr} {fl : α → List (Str × Slot)} {k : Nat} {f C : Addr} {fd : FuncData} {ps : List Str}
section
variable {wf : α × Unit → W Bool} {w1 : W α}
theorem e_boolO (G : FnOk X.prog X.w X.K X.mg X.base CX0 k f fd ps (spW (fun q : α × Unit => [sv (rObj C fl) q.1]) (fun _ => []) wf rBool)) (hr : Room (k + 2) X.A) (hb : Binds X.K fd ps []) (hs : PySem.W.findIn X.K (.ref C) "__bool__" = some (some (.ref f))) (hf : PySem.W.isFn X.K (.ref f) = true)
    (ha : EE X B env os a (rObj C fl) w1) (hm : X.mg "bool" = none) (hg : Gl X "bool" := by rfl) (he : starEach [a] X.env = (false, eval a X.env) :: starEach [] X.env := by rfl) (hpl : (backTo pos (starEach [] X.env)).any (·.1) = false := by rfl) :
    EE X B env os (.Call (.Name "bool" p) [a] [] pos) rBool (bnd w1 fun x => noX (wf (x, ()))) :=
  PE.imp (pe_callTy (call_boolO G hr hb hs hf) hg hm (by decide +kernel) (pa_cons ha pa_nil he) (by decide) (by decide) he hpl) fun σ H Q ⟨F, P, S, hw, kk⟩ => ⟨F, _, S, hw, fun x hx v F1 H1 S1 e1 ⟨y, dx, vs, ev, hy, hf⟩ => by
    subst ev
    refine ⟨y, dx, vs, rfl, S1.fh _ _ hy, (x, ()), F1, P, S1.fh, .cons ⟨_, rfl, y, dx, vs, rfl, hy, hf⟩ .nil, fun z hz => (by cases hz), List.nodup_nil, hx, fun z hz v F' H' fn ow okz => ?_⟩
    exact ⟨z, okz, kk z hz (.bl z) F' H' (S1.back OsLe.none fn ow) (e1.trans fn.bf) rfl⟩⟩
end
/-- x == y, x of an own class with its own __eq__, y of a kind with one type -/
def rOwnEq (X : Cx) (s : Rp β) (C : Addr) (fl : α → List (Str × Slot)) (wf : α × β × Unit → W Bool) (neg : Bool) : R2 := fun x y H Q => ∃ a t dx fs, x = .ref a ∧ H a = some (.ins C dx fs) ∧ TyX X.K H y t ∧ PySem.W.notFirst X.K C t = true ∧
      (spW (fun q : α × β × Unit => [sv (rObj C fl) q.1, sv s q.2.1]) (fun _ => []) wf rBool) [.ref a, y] H (fun v H' => ∃ b, v = .bl b ∧ Q (.bl (if neg = true then !b else b)) H') fun _ _ _ => False
theorem imp_eqO {wf : α × β × Unit → W Bool} {w1 : W α} {w2 : α → W β} {t : Value} {neg : Bool} (ty : TyR X.K s t) (nf : PySem.W.notFirst X.K C t = true) {σ : L2.St} {H : Hp} {Q : VK}
    (h : ∃ F P, Sit B F H σ env os ∧ (bnd w1 fun x => bnd (w2 x) fun y => noX (wf (x, y, ()))) P B.E0 ∧ ∀ z, P z → ∀ F' H', Sit B F' H' σ env os → Ex F F' → Q (.bl (if neg = true then !z else z)) H') :
    tOp (rOwnEq X s C fl wf neg) (tOf B env os (rObj C fl) w1) (fun σ H Q => ∃ x, tOf B env os s (w2 x) σ H Q) σ H Q := by
  obtain ⟨F, P, S, hw, kk⟩ := h
  exact ⟨F, _, S, hw, fun x hx v F1 H1 S1 e1 ⟨y, dx, vs, ev, hy, hf⟩ => ⟨x, F1, _, S1, hx, fun x2 hx2 u F2 H2 S2 e2 ok2 => by
    subst ev
    refine ⟨y, t, dx, vs, rfl, S2.fh _ _ (e2 _ _ hy), ty F2 H2 u x2 ok2 S2.fh, nf, (x, x2, ()), F2, P, S2.fh, .cons ⟨_, rfl, y, dx, vs, rfl, e2 _ _ hy, hf.mono e2⟩ (.cons ⟨_, rfl, ok2⟩ .nil), fun z hz => (by cases hz), List.nodup_nil, hx2, fun z hz v F' H' fn ow okz => ?_⟩
    exact ⟨z, okz, kk z hz F' H' (S2.back OsLe.none fn ow) ((e1.trans e2).trans fn.bf)⟩⟩⟩
section
variable {wf : α × β × Unit → W Bool} {w1 : W α} {w2 : α → W β} {t : Value}
theorem op_eqO (hu : X.A.units + 100 < cLine) (G : FnOk X.prog X.w X.K X.mg X.base CX0 k f fd ps (spW (fun q : α × β × Unit => [sv (rObj C fl) q.1, sv s q.2.1]) (fun _ => []) wf rBool)) (hr : Room k X.A) (hb : Binds X.K fd ps []) (hs : PySem.W.findIn X.K (.ref C) "__eq__" = some (some (.ref f))) (hf : PySem.W.isFn X.K (.ref f) = true) :
    OpR X (compareOp .Eq) (rOwnEq X s C fl wf false) := fun pins s σ H x y v u Q I rx ry ⟨a, t, dx, fs, h1, h2, h3, h4, i, F, P, h5⟩ => ownEq (op := .Eq) hu G hr hb hs hf pins s σ H x y v u Q I rx ry ⟨a, t, dx, fs, h1, h2, h3, h4, i, F, P, h5.1, h5.2.1, h5.2.2.1, h5.2.2.2.1, h5.2.2.2.2.1, fun x px v' F' H' fn ow ok => by
    obtain ⟨b, e, q⟩ := h5.2.2.2.2.2 x px v' F' H' fn ow ok
    subst e
    exact q⟩
theorem e_eqO (hu : X.A.units + 100 < cLine) (G : FnOk X.prog X.w X.K X.mg X.base CX0 k f fd ps (spW (fun q : α × β × Unit => [sv (rObj C fl) q.1, sv s q.2.1]) (fun _ => []) wf rBool)) (hr : Room k X.A) (hb : Binds X.K fd ps []) (hs : PySem.W.findIn X.K (.ref C) "__eq__" = some (some (.ref f))) (hf : PySem.W.isFn X.K (.ref f) = true)
    (ty : TyR X.K s t) (nf : PySem.W.notFirst X.K C t = true) (ha : EE X B env os a (rObj C fl) w1) (hb' : ∀ x, EE X B env os b s (w2 x)) (hm : behindInMarks .Eq b = false := by rfl) :
    EE X B env os (.Compare a [.Eq] [b] pos) rBool (bnd w1 fun x => bnd (w2 x) fun y => noX (wf (x, y, ()))) := PE.imp (pe_cmpR (op_eqO hu G hr hb hs hf) ha (PE.ex hb') hm) fun σ H Q ⟨F, P, S, hw, kk⟩ => imp_eqO ty nf ⟨F, P, S, hw, fun z hz F' H' S' e' => kk z hz (.bl z) F' H' S' e' rfl⟩
end
/-- what never ends may end as anything -/
theorem e_never {γ : Type} {r : Rp α} {r' : Rp γ} {w : W α} (h : EE X B env os a r w) : EE X B env os a r' (bnd w fun _ => fail) := PE.imp h fun σ H Q ⟨F, P, S, hw, k⟩ => ⟨F, _, S, hw, fun z hz => False.elim hz⟩
end
end Mi
namespace Mi
open PySem L2 Evl
open PyProof.Rows (envOfC)
section
variable {X : Cx} {B : Bs} {env : Env} {os : Os} {pos : Pos} {α β γ : Type} {r : Rp α} {s : Rp β} {a b c o e : Expr} {es : List Expr} {rest : List Stmt} {post : Post β}
def tyD : PyData → String
  | .none => "NoneType"
  | .bool _ => "bool"
  | .int _ => "int"
  | .str _ => "str"
  | .list _ => "list"
  | .tuple _ => "tuple"
  | .dict _ => "dict"
theorem ty_D {K : PySem.W.Frag} {F H : Hp} {v : V} {d : PyData} (h : (rD K).ok F v d) (q : Ex F H) : TyX K H v (.type (tyD d)) := by
  obtain ⟨h, _⟩ := h
  cases h with
  | non => exact .base .non
  | bl b => exact .base (.bl b)
  | int i => exact .base (.int i)
  | str x => exact .base (.str x)
  | lst h _ =>
    rcases h with (h | ⟨o, h⟩) | ⟨o, its, n, hk, hc, _⟩
    · exact .base (.lst (q _ _ h))
    · exact .base (.frz (q _ _ h))
    · exact .kList hk hc
  | tup h _ =>
    rcases h with (h | ⟨o, h⟩) | ⟨o, its, n, hk, hc, _⟩
    · exact .base (.tup (q _ _ h))
    · exact .fTuple (q _ _ h)
    · exact .kTuple hk hc
theorem e_isBD {w : W PyData} {x : Str} {T : String} {k : String → Bool} {p1 p2 : Pos} (hk : ∀ d, PySem.W.kitOne X.K (.type (tyD d)) (.type T) = some (k (tyD d))) (ha : EE X B env os a (rD X.K) w) (hm : X.mg "isinstance" = none) (hx : X.mg x = none)
    (hv : bootBuiltins x = some (.type T) := by decide +kernel) (hn : x ≠ "__name__" := by decide) (hd : (x == ("__debug__" : Str)) = false := by decide)
    (hg : Gl X "isinstance" := by rfl) (hgx : Gl X x := by rfl) (hs : starEach [a, .Name x p2] X.env = (false, eval a X.env) :: starEach [.Name x p2] X.env := by rfl) (hs2 : starEach [.Name x p2] X.env = (false, eval (.Name x p2) X.env) :: starEach [] X.env := by rfl) (hpl : (backTo pos (starEach [.Name x p2] X.env)).any (·.1) = false := by rfl) :
    EE X B env os (.Call (.Name "isinstance" p1) [a, .Name x p2] [] pos) rBool (bnd w fun d => ret (k (tyD d))) :=
  PE.imp (pe_callB call_isi hg hm (by decide +kernel) (pa_cons ha (pa_cons (pe_bltn (v := .ty T) hgx hx hv rfl hn hd) pa_nil hs2) hs) (by decide) (by decide) hs hpl) fun σ H Q ⟨F, P, S, hw, kk⟩ => ⟨F, _, S, hw, fun d hd v F1 H1 S1 e1 ok =>
    ⟨v, .ty T, _, .type T, k (tyD d), rfl, .ty T, ty_D ok S1.fh, hk d, kk _ hd (.bl _) F1 H1 S1 e1 rfl⟩⟩
def tyInt (t : String) : Bool := t == "int" || t == "bool"
theorem kd_int {K : PySem.W.Frag} (d : PyData) : PySem.W.kitOne K (.type (tyD d)) (.type "int") = some (tyInt (tyD d)) := by
  cases d <;> (dsimp only [tyD]; exact kit_ty (by decide +kernel))
theorem kd_bool {K : PySem.W.Frag} (d : PyData) : PySem.W.kitOne K (.type (tyD d)) (.type "bool") = some (tyD d == "bool") := by
  cases d <;> (dsimp only [tyD]; exact kit_ty (by decide +kernel))
theorem kd_list {K : PySem.W.Frag} (d : PyData) : PySem.W.kitOne K (.type (tyD d)) (.type "list") = some (tyD d == "list") := by
  cases d <;> (dsimp only [tyD]; exact kit_ty (by decide +kernel))
theorem kd_tuple {K : PySem.W.Frag} (d : PyData) : PySem.W.kitOne K (.type (tyD d)) (.type "tuple") = some (tyD d == "tuple") := by
  cases d <;> (dsimp only [tyD]; exact kit_ty (by decide +kernel))
end
end Mi
namespace Mi
open PySem L2 Evl LamX
open PyProof.Rows (envOfC)
end Mi
namespace Mi
open PySem L2 Evl LamX
open PyProof.Rows (envOfC)
def LamsOk (F : Hp) (vs : List V) (Ds : List (LamD × Bool)) : Prop := Paired (fun v (D : LamD × Bool) => (rLam D.1 D.2).ok F v ()) vs Ds
theorem LamsOk.mono {F F' : Hp} (e : Ex F F') : ∀ {vs : List V} {Ds : List (LamD × Bool)}, LamsOk F vs Ds → LamsOk F' vs Ds := fun h => Paired.imp (fun v D => (rLam D.1 D.2).mono e) h
def rLamL (Ds : List (LamD × Bool)) : Rp Unit := ⟨fun F v _ => ∃ a vs, v = .ref a ∧ F a = some (.lst vs) ∧ vs.length ≤ sizeLine ∧ LamsOk F vs Ds, fun e ⟨a, vs, h1, h2, h3, h4⟩ => ⟨a, vs, h1, e _ _ h2, h3, h4.mono e⟩⟩
def oLams (Ds : List (LamD × Bool)) : Own := ⟨fun F o => ∃ vs, o = .lst vs ∧ vs.length ≤ sizeLine ∧ LamsOk F vs Ds, fun e ⟨vs, h1, h2, h3⟩ => ⟨vs, h1, h2, h3.mono e⟩⟩
def LL (X : Cx) (B : Bs) (env : Env) (os : Os) (es : List Expr) (Ds : List (LamD × Bool)) : Prop := PA X es fun σ H Q => ∃ F, Sit B F H σ env os ∧ ∀ vs F' H', Sit B F' H' σ env os → Ex F F' → LamsOk F' vs Ds → Q vs H'
section
variable {X : Cx} {B : Bs} {env : Env} {os : Os} {pos p : Pos} {e : Expr} {es : List Expr} {D : LamD} {df : Bool} {Ds : List (LamD × Bool)}
theorem ll_nil : LL X B env os [] [] := PA.imp pa_nil fun σ H Q ⟨F, S, k⟩ => k [] F H S (Ex.refl F) .nil
theorem ll_cons (h : EE X B env os e (rLam D df) (ret ())) (ht : LL X B env os es Ds) (hs : starEach (e :: es) X.env = (false, eval e X.env) :: starEach es X.env := by rfl) : LL X B env os (e :: es) ((D, df) :: Ds) :=
  PA.imp (pa_cons h ht hs) fun σ H Q ⟨F, S, k⟩ => ⟨F, fun _ => True, S, trivial, fun _ _ v F1 H1 S1 e1 ok1 => ⟨F1, S1, fun vs F2 H2 S2 e2 ok2 => k (v :: vs) F2 H2 S2 (e1.trans e2) (.cons ((rLam D df).mono e2 ok1) ok2)⟩⟩
theorem e_lams (h : LL X B env os es Ds) (hz : Ds.length ≤ sizeLine := by decide) : EE X B env os (.List es pos) (rLamL Ds) (ret ()) := PE.imp (pe_lst h) fun σ H Q ⟨F, P, S, hw, k⟩ => ⟨F, S, fun vs F' H' S' e' ok =>
  have hl : vs.length ≤ sizeLine := by rw [ok.length]; exact hz
  ⟨hl, fun p hp => by
    obtain ⟨F2, o, e2, h1, ⟨vs', h2, h3, h4⟩, S2⟩ := (S'.newOwn (ow := oLams Ds) hp ⟨vs, rfl, hl, ok⟩).freeze
    subst h2
    exact k () hw (.ref p) F2 _ S2 (e'.trans e2) ⟨p, vs', rfl, h1, h3, h4⟩⟩⟩
end
section
variable {P : Program} {w : World} {K : PySem.W.Frag} {mg : Str → Option Value} {base : Heap} {k : Nat} {f : Addr} {fd : FuncData} {ps N : List Str} {ι ρ : Type} {args : ι → Env} {os : ι → Os} {wf : ι → W ρ} {ro : Rp ρ}
theorem fnWc {x qual : Str} {st : Stmt} {c : Addr} (F : Fun K x qual st f fd) (hfd : fd.code = .ref c) (S : FnScope N ps (defScope st)) (hl : ∀ i, (args i).length = ps.length)
    (body : ∀ (A : Around) (outer : List PySem.Env) (s : Shared) (H : Hp) (E : XK) (B : Bs) (i : ι), Room k (A.deeper (envOfC qual (defScope st) s.heap.objs.size f (.ref c))) → A.guards = some [] →
      BG (cxOf CX0 P w K mg base N qual (defScope st) f (.ref c) A outer s H E).nox B (entry (args i) (N.length - ps.length)) (os i) (defBody st) (pFn B (os i) ro) (wf i)) : FnG P w K mg base CX0 (k + 1) f fd ps (spW args os wf ro) := by
  obtain ⟨oc, od, kV, doc, pm, an, cdv, ct, osl, rfl, lk, hcd⟩ := F.ex
  have hfd : cdv = .ref c := hfd
  subst hfd
  refine ⟨spW_len hl, fun A outer s H args us vs Q E hgu hr e0 hb r hsp => ?_⟩
  have hln := spW_len hl _ _ _ _ hsp
  have hvl := hln
  obtain ⟨i, F0, P0, fh, he, ho, nd, hw, hk⟩ := hsp
  have hk0 : ∀ b o, base.get? b = some o → s.heap.get? b = some o := fun b o e => (e0.bs b o e).1
  have KX := e0.mod.kin.keeps hk0
  refine codeAny_call_function hr.depth (KX _ _ lk) rfl S.co S.gen rfl (PySem.W.codeRec_of KX hcd) (hb _ _ _ _ ?_)
  refine wpAny_newFunctionEnv_cells S.kind (fun ⟨n, v⟩ hy => ?_) fun env he' s1 x => ?_
  · rcases S.par n (List.of_mem_zip hy).1 with q | q
    · exact .inl q
    · exact .inr ⟨q, PySem.W.cellsFrom_some _ _ _ (.inl q)⟩
  subst he'
  refine ⟨(e0.mod.nolimit.keeps hk0).keeps x.toInCall.keep, codeAny_func ?_⟩
  have ht := body A outer s H E (bs0 F0 H (os i)) i (hr.deeper _) hgu
  have I := inv_start (CX := CX0) (E := E) S hr.hd e0 hln r x
  refine wpAny_mono (ht.nox.run [] s1 (L2.start N vs) H { nx := fun _ H' => Q .non H', rt := Q } I ⟨F0, P0, ⟨bs0_start fh ho, ?_, fun p hp => ?_, nd⟩, hw, fun y hy => ⟨fun v F' H' fn ow ok => hk y hy v F' H' fn ow ok, fun σ F' H' fn ow ok => hk y hy .non F' H' fn ow ok⟩⟩) (fun fl s' hs => ?_) fun e s' hs => hs
  · rw [← hvl]
    exact entry_ok he
  · obtain ⟨h1, o, h2, h3⟩ := ho p hp
    exact ⟨h1, ⟨o, h2, h3⟩, .inr (List.mem_map_of_mem hp)⟩
  cases fl with
  | ret u =>
    obtain ⟨v, σ', H', J, rv, q⟩ := hs
    exact ⟨v, H', J.os, J.bare, J.base, J.hok, rv, q⟩
  | next =>
    obtain ⟨σ', H', J, q⟩ := hs
    exact ⟨.non, H', J.os, J.bare, J.base, J.hok, rfl, q⟩
  | brk =>
    obtain ⟨_, _, _, q⟩ := hs
    exact False.elim q
  | cont =>
    obtain ⟨_, _, _, q⟩ := hs
    exact False.elim q
end
end Mi
namespace Mi
open PySem L2 Evl LamX
theorem lamBind0 {D : LamD} {ps : List Str} (h1 : ps = []) (h2 : ∀ (pm cv ct : Value), bindArgs (PySem.W.lmFn D.q D.params D.body D.scope D.cl .none pm cv ct) ⟨[], []⟩ = pure []) : LamBind D false ps := by
  unfold LamBind
  exact ⟨h1, h2⟩
theorem lamBind1 {D : LamD} {ps : List Str} (h1 : ps.length = 1) (h2 : ∀ (td : Addr) (pm cv ct : Value), ∃ k, bindArgs (PySem.W.lmFn D.q D.params D.body D.scope D.cl (.ref td) pm cv ct) ⟨[], []⟩ = seqItems? (.ref td) >>= k ∧ ∀ u, k (some #[u]) = pure (ps.zip [u])) : LamBind D true ps := by
  unfold LamBind
  exact ⟨h1, h2⟩
def hvsB (N ps : List Str) (vs : List Nat) : Bool := (List.range N.length).all fun i => ps.all fun p => N[i]? != some p || vs.contains i
theorem hvs_by {N ps : List Str} {vs : List Nat} (h : hvsB N ps vs = true) : ∀ p ∈ ps, ∀ i, N[i]? = some p → i ∈ vs := fun p hp i e => by
  unfold hvsB at h
  rw [List.all_eq_true] at h
  have hi : i < N.length := by
    rcases Nat.lt_or_ge i N.length with q | q
    · exact q
    · rw [List.getElem?_eq_none q] at e
      cases e
  have h1 := List.all_eq_true.mp (h i (List.mem_range.mpr hi)) p hp
  rw [e] at h1
  simpa using h1
theorem fm_nil {α : Type} {p : α → Prop} : ∀ x ∈ ([] : List α), p x := fun _ h => by cases h
theorem fm_cons {α : Type} {p : α → Prop} {a : α} {l : List α} (h : p a) (t : ∀ x ∈ l, p x) : ∀ x ∈ a :: l, p x := fun x hx => by
  rcases List.mem_cons.mp hx with e | e
  · rw [e]
    exact h
  · exact t x e
end Mi
namespace Mi
open PySem L2 Evl
section
variable {X : Cx} {B : Bs} {env : Env} {os : Os} {e : Expr} {α : Type} {r : Rp α}
theorem e_fail : EE X B env os e r fail := ⟨fun _ _ _ _ _ _ ⟨_, _, _, hw, _⟩ => False.elim hw⟩
end
section
variable {X : Cx} {B : Bs} {env : Env} {os : Os} {pos p : Pos} {α β γ ρ : Type} {s : Rp β} {t : Rp γ} {o e e2 : Expr} {k : Nat} {f C : Addr} {fd : FuncData} {ps : List Str} {m : Str} {fl : α → List (Str × Slot)} {ro : Rp ρ} {apos : Pos} {tb : ETab}
theorem e_la0 {c P : Addr} {params : Arguments} {body : Expr} {scope : Scope} (j : Nat) (TB : LamX.TabB X.base X.mg c P) (hcode : X.env.code = .ref c) (hj : os[j]? = some (P, oTab (X.env.qual ++ "<lambda>"))) (L : ∀ y ∈ scope.names, y.2 = .free → X.env.scope.names.lookup y.1 = some .cell ∨ X.env.scope.names.lookup y.1 = some .free) (h1 : params.defaults = [] := by rfl) (h2 : params.kw_defaults = [] := by rfl) :
    EE X B env os (.Lambda params body scope pos) (rLam ⟨X.env.qual ++ "<lambda>", params, body, scope, cloFrom X.env.cells scope.names []⟩ false) (ret ()) := e_lam0 j TB hcode hj L (by rw [defaultsOf_eq, h1, h2]; rfl)
theorem e_la1 {c P : Addr} {params : Arguments} {body : Expr} {scope : Scope} {dp : Pos} {di : Nat} (j : Nat) (TB : LamX.TabB X.base X.mg c P) (hcode : X.env.code = .ref c) (hj : os[j]? = some (P, oTab (X.env.qual ++ "<lambda>"))) (L : ∀ y ∈ scope.names, y.2 = .free → X.env.scope.names.lookup y.1 = some .cell ∨ X.env.scope.names.lookup y.1 = some .free) (h1 : params.defaults = [.Constant (.int 0) di dp] := by rfl) (h2 : params.kw_defaults = [] := by rfl) :
    EE X B env os (.Lambda params body scope pos) (rLam ⟨X.env.qual ++ "<lambda>", params, body, scope, cloFrom X.env.cells scope.names []⟩ true) (ret ()) := e_lam1 (di := di) (dp := dp) j TB hcode hj L (by rw [defaultsOf_eq, h1, h2]; rfl)
end
end Mi
namespace Mi
open PySem L2 Evl LamX
end Mi
namespace Mi
open PySem L2 Evl
structure KeyR {κ : Type} (rk : Rp κ) (kf : κ → Key) : Prop where
  of : ∀ {F v k}, rk.ok F v k → v = kV (kf k)
  inj : ∀ {a b}, kf a = kf b → a = b
theorem key_int : KeyR rInt Sum.inl := ⟨fun h => h, fun h => Sum.inl.inj h⟩
def DPair {κ α : Type} (F : Hp) (rk : Rp κ) (kf : κ → Key) (r : Rp α) (p : Key × V) (q : κ × α) : Prop := p.1 = kf q.1 ∧ rk.ok F (kV p.1) q.1 ∧ r.ok F p.2 q.2
theorem dpairs_mono {κ α : Type} {F F' : Hp} {rk : Rp κ} {kf : κ → Key} {r : Rp α} {kvs : List (Key × V)} {xs : List (κ × α)} (e : Ex F F') (h : Paired (DPair F rk kf r) kvs xs) : Paired (DPair F' rk kf r) kvs xs := Paired.imp (fun _ _ ⟨h1, h2, h3⟩ => ⟨h1, rk.mono e h2, r.mono e h3⟩) h
section
variable {κ α : Type} [DecidableEq κ]
def dget (xs : List (κ × α)) (k : κ) : Option α := (xs.find? fun p => decide (p.1 = k)).map (·.2)
def dput (xs : List (κ × α)) (k : κ) (v : α) : List (κ × α) := if (xs.any fun p => decide (p.1 = k)) = true then xs.map (fun p => if p.1 = k then (p.1, v) else p) else xs ++ [(k, v)]
variable {F F' : Hp} {rk : Rp κ} {kf : κ → Key} {r : Rp α} {kvs : List (Key × V)} {xs : List (κ × α)}
theorem dget_ok (K : KeyR rk kf) (h : Paired (DPair F rk kf r) kvs xs) (k : κ) : (valV kvs (kf k) = none ∧ dget xs k = none) ∨ ∃ v x, valV kvs (kf k) = some v ∧ dget xs k = some x ∧ r.ok F v x := by
  induction h with
  | nil => exact .inl ⟨rfl, rfl⟩
  | @cons p q kvs xs hp t ih =>
    by_cases e : q.1 = k
    · refine .inr ⟨p.2, q.2, valV_pos (by rw [hp.1, e]), ?_, hp.2.2⟩
      unfold dget
      rw [List.find?_cons, e]
      simp
    · have e' : ¬ p.1 = kf k := fun z => e (K.inj (hp.1.symm.trans z))
      rw [valV_neg e']
      have : dget (q :: xs) k = dget xs k := by
        unfold dget
        rw [List.find?_cons]
        simp [e]
      rw [this]
      exact ih
theorem dany_ok (K : KeyR rk kf) (h : Paired (DPair F rk kf r) kvs xs) (k : κ) : (kvs.any fun kv => decide (kv.1 = kf k)) = (xs.any fun p => decide (p.1 = k)) := by
  induction h with
  | nil => rfl
  | @cons p q kvs xs hp t ih =>
    rw [List.any_cons, List.any_cons, ih]
    congr 1
    rw [Bool.eq_iff_iff, decide_eq_true_eq, decide_eq_true_eq, hp.1]
    exact ⟨fun z => K.inj z, fun z => by rw [z]⟩
theorem dmap_ok (K : KeyR rk kf) (h : Paired (DPair F rk kf r) kvs xs) {k : κ} {v : V} {x : α} (hv : r.ok F v x) : Paired (DPair F rk kf r) (kvs.map fun kv => if kv.1 = kf k then (kv.1, v) else kv) (xs.map fun p => if p.1 = k then (p.1, x) else p) := by
  induction h with
  | nil => exact .nil
  | @cons p q kvs xs hp t ih =>
    rw [List.map_cons, List.map_cons]
    refine .cons ?_ ih
    by_cases e : q.1 = k
    · rw [if_pos e, if_pos (by rw [hp.1, e])]
      exact ⟨hp.1, hp.2.1, hv⟩
    · rw [if_neg e, if_neg fun z => e (K.inj (hp.1.symm.trans z))]
      exact hp
theorem dput_ok (K : KeyR rk kf) (h : Paired (DPair F rk kf r) kvs xs) {k : κ} {v : V} {x : α} (hk : rk.ok F (kV (kf k)) k) (hv : r.ok F v x) : Paired (DPair F rk kf r) (putK kvs (kf k) v) (dput xs k x) := by
  unfold putK dput
  rw [dany_ok K h k]
  split
  · exact dmap_ok K h hv
  · exact Paired.app h (.cons ⟨rfl, hk, hv⟩ .nil)
theorem putK_len (kvs : List (Key × V)) (k : Key) (v : V) : (putK kvs k v).length ≤ kvs.length + 1 := by
  unfold putK
  split
  · rw [List.length_map]; omega
  · rw [List.length_append]; exact Nat.le_refl _
end
/-- a dict that nobody changes any more -/
def rDct {κ α : Type} (rk : Rp κ) (kf : κ → Key) (r : Rp α) : Rp (List (κ × α)) := ⟨fun F v xs => ∃ a ob kvs, v = .ref a ∧ F a = some (.frz ob (.dK kvs)) ∧ kvs.length ≤ sizeLine ∧ Paired (DPair F rk kf r) kvs xs, fun e ⟨a, ob, kvs, h1, h2, h3, h4⟩ => ⟨a, ob, kvs, h1, e _ _ h2, h3, dpairs_mono e h4⟩⟩
/-- a dict of one's own -/
def oDct {κ α : Type} (rk : Rp κ) (kf : κ → Key) (r : Rp α) (xs : List (κ × α)) : Own := ⟨fun F o => ∃ kvs, o = .dK kvs ∧ kvs.length ≤ sizeLine ∧ Paired (DPair F rk kf r) kvs xs, fun e ⟨kvs, h1, h2, h3⟩ => ⟨kvs, h1, h2, dpairs_mono e h3⟩⟩
def optW {α : Type} : Option α → W α
  | some x => ret x
  | none => fail
section
variable {X : Cx} {B : Bs} {env : Env} {os : Os} {pos p : Pos} {κ α β : Type} [DecidableEq κ] {rk : Rp κ} {kf : κ → Key} {r : Rp α} {o a b c e : Expr} {rest : List Stmt} {post : Post β}
/-- d[k] -/
theorem e_dget {w1 : W (List (κ × α))} {w2 : List (κ × α) → W κ} (K : KeyR rk kf) (hu : X.A.units + 100 < cLine) (ha : EE X B env os a (rDct rk kf r) w1) (hb : ∀ x, EE X B env os b rk (w2 x)) (hs : NoSl b := by exact fun _ _ => rfl) : EE X B env os (.Subscript a b pos) r (bnd w1 fun xs => bnd (w2 xs) fun k => optW (dget xs k)) :=
  PE.imp (pe_dget (by omega) ha (PE.ex hb) hs) fun σ H Q ⟨F, P, S, hw, kk⟩ => ⟨F, _, S, hw, fun xs hx v F1 H1 S1 e1 ⟨p1, ob, kvs, q1, h1, z1, ok1⟩ => ⟨xs, F1, _, S1, hx, fun k hk u F2 H2 S2 e2 ok2 => by
    have eu := K.of ok2
    subst q1 eu
    have hk : optW (dget xs k) P B.E0 := hk
    rcases dget_ok K (dpairs_mono e2 ok1) k with ⟨g1, g2⟩ | ⟨v, x, g1, g2, g3⟩
    · rw [g2] at hk
      exact False.elim hk
    · rw [g2] at hk
      exact ⟨p1, v, rfl, .inl ⟨kvs, kf k, .inr ⟨_, S2.fh _ _ (e2 _ _ h1)⟩, rfl, g1.symm⟩, kk x hk v F2 H2 S2 (e1.trans e2) g3⟩⟩⟩
theorem Sit.dct {F H : Hp} {σ : L2.St} {i j : Nat} {q : Addr} {xs : List (κ × α)} (S : Sit B F H σ env os) (hi : env[i]? = some (sv (rAdr q) ())) (hj : os[j]? = some (q, oDct rk kf r xs)) :
    σ[i]? = some (some (.ref q)) ∧ F q = none ∧ ∃ kvs, H q = some (.dK kvs) ∧ kvs.length ≤ sizeLine ∧ Paired (DPair F rk kf r) kvs xs := by
  obtain ⟨ov, g1, v, g2, g3⟩ := S.env.get hi
  have g3 : v = .ref q := g3
  subst g2 g3
  obtain ⟨h1, ⟨o, h2, kvs, h3, h4, h5⟩, _⟩ := S.ow _ (List.mem_of_getElem? hj)
  subst h3
  exact ⟨g1, h1, kvs, h2, h4, h5⟩
/-- d = {} -/
theorem b_dnew (i : Nat) {x : Str} {pos' p2 : Pos} {w2 : W β} (rk : Rp κ) (kf : κ → Key) (r : Rp α) (hr : ∀ a, BG X B (env.set i (sv (rAdr a) ())) ((a, oDct rk kf r []) :: os) rest post w2) (hN : X.N.Nodup) (hi : X.N[i]? = some x := by rfl)
    (hx : Loc X.env.scope x := by first | exact Or.inl rfl | exact Or.inr rfl) (hs : swapsWith (.Dict [] [] p2) (some (.Name x pos')) pos.line X.env = pure false := by rfl) (hf : X.fn x = true ∨ X.env.scope.names.lookup x = some .local := by first | exact .inl rfl | exact .inr rfl | assumption) :
    BG X B env os (.Assign [.Name x pos'] (.Dict [] [] p2) pos :: rest) post w2 :=
  PSs.imp (pss_cons (ps_set hN hi hx pe_dnewK hs hf) (PSs.ex hr)) fun D σ H ⟨F, P, S, hw, k⟩ => fun q hq => ⟨q, F, P, (S.newOwn (ow := oDct rk kf r []) hq ⟨[], rfl, Nat.zero_le _, .nil⟩).store ⟨_, rfl, rfl⟩, hw, k⟩
/-- d[k] = e, d one's own -/
theorem b_dput (i j : Nat) {x : Str} {p1 p2 : Pos} {q : Addr} {xs : List (κ × α)} {w : W α} {w1 : α → W κ} {w2 : List (κ × α) → W β} (K : KeyR rk kf) (hu : X.A.units + 100 < cLine) (hi : env[i]? = some (sv (rAdr q) ())) (hj : os[j]? = some (q, oDct rk kf r xs)) (he : EE X B env os e r w) (hk : ∀ y, EE X B env os b rk (w1 y))
    (hr : ∀ ys, BG X B env (os.set j (q, oDct rk kf r ys)) rest post (w2 ys)) (hN : X.N[i]? = some x := by rfl)
    (hv : Vis X.env.scope x := by first | exact Or.inl rfl | exact Or.inr (Or.inl rfl) | exact Or.inr (Or.inr rfl)) (hd : (x == ("__debug__" : Str)) = false := by decide) (hcd : (x == ("__classdict__" : Str)) = false := by decide)
    (hs : swapsWith e (some (.Subscript (.Name x p1) b p2)) pos.line X.env = pure false := by rfl) :
    BG X B env os (.Assign [.Subscript (.Name x p1) b p2] e pos :: rest) post (bnd w fun y => bnd (w1 y) fun k => chk (xs.length < sizeLine) (w2 (dput xs k y))) :=
  PSs.imp (pss_cons (ps_dput (by omega) (pe_var hN hv hd hcd) (PE.ex hk) he hs) (PSs.ex hr)) fun D σ H ⟨F, P, S, hw, kk⟩ => ⟨F, _, S, hw, fun y hy v F1 H1 S1 e1 ok => by
    obtain ⟨g1, _, _, _, _, _⟩ := S1.dct hi hj
    refine ⟨.ref q, g1, y, F1, _, S1, hy, fun k ⟨hl, hz⟩ u F2 H2 S2 e2 ok2 => ?_⟩
    obtain ⟨_, g2, kvs, g3, g4, g5⟩ := S2.dct hi hj
    have eu := K.of ok2
    subst eu
    have hl' : kvs.length < sizeLine := by rw [g5.length]; exact hl
    have lp := putK_len kvs (kf k) v
    exact ⟨q, _, rfl, .inl ⟨kvs, kf k, g3, rfl, hl', rfl⟩, _, F2, P, S2.change hj ⟨_, rfl, by omega, dput_ok K g5 ok2 (r.mono e2 ok)⟩, hz, kk⟩⟩
theorem pe_lockR {t : TE} (h : PE X e t) : PE X e (fun σ H Q => t σ H fun v H' => ∃ d u, v = .ref d ∧ H' d = some u ∧ Mut (some u) ∧ ∀ od, Q v (upd H' d (.frz od u))) := ⟨fun pins s σ H Q I hw => by
  refine thn (h.run pins s σ H _ I hw) fun w s1 ⟨x, H1, I1, r1, d, u, ex, hd, mu, q⟩ => ?_
  obtain ⟨od, I2⟩ := I1.lock hd mu
  exact ⟨x, _, I2, r1, q od⟩⟩
theorem Sit.lockD {F H : Hp} {σ : L2.St} {q : Addr} {xs : List (κ × α)} (S : Sit B F H σ env ((q, oDct rk kf r xs) :: os)) :
    ∃ kvs, H q = some (.dK kvs) ∧ ∀ od, ∃ F', Ex F F' ∧ (rDct rk kf r).ok F' (.ref q) xs ∧ Sit B F' (upd H q (.frz od (.dK kvs))) σ env os := by
  obtain ⟨h1, ⟨o, h2, kvs, h3, h4, h5⟩, _⟩ := S.ow _ List.mem_cons_self
  subst h3
  refine ⟨kvs, h2, fun od => ?_⟩
  have S2 := S.change (j := 0) (ow' := ⟨fun F o => o = .frz od (.dK kvs) ∧ Paired (DPair F rk kf r) kvs xs, fun e ⟨z, w⟩ => ⟨z, dpairs_mono e w⟩⟩) (o' := .frz od (.dK kvs)) rfl ⟨rfl, h5⟩
  obtain ⟨F', o, e, k1, ⟨k2, k3⟩, S3⟩ := Sit.freeze S2
  subst k2
  exact ⟨F', e, ⟨q, od, kvs, rfl, k1, h4, k3⟩, S3⟩
def tNewD {κ α : Type} (B : Bs) (env : Env) (os : Os) (rk : Rp κ) (kf : κ → Key) (r : Rp α) (w : W (List (κ × α))) : TE := fun σ H Q => ∃ F P, Sit B F H σ env os ∧ w P B.E0 ∧ ∀ xs, P xs → ∀ a F' H', Sit B F' H' σ env ((a, oDct rk kf r xs) :: os) → Ex F F' → Q (.ref a) H'
def ED {κ α : Type} (X : Cx) (B : Bs) (env : Env) (os : Os) (e : Expr) (rk : Rp κ) (kf : κ → Key) (r : Rp α) (w : W (List (κ × α))) : Prop := PE X e (tNewD B env os rk kf r w)
theorem e_newD {w : W (List (κ × α))} (h : ED X B env os e rk kf r w) : EE X B env os e (rDct rk kf r) w := PE.imp (pe_lockR h) fun σ H Q ⟨F, P, S, hw, k⟩ => ⟨F, P, S, hw, fun xs hx a F' H' S' e' => by
  obtain ⟨kvs, h1, hl⟩ := S'.lockD
  refine ⟨a, .dK kvs, rfl, h1, trivial, fun od => ?_⟩
  obtain ⟨F2, e2, ok, S2⟩ := hl od
  exact k xs hx (.ref a) F2 _ S2 (e'.trans e2) ok⟩
end
end Mi
namespace Mi
open PySem L2 Evl
theorem dpAll_paired {K : PySem.W.Frag} {F : Hp} : ∀ {ds : List PyData} {vs : List V}, DpAll K F vs ds → Paired (Dp K F) vs ds
  | [], _, h => by
    cases h
    exact .nil
  | d :: ds, _, h => by
    cases h with
    | cons h t => exact .cons h (dpAll_paired t)
theorem depthAll_mem : ∀ {ds : List PyData} {d : PyData}, d ∈ ds → d.depth ≤ PyData.depthAll ds
  | d :: ds, e, h => by
    rw [PyData.depthAll]
    rcases List.mem_cons.mp h with z | z
    · rw [z]
      omega
    · have := depthAll_mem z
      omega
def lenD : PyData → W Int
  | .str s => chk (s.length ≤ sizeLine) (ret (s.length : Int))
  | .list ds => ret (ds.length : Int)
  | .tuple ds => ret (ds.length : Int)
  | _ => fail
def idxD (d : PyData) (i : Int) : W PyData := match d with
  | .list ds => idx ds i
  | .tuple ds => idx ds i
  | _ => fail
section
variable {X : Cx} {B : Bs} {env : Env} {os : Os} {pos p : Pos} {a b e : Expr} {rest : List Stmt} {α β : Type} {post : Post β}
theorem e_lenD {w : W PyData} (ha : EE X B env os a (rD X.K) w) (hm : X.mg "len" = none) (hg : Gl X "len" := by rfl) (he : starEach [a] X.env = (false, eval a X.env) :: starEach [] X.env := by rfl) (hpl : (backTo pos (starEach [] X.env)).any (·.1) = false := by rfl) :
    EE X B env os (.Call (.Name "len" p) [a] [] pos) rInt (bnd w lenD) :=
  PE.imp (pe_callB call_len hg hm PySem.boot_len (pa_cons ha pa_nil he) (by decide) (by decide) he hpl) fun σ H Q ⟨F, P, S, hw, kk⟩ => ⟨F, _, S, hw, fun d hd v F1 H1 S1 e1 ⟨ok, h2, h3⟩ => by
    have hd : lenD d P B.E0 := hd
    cases ok with
    | non => exact False.elim hd
    | bl b => exact False.elim hd
    | int i => exact False.elim hd
    | str x => exact ⟨_, x.length, rfl, ⟨hd.1, rfl⟩, kk _ hd.2 (.int _) F1 H1 S1 e1 rfl⟩
    | @lst a1 vs ds h t =>
      have hl := (dpAll_paired t).length
      refine ⟨_, ds.length, rfl, .inl ⟨vs, ex_l S1.fh h, hl.symm⟩, kk _ hd (.int _) F1 H1 S1 e1 rfl⟩
    | @tup a1 vs ds h t =>
      have hl := (dpAll_paired t).length
      refine ⟨_, ds.length, rfl, .inr ⟨vs, ex_t S1.fh h, hl.symm⟩, kk _ hd (.int _) F1 H1 S1 e1 rfl⟩⟩
theorem atI_pair {κ : Type} {R : V → κ → Prop} {vs : List V} {ds : List κ} (h : Paired R vs ds) {i : Int} {d : κ} (e : atI ds i = some d) : ∃ v, atI vs i = some v ∧ R v d := by
  unfold atI at e ⊢
  rw [h.length]
  cases q : ixN ds.length i with
  | none => rw [q] at e; cases e
  | some j =>
    rw [q] at e
    have e2 : ds[j]? = some d := e
    clear q e
    show ∃ v, vs[j]? = some v ∧ R v d
    induction h generalizing j with
    | nil => simp at e2
    | cons r t ih =>
      cases j with
      | zero =>
        simp at e2
        subst e2
        exact ⟨_, rfl, r⟩
      | succ j => exact ih j (by simpa using e2)
theorem atI_mem {κ : Type} {ds : List κ} {i : Int} {d : κ} (e : atI ds i = some d) : d ∈ ds := by
  unfold atI at e
  cases q : ixN ds.length i with
  | none => rw [q] at e; cases e
  | some j =>
    rw [q] at e
    exact List.mem_of_getElem? (show ds[j]? = some d from e)
theorem e_idxD {w1 : W PyData} {w2 : PyData → W Int} (ha : EE X B env os a (rD X.K) w1) (hb : ∀ x, EE X B env os b rInt (w2 x)) (hs : PlainIx b := by exact fun _ _ => rfl) : EE X B env os (.Subscript a b pos) (rD X.K) (bnd w1 fun d => bnd (w2 d) fun i => idxD d i) :=
  PE.imp (pe_ix ix_seq ha (PE.ex hb) hs) fun σ H Q ⟨F, P, S, hw, kk⟩ => ⟨F, _, S, hw, fun d hd v F1 H1 S1 e1 okd => ⟨d, F1, _, S1, hd, fun i hi u F2 H2 S2 e2 ok2 => by
    have ok2 : u = .int i := ok2
    subst ok2
    have hi : idxD d i P B.E0 := hi
    obtain ⟨ok, c, dp⟩ := (rD X.K).mono e2 okd
    cases ok with
    | non => exact False.elim hi
    | bl b => exact False.elim hi
    | int i => exact False.elim hi
    | str x => exact False.elim hi
    | lst h t =>
      obtain ⟨y, g1, g2⟩ := idx_of (show idx _ i P B.E0 from hi)
      obtain ⟨v, g3, g4⟩ := atI_pair (dpAll_paired t) g1
      have hm : y ∈ _ := atI_mem g1
      rw [PyData.depth] at dp
      have := depthAll_mem hm
      exact .inl ⟨_, _, i, v, rfl, rfl, ex_l S2.fh h, g3, kk y g2 v F2 H2 S2 (e1.trans e2) ⟨g4, PyData.canLay0_of_mem _ _ (by simpa only [PyData.canLay0] using c) hm, by omega⟩⟩
    | tup h t =>
      obtain ⟨y, g1, g2⟩ := idx_of (show idx _ i P B.E0 from hi)
      obtain ⟨v, g3, g4⟩ := atI_pair (dpAll_paired t) g1
      have hm : y ∈ _ := atI_mem g1
      rw [PyData.depth] at dp
      have := depthAll_mem hm
      exact .inr (.inl ⟨_, _, i, v, rfl, rfl, ex_t S2.fh h, g3, kk y g2 v F2 H2 S2 (e1.trans e2) ⟨g4, PyData.canLay0_of_mem _ _ (by simpa only [PyData.canLay0] using c) hm, by omega⟩⟩)⟩⟩
/-- isinstance(e, (T1, T2)) -/
theorem e_isTD {w : W PyData} {x1 x2 : Str} {T1 T2 : String} {k : String → Bool} {p1 p2 p3 p4 : Pos} {kk0 : Nat} (hk : ∀ d, PySem.W.kitAny X.K (.type (tyD d)) [.type T1, .type T2] = some (k (tyD d))) (ha : EE X B env os a (rD X.K) w) (hm : X.mg "isinstance" = none) (hx1 : X.mg x1 = none) (hx2 : X.mg x2 = none)
    (hv1 : bootBuiltins x1 = some (.type T1) := by decide +kernel) (hn1 : x1 ≠ "__name__" := by decide) (hd1 : (x1 == ("__debug__" : Str)) = false := by decide) (hv2 : bootBuiltins x2 = some (.type T2) := by decide +kernel) (hn2 : x2 ≠ "__name__" := by decide) (hd2 : (x2 == ("__debug__" : Str)) = false := by decide)
    (hg : Gl X "isinstance" := by rfl) (hg1 : Gl X x1 := by rfl) (hg2 : Gl X x2 := by rfl) (hs : starEach [a, .Tuple [.Name x1 p2, .Name x2 p3] kk0 p4] X.env = (false, eval a X.env) :: starEach [.Tuple [.Name x1 p2, .Name x2 p3] kk0 p4] X.env := by rfl) (hs2 : starEach [.Tuple [.Name x1 p2, .Name x2 p3] kk0 p4] X.env = (false, eval (.Tuple [.Name x1 p2, .Name x2 p3] kk0 p4) X.env) :: starEach [] X.env := by rfl)
    (hs3 : starEach [.Name x1 p2, .Name x2 p3] X.env = (false, eval (.Name x1 p2) X.env) :: starEach [.Name x2 p3] X.env := by rfl) (hs4 : starEach [.Name x2 p3] X.env = (false, eval (.Name x2 p3) X.env) :: starEach [] X.env := by rfl) (hpl : (backTo pos (starEach [.Tuple [.Name x1 p2, .Name x2 p3] kk0 p4] X.env)).any (·.1) = false := by rfl) :
    EE X B env os (.Call (.Name "isinstance" p1) [a, .Tuple [.Name x1 p2, .Name x2 p3] kk0 p4] [] pos) rBool (bnd w fun d => ret (k (tyD d))) :=
  PE.imp (pe_callB call_isiT hg hm (by decide +kernel) (pa_cons ha (pa_cons (pe_tup (pa_cons (pe_bltn (v := .ty T1) hg1 hx1 hv1 rfl hn1 hd1) (pa_cons (pe_bltn (v := .ty T2) hg2 hx2 hv2 rfl hn2 hd2) pa_nil hs4) hs3)) pa_nil hs2) hs) (by decide) (by decide) hs hpl) fun σ H Q ⟨F, P, S, hw, kk⟩ => ⟨F, _, S, hw, fun d hd v F1 H1 S1 e1 ok => ⟨by show 2 ≤ sizeLine; decide, fun q hq => by
    have g : Grow F1 H1 (upd F1 q (.tup [.ty T1, .ty T2])) (upd H1 q (.tup [.ty T1, .ty T2])) := Grow.alloc S1.fh hq
    exact ⟨v, q, [.ty T1, .ty T2], _, [.type T1, .type T2], k (tyD d), rfl, upd_same, .cons (.ty T1) (.cons (.ty T2) .nil), ty_D ((rD X.K).mono g.f ok) (S1.grow g).fh, hk d, kk _ hd (.bl _) _ _ (S1.grow g) (e1.trans g.f) rfl⟩⟩⟩
def asInt : PyData → W Int
  | .int i => ret i
  | _ => fail
theorem nr_int {K : PySem.W.Frag} {d : PyData} {F : Hp} {v : V} {P : Int → Prop} {E : Er → Prop} (h : (rD K).ok F v d) (q : asInt d P E) : ∃ x, P x ∧ rInt.ok F v x := by
  obtain ⟨ok, _, _⟩ := h
  cases ok with
  | int i => exact ⟨i, q, rfl⟩
  | _ => exact False.elim q
end
end Mi
namespace Mi
open PySem L2 Evl
theorem kt_lt {K : PySem.W.Frag} (d : PyData) : PySem.W.kitAny K (.type (tyD d)) [.type "list", .type "tuple"] = some (tyD d == "list" || tyD d == "tuple") := by
  unfold PySem.W.kitAny PySem.W.kitAny PySem.W.kitAny
  rw [kd_list, kd_tuple]
  cases d <;> rfl
section
variable {X : Cx} {B : Bs} {env : Env} {os : Os} {pos p : Pos} {κ α β : Type} {rk : Rp κ} {kf : κ → Key} {r : Rp α} {tg o a b c e : Expr}
theorem dkeys_get {F : Hp} {kvs : List (Key × V)} {xs : List (κ × α)} (h : Paired (DPair F rk kf r) kvs xs) {i : Nat} {q : κ × α} (hq : xs[i]? = some q) : ∃ p, kvs[i]? = some p ∧ DPair F rk kf r p q := by
  obtain ⟨v, h1, h2⟩ := Paired.get h hq
  exact ⟨v, h1, h2⟩
theorem s_keys {w : W (List (κ × α))} (h : EE X B env os e (rDct rk kf r) w) : ES X B env os tg e rk (bnd w fun xs => ret (xs.map (·.1))) := PI.imp (pi_keys h) fun σ H R ⟨F, P, S, hw, k⟩ => ⟨F, _, S, hw, fun xs hx v F' H' S' e' ⟨p, ob, kvs, e1, h1, h2, h3⟩ =>
  ⟨p, ob, e1, .inl ⟨kvs, S'.fh _ _ h1, k _ hx _ F' H' S' e' ⟨fun i F1 H1 x1 x2 hi => by
    rw [List.length_map] at hi
    exact ⟨x2 _ _ (x1 _ _ h1), by rw [h3.length]; exact hi⟩, fun i F1 H1 u H2 x x1 x2 y hx => by
    obtain ⟨e2, k1, v1, y1, y2⟩ := y
    subst e2 y2
    rw [List.getElem?_map] at hx
    cases q : xs[i]? with
    | none => rw [q] at hx; cases hx
    | some z =>
      rw [q] at hx
      cases hx
      obtain ⟨pp, g1, g2⟩ := dkeys_get h3 q
      rw [y1] at g1
      cases g1
      exact ⟨F1, Grow.refl x2, rk.mono x1 g2.2.1⟩, fun i F1 H1 x1 x2 hi => by
    rw [List.length_map] at hi
    exact ⟨x2 _ _ (x1 _ _ h1), by rw [h3.length]; exact hi⟩⟩ (by rw [List.length_map, ← h3.length]; exact h2)⟩⟩⟩
theorem dkeys_list {F : Hp} : ∀ {kvs : List (Key × V)} {xs : List (κ × α)}, Paired (DPair F rk kf r) kvs xs → Paired (rk.ok F) (kvs.map fun kv => kV kv.1) (xs.map (·.1))
  | _, _, .nil => .nil
  | _, _, .cons h t => .cons h.2.1 (dkeys_list t)
/-- list(d) -/
theorem n_listD {w : W (List (κ × α))} (hc : X.calm = true) (ha : EE X B env os a (rDct rk kf r) w) (hm : X.mg "list" = none) (hg : Gl X "list" := by rfl) (he : starEach [a] X.env = (false, eval a X.env) :: starEach [] X.env := by rfl) (hpl : (backTo pos (starEach [] X.env)).any (·.1) = false := by rfl) :
    EN X B env os (.Call (.Name "list" p) [a] [] pos) rk (bnd w fun xs => ret (xs.map (·.1))) :=
  PE.imp (pe_callTy (call_listD hc) hg hm (by decide +kernel) (pa_cons ha pa_nil he) (by decide) (by decide) he hpl) fun σ H Q ⟨F, P, S, hw, k⟩ => ⟨F, _, S, hw, fun x hx v F1 H1 S1 e1 ⟨p1, ob, kvs, q1, h1, z1, ok1⟩ => by
    refine ⟨p1, kvs, by rw [q1], .inr ⟨_, S1.fh _ _ h1⟩, fun l hl => k _ hx l F1 _ (S1.newOwn hl ⟨kvs.map fun kv => kV kv.1, rfl, by rw [List.length_map]; exact z1, dkeys_list ok1⟩) e1⟩⟩
end
end Mi
namespace Mi
open PySem L2 Evl
def dcW {α κ β : Type} [DecidableEq κ] (c : α → W Bool) (fk : α → W κ) (fv : α → W β) : List α → List (κ × β) → W (List (κ × β))
  | [], ys => ret ys
  | x :: xs, ys => bnd (c x) fun b => if b = true then bnd (fk x) fun k => bnd (fv x) fun v => dcW c fk fv xs (dput ys k v) else dcW c fk fv xs ys
section
variable {X : Cx} {B : Bs} {env : Env} {os : Os} {α κ β : Type} [DecidableEq κ] {r : Rp α} {rk : Rp κ} {kf : κ → Key} {s : Rp β} {kx vx tg iter test : Expr} {scope : Scope} {pos : Pos}
theorem dput_len (ys : List (κ × β)) (k : κ) (v : β) : (dput ys k v).length ≤ ys.length + 1 := by
  unfold dput
  split
  · rw [List.length_map]; exact Nat.le_succ _
  · rw [List.length_append, List.length_singleton]; exact Nat.le_refl _
theorem dc_read {w : W (List α)} {c : α → W Bool} {fk : α → W κ} {f : α → W β} {own : List (Str × Nat)} {g : TG} {tt : TT} {tk te : TE} {is : List Nat} {envT : Env → α → Env} (K : KeyR rk kf)
    (st : ∀ M D ys x σ H Q, tOfT (B.at M) (envT (wipeE env (own.map (fun p : Str × Nat => p.2))) x) ((D, oDct rk kf s ys) :: os) (c x) σ H Q → tt σ H Q)
    (sk : ∀ M D ys x σ H Q, tOf (B.at M) (envT (wipeE env (own.map (fun p : Str × Nat => p.2))) x) ((D, oDct rk kf s ys) :: os) rk (fk x) σ H Q → tk σ H Q)
    (se : ∀ M D ys x σ H Q, tOf (B.at M) (envT (wipeE env (own.map (fun p : Str × Nat => p.2))) x) ((D, oDct rk kf s ys) :: os) s (f x) σ H Q → te σ H Q)
    (tgt : TgT g r is envT) (his : ∀ i ∈ is, i ∈ own.map (fun p : Str × Nat => p.2)) {σ : L2.St} {H : Hp} {Q : VK} (h : tNewD B env os rk kf s (bnd w fun xs => dcW c fk f xs []) σ H Q) :
    tDc (tSrc B env os r w) g tt tk te (own.map (fun p : Str × Nat => p.2)) σ H Q := by
  obtain ⟨F, P, S, hw, k⟩ := h
  refine ⟨F, _, S, hw, fun xs hxs J F1 H1 S1 e1 wk hz D hD => ?_⟩
  refine ⟨(fun i m H => m = xs.length - i ∧ i ≤ xs.length ∧ ∃ F' ys, ys.length ≤ i ∧ Sit (B.at F1) F' H σ env ((D, oDct rk kf s ys) :: os) ∧ dcW c fk f (xs.drop i) ys P B.E0 : Nat → Nat → Hp → Prop), ?_, ?_⟩
  · refine ⟨xs.length, by simp, Nat.zero_le _, F1, [], Nat.zero_le _, ?_, ?_⟩
    · have S1' : Sit (B.at F1) F1 H1 σ env os := ⟨⟨S1.fin.fh, S1.fin.bf, Ex.refl F1, S1.fin.bb, S1.fin.ios, S1.fin.keep⟩, S1.env, S1.ow, S1.nd⟩
      exact S1'.newOwn (ow := oDct rk kf s []) hD ⟨[], rfl, Nat.zero_le _, .nil⟩
    · rw [List.drop_zero]
      exact hxs
  rintro i m H2 ⟨rfl, hi, F2, ys, hyl, S2, hw2⟩
  have e12 : Ex F1 F2 := S2.fin.mrk
  by_cases hlt : i < xs.length
  · obtain ⟨x, hx⟩ : ∃ x, xs[i]? = some x := ⟨_, List.getElem?_eq_getElem hlt⟩
    refine .inr ⟨wk.go i F2 H2 e12 S2.fh hlt, (fun H' => ∃ F' ys, ys.length ≤ i + 1 ∧ Sit (B.at F1) F' H' σ env ((D, oDct rk kf s ys) :: os) ∧ dcW c fk f (xs.drop (i + 1)) ys P B.E0 : Hp → Prop), ?_, fun v H3 y => ?_⟩
    · intro H' h
      exact ⟨xs.length - (i + 1), by omega, rfl, hlt, h⟩
    obtain ⟨F3, gr, rv⟩ := wk.yld i F2 H2 v H3 x e12 S2.fh y hx
    have S3 : Sit (B.at F1) F3 H3 σ env ((D, oDct rk kf s ys) :: os) := S2.grow gr
    refine tgt F3 H3 v x (wipe σ (own.map (fun p : Str × Nat => p.2))) (wipeE env (own.map (fun p : Str × Nat => p.2))) _ rv S3.fh (S3.env.wipe _) fun σ' hσ hwipe => ⟨?_, ?_⟩
    · rw [hwipe _ his]
      have ww : ∀ (τ : L2.St) (vs : List Nat), wipe (wipe τ vs) vs = wipe τ vs := by
        intro τ vs
        have key : ∀ (us vs : List Nat), (∀ u ∈ us, u ∈ vs) → wipe (wipe τ us) vs = wipe τ vs := by
          intro us
          induction us with
          | nil => intro vs _; rfl
          | cons u us ih =>
            intro vs h
            show wipe ((wipe τ us).set u none) vs = wipe τ vs
            rw [wipe_set (h u (List.mem_cons_self ..)), ih vs fun z hz => h z (List.mem_cons_of_mem _ hz)]
        exact key vs vs fun _ h => h
      exact ww σ _
    · rw [drop_cons hx] at hw2
      have hw3 : c x (fun b => (if b = true then bnd (fk x) fun kk => bnd (f x) fun y => dcW c fk f (xs.drop (i + 1)) (dput ys kk y) else dcW c fk f (xs.drop (i + 1)) ys) P B.E0) B.E0 := hw2
      have St : Sit (B.at F1) F3 H3 σ' (envT (wipeE env (own.map (fun p : Str × Nat => p.2))) x) ((D, oDct rk kf s ys) :: os) := ⟨S3.fin, hσ, S3.ow, S3.nd⟩
      refine st F1 D ys x σ' H3 _ ⟨F3, _, St, hw3, fun b hb F4 H4 S4 e34 => ?_⟩
      cases b with
      | false => exact ⟨F4, ys, by omega, ⟨S4.fin, S3.env.mono e34, S4.ow, S4.nd⟩, hb⟩
      | true =>
        have hb' : fk x (fun kk => f x (fun y => dcW c fk f (xs.drop (i + 1)) (dput ys kk y) P B.E0) B.E0) B.E0 := hb
        refine sk F1 D ys x σ' H4 _ ⟨F4, _, S4, hb', fun kk hk vk F5 H5 S5 e45 okk => ?_⟩
        refine se F1 D ys x σ' H5 _ ⟨F5, _, S5, hk, fun z hz v' F6 H6 S6 e56 okz => ?_⟩
        obtain ⟨hF6, ⟨o, ho, vs, eo, hl, pr⟩, hB6⟩ := S6.ow (D, oDct rk kf s ys) (List.mem_cons_self ..)
        subst eo
        have hlen : vs.length < sizeLine := by
          have := pr.length
          omega
        have ek := K.of okk
        subst ek
        refine ⟨vs, kf kk, rfl, ho, hlen, F6, dput ys kk z, ?_, ?_, hz⟩
        · have := dput_len ys kk z
          omega
        · have S7 := S6.change (j := 0) (ow' := oDct rk kf s (dput ys kk z)) (o' := .dK (putK vs (kf kk) v')) rfl ⟨putK vs (kf kk) v', rfl, by have := putK_len vs (kf kk) v'; omega, dput_ok K pr (rk.mono e56 okk) okz⟩
          exact ⟨S7.fin, ((S3.env.mono e34).mono e45).mono e56, S7.ow, S7.nd⟩
  · have e : i = xs.length := by omega
    subst e
    refine .inl ⟨wk.stop _ F2 H2 e12 S2.fh (Nat.le_refl _), ?_⟩
    rw [List.drop_length] at hw2
    have hp : P ys := hw2
    exact k ys hp D F2 H2 ⟨⟨S2.fin.fh, S2.fin.bf, S1.fin.mrk.trans e12, S2.fin.bb, S2.fin.ios, S2.fin.keep⟩, S2.env, S2.ow, S2.nd⟩ (e1.trans e12)
abbrev tkC {γ : Type} (B : Bs) (env : Env) (os : Os) (own : List (Str × Nat)) {α : Type} (envT : Env → α → Env) (rk : Rp κ) (kf : κ → Key) (s : Rp β) (t : Rp γ) (f : α → W γ) : TE := fun σ H Q => ∃ p : Hp × Addr × List (κ × β) × α, tOf (B.at p.1) (envI env own envT p.2.2.2) ((p.2.1, oDct rk kf s p.2.2.1) :: os) t (f p.2.2.2) σ H Q
section
variable {γ : Type} {t : Rp γ} {w : W (List α)} {c : α → W Bool} {fk : α → W κ} {f : α → W β} {h : α → W γ} {own : List (Str × Nat)} {g : TG} {is : List Nat} {envT : Env → α → Env} {elt : Expr}
theorem ex_tkC {Y : Cx} (q : ∀ (M : Hp) (D : Addr) (ys : List (κ × β)) (x : α), EE Y (B.at M) (envI env own envT x) ((D, oDct rk kf s ys) :: os) elt t (h x)) : PE Y elt (tkC B env os own envT rk kf s t h) :=
  ⟨fun pins s σ H Q I ⟨p, z⟩ => (q p.1 p.2.1 p.2.2.1 p.2.2.2).run pins s σ H Q I z⟩
variable (K : KeyR rk kf) (hc : X.calm = true) (hN : X.N.Nodup) (src : ES X B env os tg iter r w) (ok : BlkOk X.N X.env.scope scope own) (tgt : TgT g r is envT)
  (hg : ∀ (s : Shared) (H : Hp) (C : Addr) (cl : List (Str × Addr)) (fp : List Addr), PG (X.blk s H scope (compEnvC scope cl C X.env) fp) tg g) (his : ∀ i ∈ is, i ∈ own.map (fun p : Str × Nat => p.2))
  (ht : ∀ (s' : Shared) (H : Hp) (C : Addr) (cl : List (Str × Addr)) (fp : List Addr) (M : Hp) (D : Addr) (ys : List (κ × β)) (x : α), ET (X.blk s' H scope (compEnvC scope cl C X.env) fp) (B.at M) (envI env own envT x) ((D, oDct rk kf s ys) :: os) test (c x))
  (hk : ∀ (s' : Shared) (H : Hp) (C : Addr) (cl : List (Str × Addr)) (fp : List Addr) (M : Hp) (D : Addr) (ys : List (κ × β)) (x : α), EE (X.blk s' H scope (compEnvC scope cl C X.env) fp) (B.at M) (envI env own envT x) ((D, oDct rk kf s ys) :: os) kx rk (fk x))
  (he : ∀ (s' : Shared) (H : Hp) (C : Addr) (cl : List (Str × Addr)) (fp : List Addr) (M : Hp) (D : Addr) (ys : List (κ × β)) (x : α), EE (X.blk s' H scope (compEnvC scope cl C X.env) fp) (B.at M) (envI env own envT x) ((D, oDct rk kf s ys) :: os) vx s (f x))
include hc hN src ok tgt hg his hk he K
/-- {k: v for target in iter} -/
theorem d_comp (hs : ∀ x, foldedSetIterable iter X.env x = pure x := by intro _; rfl) : ED X B env os (.DictComp kx vx [⟨tg, iter, [], 0⟩] scope pos) rk kf s (bnd w fun xs => dcW (fun _ => ret true) fk f xs []) :=
  PE.imp (pe_dc hc hN src ok hg (fun _ _ _ _ _ => pts_nil) (fun s' H C cl fp => ex_tkC (hk s' H C cl fp)) (fun s' H C cl fp => ex_tkC (he s' H C cl fp)) hs) fun σ H Q h =>
    dc_read (own := own) K (fun M D ys x σ H Q ⟨F, P, S, hw, k⟩ => k true hw F H S (Ex.refl F)) (fun M D ys x σ H Q h => ⟨(M, D, ys, x), h⟩) (fun M D ys x σ H Q h => ⟨(M, D, ys, x), h⟩) tgt his h
include ht
end
end
end Mi
namespace Mi
open PySem L2 Evl
section
variable {κ : Type} [DecidableEq κ] {rk : Rp κ} {kf : κ → Key}
def dsubI (xs ys : List (κ × Int)) : Bool := xs.all fun p => decide (dget ys p.1 = some p.2)
def deqI (xs ys : List (κ × Int)) : Bool := xs.length == ys.length && dsubI xs ys
theorem hitsI {A : Around} {s : Shared} {kvb : List (Key × V)} {vb : List (Key × Value)} (rb : KV kvb vb) {F : Hp} {ys : List (κ × Int)} (K : KeyR rk kf) (pb : Paired (DPair F rk kf rInt) kvb ys) :
    ∀ {ks : List (Key × V)} {va : List (Key × Value)} {xs : List (κ × Int)}, KV ks va → Paired (DPair F rk kf rInt) ks xs → PySem.W.KeqHits A s vb va (dsubI xs ys)
  | _, _, _, .nil, .nil => .nil
  | p :: ks, (k, v) :: va, q :: xs, .cons h t, .cons g u => by
    obtain ⟨h1, h2⟩ := h
    obtain ⟨g1, g2, g3⟩ := g
    have h1 : p.1 = k := h1
    have g3 : p.2 = V.int q.2 := g3
    have ih := hitsI (A := A) (s := s) rb K pb t u
    have e : dsubI (q :: xs) ys = (decide (dget ys q.1 = some q.2) && dsubI xs ys) := rfl
    have rv := rb.val k
    rw [← h1, g1] at rv
    rw [e]
    rcases dget_ok K pb q.1 with ⟨a1, a2⟩ | ⟨w, x, a1, a2, a3⟩
    · rw [a1] at rv
      have z := rv.none_of
      rw [a2, show decide ((none : Option Int) = some q.2) = false from rfl, Bool.false_and]
      rw [← g1, h1] at z
      exact .miss z
    · rw [a1] at rv
      obtain ⟨y, hy, ry⟩ := rv.some_of
      have a3 : w = V.int x := a3
      rw [a3] at ry
      rw [g3] at h2
      obtain ⟨t1, rfl⟩ := (show ∃ t, v = Value.int q.2 t from h2)
      obtain ⟨t2, rfl⟩ := (show ∃ t, y = Value.int x t from ry)
      rw [← g1, h1] at hy
      have q1 := SeqAt.EqAt.int_int (A := A) (s := s) q.2 t1 x t2
      have e2 : decide (dget ys q.1 = some q.2) = (q.2 == x) := by
        rw [a2, Bool.eq_iff_iff]
        simp only [decide_eq_true_eq, Option.some.injEq, beq_iff_eq]
        exact eq_comm
      rw [e2]
      exact .hit hy q1 ih
end
section
variable {X : Cx} {B : Bs} {env : Env} {os : Os} {pos p : Pos} {κ α β : Type} [DecidableEq κ] {rk : Rp κ} {kf : κ → Key} {r : Rp α} {o a b c e : Expr}
def rEqDI {κ : Type} [DecidableEq κ] (rk : Rp κ) (kf : κ → Key) : R2 := fun x y H Q => ∃ F xs ys a b ks ls, KeyR rk kf ∧ x = .ref a ∧ y = .ref b ∧ Rd H a (.dK ks) ∧ Rd H b (.dK ls) ∧ Paired (DPair F rk kf rInt) ks xs ∧ Paired (DPair F rk kf rInt) ls ys ∧ Q (.bl (deqI xs ys)) H
theorem op_eqDI (hu : X.A.units < cLine) : OpR X (compareOp .Eq) (rEqDI rk kf) := by
  intro pins s σ H x y v u Q I rx ry h
  obtain ⟨F, xs, ys, a, b, ks, ls, K, rfl, rfl, ea, eb, pa, pb, q⟩ := h
  obtain rfl : v = Value.ref a := rx
  obtain rfl : u = Value.ref b := ry
  obtain ⟨_, ya, va, ra, da⟩ := dk_rd I.hok ea
  obtain ⟨_, yb, vb, rb, db⟩ := dk_rd I.hok eb
  refine PySem.W.keq_eq (knd := mixKind X.prog X.w) (r := dsubI xs ys) ya yb da db hu (fun _ => hitsI rb K pb ra pa) (fin_bl I q ?_)
  unfold deqI
  rw [← pa.length, ← pb.length, ra.length, rb.length]
theorem sem_eqDI (K : KeyR rk kf) : R2T (rEqDI rk kf) (rDct rk kf rInt) (rDct rk kf rInt) rBool (fun x y => ret (deqI x y)) := fun F H v u x y P E Q fh ⟨a1, o1, k1, q1, h1, z1, p1⟩ ⟨a2, o2, k2, q2, h2, z2, p2⟩ hw k =>
  ⟨F, x, y, a1, a2, k1, k2, K, q1, q2, .inr ⟨_, fh _ _ h1⟩, .inr ⟨_, fh _ _ h2⟩, p1, p2, k _ hw _ F H (Grow.refl fh) rfl⟩
/-- d == d -/
theorem e_eqDI (K : KeyR rk kf) (hu : X.A.units < cLine) {w1 : W (List (κ × Int))} {w2 : List (κ × Int) → W (List (κ × Int))} (ha : EE X B env os a (rDct rk kf rInt) w1) (hb : ∀ x, EE X B env os b (rDct rk kf rInt) (w2 x)) :
    EE X B env os (.Compare a [.Eq] [b] pos) rBool (bnd w1 fun x => bnd (w2 x) fun y => ret (deqI x y)) := e_cmp (op_eqDI hu) (sem_eqDI K) (nomark _) ha hb
end
end Mi
namespace Mi
open PySem L2 Evl
end Mi
namespace Mi
open PySem L2 Evl
end Mi
namespace Mi
open PySem L2 Evl
theorem kd_dict {K : PySem.W.Frag} (d : PyData) : PySem.W.kitOne K (.type (tyD d)) (.type "dict") = some (tyD d == "dict") := by
  cases d <;> (dsimp only [tyD]; exact kit_ty (by decide +kernel))
section
variable {X : Cx} {B : Bs} {env : Env} {os : Os} {pos : Pos} {α : Type} {r : Rp α} {a : Expr}
theorem e_gInt {x : Str} {i : Int} {t : Tok} (hm : X.mg x = some (.int i t)) (hg : Gl X x := by rfl) (hd : (x == ("__debug__" : Str)) = false := by decide) : EE X B env os (.Name x pos) rInt (ret i) := e_glob (v := .int i) hg hm ⟨t, rfl⟩ (fun _ => rfl) hd
end
end Mi
namespace Mi
open PySem L2 Evl
/-- C.m is a staticmethod: its record at p, its def at g -/
structure SMet (K : PySem.W.Frag) (C : Addr) (mc : Value) (m : Str) (p g : Addr) : Prop where
  at_ : PySem.W.findCls K (.ref C) mc m = some (.get (.builtin "staticmethod.__get__") (.ref p) .none (.ref C))
  rc : ∃ rest, PySem.W.recIn K p "staticmethod" = some (.ref g :: rest)
  hv : PySem.W.handedIn (.ref g) = true
section
variable {X : Cx} {pins : List (Addr × Obj)} {σ : L2.St} {H : Hp} {s : Shared} {C p g : Addr} {mc : Value} {m : Str} {A : Around} {E : Value → Shared → Prop}
theorem getmethsm_ok {pl : Sem Bool} {Q : Value × List Value → Shared → Prop} (I : Inv X pins σ H s) (r : ClX.CRead X.K C mc) (c : SMet X.K C mc m p g)
    (h : ∀ s', Inv X pins σ H s' → Q (.ref g, []) s') : wpAny (model X.prog X.w) A (getMethod (.ref C) m pl) Q E s := by
  obtain ⟨rest, hp⟩ := c.rc
  refine PySem.W.method_cls I.kIn r.ga ?_
  refine PySem.W.cls_bind I.kIn r.rd c.at_ ?_
  exact wpAny_call (PySem.W.sm_get (s := { s with toks := s.toks + 1 }) I.kIn hp (PySem.W.handed_on c.hv (h _ (I.tok _))))
end
end Mi
namespace Mi
open PySem L2 Evl
theorem EnvOk.app {F : Hp} : ∀ {e e' : Env} {σ τ : L2.St}, EnvOk F e σ → EnvOk F e' τ → EnvOk F (e ++ e') (σ ++ τ)
  | _, _, _, _, .nil, h' => h'
  | _, _, _, _, .cons h t, h' => .cons h (EnvOk.app t h')
end Mi
namespace Mi
open PySem L2 Evl
def pick {α : Type} (ix : List Nat) (l : List α) : List α := ix.filterMap fun j => l[j]?
theorem Paired.pick {α β : Type} {R : α → β → Prop} {l : List α} {m : List β} (h : Paired R l m) : ∀ ix : List Nat, Paired R (Mi.pick ix l) (Mi.pick ix m)
  | [] => .nil
  | j :: ix => by
    have ih := Paired.pick h ix
    unfold Mi.pick at ih ⊢
    rw [List.filterMap_cons, List.filterMap_cons]
    cases e : m[j]? with
    | none =>
      have e2 : l[j]? = none := by
        rw [List.getElem?_eq_none_iff] at e ⊢
        rw [h.length]
        exact e
      rw [e2]
      exact ih
    | some y =>
      obtain ⟨x, h1, h2⟩ := Paired.get h e
      rw [h1]
      exact .cons h2 ih
theorem pick_map {α β : Type} (f : α → β) (l : List α) : ∀ ix : List Nat, pick ix (l.map f) = (pick ix l).map f
  | [] => rfl
  | j :: ix => by
    have ih := pick_map f l ix
    unfold pick at ih ⊢
    rw [List.filterMap_cons, List.filterMap_cons, List.getElem?_map]
    cases e : l[j]? with
    | none => exact ih
    | some y =>
      rw [Option.map_some, List.map_cons, ih]
/-- how a def binds: f0 values handed in ahead (self), n by place, those of the keywords ks, the written defaults dvs -/
def CB (K : PySem.W.Frag) (fd : FuncData) (ps : List Str) (f0 n : Nat) (ks : List Str) (ix : List Nat) (dvs : List V) : Prop :=
  ∃ ds : List Value, Vals dvs ds ∧ ∀ (s : Shared) (fs us ws : List Value), K.In s.heap → fs.length = f0 → us.length = n → ws.length = ks.length → BindsTo s fd ⟨fs ++ us, ks.zip ws⟩ (ps.zip (fs ++ pick ix (us ++ ws ++ ds)))
theorem CB.kbn {K : PySem.W.Frag} {fd : FuncData} {ps : List Str} {f0 n : Nat} {ks : List Str} {ix : List Nat} {dvs : List V} (h : CB K fd ps f0 n ks ix dvs) :
    ∃ g, KBn K fd ps (f0 + n) ks g fun vs zs => vs.take f0 ++ pick ix (vs.drop f0 ++ zs ++ dvs) := by
  obtain ⟨ds, rd, h⟩ := h
  refine ⟨fun us ws => us.take f0 ++ pick ix (us.drop f0 ++ ws ++ ds), ⟨fun s us ws X l1 l2 => ?_, fun r rz => (r.take f0).append (Paired.pick (((r.drop f0).append rz).append rd) ix)⟩⟩
  have z := h s (us.take f0) (us.drop f0) ws X (by rw [List.length_take]; omega) (by rw [List.length_drop]; omega) l2
  rwa [List.take_append_drop] at z
/-- the handing over -/
structure HA (X : Cx) (es : List Expr) (kws : List Keyword) (pos : Pos) (ks : List Str) (t : L2.St → Hp → (List V → List V → Hp → Prop) → Prop) : Prop where
  run : ∀ (pins : List (Addr × Obj)) (s : Shared) (σ : L2.St) (H : Hp) (Q : List V → List V → Hp → Prop) (f : Value) (first : List Value) (R : Value → Shared → Prop), PySem.W.keepIn X.K f = true → Inv X pins σ H s → t σ H Q →
    (∀ us ws vs zs H1 s1, Inv X pins σ H1 s1 → Vals vs us → Vals zs ws → Q vs zs H1 → wpAny (model X.prog X.w) X.A (call f (first ++ us) (ks.zip ws)) R X.xe s1) →
    wpAny (model X.prog X.w) X.A (callWith pos f first (backTo pos (starEach es X.env)) (backToKw pos (keywordEach kws X.env))) R X.xe s
def tHA (B : Bs) (env : Env) (os : Os) {κ : Type} (n m : Nat) (ar : κ → Env) (w : W κ) : L2.St → Hp → (List V → List V → Hp → Prop) → Prop := fun σ H Q => ∃ F P, Sit B F H σ env os ∧ w P B.E0 ∧ ∀ q, P q → ∀ vs zs F' H', Sit B F' H' σ env os → Ex F F' → vs.length = n → zs.length = m → EnvOk F' (ar q) ((vs ++ zs).map some) → Q vs zs H'
def HH (X : Cx) (B : Bs) (env : Env) (os : Os) (es : List Expr) (kws : List Keyword) (pos : Pos) (n : Nat) (ks : List Str) {κ : Type} (ar : κ → Env) (w : W κ) : Prop := HA X es kws pos ks (tHA B env os n ks.length ar w)
section
variable {X : Cx} {B : Bs} {env : Env} {os : Os} {pos p : Pos} {κ κ2 : Type} {e : Expr} {es : List Expr} {kws : List Keyword} {n : Nat} {ks : List Str} {ar : κ → Env} {ar2 : κ2 → Env}
theorem hh_none : HH X B env os [] [] pos 0 [] (fun _ : Unit => []) (ret ()) :=
  ⟨fun pins s σ H Q f first R hk I ⟨F, P, S, hw, k⟩ hq => PySem.W.callWith_K0 I.kIn hk (hq [] [] [] [] H s I .nil .nil (k () hw [] [] F H S (Ex.refl F) rfl rfl .nil))⟩
theorem hh_pos {w : W κ} (ha : AA X B env os (e :: es) ar w) (hn : ∀ q, (ar q).length = n) (he : starEach (e :: es) X.env = (false, eval e X.env) :: starEach es X.env := by rfl) (hpl : (backTo pos (starEach es X.env)).any (·.1) = false := by rfl) :
    HH X B env os (e :: es) [] pos n [] ar w :=
  ⟨fun pins s σ H Q f first R hk I ⟨F, P, S, hw, k⟩ hq => PySem.W.callWith_K (h₀ := X.base) I.ok.mod.kin hk (thn (ha.run pos pins s σ H (fun vs H1 => Q vs [] H1) I ⟨F, P, S, hw, fun q hq vs F1 H1 S1 e1 ok => by
    have l := ok.len
    rw [List.length_map, hn q] at l
    exact k q hq vs [] F1 H1 S1 e1 l.symm rfl (by rw [List.append_nil]; exact ok)⟩) fun us s1 ⟨vs, H1, I1, r, q⟩ => ⟨I1.kIn, hq us [] vs [] H1 s1 I1 r .nil q⟩) he hpl⟩
end
structure Res (ρ : Type) where
  k : ρ → Hp → L2.St → VK → Prop
  mono : ∀ {F F' : Hp} {x : ρ} {σ : L2.St} {Q : VK}, Ex F F' → k x F σ Q → k x F' σ Q
def resV (B : Bs) (env : Env) (os : Os) {ρ : Type} (r : Rp ρ) : Res ρ := ⟨fun x F σ Q => ∀ v F' H', Sit B F' H' σ env os → Ex F F' → r.ok F' v x → Q v H', fun e h v F' H' S e' => h v F' H' S (e.trans e')⟩
/-- a def's promise, read at a call -/
structure SpF (sp : Sp) (E : XK) (B : Bs) (env : Env) (os : Os) {ι ρ : Type} (args : ι → Env) (wf : ι → W ρ) (R : Res ρ) : Prop where
  ok : ∀ {F H : Hp} {σ : L2.St} {vs : List V} {i : ι} {P : ρ → Prop} {Q : VK}, Sit B F H σ env os → EnvOk F (args i) (vs.map some) → wf i P B.E0 → (∀ z, P z → R.k z F σ Q) → sp vs H Q E
section
variable {X : Cx} {B : Bs} {env : Env} {os : Os} {tb : ETab} {ι ρ α : Type} {args : ι → Env} {osf : ι → Os} {wf : ι → W ρ} {ro : Rp ρ}
theorem spf_W (ho : ∀ i, OsLe os (osf i)) (hnd : ∀ i, ((osf i).map (·.1)).Nodup) : SpF (spW args osf wf ro) E0 B env os args (fun i => noX (wf i)) (resV B env os ro) :=
  ⟨fun {F H σ vs i P Q} S ok hw k => ⟨i, F, P, S.fh, ok, fun p hp => by
    obtain ⟨h1, h2, _⟩ := S.ow p (ho i p hp)
    exact ⟨h1, h2⟩, hnd i, hw, fun y hy v F2 H2 fn ow okv => k y hy v F2 H2 (S.back (ho i) fn ow) fn.bf okv⟩⟩
theorem spf_W0 : SpF (spW args (fun _ => []) wf ro) E0 B env os args (fun i => noX (wf i)) (resV B env os ro) := spf_W (fun _ => OsLe.none) fun _ => List.nodup_nil
theorem spf_X (ho : ∀ i, OsLe os (osf i)) (hnd : ∀ i, ((osf i).map (·.1)).Nodup) : SpF (spX X.K tb args osf wf ro) (eB X.K tb B) B env os args wf (resV B env os ro) :=
  ⟨fun {F H σ vs i P Q} S ok hw k => ⟨i, F, P, B.E0, S.fh, ok, fun p hp => by
    obtain ⟨h1, h2, _⟩ := S.ow p (ho i p hp)
    exact ⟨h1, h2⟩, hnd i, hw, fun y hy v F2 H2 fn ow okv => k y hy v F2 H2 (S.back (ho i) fn ow) fn.bf okv, fun e he cls d F2 H2 fn er => ⟨e, F2, he, S.backE (ho i) fn, er⟩⟩⟩
theorem spf_X0 : SpF (spX X.K tb args (fun _ => []) wf ro) (eB X.K tb B) B env os args wf (resV B env os ro) := spf_X (fun _ => OsLe.none) fun _ => List.nodup_nil
end
section
variable {X : Cx} {CX : CXT} {B : Bs} {env : Env} {os : Os} {pos p apos : Pos} {ι κ ρ α β : Type} {e o : Expr} {es : List Expr} {kws : List Keyword} {n k : Nat} {ks : List Str} {ix : List Nat} {dvs : List V} {dfl : Env} {ar : κ → Env} {f C pa : Addr} {fd : FuncData} {ps : List Str} {sp : Sp} {E : XK} {x m : Str} {R : Res ρ} {args : ι → Env} {wf : ι → W ρ} {conv : κ → ι} {mc : Value}
def ER (X : Cx) (B : Bs) (env : Env) (os : Os) (e : Expr) {ρ : Type} (R : Res ρ) (w : W ρ) : Prop := PE X e fun σ H Q => ∃ F P, Sit B F H σ env os ∧ w P B.E0 ∧ ∀ x, P x → R.k x F σ Q
theorem er_V {r : Rp ρ} {w : W ρ} (h : ER X B env os e (resV B env os r) w) : EE X B env os e r w := h
theorem env_pick {F : Hp} {vs zs : List V} {q : κ} (ok : EnvOk F (ar q) ((vs ++ zs).map some)) (hd : ∀ F, EnvOk F dfl (dvs.map some)) : EnvOk F (pick ix (ar q ++ dfl)) ((pick ix (vs ++ zs ++ dvs)).map some) := by
  rw [← pick_map, List.map_append]
  exact Paired.pick (EnvOk.app ok (hd F)) ix
/-- f(..) -/
theorem e_callZ {w : W κ} (G : FnOk X.prog X.w X.K X.mg X.base CX k f fd ps sp) (hx : Passes CX X E) (hs : SpF sp E B env os args wf R) (hr : Room k X.A) (hm : X.mg x = some (.ref f)) (hk : PySem.W.keepIn X.K (.ref f) = true) (hb : CB X.K fd ps 0 n ks ix dvs) (hd : ∀ F, EnvOk F dfl (dvs.map some))
    (hh : HH X B env os es kws pos n ks ar w) (hc : ∀ q, args (conv q) = pick ix (ar q ++ dfl)) (hg : Gl X x := by rfl) (hdb : (x == ("__debug__" : Str)) = false := by decide) :
    ER X B env os (.Call (.Name x p) es kws pos) R (bnd w fun q => wf (conv q)) := by
  refine ⟨fun pins s σ H Q I ⟨F, P, S, hw, kk⟩ => ?_⟩
  refine wpAny_Call_Name_kw (ld_glob I hg hm ?_ hdb)
  obtain ⟨g, hb⟩ := hb.kbn
  refine hh.run pins s σ H (fun vs zs H1 => vs.length = n ∧ zs.length = ks.length ∧ sp (pick ix (vs ++ zs ++ dvs)) H1 Q E) (.ref f) [] _ hk I ⟨F, _, S, hw, fun q hq vs zs F1 H1 S1 e1 l1 l2 ok => ⟨l1, l2, hs.ok S1 (i := conv q) (by rw [hc q]; exact env_pick ok hd) hq fun z hz => R.mono e1 (kk z hz)⟩⟩ fun us ws vs zs H1 s1 I1 r rz ⟨l1, l2, q⟩ => ?_
  rw [show 0 + n = n from Nat.zero_add n] at hb
  exact run_fnN G hr hb hx I1 r rz l1 l2 q
/-- o.m(..) -/
theorem e_methZ {args : α × ι → Env} {wf : α × ι → W ρ} {fl : α → List (Str × Slot)} {w1 : W α} {w2 : α → W κ} {pl : Sem Bool} (G : FnOk X.prog X.w X.K X.mg X.base CX k f fd ps sp) (hx : Passes CX X E) (hs : SpF sp E B env os args wf R) (hr : Room k X.A) (cl : Cls X.K C) (hm : Meth X.K C m f) (hb : CB X.K fd ps 1 n ks ix dvs) (hd : ∀ F, EnvOk F dfl (dvs.map some))
    (ho : EE X B env os o (rObj C fl) w1) (hh : ∀ x, HH X B env os es kws pos n ks ar (w2 x)) (hc : ∀ x q, args (x, conv q) = sv (rObj C fl) x :: pick ix (ar q ++ dfl)) (hn : ∀ x, (fl x).lookup m = none := by exact fun _ => rfl)
    (ht : eval (.Call (.Attribute o m apos) es kws pos) X.env = (do
      let ov ← eval o X.env
      standAt apos.atName
      let (f, first) ← holding [ov] (getMethod ov m pl)
      callWith pos f first (backTo pos (starEach es X.env)) (backToKw pos (keywordEach kws X.env))) := by rfl) :
    ER X B env os (.Call (.Attribute o m apos) es kws pos) R (bnd w1 fun x => bnd (w2 x) fun q => wf (x, conv q)) := by
  refine ⟨fun pins s σ H Q I ⟨F, P, S, hw, kk⟩ => ?_⟩
  refine PySem.W.methodCall_KW (pl := pl) (thn (ho.run pins s σ H (fun v H1 => ∃ x F1, Sit B F1 H1 σ env os ∧ Ex F F1 ∧ (rObj C fl).ok F1 v x ∧ (bnd (w2 x) fun i => wf (x, conv i)) P B.E0) I ⟨F, _, S, hw, fun x hx v F1 H1 S1 e1 ok => ⟨x, F1, S1, e1, ok, hx⟩⟩) fun u s1 ⟨v, H1, I1, rx, x, F1, S1, e1, ⟨y, dx, fs, ev, hy, hf⟩, hx1⟩ => ?_) ht
  subst ev
  obtain rfl : u = Value.ref y := rx
  refine getmeth_ok I1 (S1.fh _ _ hy) cl hm (hf.none (hn x)) ?_
  obtain ⟨g, hb⟩ := hb.kbn
  refine (hh x).run pins s1 σ H1 (fun vs zs H2 => vs.length = n ∧ zs.length = ks.length ∧ sp (.ref y :: pick ix (vs ++ zs ++ dvs)) H2 Q E) (.ref f) [.ref y] _ hm.kp I1 ⟨F1, _, S1, hx1, fun q hq vs zs F2 H2 S2 e2 l1 l2 ok => ⟨l1, l2, hs.ok S2 (i := (x, conv q)) (by
    rw [hc x q]
    exact .cons ⟨_, rfl, y, dx, fs, rfl, e2 _ _ hy, hf.mono e2⟩ (env_pick ok hd)) hq fun z hz => R.mono (e1.trans e2) (kk z hz)⟩⟩ fun us ws vs zs H2 s2 I2 r rz ⟨l1, l2, q⟩ => ?_
  exact run_fnN (us := .ref y :: us) (vs := .ref y :: vs) G hr hb hx I2 (.cons rfl r) rz (by rw [List.length_cons, l1]; omega) l2 q
/-- C.m(..), m a staticmethod -/
theorem e_smethZ {w : W κ} {pl : Sem Bool} (G : FnOk X.prog X.w X.K X.mg X.base CX k f fd ps sp) (hx : Passes CX X E) (hs : SpF sp E B env os args wf R) (r : ClX.CRead X.K C mc) (c : SMet X.K C mc m pa f) (hr : Room k X.A) (hm : X.mg x = some (.ref C)) (hk : PySem.W.keepIn X.K (.ref f) = true) (hb : CB X.K fd ps 0 n ks ix dvs) (hd : ∀ F, EnvOk F dfl (dvs.map some))
    (hh : HH X B env os es kws pos n ks ar w) (hc : ∀ q, args (conv q) = pick ix (ar q ++ dfl)) (hg : Gl X x := by rfl) (hdb : (x == ("__debug__" : Str)) = false := by decide)
    (ht : eval (.Call (.Attribute (.Name x p) m apos) es kws pos) X.env = (do
      let ov ← eval (.Name x p) X.env
      standAt apos.atName
      let (f, first) ← holding [ov] (getMethod ov m pl)
      callWith pos f first (backTo pos (starEach es X.env)) (backToKw pos (keywordEach kws X.env))) := by rfl) :
    ER X B env os (.Call (.Attribute (.Name x p) m apos) es kws pos) R (bnd w fun q => wf (conv q)) := by
  refine ⟨fun pins s σ H Q I ⟨F, P, S, hw, kk⟩ => ?_⟩
  refine PySem.W.methodCall_KW (pl := pl) (thn ((pe_glob (v := .ref C) hg hm rfl hdb).run pins s σ H (fun v H1 => v = .ref C ∧ H1 = H) I ⟨rfl, rfl⟩) fun u s1 ⟨v, H1, I1, rx, ev, eh⟩ => ?_) ht
  subst ev eh
  obtain rfl : u = Value.ref C := rx
  refine getmethsm_ok I1 r c fun s2 I2 => ?_
  obtain ⟨g, hb⟩ := hb.kbn
  refine hh.run pins s2 σ H1 (fun vs zs H1 => vs.length = n ∧ zs.length = ks.length ∧ sp (pick ix (vs ++ zs ++ dvs)) H1 Q E) (.ref f) [] _ hk I2 ⟨F, _, S, hw, fun q hq vs zs F1 H1 S1 e1 l1 l2 ok => ⟨l1, l2, hs.ok S1 (i := conv q) (by rw [hc q]; exact env_pick ok hd) hq fun z hz => R.mono e1 (kk z hz)⟩⟩ fun us ws vs zs H1 s1 I1 r rz ⟨l1, l2, q⟩ => ?_
  rw [show 0 + n = n from Nat.zero_add n] at hb
  exact run_fnN G hr hb hx I1 r rz l1 l2 q
end
structure SpM (sp : Sp) (E : XK) (B : Bs) (env : Env) (os : Os) (C : Addr) {ι ρ : Type} (args : ι → Env) (wf : ι → W ρ) (fl : ρ → List (Str × Slot)) : Prop where
  ok : ∀ {F H : Hp} {σ : L2.St} {vs : List V} {i : ι} {P : ρ → Prop} {Q : VK}, Sit B F H σ env os → EnvOk F (args i) (vs.map some) → wf i P B.E0 → (∀ z, P z → ∀ v F' H', Sit B F' H' σ env os → Ex F F' → (rObj C fl).ok F' v z → Q v H') →
    ∀ x dx, H x = none → H dx = none → dx ≠ x → sp (.ref x :: vs) (upd (upd H dx (.own x)) x (.ins C dx [])) (fun v H2 => v = .non ∧ Q (.ref x) H2) E
section
variable {X : Cx} {CX : CXT} {B : Bs} {env : Env} {os : Os} {tb : ETab} {pos p : Pos} {ι κ ρ : Type} {es : List Expr} {kws : List Keyword} {n k : Nat} {ks : List Str} {ix : List Nat} {dvs : List V} {dfl : Env} {ar : κ → Env} {f C : Addr} {fd : FuncData} {ps : List Str} {sp : Sp} {E : XK} {x : Str} {args : ι → Env} {wf : ι → W ρ} {conv : κ → ι} {fl : ρ → List (Str × Slot)}
theorem spm_W : SpM (spI C args wf fl) E0 B env os C args (fun i => noX (wf i)) fl := ⟨fun {F H σ vs i P Q} S ok hw k x dx hx hdx hne => by
  have g : Grow F H (upd F dx (.own x)) (upd H dx (.own x)) := Grow.alloc S.fh hdx
  have S1 := S.grow g
  have hx1 : upd H dx (.own x) x = none := by rw [upd_ne (Ne.symm hne)]; exact hx
  have S2 := S1.newOwn (o := .ins C dx []) (ow := oObj C []) hx1 ⟨dx, [], rfl, .nil⟩
  refine ⟨i, upd F dx (.own x), P, x, dx, vs, rfl, S2.fh, ?_, upd_same, ok.mono g.f, hw, fun r hr F' H' fn ow => ⟨rfl, ?_⟩⟩
  · exact (S2.ow (x, oObj C []) List.mem_cons_self).1
  · obtain ⟨F2, o, e2, h1, ⟨dx', vs', h2, h3⟩, S4⟩ := (S2.backI fn ow).freeze
    subst h2
    exact k r hr (.ref x) F2 H' S4 ((g.f.trans fn.bf).trans e2) ⟨x, dx', vs', rfl, h1, h3⟩⟩
/-- C(..) -/
theorem e_makeZ {w : W κ} (M : Mk X.K C f) (G : FnOk X.prog X.w X.K X.mg X.base CX k f fd ps sp) (hx : Passes CX X E) (hs : SpM sp E B env os C args wf fl) (hr : Room (k + 1) X.A) (hm : X.mg x = some (.ref C)) (hb : CB X.K fd ps 1 n ks ix dvs) (hd : ∀ F, EnvOk F dfl (dvs.map some))
    (hh : HH X B env os es kws pos n ks ar w) (hc : ∀ q, args (conv q) = pick ix (ar q ++ dfl)) (hg : Gl X x := by rfl) (hdb : (x == ("__debug__" : Str)) = false := by decide) :
    EE X B env os (.Call (.Name x p) es kws pos) (rObj C fl) (bnd w fun q => wf (conv q)) := by
  refine ⟨fun pins s σ H Q I ⟨F, P, S, hw, kk⟩ => ?_⟩
  refine wpAny_Call_Name_kw (ld_glob I hg hm ?_ hdb)
  obtain ⟨g, hb⟩ := hb.kbn
  rw [show 1 + n = n + 1 from Nat.add_comm 1 n] at hb
  refine hh.run pins s σ H (fun vs zs H1 => vs.length = n ∧ zs.length = ks.length ∧ ∀ x dx, H1 x = none → H1 dx = none → dx ≠ x → sp (.ref x :: pick ix (vs ++ zs ++ dvs)) (upd (upd H1 dx (.own x)) x (.ins C dx [])) (fun v H2 => v = .non ∧ Q (.ref x) H2) E) (.ref C) [] _ M.kp I ⟨F, _, S, hw, fun q hq vs zs F1 H1 S1 e1 l1 l2 ok => ⟨l1, l2, hs.ok S1 (i := conv q) (by rw [hc q]; exact env_pick ok hd) hq fun z hz v F' H' S' e' ok' => kk z hz v F' H' S' (e1.trans e') ok'⟩⟩ fun us ws vs zs H1 s1 I1 r rz ⟨l1, l2, q⟩ => ?_
  exact run_makeN M G hr hb hx I1 r rz l1 l2 q
end
/-- the words of a def, whatever its defaults -/
structure FunE (K : PySem.W.Frag) (x qual : Str) (st : Stmt) (f : Addr) (fd : FuncData) : Prop where
  ex : ∃ (oc : Value) (od : Option Addr) (dV kV doc pm : Value) (an : Option Addr) (cdv ct : Value) (osl : Array (Option Value)),
    fd = PySem.W.fnOf x qual (defArgs st) (defBody st) (defScope st) dV kV doc pm an cdv ct ∧ K.lookup f = some ⟨oc, od, .func fd, osl⟩ ∧ PySem.W.codeIn K cdv qual = true
  kp : PySem.W.keepIn K (.ref f) = true
theorem cb_of {K : PySem.W.Frag} {fd : FuncData} {ps : List Str} {f0 n : Nat} {ks : List Str} {ix : List Nat} (h : ∀ fs us ws : List Value, fs.length = f0 → us.length = n → ws.length = ks.length → bindArgs fd ⟨fs ++ us, ks.zip ws⟩ = pure (ps.zip (fs ++ pick ix (us ++ ws ++ [])))) : CB K fd ps f0 n ks ix [] :=
  ⟨[], .nil, fun s fs us ws _ h0 h1 h2 => .of_eq (h fs us ws h0 h1 h2)⟩
/-- defaults stand at T -/
theorem cb_dflt {K : PySem.W.Frag} {fd : FuncData} {ps : List Str} {f0 n : Nat} {ks : List Str} {ix : List Nat} {dvs : List V} {T : Addr} {o : Obj} {its : List Value} {m : Nat} (lT : K.lookup T = some o) (oT : o.data = .seq its.toArray m) (rT : Vals dvs its)
    (h : ∀ fs us ws : List Value, fs.length = f0 → us.length = n → ws.length = ks.length → ∃ k, bindArgs fd ⟨fs ++ us, ks.zip ws⟩ = seqItems? (.ref T) >>= k ∧ k (some its.toArray) = pure (ps.zip (fs ++ pick ix (us ++ ws ++ its)))) : CB K fd ps f0 n ks ix dvs :=
  ⟨its, rT, fun s fs us ws X h0 h1 h2 => by
    obtain ⟨k, e1, e2⟩ := h fs us ws h0 h1 h2
    refine BindsTo.of_looks fun M => ?_
    rw [e1]
    exact looks_items X lT oT (.of_pure e2)⟩
end Mi
namespace Mi
open PySem L2 Evl
open PyProof.Rows (envOfC Call_ boot_enumerate)
def rDk (K : PySem.W.Frag) (n : Nat) : Rp PyData := ⟨fun F v d => (rD K).ok F v d ∧ d.depth ≤ n, fun e h => ⟨(rD K).mono e h.1, h.2⟩⟩
theorem dd_Dk {K : PySem.W.Frag} {n : Nat} : DD K (rDk K n) id n := ⟨fun h => ⟨h.1.1, h.1.2.1, h.2⟩⟩
section
variable {X : Cx} {B : Bs} {env : Env} {os : Os} {pos p : Pos} {α β γ : Type} {r : Rp α} {s : Rp β} {f : α → PyData} {n m : Nat} {a b c e tg : Expr} {es : List Expr}
theorem e_upD {w : W PyData} (h : EE X B env os e (rDk X.K n) w) : EE X B env os e (rD X.K) w := PE.imp h fun σ H Q ⟨F, P, S, hw, k⟩ => ⟨F, P, S, hw, fun d hd v F' H' S' e' ok => k d hd v F' H' S' e' ok.1⟩
theorem dk_of (d : DD X.K r f n) (hn : n ≤ m) (h3 : m ≤ 30) {F : Hp} {v : V} {x : α} (ok : r.ok F v x) : (rDk X.K m).ok F v (f x) := ⟨⟨(d.ok ok).1, (d.ok ok).2.1, Nat.le_trans (d.ok ok).2.2 (Nat.le_trans hn h3)⟩, Nat.le_trans (d.ok ok).2.2 hn⟩
theorem e_toDk {w : W α} (d : DD X.K r f n) (h : EE X B env os e r w) (hn : n ≤ m := by decide) (h3 : m ≤ 30 := by decide) : EE X B env os e (rDk X.K m) (bnd w fun x => ret (f x)) := e_map (s := rDk X.K m) (fun ok => dk_of d hn h3 ok) h
end
section
variable {X : Cx} {B : Bs} {env : Env} {os : Os} {pos p : Pos} {α β γ : Type} {r : Rp α} {s : Rp β} {f : α → PyData} {n : Nat} {a b c e tg : Expr}
theorem e_asInt {w : W PyData} (h : EE X B env os e (rD X.K) w) : EE X B env os e rInt (bnd w asInt) := PE.imp h fun σ H Q ⟨F, P, S, hw, k⟩ => ⟨F, _, S, hw, fun d hd v F' H' S' e' ok => by
  obtain ⟨x, hx, ok2⟩ := nr_int (K := X.K) ok hd
  exact k x hx v F' H' S' e' ok2⟩
theorem lst_map {g : α → β} (hg : ∀ {F v x}, r.ok F v x → s.ok F v (g x)) {F : Hp} {v : V} {xs : List α} (h : (rLst r).ok F v xs) : (rLst s).ok F v (xs.map g) := by
  obtain ⟨p, vs, e1, h1, h2, h3⟩ := h
  refine ⟨p, vs, e1, h1, h2, ?_⟩
  clear e1 h1 h2
  induction h3 with
  | nil => exact .nil
  | cons h t ih => exact .cons (hg h) ih
/-- a list of things as a list of data -/
theorem e_lstD {w : W (List α)} (d : DD X.K r f n) (h : EE X B env os e (rLst r) w) (hn : n ≤ 30 := by decide) : EE X B env os e (rLst (rD X.K)) (bnd w fun xs => ret (xs.map f)) :=
  e_map (s := rLst (rD X.K)) (fun ok => lst_map (s := rD X.K) (fun ok => ⟨(d.ok ok).1, (d.ok ok).2.1, Nat.le_trans (d.ok ok).2.2 hn⟩) ok) h
theorem e_lstDk {w : W (List α)} {m : Nat} (d : DD X.K r f n) (h : EE X B env os e (rLst r) w) (hn : n ≤ m := by decide) (h3 : m ≤ 30 := by decide) : EE X B env os e (rLst (rDk X.K m)) (bnd w fun xs => ret (xs.map f)) :=
  e_map (s := rLst (rDk X.K m)) (fun ok => lst_map (s := rDk X.K m) (fun ok => dk_of d hn h3 ok) ok) h
end
section
variable {X : Cx} {B : Bs} {env : Env} {os : Os} {pos p : Pos} {α β γ : Type} {r : Rp α} {s : Rp β} {a b c e tg : Expr}
theorem e_gIntE {x : Str} {i : Int} (hm : ∃ t, X.mg x = some (.int i t)) (hg : Gl X x := by rfl) (hd : (x == ("__debug__" : Str)) = false := by decide) : EE X B env os (.Name x pos) rInt (ret i) := let ⟨_, h⟩ := hm; e_gInt h hg hd
theorem enum_at {ds : List α} {i : Nat} {z : Int × α} (h : ((rangeI 0 (ds.length : Int)).zip ds)[i]? = some z) : z.1 = (i : Int) ∧ ds[i]? = some z.2 := by
  obtain ⟨z1, z2⟩ := z
  have hz' := List.getElem?_zip_eq_some.mp h
  refine ⟨?_, hz'.2⟩
  have h := hz'.1
  unfold rangeI at h
  rw [List.getElem?_map] at h
  obtain ⟨m, hm, em⟩ := Option.map_eq_some_iff.mp h
  rw [List.getElem?_range (by have := (List.getElem?_eq_some_iff.mp hm).1; simpa using this)] at hm
  have := Option.some.inj hm
  show z1 = _
  omega
theorem enum_len {ds : List α} : ((rangeI 0 (ds.length : Int)).zip ds).length = ds.length := by
  have lr : (rangeI 0 (ds.length : Int)).length = ds.length := by rw [rangeI_len]; omega
  rw [List.length_zip, lr]
  exact Nat.min_self _
end
section
variable {P : Program} {w : World} {K : PySem.W.Frag} {mg : Str → Option Value} {base : Heap} {tb : ETab} {k : Nat} {f C : Addr} {fd : FuncData} {ps N : List Str} {ι ρ : Type} {args : ι → Env} {os : ι → Os} {wf : ι → W ρ} {ro : Rp ρ} {fl : ρ → List (Str × Slot)}
theorem FunE.ok {CX : CXT} {x qual : Str} {st : Stmt} {sp : Sp} (F : FunE K x qual st f fd) (S : FnScope N ps (defScope st)) (len : ∀ vs H Q E, sp vs H Q E → vs.length = ps.length)
    (hbody : ∀ (cdv : Value) (A : Around) (outer : List PySem.Env) (s : Shared) (H : Hp) (vs : List V) (Q : VK) (E : XK), Room k (A.deeper (envOfC qual (defScope st) s.heap.objs.size f cdv)) → sp vs H Q E →
      ∃ t, PSs (cxOf CX P w K mg base N qual (defScope st) f cdv A outer s H E) (defBody st) t ∧ t { nx := fun _ H' => Q .non H', rt := Q } (L2.start N vs) H) : FnOk P w K mg base CX (k + 1) f fd ps sp := by
  obtain ⟨oc, od, dV, kV, doc, pm, an, cdv, ct, osl, rfl, lk, hcd⟩ := F.ex
  exact fn_of lk hcd S len fun A outer s H vs Q E hr hsp => hbody cdv A outer s H vs Q E hr hsp
theorem initXE {x qual : Str} {st : Stmt} (F : FunE K x qual st f fd) (S : FnScope N ps (defScope st)) (hl : ∀ i, (args i).length + 1 = ps.length)
    (body : ∀ (cdv : Value) (A : Around) (outer : List PySem.Env) (s : Shared) (H : Hp) (E : XK) (B : Bs) (a : Addr) (i : ι), Room k (A.deeper (envOfC qual (defScope st) s.heap.objs.size f cdv)) → Takes (cxOf (L2.CX P w) P w K mg base N qual (defScope st) f cdv A outer s H E) (wB K tb B) →
      BG (cxOf (L2.CX P w) P w K mg base N qual (defScope st) f cdv A outer s H E) B (entry (sv (rAdr a) () :: args i) (N.length - ps.length)) [(a, oObj C [])] (defBody st) (pIn B C a fl) (wf i)) : FnOk P w K mg base (L2.CX P w) (k + 1) f fd ps (spIX K tb C args wf fl) :=
  F.ok S (fun vs H Q E ⟨i, F, P, PE, x, dx, us, ev, _, _, _, he, _⟩ => by
    have := he.len
    rw [List.length_map] at this
    rw [ev, List.length_cons, ← this, hl i]) fun cdv A outer s H vs Q E hr hsp => bodyIX hl hsp fun B a i tk => body cdv A outer s H E B a i hr tk
end
end Mi
namespace Mi
open PySem L2 Evl
section
variable {X : Cx} {B : Bs} {env : Env} {os : Os} {pos p : Pos} {κ α β : Type} [DecidableEq κ] {rk : Rp κ} {kf : κ → Key} {r : Rp α} {o a b c e : Expr} {rest : List Stmt} {post : Post β}
theorem b_dputB (i j : Nat) {x : Str} {p1 p2 : Pos} {q : Addr} {xs : List (κ × α)} {w : W α} {w1 : α → W κ} {w2 : List (κ × α) → W β} (K : KeyR rk kf) (hu : X.A.units + 100 < cLine) (hi : env[i]? = some (sv (rAdr q) ())) (hj : os[j]? = some (q, oDct rk kf r xs)) (he : EE X B env os e r w) (hk : ∀ y, EE X B env os b rk (w1 y))
    (hr : ∀ ys, BG X B env (os.set j (q, oDct rk kf r ys)) rest post (w2 ys)) (hN : X.N[i]? = some x := by rfl)
    (hv : Vis X.env.scope x := by first | exact Or.inl rfl | exact Or.inr (Or.inl rfl) | exact Or.inr (Or.inr rfl)) (hd : (x == ("__debug__" : Str)) = false := by decide) (hcd : (x == ("__classdict__" : Str)) = false := by decide)
    (hs : swapsWith e (some (.Subscript (.Name x p1) b p2)) pos.line X.env = pure false := by rfl) :
    BG X B env os (.Assign [.Subscript (.Name x p1) b p2] e pos :: rest) post (bnd w fun y => bnd (w1 y) fun k => chk (xs.length < sizeLine) (bnd (ret (dput xs k y)) w2)) :=
  b_dput i j K hu hi hj he hk hr hN hv hd hcd hs
end
end Mi
namespace Mi
open PySem L2 Evl
section
variable {X : Cx} {B : Bs} {env : Env} {os : Os} {tb : ETab} {pos p : Pos} {κ α β ι ρ : Type} [DecidableEq κ] {rk : Rp κ} {kf : κ → Key} {r : Rp α} {o a b c e : Expr} {args : ι → Env} {osf : ι → Os} {wf : ι → W ρ} {ro : Rp ρ} {C : Addr} {fl : ρ → List (Str × Slot)}
theorem t_of_pc {op : CmpOp} {w : W Bool} {t : TE} (h : PC X op a b t) (i : ∀ σ H Q, tOf B env os rBool w σ H Q → t σ H Q) (hm : behindInMarks op b = false) : ET X B env os (.Compare a [op] [b] pos) w :=
  PT.imp (pt_cmp h hm) fun σ H Q ⟨F, P, S, hw, k⟩ => i σ H _ ⟨F, P, S, hw, fun z hz v F' H' S' e' ok => ⟨z, ok, k z hz F' H' S' e'⟩⟩
theorem t_din {w1 : W κ} {w2 : κ → W (List (κ × α))} (K : KeyR rk kf) (hu : X.A.units + 100 < cLine) (ha : EE X B env os a rk w1) (hb : ∀ x, EE X B env os b (rDct rk kf r) (w2 x)) (hm : behindInMarks .In b = false := by rfl) : ET X B env os (.Compare a [.In] [b] pos) (bnd w1 fun k => bnd (w2 k) fun xs => ret (dget xs k).isSome) :=
  t_of_pc (pc_din (by omega) ha (PE.ex hb)) (fun σ H Q ⟨F, P, S, hw, kk⟩ => ⟨F, _, S, hw, fun k hk v F1 H1 S1 e1 ok1 => ⟨k, F1, _, S1, hk, fun xs hx u F2 H2 S2 e2 ⟨p1, ob, kvs, q1, h1, z1, ok2⟩ => by
    have eu := K.of ok1
    subst q1 eu
    refine ⟨p1, valV kvs (kf k), rfl, .inl ⟨kvs, kf k, .inr ⟨_, S2.fh _ _ h1⟩, rfl, rfl⟩, ?_⟩
    have : (valV kvs (kf k)).isSome = (dget xs k).isSome := by
      rcases dget_ok K ok2 k with ⟨g1, g2⟩ | ⟨v, x, g1, g2, g3⟩ <;> rw [g1, g2] <;> rfl
    rw [this]
    exact kk _ hx (.bl _) F2 H2 S2 (e1.trans e2) rfl⟩⟩) hm
end
end Mi
namespace Mi
open PySem L2 Evl NdefX
open PyProof.Rows (envOfC)
open PySem.Builtin.ObjectAttr PySem.Builtin
/-- a builtin exception at the foot: its name, those of its __new__ and __init__, its mro -/
structure Foot (nameB newB initB : String) (tl : List Value) : Prop where
  base : PySem.ExcBaseFacts nameB newB initB tl
  lets : ∀ me : Value, refuseLoop me "__setattr__" tl = pure ()
  objT : tl.contains (Value.type "object") = true
  kxs : PySem.W.KxsFacts nameB initB
  nmW : (nameB == "type") = false
theorem foot_value : Foot "ValueError" "ValueError.__new__" "ValueError.__init__" PySem.HandSPX.veTail := ⟨F.excBase_ValueError, fun me => F.store_ValueError.passes me, by decide +kernel, PySem.W.kxs_ValueError, by decide⟩
/-- a class's mro behind itself: own classes, then the foot's -/
def Refs (tl l : List Value) : Prop := ∃ cs : List Addr, l = cs.map Value.ref ++ tl
section
variable {tl l : List Value}
theorem Refs.has (h : Refs tl l) (T : String) : l.contains (Value.type T) = tl.contains (Value.type T) := by
  obtain ⟨cs, rfl⟩ := h
  induction cs with
  | nil => rfl
  | cons c cs ih =>
    rw [List.map_cons, List.cons_append, List.contains_cons, ih]
    rfl
theorem Refs.lets (h : Refs tl l) {me : Value} (k : refuseLoop me "__setattr__" tl = pure ()) : refuseLoop me "__setattr__" l = pure () := by
  obtain ⟨cs, rfl⟩ := h
  induction cs with
  | nil => exact k
  | cons c cs ih =>
    rw [List.map_cons, List.cons_append]
    rw [PySem.refuseLoop_ref]
    exact ih
theorem Refs.cons (h : Refs tl l) (c : Addr) : Refs tl (Value.ref c :: l) := by
  obtain ⟨cs, rfl⟩ := h
  exact ⟨c :: cs, rfl⟩
theorem Refs.some (h : Refs tl l) (k : tl.contains (Value.type "object") = true) : l.isEmpty = false := by
  obtain ⟨cs, rfl⟩ := h
  cases cs with
  | cons c cs => rfl
  | nil => cases tl with
    | nil => cases k
    | cons a b => rfl
end
section
variable {prog : Program} {wd : World} {Ar : Around} {Ans : Result → Shared → Prop} {hh : Heap} {gs : Array GenState} {dr : Drawn} {tk0 : Nat} {oss : OsState} {K : PySem.W.Frag} {fld : Str} {tk : Tok} {val : Value} {a C dx : Addr} {fvs : Array Value} {cda : ClassData} {tl : List Value}
theorem exg_first (inK : K.In hh) (at_ : hh.get? a = Option.some { cls := Value.ref C, data := Data.fields fvs }) (cin : PySem.W.clsIn K C = Option.some cda) (rf : Refs tl cda.mro) (ob : tl.contains (Value.type "object") = true)
    (lets : ∀ me : Value, refuseLoop me "__setattr__" tl = pure ()) (hasD : cda.hasDict = true) (free : PySem.W.findIn K (Value.ref C) fld = Option.some none)
    (fin : ∀ h2 tk2 d2, (∀ b o, b ≠ a → hh.get? b = Option.some o → h2.get? b = Option.some o) → hh.objs.size ≤ d2 → d2 ≠ a → h2.get? a = Option.some { cls := Value.ref C, dict := Option.some d2, data := Data.fields fvs } →
      h2.Ns1 d2 (fun y => if y = fld then Option.some val else none) → Ans (.ok (.ret .none)) ⟨h2, gs, dr, tk2, oss⟩) :
    codeAny (model prog wd) Ar (.call (.builtin "object.__setattr__") ⟨[Value.ref a, Value.str fld tk, val], []⟩) Ans ⟨hh, gs, dr, tk0, oss⟩ := by
  have inst : PySem.W.InstAt hh a { cls := Value.ref C, data := Data.fields fvs } C none := ⟨at_, rfl, rfl, trivial⟩
  have fresh : a ≠ hh.objs.size := Nat.ne_of_lt (Heap.lt_size at_)
  have cont : cda.mro.contains (Value.type "object") = true := (rf.has "object").trans ob
  have inM : PySem.W.mroIn K C (Value.type "object") = Option.some true := by
    unfold PySem.W.mroIn
    rw [cin, Option.bind_some]
    rw [if_neg (by rw [rf.some ob]; decide), cont]
  have isO : PySem.W.Looks (model prog wd) hh (isInstance (Value.ref a) (Value.type "object")) true := inst.type.andThen (PySem.W.looks_mroIn inK inM)
  have so := F.store_object
  have lm : PySem.W.Looks (model prog wd) hh (mroOf (Value.ref C)) cda.mro := (PySem.W.looks_clsIn inK cin).andThen .now
  have lt : PySem.W.Looks (model prog wd) hh (storeTaker? none) none := .now
  have lc : PySem.W.Looks (model prog wd) hh (classData C) cda := PySem.W.looks_clsIn inK cin
  have lf := PySem.W.looks_findIn (M := model prog wd) inK free
  refine codeAny_call_builtin so.slot.plain so.entry ?_
  refine @PySem.W.check_slot (model prog wd) _ _ ⟨hh, gs, dr, tk0, oss⟩ "object.__setattr__" "object" "__setattr__" (Value.ref a) [Value.str fld tk, val] [] _ so.kind so.split isO (so.args (Value.ref a) (Value.str fld tk) val) ?_
  rw [PySem.W.osa_eq, PySem.refuse_eq]
  refine wpAny_bind (wpAny_bind (inst.type.at ?_))
  refine wpAny_bind (lm.at ?_)
  rw [rf.lets (lets _)]
  refine wpAny_pure ?_
  refine wpAny_bind (inst.type.at (wpAny_bind (lf.at ?_)))
  refine wpAny_bind (lt.at ?_)
  show wpAny _ _ (storeInOwnDict (Value.ref a) (Value.ref C) (Value.str fld tk) fld val false) _ _ _
  obtain ⟨c1, c2, c3, c4, c5, c6, c7, c8, c9, c10, c11⟩ := cda
  have hasD : c6 = true := hasD
  subst hasD
  unfold storeInOwnDict ownDictForStores
  repeat (first | with_reducible refine PySem.HandSPX.store_in_new ?_ ?_ | with_reducible refine wpAny_loadPart_at at_ ?_ | with_reducible refine lc.at ?_ | wp_step)
  · have e0 := Heap.get?_push_at (h := hh) (o := ({ cls := .type "dict", data := .dict #[] } : Obj)) rfl rfl
    exact ⟨_, #[], _, (Heap.get?_update_ne _ _ _ _ (Ne.symm fresh)).trans e0, rfl, fun e he => absurd he (by simp), fun _ => rfl⟩
  · intro h2 tk2 ns sb
    have at2 : (hh.push { cls := .type "dict", data := .dict #[] }).get? a = Option.some { cls := Value.ref C, data := Data.fields fvs } := Heap.get?_push_of_some _ at_
    refine fin h2 tk2 hh.objs.size (fun b o nb eb => ?_) (Nat.le_refl _) (Ne.symm fresh) ?_ ns
    · have lb : b ≠ hh.objs.size := Nat.ne_of_lt (Heap.lt_size eb)
      rw [sb.2 b lb, Heap.get?_update_ne _ _ _ _ nb]
      exact Heap.get?_push_of_some _ eb
    · rw [sb.2 a fresh]
      exact Heap.get?_update_self _ at2 rfl
theorem exg_more {m0 : Str → Option Value} {nl : List Str} (inK : K.In hh) (at_ : hh.get? a = Option.some { cls := Value.ref C, dict := Option.some dx, data := Data.fields fvs }) (ns0 : hh.Ns1 dx m0) (wi : Within m0 nl) (few : nl.length ≤ 1000)
    (cin : PySem.W.clsIn K C = Option.some cda) (rf : Refs tl cda.mro) (ob : tl.contains (Value.type "object") = true) (lets : ∀ me : Value, refuseLoop me "__setattr__" tl = pure ()) (hasD : cda.hasDict = true) (free : PySem.W.findIn K (Value.ref C) fld = Option.some none)
    (fin : ∀ h2 tk2, (∀ b o, b ≠ dx → hh.get? b = Option.some o → h2.get? b = Option.some o) → h2.Ns1 dx (fun y => if y = fld then Option.some val else m0 y) → Ans (.ok (.ret .none)) ⟨h2, gs, dr, tk2, oss⟩) :
    codeAny (model prog wd) Ar (.call (.builtin "object.__setattr__") ⟨[Value.ref a, Value.str fld tk, val], []⟩) Ans ⟨hh, gs, dr, tk0, oss⟩ := by
  obtain ⟨od, _, _, edx, _, _⟩ := ns0.count wi
  have inst : PySem.W.InstAt hh a { cls := Value.ref C, dict := Option.some dx, data := Data.fields fvs } C (Option.some od) := ⟨at_, rfl, rfl, edx⟩
  have cont : cda.mro.contains (Value.type "object") = true := (rf.has "object").trans ob
  have inM : PySem.W.mroIn K C (Value.type "object") = Option.some true := by
    unfold PySem.W.mroIn
    rw [cin, Option.bind_some]
    rw [if_neg (by rw [rf.some ob]; decide), cont]
  have isO : PySem.W.Looks (model prog wd) hh (isInstance (Value.ref a) (Value.type "object")) true := inst.type.andThen (PySem.W.looks_mroIn inK inM)
  have so := F.store_object
  have lm : PySem.W.Looks (model prog wd) hh (mroOf (Value.ref C)) cda.mro := (PySem.W.looks_clsIn inK cin).andThen .now
  have lt : PySem.W.Looks (model prog wd) hh (storeTaker? none) none := .now
  have lc : PySem.W.Looks (model prog wd) hh (classData C) cda := PySem.W.looks_clsIn inK cin
  have lf := PySem.W.looks_findIn (M := model prog wd) inK free
  refine codeAny_call_builtin so.slot.plain so.entry ?_
  refine @PySem.W.check_slot (model prog wd) _ _ ⟨hh, gs, dr, tk0, oss⟩ "object.__setattr__" "object" "__setattr__" (Value.ref a) [Value.str fld tk, val] [] _ so.kind so.split isO (so.args (Value.ref a) (Value.str fld tk) val) ?_
  rw [PySem.W.osa_eq, PySem.refuse_eq]
  refine wpAny_bind (wpAny_bind (inst.type.at ?_))
  refine wpAny_bind (lm.at ?_)
  rw [rf.lets (lets _)]
  refine wpAny_pure ?_
  refine wpAny_bind (inst.type.at (wpAny_bind (lf.at ?_)))
  refine wpAny_bind (lt.at ?_)
  show wpAny _ _ (storeInOwnDict (Value.ref a) (Value.ref C) (Value.str fld tk) fld val false) _ _ _
  obtain ⟨c1, c2, c3, c4, c5, c6, c7, c8, c9, c10, c11⟩ := cda
  have hasD : c6 = true := hasD
  subst hasD
  unfold storeInOwnDict ownDictForStores
  repeat (first | with_reducible refine PySem.OEX.store_in_old ns0 wi few ?_ | with_reducible refine wpAny_loadPart_at at_ ?_ | with_reducible refine lc.at ?_ | wp_step)
  intro h2 tk2 ns sb
  refine fin h2 tk2 (fun b o nb eb => ?_) ns
  rw [sb.2 b nb]
  exact eb
end
end Mi
namespace Mi
open PySem L2 Evl NdefX
open PyProof.Rows (envOfC)
/-- what the written part says of such a class -/
structure OexG (K : PySem.W.Frag) (C : Addr) (newB : String) (tl : List Value) : Prop where
  obj : ∃ nm q N bs bm sn sub ab col dd k0 k1 k2 k3 k5, K.lookup C = some (excClassObj nm q C N bs bm true sn sub ab col dd k0 k1 k2 k3 k5 newB) ∧ Refs tl bm
  sets : PySem.W.findIn K (.ref C) "__setattr__" = some (some (.builtin "object.__setattr__"))
  isE : PySem.W.subIn K (.ref C) (.type "BaseException") = some true
  ty : PySem.W.typeIn K (.ref C) = some (.type "type")
  kp : PySem.W.keepIn K (.ref C) = true
section
variable {X : Cx} {pins : List (Addr × Obj)} {σ : L2.St} {H : Hp} {s : Shared} {a C dx : Addr} {fld : Str} {y : V} {u : Value} {fs : List (Str × V)} {Q : Unit → Shared → Prop} {E : Value → Shared → Prop} {A : Around} {nameB newB initB : String} {tl : List Value}
theorem OexG.data (T : OexG X.K C newB tl) : ∃ cda : ClassData, PySem.W.clsIn X.K C = some cda ∧ Refs tl cda.mro ∧ cda.hasDict = true := by
  obtain ⟨nm, q, N, bs, bm, sn, sub, ab, col, dd, k0, k1, k2, k3, k5, look, rf⟩ := T.obj
  refine ⟨{ name := nm, bases := bs, mro := .ref C :: bm, ns := N, qualname := q, hasDict := true, slotNames := sn, subclasses := sub, abstract := ab, collection := col, hasDel := false }, ?_, rf.cons C, rfl⟩
  unfold PySem.W.clsIn
  rw [look] <;> rfl
/-- the first field -/
theorem fld_first (ft : Foot nameB newB initB tl) (T : OexG X.K C newB tl) (I : Inv X pins σ H s) (ea : H a = some (exo a C none)) (free : PySem.W.findIn X.K (.ref C) fld = some none) (ry : RelV y u)
    (fin : ∀ d2 s2, H d2 = none → d2 ≠ a → Inv X pins σ (upd (upd H d2 (exd d2 [(fld, y)])) a (exo a C (some d2))) s2 → Q () s2) : wpAny (model X.prog X.w) A (setAttr (.ref a) fld u) Q E s := by
  obtain ⟨cda, cin, rf, hasD⟩ := T.data
  obtain ⟨tp, there⟩ := exo_at I.hok ea
  obtain ⟨hh, gs, dr, tk0, oss⟩ := s
  refine PySem.W.set_plain (od := none) I.kIn ⟨there, rfl, rfl, trivial⟩ T.sets ?_
  refine exg_first I.kIn there cin rf ft.objT ft.lets hasD free fun h2 tk2 d2 kept ge ne at2 ns2 => ?_
  have nd2 : H d2 = none := I.hok.fresh ge
  have offD : ∀ {b : Addr} {o : Obj}, hh.get? b = some o → b ≠ d2 := fun {b o} z => Nat.ne_of_lt (Nat.lt_of_lt_of_le (Heap.lt_size z) ge)
  have offA : ∀ {b : Addr}, H b = none → b ≠ a := fun {b} z e => by
    rw [e, ea] at z
    cases z
  have same : ∀ {b : Addr}, b ≠ a → b ≠ d2 → upd (upd H d2 (exd d2 [(fld, y)])) a (exo a C (some d2)) b = H b := fun {b} h1 h2 => by rw [upd_ne h1, upd_ne h2]
  have un : Un X.fs [] H (upd (upd H d2 (exd d2 [(fld, y)])) a (exo a C (some d2))) hh h2 := by
    refine ⟨fun b o z n _ _ => kept b o (offA n) z, fun b o z n _ _ => ⟨o.slots, kept b o (offA n) z⟩, fun b o z n _ => (same (offA n) (offD z)).trans n, fun b o z _ => ?_, fun b xs z => ?_, fun b o v z => ?_, fun b ps z => ⟨#[], ?_⟩⟩
    · by_cases e : b = a
      · exact ⟨_, e ▸ at2⟩
      · exact ⟨o, kept b o e z⟩
    · exact (same (at_ne ea z exo_tup) (ne_of_none z nd2)).trans z
    · exact (same (at_ne ea z exo_frz) (ne_of_none z nd2)).trans z
    · rw [same (at_ne ea z exo_tbl) (ne_of_none z nd2), z, Array.append_empty]
  refine fin d2 _ nd2 ne (I.un (t' := tk2) un fun b o z => ?_)
  by_cases e1 : b = a
  · subst e1
    rw [upd_same] at z
    cases z
    exact exo_ok at2
  rw [upd_ne e1] at z
  by_cases e2 : b = d2
  · subst e2
    rw [upd_same] at z
    cases z
    exact exd_ok ns2 (relO_put (fs := []) ry fun _ => trivial)
  rw [upd_ne e2] at z
  refine (I.hok b o z).stay (fun c v hc w => kept c v (fun e => ?_) w) (fun c hc => (same (at_ne ea hc exo_own) (ne_of_none hc nd2)).trans hc) fun c xs hc => (same (at_ne ea hc exo_tup) (ne_of_none hc nd2)).trans hc
  rcases hc with hc | hc
  · exact e1 (hc ▸ e)
  · exact at_ne ea hc exo_own e
/-- a further field -/
theorem fld_more (ft : Foot nameB newB initB tl) (T : OexG X.K C newB tl) (I : Inv X pins σ H s) (ea : H a = some (exo a C (some dx))) (ed : H dx = some (exd dx fs)) (few : fs.length ≤ 900) (free : PySem.W.findIn X.K (.ref C) fld = some none) (ry : RelV y u)
    (fin : ∀ s2, Inv X pins σ (upd H dx (exd dx ((fld, y) :: fs))) s2 → Q () s2) : wpAny (model X.prog X.w) A (setAttr (.ref a) fld u) Q E s := by
  obtain ⟨cda, cin, rf, hasD⟩ := T.data
  obtain ⟨tp, there⟩ := exo_at I.hok ea
  obtain ⟨mA, ns1, rel⟩ := exd_at I.hok ed
  obtain ⟨hh, gs, dr, tk0, oss⟩ := s
  have wi := within_of rel
  obtain ⟨od, _, _, eod, _, _⟩ := ns1.count wi
  refine PySem.W.set_plain (od := some od) I.kIn ⟨there, rfl, rfl, eod⟩ T.sets ?_
  refine exg_more I.kIn there ns1 wi (by rw [List.length_map]; omega) cin rf ft.objT ft.lets hasD free fun h2 tk2 kept ns2 => ?_
  have is2 : ∃ o, h2.get? dx = some o := let ⟨o, _, _, e, _⟩ := ns2; ⟨o, e⟩
  exact fin _ (I.write (t' := tk2) (x := dx) (e := dx) (o := exd dx ((fld, y) :: fs)) (by rw [ed]; trivial) (.inl rfl) kept is2 (exd_ok ns2 (relO_put ry rel)))
end
/-- self.f = e in such an __init__ -/
def tFld (K : PySem.W.Frag) (newB : String) (tl : List Value) (f : Str) (to te : TE) : TS := fun D σ H => te σ H fun y H1 => to σ H1 fun x H2 => ∃ a C : Addr, x = .ref a ∧ OexG K C newB tl ∧ PySem.W.findIn K (.ref C) f = some none ∧
  ((H2 a = some (exo a C none) ∧ ∀ d2, H2 d2 = none → d2 ≠ a → D.nx σ (upd (upd H2 d2 (exd d2 [(f, y)])) a (exo a C (some d2)))) ∨
    ∃ (d2 : Addr) (fs : List (Str × V)), H2 a = some (exo a C (some d2)) ∧ H2 d2 = some (exd d2 fs) ∧ fs.length ≤ 900 ∧ D.nx σ (upd H2 d2 (exd d2 ((f, y) :: fs))))
section
variable {X : Cx} {o e : Expr} {es : List Expr} {to te : TE} {ta : TA} {f : Str} {p p' pos : Pos} {nameB newB initB : String} {tl : List Value}
theorem ps_fld (ft : Foot nameB newB initB tl) (ho : PE X o to) (he : PE X e te) (hs : swapsWith e (some (.Attribute o f p')) pos.line X.env = pure false := by rfl) : PS X (.Assign [.Attribute o f p'] e pos) (tFld X.K newB tl f to te) := by
  refine ⟨fun pins s σ H D I h => ?_⟩
  refine plainObj_wpAny_Assign_Attribute (thn (he.run pins s σ H _ I h) fun v s1 ⟨y, H1, I1, r1, q1⟩ => ?_) hs
  refine thn (ho.run pins s1 σ H1 _ I1 q1) fun u s2 ⟨x, H2, I2, r2, a, C, ex, T, free, q⟩ => ?_
  subst ex
  obtain rfl : u = Value.ref a := r2
  rcases q with ⟨ea, q⟩ | ⟨d2, fs, ea, ed, few, q⟩
  · exact fld_first ft T I2 ea free r1 fun d2 s' n ne J => ⟨σ, _, J, q d2 n ne⟩
  · exact fld_more ft T I2 ea ed few free r1 fun s' J => ⟨σ, _, J, q⟩
theorem mk_oexG {CX : CXT} {C fI : Addr} {k : Nat} {fd : FuncData} {ps : List Str} {sp : Sp} {ds : List Value} {dvs : List V} (ft : Foot nameB newB initB tl) (T : OexG X.K C newB tl) (iC : PySem.W.findIn X.K (.ref C) "__init__" = some (some (.ref fI))) (tI : PySem.W.typeIn X.K (.ref fI) = some (.type "function"))
    (G : FnOk X.prog X.w X.K X.mg X.base CX k fI fd ps sp) (hr : Room (k + 1) X.A) (hb : Binds X.K fd ps ds) (hd : Vals dvs ds) (hx : Passes CX X (fun _ _ _ => False)) {us : List Value} {vs : List V} {pins : List (Addr × Obj)} {σ : L2.St} {H1 : Hp} {Q : XK} {s1 : Shared} (I1 : Inv X pins σ H1 s1) (r1 : Vals vs us) (few : vs.length ≤ 1000)
    (q1 : ∀ a, H1 a = none → sp (.ref a :: (vs ++ dvs)) (upd H1 a (exo a C none)) (fun v H2 => v = .non ∧ ∃ (d : Addr) (fs : List (Str × V)), H2 a = some (exo a C (some d)) ∧ H2 d = some (exd d fs) ∧ H1 d = none ∧ Q (.ref C) (some d) (upd (del H2 a) d (.xd fs))) (fun _ _ _ => False)) :
    wpAny (model X.prog X.w) X.A (call (.ref C) us) (MkP X pins σ Q) X.xe s1 := by
  obtain ⟨nm, q, N, bs, bm, sn, sub, ab, col, dd, k0, k1, k2, k3, k5, look, rf⟩ := T.obj
  obtain ⟨hh, gs, dr, tk0, oss⟩ := s1
  have ge : hh.objs.size ≤ hh.objs.size + 1 := Nat.le_succ _
  have prom := q1 (hh.objs.size + 1) (I1.hok.fresh ge)
  have kept : ∀ b o, hh.get? b = some o → ((hh.push (PySem.W.kdv_tup us)).push (PySem.HandSPX.excO C hh.objs.size)).get? b = some o := fun b o z => Heap.get?_push_of_some _ (Heap.get?_push_of_some _ z)
  have here : ((hh.push (PySem.W.kdv_tup us)).push (PySem.HandSPX.excO C hh.objs.size)).get? (hh.objs.size + 1) = some (PySem.HandSPX.excO C hh.objs.size) := by heap_get
  have I2 := I1.laid (t' := tk0) (a := hh.objs.size + 1) (o := exo (hh.objs.size + 1) C none) (h' := (hh.push (PySem.W.kdv_tup us)).push (PySem.HandSPX.excO C hh.objs.size)) kept ge (exo_ok here)
  have rAll : Vals (V.ref (hh.objs.size + 1) :: (vs ++ dvs)) (Value.ref (hh.objs.size + 1) :: (us ++ ds)) := .cons rfl (r1.append hd)
  have many : (Value.ref (hh.objs.size + 1) :: us ++ ds).length = ps.length := by
    have z := rAll.length
    rw [G.len _ _ _ _ prom] at z
    exact z.symm
  have short : us.length ≤ sizeLine := by
    rw [← Paired.length r1, sizeLine_eq]
    omega
  have runs := G.run _ X.stack _ _ ⟨Value.ref (hh.objs.size + 1) :: us, []⟩ (Value.ref (hh.objs.size + 1) :: (us ++ ds)) _ _ (fun _ _ _ => False) (hr.make C us []) (I2.env0.make C us []) (hb _ (Value.ref (hh.objs.size + 1) :: us) I2.kIn many) rAll prom
  refine wpAny_call (PySem.HandSPX.call_own ft.base (fun Y => rf.has Y) (I1.kIn _ _ look) (PySem.W.looks_findIn I1.kIn iC) (fun self => PySem.W.bind_fn I1.kIn self tI) short (codeAny_mono runs fun r s2 hq => ?_))
  cases r with
  | error er => exact hx pins σ _ _ er s2 I2 hq
  | ok fl =>
    cases fl with
    | next => exact False.elim hq
    | brk => exact False.elim hq
    | cont => exact False.elim hq
    | ret u =>
      obtain ⟨v, H2, os2, bare2, un2, hok2, rv, ev, d, fs, ea, ed, hd1, q2⟩ := hq
      subst ev
      obtain ⟨h2, g2, d2, t2, os'⟩ := s2
      exact ⟨rv, mk_end (raises_own T.isE T.ty) I1 ge kept un2 hok2 os2 bare2 ea ed hd1 q2⟩
theorem pmk_G {CX : CXT} {x : Str} {C fI : Addr} {k : Nat} {fd : FuncData} {ps : List Str} {sp : Sp} {ds : List Value} {dvs : List V} (ft : Foot nameB newB initB tl) (T : OexG X.K C newB tl) (iC : PySem.W.findIn X.K (.ref C) "__init__" = some (some (.ref fI))) (tI : PySem.W.typeIn X.K (.ref fI) = some (.type "function"))
    (G : FnOk X.prog X.w X.K X.mg X.base CX k fI fd ps sp) (hr : Room (k + 1) X.A) (hb : Binds X.K fd ps ds) (hd : Vals dvs ds) (hx : Passes CX X (fun _ _ _ => False)) (hg : Gl X x) (hm : X.mg x = some (.ref C)) (ha : PA X (e :: es) ta)
    (hdb : (x == ("__debug__" : Str)) = false := by decide) (he : starEach (e :: es) X.env = (false, eval e X.env) :: starEach es X.env := by rfl) (hpl : (backTo pos (starEach es X.env)).any (·.1) = false := by rfl) : PMk X (.Call (.Name x p) (e :: es) [] pos) (tMkO C sp dvs ta) := by
  intro pins s σ H Q I h
  refine wpAny_Call_Name_kw (ld_glob I hg hm ?_ hdb)
  exact PySem.W.callWith_K (h₀ := X.base) I.ok.mod.kin T.kp (thn (ha.run pos pins s σ H _ I h) fun us s1 ⟨vs, H1, I1, r1, few, q1⟩ => ⟨I1.kIn, mk_oexG ft T iC tI G hr hb hd hx I1 r1 few q1⟩) he hpl
end
end Mi
namespace Mi
open PySem L2 Evl NdefX
open PyProof.Rows (envOfC)
/-- what the written part says of such a class and of its __init__ at f -/
structure SupG (K : PySem.W.Frag) (prog : Program) (C f : Addr) (F : NF) (fd : FuncData) (cc : Addr) (nameB newB initB : String) (tl : List Value) : Prop where
  ft : Foot nameB newB initB tl
  oex : OexG K C newB tl
  fdE : ∃ kV doc pm ct an, fd = PySem.W.fnX F.name F.qual F.params F.body F.scope [(("__class__" : Str), cc)] .none kV doc pm an (.ref F.c) ct
  look : ∃ oc od osl, K.lookup f = some ⟨oc, od, .func fd, osl⟩
  cl : F.cl = [(("__class__" : Str), cc)]
  cd : PySem.W.codeIn K (.ref F.c) F.qual = true
  cell : ∃ cl cld csl, K.lookup cc = some ⟨cl, cld, .cell (some (.ref C)), csl⟩
  code : ∃ ccl cdd vs ccs file tf, K.lookup F.c = some ⟨ccl, cdd, .fields vs, ccs⟩ ∧ vs[2]? = some (.str file tf) ∧ ((prog.main.file : Str) == file) = true
  opq : PySem.W.nsIn K cStatics "thirdparty.any" = some none
  along : PySem.W.ks_superIn K C C "__init__" = some (some (.builtin initB))
  sub : PySem.W.subIn K (.ref C) (.type nameB) = some true
  mro : PySem.W.mroIn K C (.ref C) = some true
  sup : PySem.W.nsIn K mainGlobals "super" = some none
  top : (prog.main.scope.names.lookup ("super" : Str)).isSome = false
section
variable {P : Program} {w : World} {K : PySem.W.Frag} {mg : Str → Option Value} {base : Heap} {C f cc : Addr} {F : NF} {fd : FuncData} {N ps : List Str} {nameB newB initB : String} {tl : List Value}
theorem super_initG {A : Around} {outer : List PySem.Env} {s0 s : Shared} {H0 H : Hp} {E : XK} {σ : L2.St} {a : Addr} {t : Str} {j : Nat} {p0 p1 p2 p3 p4 pos : Pos} {rest : List Stmt} {Q : Flow → Shared → Prop} {ar : Arg}
    (T : SupG K P C f F fd cc nameB newB initB tl) (hsup : mg "super" = none)
    (I : Inv (ncx CX0 P w K mg base N F f A outer s0 H0 E) [] σ H s) (h0 : N[0]? = some ar.arg) (hs0 : σ[0]? = some (some (.ref a))) (ha : H a = some (exo a C none)) (har : (F.params.posonlyargs ++ F.params.args).head? = some ar)
    (hsc1 : F.scope.names.lookup ("super" : Str) = some .globalImplicit) (hsc2 : F.scope.names.lookup ("__class__" : Str) = some .free) (hsc3 : F.scope.names.lookup ar.arg = some .local)
    {pl : Sem Bool} (he : eval (.Call (.Attribute (.Call (.Name "super" p0) [] [] p1) "__init__" p2) [.Constant (.str t) j p3] [] p4) (envF F f s0.heap.objs.size) = (do
      let ov ← attributeBase (.Call (.Name "super" p0) [] [] p1) "__init__" (envF F f s0.heap.objs.size) (eval (.Call (.Name "super" p0) [] [] p1) (envF F f s0.heap.objs.size))
      standAt p2.atName
      let (f', first) ← holding [ov] (getMethod ov "__init__" pl)
      callWith p4 f' first (backTo p4 (starEach [.Constant (.str t) j p3] (envF F f s0.heap.objs.size))) []))
    (hint : interactive (envF F f s0.heap.objs.size) = false) (hsw : swapsWith (.Call (.Attribute (.Call (.Name "super" p0) [] [] p1) "__init__" p2) [.Constant (.str t) j p3] [] p4) none pos.line (envF F f s0.heap.objs.size) = pure false)
    (hk : ∀ s', Inv (ncx CX0 P w K mg base N F f A outer s0 H0 E) [] σ H s' → wpAny (model P w) (A.deeper (envF F f s0.heap.objs.size)) (execs rest (envF F f s0.heap.objs.size)) Q (ncx CX0 P w K mg base N F f A outer s0 H0 E).xe s') :
    wpAt (model P w) (A.deeper (envF F f s0.heap.objs.size)) (.func F.body (envF F f s0.heap.objs.size))
      (execs (.Expr (.Call (.Attribute (.Call (.Name "super" p0) [] [] p1) "__init__" p2) [.Constant (.str t) j p3] [] p4) pos :: rest) (envF F f s0.heap.objs.size)) Q (ncx CX0 P w K mg base N F f A outer s0 H0 E).xe s := by
  obtain ⟨oc, od, osl, hf⟩ := T.look
  obtain ⟨kV, doc, pm, ct, an, efd⟩ := T.fdE
  obtain ⟨cl, cld, csl, hcell⟩ := T.cell
  obtain ⟨ccl, cdd, vs, ccs, file, tf, hcode, hvs, hfile⟩ := T.code
  obtain ⟨nm, q, NN, bs, bm, sn, sub, ab, col, dd, k0, k1, k2, k3, k5, hC, hbm⟩ := T.oex.obj
  have X := I.kIn
  have hclC : PySem.W.clsIn K C = some { name := nm, bases := bs, mro := .ref C :: bm, ns := NN, qualname := q, hasDict := true, slotNames := sn, subclasses := sub, abstract := ab, collection := col, hasDel := false } := by unfold PySem.W.clsIn; rw [hC] <;> rfl
  refine PySem.ks_wpAt_execs_cons (PySem.ks_wpAt_Expr_any (PySem.ks_wpAt_MethodCall (pl := pl) ?_ he) hint hsw)
  refine PySem.ks_wpAt_super_base (f := f) (cc := F.c) (fd := fd) (ar := ar) (vs := vs) (file := file) (tf := tf) hsc1 hsc2 (by decide) rfl (X _ _ hf) rfl (by rw [efd]; exact har) rfl (X _ _ hcode) rfl hvs hfile T.top ?_
  refine loadName_blt (X := ncx CX0 P w K mg base N F f A outer s0 H0 E) I hsc1 hsup (by decide +kernel) ⟨rfl, ?_⟩
  have hcl : (envF F f s0.heap.objs.size).cells.lookup ("__class__" : Str) = some cc := by
    show F.cl.lookup _ = _
    rw [T.cl]
    rfl
  refine wpAny_loadName_free I.ok.kind hsc2 hcl ⟨_, X _ _ hcell, rfl⟩ ?_
  obtain ⟨m, hns, hl⟩ := I.loc
  obtain ⟨u, ru, lu⟩ := hl 0 ar.arg (.ref a) h0 hs0 (.inl hsc3)
  obtain rfl : u = Value.ref a := ru
  have hma : m ar.arg = some (.ref a) := by
    rcases lu with ⟨_, z⟩ | ⟨z, _⟩
    · exact z
    · rcases z with z | z <;> rw [show (ncx CX0 P w K mg base N F f A outer s0 H0 E).env.kindOf ar.arg = some .local from hsc3] at z <;> cases z
  refine wpAny_loadName_local I.ok.kind hsc3 hns hma ?_
  obtain ⟨t1, ho⟩ := exo_at I.hok ha
  have hD := X _ _ hC
  obtain ⟨hp, g, d, tk, os⟩ := s
  refine PySem.ks_wpAny_isType_cls hD rfl ⟨rfl, ?_⟩
  refine PySem.ks_wpAny_call_super hD rfl ho rfl (fun c e => by cases e) (PySem.W.looks_mroIn X T.mro) fun h1 e1 k1 => ?_
  have I1 := I.kept (t' := tk) (h' := h1) k1
  have X1 := I1.kIn
  have ho1 := k1 _ _ ho
  have hno : PySem.W.Looks (model P w) h1 (opaqueClassAbove (.ref C)) none := PySem.W.looks_opaque X1 T.opq
  have J1 : PySem.W.InstAt h1 a ({ cls := .ref C, dict := none, data := .fields #[.ref t1, .none, .none, .none, .bool false, .none] } : Obj) C none := ⟨ho1, rfl, rfl, trivial⟩
  have hm1 : PySem.W.Looks (model P w) h1 (mroOf (.ref C)) (.ref C :: bm) := fun A Q E s k q => wpAny_bind ((PySem.W.looks_clsIn X1 hclC) A _ E s k (wpAny_pure q))
  have hal := T.along
  unfold PySem.W.ks_superIn at hal
  rw [hclC] at hal
  refine PySem.W.kxs_getMethod T.ft.kxs e1 hno hm1 rfl X1 hal (J1.type.andThen (PySem.W.looks_subIn X1 T.sub)) (PySem.W.ks_ne X1 J1 hclC) (by decide) ?_
  have k2 : ∀ b o, h1.get? b = some o → (h1.push (PySem.W.kxs_mw initB a)).get? b = some o := fun b o e => Heap.get?_push_of_some _ e
  have I2 := I1.kept (t' := tk + 1) k2
  have hu2 : (h1.push (PySem.W.kxs_mw initB a)).get? h1.objs.size = some (PySem.W.kxs_mw initB a) := Heap.get?_push_size _ rfl
  have hst : starEach [Expr.Constant (.str t) j p3] (envF F f s0.heap.objs.size) = (false, eval (Expr.Constant (.str t) j p3) (envF F f s0.heap.objs.size)) :: starEach [] (envF F f s0.heap.objs.size) := rfl
  show wpAny _ _ (callWith p4 (.ref h1.objs.size) [] _ []) _ _ _
  rw [hst]
  refine PySem.W.kxs_callWith (i := initB) (x := a) rfl (Calls.evalArgs_plain ?_)
  have PAc : PA (ncx CX0 P w K mg base N F f A outer s0 H0 E) [Expr.Constant (.str t) j p3] (tCons (tC (.str t)) tNil) := pa_cons pe_str pa_nil
  have hun : H h1.objs.size = none := I1.hok.fresh (Nat.le_refl _)
  have I2p : Inv (ncx CX0 P w K mg base N F f A outer s0 H0 E) [(h1.objs.size, PySem.W.kxs_mw initB a)] σ H ⟨h1.push (PySem.W.kxs_mw initB a), g, d, tk + 1, os⟩ := I2.pins_of fun p hp => by
    rw [List.mem_singleton.mp hp]
    refine ⟨hu2, hun, fun z => ?_, fun z => ?_, fun v => by intro z; cases z⟩
    · exact absurd I1.lt (by rw [← show h1.objs.size = _ from z]; exact Nat.lt_irrefl _)
    · exact I1.nofs (Nat.le_refl _) z
  refine wpAny_mono (PAc.run p4 [(h1.objs.size, PySem.W.kxs_mw initB a)] _ σ H (fun vs H1 => vs = [.str t] ∧ H1 = H) I2p ⟨rfl, rfl⟩) (fun us s3 ⟨vs3, H3, I3, r3, ev3, eH3⟩ => ?_) ?_
  · subst ev3 eH3
    have hu3 := (I3.pin (h1.objs.size, PySem.W.kxs_mw initB a) (List.mem_append_right _ List.mem_cons_self)).1
    obtain ⟨t3, ho3⟩ := exo_at I3.hok ha
    have hC3 := I3.kIn _ _ hC
    have I4 : Inv (ncx CX0 P w K mg base N F f A outer s0 H0 E) [] σ H3 s3 := I3.pins_of fun p hp => by cases hp
    have hlen : us.length ≤ sizeLine := by
      rw [← Paired.length r3]
      show 1 ≤ sizeLine
      rw [sizeLine_eq]
      omega
    obtain ⟨hp3, g3, d3, tk3, os3⟩ := s3
    refine ⟨hu3, ?_⟩
    show wpAny _ _ (call (.ref h1.objs.size) us) _ _ _
    refine wpAny_call (codeAny_of_tree ?_)
    show wpAny _ (A.deeper (envF F f s0.heap.objs.size)).in1 (callAny (.ref h1.objs.size) ⟨us, []⟩) _ _ _
    simp only [callAny]
    refine wpAny_bind (wpAny_load hu3 ?_)
    simp only [PySem.W.kxs_mw, show (Value.type "method-wrapper" == Value.type "method" || Value.type "method-wrapper" == Value.type "builtin_function_or_method" || Value.type "method-wrapper" == Value.type "method-wrapper") = true by decide, if_true]
    refine PySem.W.KFB.if_so (by decide) ?_
    refine wpAny_bind (PySem.W.check_bound_init T.ft.base.toExcCallFacts hC3 ho3 rfl ?_)
    refine wpAny_bind (wpAny_pure (wpAny_pure ?_))
    refine ⟨plainId_quiet T.ft.base.init.plain _, codeAny_builtin T.ft.base.initEntry ?_⟩
    refine PySem.W.exc_init_tree (cls := .ref C) (t0 := t3) (dv := none) (c2 := .none) (c3 := .none) (b4 := .bool false) ho3 hlen fun h' k e' t' => ?_
    have J := I4.write (t' := tk3) (x := a) (e := a) (o := exo a C none) (by rw [ha]; exact True.intro) (.inl rfl) k ⟨_, e'⟩ (exo_ok e')
    have eu : upd H3 a (exo a C none) = H3 := by
      funext b
      by_cases hb : b = a
      · rw [hb, upd_same, ha]
      · rw [upd_ne hb]
    rw [eu] at J
    exact wpAt_of_wpAny (hk _ J)
  · exact fun _ _ x => x
/-- the start of such a def -/
theorem exc_enterG {sp : Sp} {ar : Arg} (T : SupG K P C f F fd cc nameB newB initB tl) (S : NScope N ps ["__class__"] F.scope) (hps : ps[0]? = some ar.arg) (har : (F.params.posonlyargs ++ F.params.args).head? = some ar) (hnil : ∀ y ∈ F.scope.names, y.2 ≠ .cell)
    (len : ∀ vs H Q E, sp vs H Q E → vs.length = ps.length)
    (body : ∀ (A : Around) (outer : List PySem.Env) (s0 : Shared) (H : Hp) (vs : List V) (Q : VK) (E : XK), sp vs H Q E → ∀ s, Inv (ncx CX0 P w K mg base N F f A outer s0 H E) [] (startF N vs [none]) H s →
      wpAt (model P w) (A.deeper (envF F f s0.heap.objs.size)) (.func F.body (envF F f s0.heap.objs.size)) (execs F.body (envF F f s0.heap.objs.size)) (SP (ncx CX0 P w K mg base N F f A outer s0 H E) [] { nx := fun _ H' => Q .non H', rt := Q }) (ncx CX0 P w K mg base N F f A outer s0 H E).xe s) :
    FnOk P w K mg base CX0 1 f fd ps sp := by
  refine ⟨len, fun A outer s H args us vs Q E hr e0 hb r hsp => ?_⟩
  have hl := len _ _ _ _ hsp
  obtain ⟨oc, od, osl, hf⟩ := T.look
  obtain ⟨kV, doc, pm, ct, an, efd⟩ := T.fdE
  obtain ⟨cl, cld, csl, hcell⟩ := T.cell
  have hk0 : ∀ b o, base.get? b = some o → s.heap.get? b = some o := fun b o e => (e0.bs b o e).1
  have KX := e0.mod.kin.keeps hk0
  have hce : callEnv fd s.heap.objs.size f = envF F f s.heap.objs.size := by
    rw [efd]
    show PySem.W.envX _ _ _ _ _ [(("__class__" : Str), cc)] = PySem.W.envX _ _ _ _ _ F.cl
    rw [T.cl]
  refine PySem.ks_codeAny_call_defAt (fd := fd) (body := F.body) (binds := ps.zip us) hr.depth (KX _ _ hf) rfl (e0.mod.nolimit.keeps hk0) (by rw [efd]; exact PySem.W.codeRec_of KX T.cd) (by rw [efd]) hb (by rw [efd]; exact S.nocell)
    (fun ⟨n, _⟩ hy => by rw [efd]; exact S.par n (List.of_mem_zip hy).1) (fun h₁ hns kp => ?_) (by rw [efd]; exact S.co) (by rw [efd]; exact S.gen) (by rw [efd]; exact S.kind)
  rw [hce]
  have hcc : base.get? cc = some ⟨cl, cld, .cell (some (.ref C)), csl⟩ := e0.mod.kin _ _ hcell
  have CA : CellsAt F.cl ["__class__"] [none] s.heap H := by
    rw [T.cl]
    refine ⟨rfl, fun y c e => ?_, fun x y c e1 e2 => ?_, fun i y e => ?_⟩
    · have e' : c = cc := by
        rw [List.lookup_cons] at e
        split at e
        · cases e
          rfl
        · cases e
      subst e'
      exact ⟨(e0.bs _ _ hcc).2, _, _, (e0.bs _ _ hcc).1, rfl⟩
    · rw [List.lookup_cons] at e1 e2
      split at e1
      · split at e2
        · rename_i _ a _ b
          exact (beq_iff_eq.mp a).trans (beq_iff_eq.mp b).symm
        · cases e2
      · cases e1
    · cases i with
      | zero =>
        cases e
        exact ⟨cc, rfl, fun v hv => by cases hv⟩
      | succ i => cases e
  have I : Inv (ncx CX0 P w K mg base N F f A outer s H E) [] (startF N vs [none]) H { s with heap := h₁, toks := s.toks + (ps.zip us).length } := inv_startN S hr.hd e0 hl r CA hns kp
  refine PySem.ks_wpAt_mono (body A outer s H vs Q E hsp _ I) (fun fl s' hs => ?_) fun e s' hs => hs
  have fin : ∀ {σ' : L2.St} {H' : Hp} {v : V} {u : Value}, Inv (ncx CX0 P w K mg base N F f A outer s H E) [] σ' H' s' → L2.RelV v u → Q v H' → CE outer P w H s Q u s' :=
    fun {σ' H' v u} J rv q => ⟨v, H', J.os, J.bare, J.base, J.hok, rv, q⟩
  cases fl with
  | ret u =>
    obtain ⟨v, σ', H', J, rv, q⟩ := hs
    exact fin J rv q
  | next =>
    obtain ⟨σ', H', J, q⟩ := hs
    exact fin (v := V.non) (u := Value.none) J rfl q
  | brk =>
    obtain ⟨_, _, _, q⟩ := hs
    exact False.elim q
  | cont =>
    obtain ⟨_, _, _, q⟩ := hs
    exact False.elim q
end
section
variable {P : Program} {w : World} {K : PySem.W.Frag} {mg : Str → Option Value} {base : Heap} {C f cc : Addr} {F : NF} {fd : FuncData} {N ps : List Str} {nameB newB initB : String} {tl : List Value}
theorem exc_fn1G {f1 code t xn : Str} {e : Expr} {i1 : Nat} {q0 q1 q2 q3 q4 q5 q6 q7 q8 : Pos} {ar : Arg} (T : SupG K P C f F fd cc nameB newB initB tl) (S : NScope N [ar.arg, xn] ["__class__"] F.scope) (hsup : mg "super" = none) (har : (F.params.posonlyargs ++ F.params.args).head? = some ar)
    (hb : F.body = [.Expr e q0, .Assign [.Attribute (.Name ar.arg q1) f1 q2] (.Name xn q3) q4, .Assign [.Attribute (.Name ar.arg q5) "code" q6] (.Constant (.str code) i1 q7) q8]) (he : SupOk F f e t q0)
    (hs1 : F.scope.names.lookup ("super" : Str) = some .globalImplicit) (hs2 : F.scope.names.lookup ("__class__" : Str) = some .free)
    (d1 : (ar.arg == ("__debug__" : Str)) = false) (d2 : (ar.arg == ("__classdict__" : Str)) = false) (d3 : (xn == ("__debug__" : Str)) = false) (d4 : (xn == ("__classdict__" : Str)) = false)
    (n1 : PySem.W.findIn K (.ref C) f1 = some none) (n2 : PySem.W.findIn K (.ref C) "code" = some none)
    (w1 : ∀ L, swapsWith (.Name xn q3) (some (.Attribute (.Name ar.arg q1) f1 q2)) q4.line (envF F f L) = pure false) (w2 : ∀ L, swapsWith (.Constant (.str code) i1 q7) (some (.Attribute (.Name ar.arg q5) "code" q6)) q8.line (envF F f L) = pure false) :
    FnOk P w K mg base CX0 1 f fd [ar.arg, xn] (spE1 C f1 code) := by
  have hpre : N.take 3 = [ar.arg, xn, "__class__"] := S.pre
  have hN0 : N[0]? = some ar.arg := by
    have := congrArg (fun l : List Str => l[0]?) hpre
    simpa [List.getElem?_take] using this
  have hN1 : N[1]? = some xn := by
    have := congrArg (fun l : List Str => l[1]?) hpre
    simpa [List.getElem?_take] using this
  have v1 : F.scope.names.lookup ar.arg = some .local := S.par _ (by simp)
  have v2 : F.scope.names.lookup xn = some .local := S.par _ (by simp)
  refine exc_enterG T S rfl har S.nocell (fun vs H Q E ⟨a, x, e, _⟩ => by rw [e]; rfl) fun A outer s0 H vs Q E ⟨a, x, ev, ha, hq⟩ s I => ?_
  obtain ⟨j, p0, p1, p2, p3, p4, ee, hh⟩ := he.ok
  obtain ⟨⟨pl, h1⟩, h2, h3⟩ := hh s0.heap.objs.size
  subst ee ev
  have hbody : wpAt (model P w) (A.deeper (envF F f s0.heap.objs.size)) (.func F.body (envF F f s0.heap.objs.size))
      (execs (.Expr (.Call (.Attribute (.Call (.Name "super" p0) [] [] p1) "__init__" p2) [.Constant (.str t) j p3] [] p4) q0 :: [.Assign [.Attribute (.Name ar.arg q1) f1 q2] (.Name xn q3) q4, .Assign [.Attribute (.Name ar.arg q5) "code" q6] (.Constant (.str code) i1 q7) q8]) (envF F f s0.heap.objs.size))
      (SP (ncx CX0 P w K mg base N F f A outer s0 H E) [] { nx := fun _ H' => Q .non H', rt := Q }) (ncx CX0 P w K mg base N F f A outer s0 H E).xe s := by
    refine super_initG T hsup I hN0 rfl ha har hs1 hs2 v1 h1 h2 h3 fun s' J => ?_
    have hps : PSs (ncx CX0 P w K mg base N F f A outer s0 H E) [.Assign [.Attribute (.Name ar.arg q1) f1 q2] (.Name xn q3) q4, .Assign [.Attribute (.Name ar.arg q5) "code" q6] (.Constant (.str code) i1 q7) q8] _ :=
      pss_cons (ps_fld T.ft (pe_var (i := 0) hN0 (.inl v1) d1 d2) (pe_var (i := 1) hN1 (.inl v2) d3 d4) (w1 _)) (pss_one (ps_fld T.ft (pe_var (i := 0) hN0 (.inl v1) d1 d2) pe_str (w2 _)))
    refine hps.run [] s' _ H _ J ?_
    refine ⟨x, rfl, .ref a, rfl, a, C, rfl, T.oex, n1, .inl ⟨ha, fun dx hdx hne => ?_⟩⟩
    refine ⟨.ref a, rfl, a, C, rfl, T.oex, n2, .inr ⟨dx, [(f1, x)], upd_same, ?_, by simp, hq dx hdx hne⟩⟩
    rw [upd_ne hne, upd_same]
  rw [← hb] at hbody
  exact hbody
end
end Mi
namespace Mi
open PySem L2 Evl NdefX
open PyProof.Rows (envOfC)
def refsB (tl : List Value) : List Value → Bool
  | .ref c :: r => refsB tl r
  | l => l == tl
theorem refs_by {tl : List Value} : ∀ {l : List Value}, refsB tl l = true → Refs tl l := by
  intro l
  induction l with
  | nil =>
    intro h
    exact ⟨[], (beq_iff_eq.mp h).trans rfl⟩
  | cons a r ih =>
    intro h
    cases a with
    | ref c => exact (ih h).cons c
    | _ => exact ⟨[], (beq_iff_eq.mp h).trans rfl⟩
section
variable {X : Cx} {B : Bs} {env : Env} {os : Os} {tb : ETab} {pos p pos2 : Pos} {α β : Type} {r : Rp α} {e : Expr} {rest : List Stmt} {post : Post β} {x : Str} {f C : Addr} {fd : FuncData} {nameB newB initB : String} {tl : List Value}
theorem b_raise1G {w : W α} {g : α → PyData} {n : Nat} {f1 : Str} {code : String} {xn : Str} {sn : Str} (ft : Foot nameB newB initB tl) (tk : Takes X (wB X.K tb B)) (hc : X.calm = true) (hmem : (code, C, some f1) ∈ tb) (hnc : f1 ≠ "code") (T : OexG X.K C newB tl) (iC : PySem.W.findIn X.K (.ref C) "__init__" = some (some (.ref f))) (tI : PySem.W.typeIn X.K (.ref f) = some (.type "function"))
    (G : FnOk X.prog X.w X.K X.mg X.base CX0 1 f fd [sn, xn] (spE1 C f1 (Str.ofString code))) (hr : Room 2 X.A) (hb : Binds X.K fd [sn, xn] []) (hm : X.mg x = some (.ref C)) (d : DD X.K r g n) (hn : n ≤ 30) (he : EE X B env os e r w)
    (hg : Gl X x := by rfl) (hdb : (x == ("__debug__" : Str)) = false := by decide) (hse : starEach [e] X.env = (false, eval e X.env) :: starEach [] X.env := by rfl) (hpl : (backTo pos (starEach [] X.env)).any (·.1) = false := by rfl) :
    BG X B env os (.Raise (some (.Call (.Name x p) [e] [] pos)) none pos2 :: rest) post (bnd w fun v => thr ⟨code, [g v]⟩) :=
  PSs.imp (pss_cons (ps_raise hc tk (pmk_G ft T iC tI G hr hb .nil pass0 hg hm (pa_cons he pa_nil hse) hdb hse hpl)) pss_never) fun D σ H ⟨F, P, S, hw, k⟩ => ⟨F, _, S, hw, fun y hy v F1 H1 S1 e1 ok => ⟨by show 1 ≤ 1000; omega, fun a ha => by
    have hd := d.ok ok
    refine ⟨a, v, rfl, upd_same, fun dx hdx hne => ⟨rfl, dx, [("code", .str (Str.ofString code)), (f1, v)], ?_, upd_same, ?_, ?_⟩⟩
    · rw [upd_ne (Ne.symm hne), upd_same]
    · rwa [upd_ne hne] at hdx
    have hdx1 : H1 dx = none := by rwa [upd_ne hne] at hdx
    have eH : upd (del (upd (upd (upd (upd H1 a (exo a C none)) dx (exd dx [(f1, v)])) a (exo a C (some dx))) dx (exd dx [("code", .str (Str.ofString code)), (f1, v)])) a) dx (.xd [("code", .str (Str.ofString code)), (f1, v)]) = upd H1 dx (.xd [("code", .str (Str.ofString code)), (f1, v)]) := by
      funext b
      by_cases h1 : b = dx
      · rw [h1, upd_same, upd_same]
      · rw [upd_ne h1, upd_ne h1]
        by_cases h2 : b = a
        · rw [h2, del_same, ha]
        · rw [del_ne h2, upd_ne h1, upd_ne h2, upd_ne h1, upd_ne h2]
    rw [eH]
    have gr : Grow F1 H1 (upd F1 dx (.xd [("code", .str (Str.ofString code)), (f1, v)])) (upd H1 dx (.xd [("code", .str (Str.ofString code)), (f1, v)])) := Grow.alloc S1.fh hdx1
    have S2 := S1.grow gr
    refine ⟨⟨code, [g y]⟩, _, hy, S2.fin.low, C, some f1, dx, _, hmem, rfl, rfl, upd_same, rfl, v, g y, rfl, ?_, (rD X.K).mono gr.f ⟨hd.1, hd.2.1, Nat.le_trans hd.2.2 hn⟩⟩
    rw [lookup_put, if_neg hnc, lookup_put, if_pos rfl]⟩⟩
end
end Mi
namespace Mi
open PySem L2 Evl
def mergeD {κ α : Type} [DecidableEq κ] (acc more : List (κ × α)) : List (κ × α) := more.foldl (fun a p => dput a p.1 p.2) acc
section
variable {X : Cx} {B : Bs} {env : Env} {os : Os} {pos p : Pos} {κ α β : Type} [DecidableEq κ] {rk : Rp κ} {kf : κ → Key} {r : Rp α} {o a b c e : Expr} {rest : List Stmt} {post : Post β}
/-- dict(pairs) -/
theorem pairs_dict {K : PySem.W.Frag} {F : Hp} (KR : KeyR rk kf) : ∀ {vs : List V} {xs : List (κ × α)}, Paired (fun v x => (rT2 K rk r).ok F v x) vs xs → ∃ (ps : List Addr) (kvs : List (Key × V)), vs = ps.map V.ref ∧ Paired (fun p kv => SqT K F p [kV kv.1, kv.2]) ps kvs ∧ Paired (DPair F rk kf r) kvs xs
  | _, _, .nil => ⟨[], [], rfl, .nil, .nil⟩
  | _, _, .cons (a := v) (b := x) h t => by
    obtain ⟨q, v1, v2, h1, h2, h3, h4⟩ := h
    obtain ⟨ps, kvs, g1, g2, g3⟩ := pairs_dict KR t
    subst h1 g1
    have e1 := KR.of h3
    subst e1
    exact ⟨q :: ps, (kf x.1, v2) :: kvs, rfl, .cons h2 g2, .cons ⟨rfl, h3, h4⟩ g3⟩
theorem merge_ok {F : Hp} (K : KeyR rk kf) {kvs : List (Key × V)} {xs : List (κ × α)} (h : Paired (DPair F rk kf r) kvs xs) : ∀ {acc : List (Key × V)} {ys : List (κ × α)}, Paired (DPair F rk kf r) acc ys → Paired (DPair F rk kf r) (mergeK acc kvs) (mergeD ys xs) := by
  induction h with
  | nil => exact fun h => h
  | @cons u x kvs xs hp t ih =>
    intro acc ys h
    refine ih ?_
    have := dput_ok K h (k := x.1) (v := u.2) (x := x.2) (by rw [← hp.1]; exact hp.2.1) hp.2.2
    rw [← hp.1] at this
    exact this
theorem d_pairs {w : W (List (κ × α))} (K : KeyR rk kf) (hc : X.calm = true) (ha : EE X B env os a (rLst (rT2 X.K rk r)) w) (hm : X.mg "dict" = none) (hg : Gl X "dict" := by rfl) (he : starEach [a] X.env = (false, eval a X.env) :: starEach [] X.env := by rfl) (hpl : (backTo pos (starEach [] X.env)).any (·.1) = false := by rfl) :
    ED X B env os (.Call (.Name "dict" p) [a] [] pos) rk kf r (bnd w fun xs => ret (mergeD [] xs)) :=
  PE.imp (pe_callTy (call_dictP hc) hg hm (by decide +kernel) (pa_cons ha pa_nil he) (by decide) (by decide) he hpl) fun σ H Q ⟨F, P, S, hw, k⟩ => ⟨F, _, S, hw, fun x hx v F1 H1 S1 e1 ⟨p1, vs, q1, h1, z1, ok1⟩ => by
    obtain ⟨ps, kvs, g1, g2, g3⟩ := pairs_dict (K := X.K) K ok1
    subst g1
    refine ⟨p1, ps, kvs, by rw [q1], SqL.of (S1.fh _ _ h1), Paired.imp (fun _ _ h => ex_t S1.fh h) g2, fun l hl => k _ hx l F1 _ (S1.newOwn hl ⟨_, rfl, ?_, merge_ok K g3 .nil⟩) e1⟩
    refine Nat.le_trans (length_mergeK kvs []) ?_
    rw [List.length_nil, Nat.zero_add, ← g2.length]
    rw [List.length_map] at z1
    exact z1⟩
end
end Mi
namespace Mi
open PySem L2 Evl
end Mi
namespace Mi
open PySem L2 Evl
def so {α : Type} (r : Rp α) : Option α → Slot
  | none => sa
  | some x => sv r x
def rDw (K : PySem.W.Frag) (n : Nat) : Rp PyData := ⟨fun F v d => Dp K F v d ∧ d.canLay0 = true ∧ d.depth ≤ n, fun e ⟨h, hc⟩ => ⟨by
  refine (show ∀ {v d}, Dp K _ v d → Dp K _ v d from ?_) h
  intro v d h
  refine Dp.rec (K := K) (H := _) (motive_1 := fun v d _ => Dp K _ v d) (motive_2 := fun vs ds _ => DpAll K _ vs ds) .non .bl .int .str (fun h1 _ ih => .lst (ex_l e h1) ih) (fun h1 _ ih => .tup (ex_t e h1) ih) .nil (fun _ _ i1 i2 => .cons i1 i2) h, hc⟩⟩
theorem dd_Dw {K : PySem.W.Frag} {n : Nat} : DD K (rDw K n) id n := ⟨fun h => h⟩
section
variable {X : Cx} {B : Bs} {env : Env} {os : Os} {pos p : Pos} {α : Type} {r : Rp α} {f : α → PyData} {n m : Nat} {e : Expr} {es : List Expr}
def tDLw (B : Bs) (env : Env) (os : Os) (K : PySem.W.Frag) (n l : Nat) (w : W (List PyData)) : TA := fun σ H Q => ∃ F P, Sit B F H σ env os ∧ w P B.E0 ∧ ∀ ds, P ds → ∀ vs F' H', Sit B F' H' σ env os → Ex F F' → Paired ((rDw K n).ok F') vs ds → vs.length = l → Q vs H'
def DLw (X : Cx) (B : Bs) (env : Env) (os : Os) (es : List Expr) (n : Nat) (w : W (List PyData)) : Prop := PA X es (tDLw B env os X.K n es.length w)
theorem dlw_nil : DLw X B env os [] n (ret []) := PA.imp pa_nil fun σ H Q ⟨F, P, S, hw, k⟩ => k [] hw [] F H S (Ex.refl F) .nil rfl
theorem dlw_cons {w1 : W α} {w2 : W (List PyData)} (d : DD X.K r f n) (h : EE X B env os e r w1) (ht : DLw X B env os es m w2) (hn : n ≤ m := by decide) (hs : starEach (e :: es) X.env = (false, eval e X.env) :: starEach es X.env := by rfl) : DLw X B env os (e :: es) m (bnd w1 fun x => bnd w2 fun xs => ret (f x :: xs)) :=
  PA.imp (pa_cons h ht hs) fun σ H Q ⟨F, P, S, hw, k⟩ => ⟨F, _, S, hw, fun x hx v F1 H1 S1 e1 ok1 => ⟨F1, _, S1, hx, fun xs hxs vs F2 H2 S2 e2 ok2 hl => k _ hxs (v :: vs) F2 H2 S2 (e1.trans e2) (.cons ((rDw X.K m).mono e2 ⟨(d.ok ok1).1, (d.ok ok1).2.1, Nat.le_trans (d.ok ok1).2.2 hn⟩) ok2) (by rw [List.length_cons, hl, List.length_cons])⟩⟩
theorem e_listW {w : W (List PyData)} (h : DLw X B env os es n w) (hz : es.length ≤ sizeLine := by decide) : EE X B env os (.List es pos) (rDw X.K (n + 1)) (bnd w fun ds => ret (PyData.list ds)) :=
  PE.imp (pe_lst h) fun σ H Q ⟨F, P, S, hw, k⟩ => ⟨F, _, S, hw, fun ds hd vs F' H' S' e' ok hl => ⟨by rw [hl]; exact hz, fun p hp => by
    have hv : vs.length ≤ sizeLine := by rw [hl]; exact hz
    obtain ⟨F2, o, e2, h1, ⟨vs', h2, h3, h4⟩, S2⟩ := (S'.newOwn (ow := oLst (rDw X.K n) ds) hp ⟨vs, rfl, hv, ok⟩).freeze
    subst h2
    have z := dd_all (dd_Dw (K := X.K) (n := n)) h4
    rw [List.map_id] at z
    obtain ⟨d1, d2, d3⟩ := z
    exact k _ hd (.ref p) F2 _ S2 (e'.trans e2) ⟨.lst (SqL.of h1) d1, by rw [PyData.canLay0]; exact d2, by rw [PyData.depth]; omega⟩⟩⟩
end
end Mi
namespace PySem.W
open PySem PySem.Spec PySem.Calls PyProof.Rows
end PySem.W
namespace Mi
open PySem L2 Evl
end Mi
namespace PySem.HandSPX
open PySem PySem.Spec PySem.Calls PyProof.Rows
end PySem.HandSPX
namespace Mi
open PySem L2 Evl
end Mi
set_option exponentiation.threshold 2000
namespace Mi
open PySem L2 Evl
def Thr {α : Type} (w : W α) (e : Er) : Prop := ∀ (P : α → Prop) (E : Er → Prop), E e → w P E
theorem Thr.bnd {α β : Type} {m : W α} {f : α → W β} {e : Er} (h : Thr m e) : Thr (Mi.bnd m f) e := fun P E he => h _ E he
theorem Thr.afterP {α β : Type} {m : W α} {f : α → W β} {e : Er} {J : α → Prop} (h : Ok m J) (k : ∀ x, J x → Thr (f x) e) : Thr (Mi.bnd m f) e := fun P E he => h _ E fun y hy => k y hy P E he
theorem Thr.after {α β : Type} {m : W α} {f : α → W β} {e : Er} {x : α} (h : Ok m (· = x)) (k : Thr (f x) e) : Thr (Mi.bnd m f) e := Thr.afterP h fun y hy => by rw [hy]; exact k
theorem Thr.thr {α : Type} {e : Er} : Thr (Mi.thr e : W α) e := fun P E he => he
theorem Thr.retB {α β : Type} {f : α → W β} {e : Er} {x : α} (k : Thr (f x) e) : Thr (Mi.bnd (Mi.ret x) f) e := k
/-- a loop: good turns, then one that raises -/
theorem Thr.forW {α S : Type} {f : S → α → W S} {e : Er} : ∀ {xs ys : List α} {y : α} {s0 : S} (inv : Nat → S → Prop), inv 0 s0 → (∀ k (hk : k < xs.length) s, inv k s → Ok (f s xs[k]) (inv (k + 1))) → (∀ s, inv xs.length s → Thr (f s y) e) → Thr (Mi.forW f s0 (xs ++ y :: ys)) e
  | [], ys, y, s0, inv, h0, h1, h2 => Thr.bnd (h2 _ h0)
  | x :: xs, ys, y, s0, inv, h0, h1, h2 => Thr.afterP (h1 0 (by simp) s0 h0) fun s hs => Thr.forW (fun k => inv (k + 1)) hs (fun k hk s hs => h1 (k + 1) (by simpa using hk) s hs) fun s hs => h2 s hs
theorem zip_at {α : Type} {ds : List α} {k : Nat} (hk : k < ds.length) : ((rangeI 0 (ds.length : Int)).zip ds)[k]'(by rw [enum_len]; exact hk) = ((k : Int), ds[k]) := by
  have h := enum_at (ds := ds) (i := k) (List.getElem?_eq_getElem (l := (rangeI 0 (ds.length : Int)).zip ds) (by rw [enum_len]; exact hk))
  obtain ⟨h1, h2⟩ := h
  rw [List.getElem?_eq_getElem hk] at h2
  exact Prod.ext h1 (Option.some.inj h2).symm
/-- for at, x in enumerate(ds) -/
theorem Ok.enum {α S : Type} {f : S → Int × α → W S} {J : S → Prop} {ds : List α} {s0 : S} (inv : Nat → S → Prop) (h0 : inv 0 s0) (h1 : ∀ k (hk : k < ds.length) s, inv k s → Ok (f s ((k : Int), ds[k])) (inv (k + 1))) (h2 : ∀ s, inv ds.length s → J s) : Ok (Mi.forW f s0 ((rangeI 0 (ds.length : Int)).zip ds)) J :=
  Ok.forW inv h0 (fun k hk s hs => by
    have hk' : k < ds.length := by rw [enum_len] at hk; exact hk
    rw [zip_at hk']
    exact h1 k hk' s hs) fun s hs => h2 s (by rw [enum_len] at hs; exact hs)
theorem Thr.enum {α S : Type} {f : S → Int × α → W S} {e : Er} {ds : List α} {s0 : S} {i : Nat} (hi : i < ds.length) (inv : Nat → S → Prop) (h0 : inv 0 s0) (h1 : ∀ k (hk : k < i) s, inv k s → Ok (f s ((k : Int), ds[k]'(by omega))) (inv (k + 1))) (h2 : ∀ s, inv i s → Thr (f s ((i : Int), ds[i])) e) :
    Thr (Mi.forW f s0 ((rangeI 0 (ds.length : Int)).zip ds)) e := by
  have hx : i < ((rangeI 0 (ds.length : Int)).zip ds).length := by rw [enum_len]; exact hi
  have e1 : (rangeI 0 (ds.length : Int)).zip ds = ((rangeI 0 (ds.length : Int)).zip ds).take i ++ ((i : Int), ds[i]) :: ((rangeI 0 (ds.length : Int)).zip ds).drop (i + 1) := by
    rw [← zip_at hi, ← List.drop_eq_getElem_cons hx, List.take_append_drop]
  have hl : (((rangeI 0 (ds.length : Int)).zip ds).take i).length = i := by rw [List.length_take]; omega
  rw [e1]
  refine Thr.forW inv h0 (fun k hk s hs => ?_) fun s hs => h2 s (by rw [hl] at hs; exact hs)
  have hk' : k < i := by rw [hl] at hk; exact hk
  rw [List.getElem_take, zip_at (by omega)]
  exact h1 k hk' s hs
theorem line_ok {n : Nat} (h : n ≤ 100000) : n ≤ sizeLine := Nat.le_trans h (by decide)
theorem join_okS (sep : Str) (hs : PyData.strOk sep = true) : ∀ (ys : List Str), (∀ y ∈ ys, PyData.strOk y = true) → PyData.strOk (Txt.join sep ys) = true := by
  have key : ∀ (ys : List Str) (acc : Array Nat), acc.all (· < 0x110000) = true → (∀ y ∈ ys, PyData.strOk y = true) → (ys.foldl (fun acc p => acc ++ sep.cps ++ p.cps) acc).all (· < 0x110000) = true := by
    intro ys
    induction ys with
    | nil => intro acc h _; exact h
    | cons y ys ih =>
      intro acc h hy
      refine ih _ ?_ fun z hz => hy z (List.mem_cons_of_mem _ hz)
      have h1 : y.cps.all (· < 0x110000) = true := hy y List.mem_cons_self
      have h2 : sep.cps.all (· < 0x110000) = true := hs
      rw [Array.all_append, Array.all_append, h, h1, h2]
      rfl
  intro ys h
  cases ys with
  | nil => exact key [] _ (by show Array.all #[] _ = true; simp) (fun _ z => by cases z)
  | cons y ys => exact key ys _ (h y List.mem_cons_self) fun z hz => h z (List.mem_cons_of_mem _ hz)
theorem shownAll_eq (ds : List PyData) : PyData.shownAll ds = ds.map PyData.shown := by
  induction ds with
  | nil => rfl
  | cons d ds ih => rw [PyData.shownAll, ih, List.map_cons]
theorem showableAll_of (ds : List PyData) (h : ∀ d ∈ ds, d.showable = true) : PyData.showableAll ds = true := by
  induction ds with
  | nil => rfl
  | cons d ds ih =>
    rw [PyData.showableAll, h d List.mem_cons_self, ih fun u hu => h u (List.mem_cons_of_mem _ hu)]
    rfl
theorem Shw.tup {ds : List PyData} {m n : Nat} (h : ∀ d ∈ ds, Shw d m) (hn : ds.length ≤ n) (h0 : ds ≠ []) : Shw (.tuple ds) (n * (m + 2) + 4) := by
  have l1 : (("(" : Str)).length = 1 := rfl
  refine ⟨by rw [PyData.showable]; exact showableAll_of ds fun d hd => (h d hd).s, ?_, ?_⟩
  · rw [PyData.shown, shownAll_eq]
    unfold tupleText
    rw [strLen_append, strLen_append]
    have j := join_length_add (ds.map PyData.shown) (by simpa using h0)
    have p := piled_le (ts := ds.map PyData.shown) (m := m) fun t ht => by
      obtain ⟨d, hd, rfl⟩ := List.mem_map.mp ht
      exact (h d hd).l
    rw [List.length_map] at p
    have q := Nat.mul_le_mul_right (m + 2) hn
    have lz : (Str.ofString (if (ds.map PyData.shown).length == 1 then ",)" else ")")).length ≤ 2 := by split <;> decide
    omega
  · rw [PyData.shown, shownAll_eq]
    unfold tupleText
    refine strOk_app (strOk_app (strOk_str _) ?_) (strOk_str _)
    rw [← StrLaws.glued_eq_join]
    exact join_okS _ (strOk_str _) _ fun t ht => by
      obtain ⟨d, hd, rfl⟩ := List.mem_map.mp ht
      exact (h d hd).o
theorem Shw.bool (b : Bool) : Shw (.bool b) 10 := by
  cases b <;> exact ⟨by decide +kernel, by decide +kernel, by decide +kernel⟩
theorem Shw.none : Shw .none 10 := ⟨by decide +kernel, by decide +kernel, by decide +kernel⟩
theorem Shw.pair {a b : PyData} {m : Nat} (h1 : Shw a m) (h2 : Shw b m) : Shw (.tuple [a, b]) (2 * (m + 2) + 4) := Shw.tup (fun d hd => by
  simp only [List.mem_cons, List.not_mem_nil, or_false] at hd
  rcases hd with rfl | rfl
  · exact h1
  · exact h2) (by simp) (by simp)
section
variable {κ α : Type} [DecidableEq κ]
theorem len_nodup : ∀ {xs ys : List κ}, xs.Nodup → (∀ x ∈ xs, x ∈ ys) → xs.length ≤ ys.length
  | [], _, _, _ => Nat.zero_le _
  | x :: xs, ys, nd, h => by
    obtain ⟨n1, n2⟩ := List.nodup_cons.mp nd
    have hx := h x List.mem_cons_self
    have ih := len_nodup (xs := xs) (ys := ys.erase x) n2 fun y hy => (List.mem_erase_of_ne (show y ≠ x from fun e => n1 (by rw [← e]; exact hy))).mpr (h y (List.mem_cons_of_mem _ hy))
    have := List.length_erase_of_mem hx
    have := List.length_pos_of_mem hx
    rw [List.length_cons]
    omega
theorem any_keys (xs : List (κ × α)) (k : κ) : (xs.any fun p => decide (p.1 = k)) = decide (k ∈ xs.map (·.1)) := by
  rw [Bool.eq_iff_iff, List.any_eq_true, decide_eq_true_eq, List.mem_map]
  exact ⟨fun ⟨p, h1, h2⟩ => ⟨p, h1, of_decide_eq_true h2⟩, fun ⟨p, h1, h2⟩ => ⟨p, h1, decide_eq_true h2⟩⟩
theorem dput_new {xs : List (κ × α)} {k : κ} {v : α} (h : k ∉ xs.map (·.1)) : dput xs k v = xs ++ [(k, v)] := by
  unfold dput
  rw [any_keys, if_neg (by simpa using h)]
theorem dput_keys (xs : List (κ × α)) (k : κ) (v : α) : (dput xs k v).map (·.1) = if k ∈ xs.map (·.1) then xs.map (·.1) else xs.map (·.1) ++ [k] := by
  unfold dput
  rw [any_keys]
  by_cases h : k ∈ xs.map (·.1)
  · rw [if_pos (decide_eq_true h), if_pos h, List.map_map]
    refine List.map_congr_left fun p hp => ?_
    show (if p.1 = k then (p.1, v) else p).1 = p.1
    split <;> rfl
  · rw [if_neg (by simpa using h), if_neg h, List.map_append]
    rfl
theorem dget_mem {xs : List (κ × α)} {k : κ} (h : k ∈ xs.map (·.1)) : ∃ v, dget xs k = some v ∧ (k, v) ∈ xs := by
  unfold dget
  cases e : xs.find? (fun p => decide (p.1 = k)) with
  | none =>
    rw [List.find?_eq_none] at e
    obtain ⟨p, hp, ep⟩ := List.mem_map.mp h
    exact absurd (decide_eq_true ep) (by simpa using e p hp)
  | some p =>
    have h1 := List.find?_some e
    have h2 := List.mem_of_find?_eq_some e
    have h1 : p.1 = k := of_decide_eq_true h1
    exact ⟨p.2, rfl, by rw [← h1]; exact h2⟩
theorem dget_none {xs : List (κ × α)} {k : κ} (h : k ∉ xs.map (·.1)) : dget xs k = none := by
  unfold dget
  have : xs.find? (fun p => decide (p.1 = k)) = none := by
    rw [List.find?_eq_none]
    intro p hp
    simp only [decide_eq_true_eq]
    exact fun z => h (List.mem_map.mpr ⟨p, hp, z⟩)
  rw [this]
  rfl
/-- a dict comprehension over keys that are all different -/
theorem Ok.dcW {β γ : Type} [DecidableEq γ] {c : γ → W Bool} {fv : γ → W β} {p : γ → Bool} {g : γ → β} : ∀ {ks : List γ} {ys : List (γ × β)}, (ks.Nodup) → (∀ k ∈ ks, k ∉ ys.map (·.1)) → (∀ k ∈ ks, Ok (c k) (· = p k)) → (∀ k ∈ ks, p k = true → Ok (fv k) (· = g k)) →
    Ok (Mi.dcW c (fun k => Mi.ret k) fv ks ys) (· = ys ++ (ks.filter p).map fun k => (k, g k))
  | [], ys, _, _, _, _ => Ok.ret (by simp)
  | k :: ks, ys, nd, hn, hc, hf => by
    obtain ⟨n1, n2⟩ := List.nodup_cons.mp nd
    refine Ok.bndE (hc k List.mem_cons_self) ?_
    by_cases q : p k = true
    · rw [if_pos q, List.filter_cons_of_pos q]
      rw [bnd_ret]
      refine Ok.bndE (hf k List.mem_cons_self q) ?_
      rw [dput_new (hn k List.mem_cons_self)]
      refine (Ok.dcW (ks := ks) n2 (fun j hj => ?_) (fun j hj => hc j (List.mem_cons_of_mem _ hj)) fun j hj => hf j (List.mem_cons_of_mem _ hj)).mono fun x hx => ?_
      · rw [List.map_append]
        intro hm
        rcases List.mem_append.mp hm with z | z
        · exact hn j (List.mem_cons_of_mem _ hj) z
        · have : j = k := by simpa using z
          exact n1 (this ▸ hj)
      · rw [hx, List.map_cons, List.append_assoc]
        rfl
    · rw [if_neg q, List.filter_cons_of_neg q]
      exact Ok.dcW n2 (fun j hj => hn j (List.mem_cons_of_mem _ hj)) (fun j hj => hc j (List.mem_cons_of_mem _ hj)) fun j hj => hf j (List.mem_cons_of_mem _ hj)
end
def whole (d : PyData) : Bool := tyInt (tyD d) && !(tyD d == "bool")
def wholeW (a_value : PyData) : W Bool :=
  bnd (bnd (ret (tyInt (tyD a_value))) fun c1 => if c1 = true then (ret (!(tyD a_value == "bool"))) else ret false) fun z => ret z
theorem whole_ok (d : PyData) : Ok (wholeW d) (· = whole d) := by
  unfold wholeW whole
  refine Ok.bndE ?_ Ok.eq
  rw [bnd_ret]
  cases tyInt (tyD d) with
  | true => rw [if_pos rfl]; exact Ok.eq
  | false => rw [if_neg (by decide)]; exact Ok.eq
def fieldW (ftb : FTab) (a_law_e : Er) : W PyData :=
  bnd (ret (decide (Str.ofString a_law_e.cls ∈ ([("InvalidForm" : Str), ("InvalidRows" : Str), ("InvalidPoly" : Str), ("InvalidTable" : Str), ("InvalidSingles" : Str), ("InvalidDeed" : Str)])))) fun b1 => if b1 = true then (bnd (excF ftb a_law_e "at") fun z => ret z) else (bnd (ret (decide (Str.ofString a_law_e.cls ∈ ([("DuplicateName" : Str), ("UnknownName" : Str), ("TooMany" : Str), ("TooDeep" : Str)])))) fun b3 => if b3 = true then (bnd (bnd (ret (decide (Str.ofString a_law_e.cls ∈ ([("DuplicateName" : Str), ("UnknownName" : Str)])))) fun c => if c = true then excF ftb a_law_e "name" else excF ftb a_law_e "most") fun z => ret z) else (bnd (ret (decide (Str.ofString a_law_e.cls ∈ ([("InvalidText" : Str), ("OtherParameters" : Str), ("NothingLeft" : Str)])))) fun b7 => if b7 = true then (bnd (ret ((fun _ => .none) (()))) fun z => ret z) else (bnd (ret (decide (Str.ofString a_law_e.cls ∈ ([("InvalidPage" : Str), ("InUse" : Str)])))) fun b8 => if b8 = true then (bnd (bnd (ret (decide (Str.ofString a_law_e.cls = ("InvalidPage" : Str)))) fun c => if c = true then excF ftb a_law_e "line" else excF ftb a_law_e "user") fun z => ret z) else (bnd (ret (decide (Str.ofString a_law_e.cls ∈ ([("Full" : Str), ("NotEnough" : Str)])))) fun b12 => if b12 = true then (bnd (bnd (ret (decide (Str.ofString a_law_e.cls = ("Full" : Str)))) fun c => if c = true then excF ftb a_law_e "limit" else excF ftb a_law_e "number") fun z => ret z) else (bnd (excF ftb a_law_e "given") fun z => ret z)))))
def gotW (ftb : FTab) (ask : W PyData) : W (Str × PyData) := tryW (bnd ask fun x => ret (("" : Str), x)) fun e => bnd (noX (fieldW ftb e)) fun x => ret (Str.ofString e.cls, x)
theorem got_thr {ftb : FTab} {w : W PyData} {e : Er} {x : PyData} (h : Thr w e) (hf : Ok (fieldW ftb e) (· = x)) : Ok (noX (gotW ftb w)) (· = (Str.ofString e.cls, x)) := by
  refine Ok.noX fun P E hp => ?_
  show Mi.bnd w (fun x => ret (("" : Str), x)) P fun e => (bnd (noX (fieldW ftb e)) fun x => ret (Str.ofString e.cls, x)) P E
  refine (Thr.bnd h) P _ ?_
  exact (Ok.bndE (Ok.noX hf) Ok.eq : Ok (bnd (noX (fieldW ftb e)) fun x => ret (Str.ofString e.cls, x)) (· = (Str.ofString e.cls, x))) P E hp
theorem got_ret {ftb : FTab} {w : W PyData} {I : PyData → Prop} (h : Ok w I) : Ok (noX (gotW ftb w)) (fun z => z.1 = ("" : Str) ∧ I z.2) := by
  refine Ok.noX fun P E hp => ?_
  show Mi.bnd w (fun x => ret (("" : Str), x)) P _
  exact h _ _ fun x hx => hp _ ⟨rfl, hx⟩
section
variable {ftb : FTab} {x : PyData}
theorem field_table (h : ftb.lookup "InvalidTable" = some (some ("at" : Str))) : Ok (fieldW ftb ⟨"InvalidTable", [x]⟩) (· = x) := by
  unfold fieldW
  dsimp only
  rw [bnd_ret, if_pos (decide_eq_true (by decide +kernel))]
  exact Ok.bndE (Ok.chk h Ok.eq) Ok.eq
theorem field_singles (h : ftb.lookup "InvalidSingles" = some (some ("at" : Str))) : Ok (fieldW ftb ⟨"InvalidSingles", [x]⟩) (· = x) := by
  unfold fieldW
  dsimp only
  rw [bnd_ret, if_pos (decide_eq_true (by decide +kernel))]
  exact Ok.bndE (Ok.chk h Ok.eq) Ok.eq
theorem field_number (h : ftb.lookup "InvalidNumber" = some (some ("given" : Str))) : Ok (fieldW ftb ⟨"InvalidNumber", [x]⟩) (· = x) := by
  unfold fieldW
  dsimp only
  rw [bnd_ret, if_neg (fun z => absurd (of_decide_eq_true z) (by decide +kernel)), bnd_ret, if_neg (fun z => absurd (of_decide_eq_true z) (by decide +kernel)), bnd_ret, if_neg (fun z => absurd (of_decide_eq_true z) (by decide +kernel)), bnd_ret, if_neg (fun z => absurd (of_decide_eq_true z) (by decide +kernel)), bnd_ret, if_neg (fun z => absurd (of_decide_eq_true z) (by decide +kernel))]
  exact Ok.bndE (Ok.chk h Ok.eq) Ok.eq
end
abbrev smallS : Str := "abcdefghijklmnopqrstuvwxyz"
def nameS (s : Str) : Bool := decide (1 ≤ s.length) && decide (s.length ≤ 6) && !decide (s ∈ (["n", "sum"] : List Str)) && s.cps.toList.all fun c => decide (c ∈ smallS.cps.toList)
def nameB : PyData → Bool
  | .str s => nameS s
  | _ => false
abbrev lettersS : Str := "abcdefghijklmopqrstuvwxyz"
structure GName (s : Str) : Prop where
  l : s.length = 1 ∨ s.length = 2 ∨ s.length = 4 ∨ s.length = 6
  c : ∀ c ∈ s.cps.toList, c ∈ lettersS.cps.toList
theorem GName.name {s : Str} (h : GName s) : nameS s = true := by
  have hl := h.l
  unfold nameS
  have h1 : decide (1 ≤ s.length) = true := decide_eq_true (by omega)
  have h2 : decide (s.length ≤ 6) = true := decide_eq_true (by omega)
  have h3 : decide (s ∈ (["n", "sum"] : List Str)) = false := decide_eq_false fun hm => by
    simp only [List.mem_cons, List.not_mem_nil, or_false] at hm
    rcases hm with rfl | rfl
    · exact absurd (h.c 110 (by decide +kernel)) (by decide +kernel)
    · exact absurd hl (by decide +kernel)
  rw [h1, h2, h3]
  simp only [Bool.not_false, Bool.and_true, Bool.true_and, List.all_eq_true, decide_eq_true_eq]
  intro c hc
  have : ∀ c ∈ lettersS.cps.toList, c ∈ smallS.cps.toList := by decide +kernel
  exact this c (h.c c hc)
theorem GName.ok {s : Str} (h : GName s) : PyData.strOk s = true := by
  unfold PyData.strOk
  rw [← Array.all_toList, List.all_eq_true]
  intro c hc
  have : ∀ c ∈ lettersS.cps.toList, c < 0x110000 := by decide +kernel
  exact decide_eq_true (this c (h.c c hc))
theorem GName.len {s : Str} (h : GName s) : s.length ≤ 6 := by
  have := h.l
  omega
theorem GName.line {s : Str} (h : GName s) : s.length ≤ sizeLine := Nat.le_trans h.len (by decide)
end Mi
namespace Mi
open PySem L2 Evl
end Mi
namespace Mi
open PySem L2 Evl
def in2 {γ β : Type} (f : γ → W β) : List γ → List β → W (List β)
  | [], ys => ret ys
  | b :: bs, ys => bnd (f b) fun z => chk (ys.length < sizeLine) (in2 f bs (ys ++ [z]))
def fl2 {α γ β : Type} (w1 : α → W (List γ)) (f : α → γ → W β) : List α → List β → W (List β)
  | [], ys => ret ys
  | x :: xs, ys => bnd (w1 x) fun bs => bnd (in2 (f x) bs ys) fun ys' => fl2 w1 f xs ys'
theorem wipe_wipe (τ : L2.St) (vs : List Nat) : wipe (wipe τ vs) vs = wipe τ vs := by
  have key : ∀ (us vs : List Nat), (∀ u ∈ us, u ∈ vs) → wipe (wipe τ us) vs = wipe τ vs := by
    intro us
    induction us with
    | nil => intro vs _; rfl
    | cons u us ih =>
      intro vs h
      show wipe ((wipe τ us).set u none) vs = wipe τ vs
      rw [wipe_set (h u (List.mem_cons_self ..)), ih vs fun z hz => h z (List.mem_cons_of_mem _ hz)]
  exact key vs vs fun _ h => h
section
variable {X : Cx} {B : Bs} {env : Env} {os : Os} {α β γ : Type} {r : Rp α} {r1 : Rp γ} {s : Rp β} {elt tg iter tg1 iter1 : Expr} {scope : Scope} {pos : Pos}
theorem lc2_read {w : W (List α)} {w1 : α → W (List γ)} {f : α → γ → W β} {vs vs1 : List Nat} {g g1 : TG} {wi1 : TI} {te : TE} {is is1 : List Nat} {envT : Env → α → Env} {envT1 : Env → γ → Env}
    (si : ∀ M D ys x σ H R, tSrc (B.at M) (envT (wipeE env vs) x) ((D, oLst s ys) :: os) r1 (w1 x) σ H R → wi1 σ H R)
    (se : ∀ M D ys x y σ H Q, tOf (B.at M) (envT1 (wipeE (envT (wipeE env vs) x) vs1) y) ((D, oLst s ys) :: os) s (f x y) σ H Q → te σ H Q)
    (tgt : TgT g r is envT) (his : ∀ i ∈ is, i ∈ vs) (tgt1 : TgT g1 r1 is1 envT1) (his1 : ∀ i ∈ is1, i ∈ vs1) {σ : L2.St} {H : Hp} {Q : VK} (h : tNew B env os s (bnd w fun xs => fl2 w1 f xs []) σ H Q) :
    tLc2 (tSrc B env os r w) g tYes wi1 g1 tYes te vs vs1 σ H Q := by
  obtain ⟨F, P, S, hw, k⟩ := h
  refine ⟨F, _, S, hw, fun xs hxs J F1 H1 S1 e1 wk hz D hD => ?_⟩
  refine ⟨(fun i m H => m = xs.length - i ∧ i ≤ xs.length ∧ ∃ F' ys, Sit (B.at F1) F' H σ env ((D, oLst s ys) :: os) ∧ fl2 w1 f (xs.drop i) ys P B.E0 : Nat → Nat → Hp → Prop), ?_, ?_⟩
  · refine ⟨xs.length, by simp, Nat.zero_le _, F1, [], ?_, ?_⟩
    · have S1' : Sit (B.at F1) F1 H1 σ env os := ⟨⟨S1.fin.fh, S1.fin.bf, Ex.refl F1, S1.fin.bb, S1.fin.ios, S1.fin.keep⟩, S1.env, S1.ow, S1.nd⟩
      exact S1'.newOwn hD ⟨[], rfl, Nat.zero_le _, .nil⟩
    · rw [List.drop_zero]
      exact hxs
  rintro i m H2 ⟨rfl, hi, F2, ys, S2, hw2⟩
  have e12 : Ex F1 F2 := S2.fin.mrk
  by_cases hlt : i < xs.length
  · obtain ⟨x, hx⟩ : ∃ x, xs[i]? = some x := ⟨_, List.getElem?_eq_getElem hlt⟩
    refine .inr ⟨wk.go i F2 H2 e12 S2.fh hlt, (fun H' => ∃ F' ys, Sit (B.at F1) F' H' σ env ((D, oLst s ys) :: os) ∧ fl2 w1 f (xs.drop (i + 1)) ys P B.E0 : Hp → Prop), ?_, fun v H3 y => ?_⟩
    · intro H' h
      exact ⟨xs.length - (i + 1), by omega, rfl, hlt, h⟩
    obtain ⟨F3, gr, rv⟩ := wk.yld i F2 H2 v H3 x e12 S2.fh y hx
    have S3 : Sit (B.at F1) F3 H3 σ env ((D, oLst s ys) :: os) := S2.grow gr
    refine tgt F3 H3 v x (wipe σ vs) (wipeE env vs) _ rv S3.fh (S3.env.wipe _) fun σ' hσ hwipe => ⟨?_, ?_⟩
    · rw [hwipe _ his]
      exact wipe_wipe σ _
    rw [drop_cons hx] at hw2
    have hw3 : w1 x (fun bs => in2 (f x) bs ys (fun ys' => fl2 w1 f (xs.drop (i + 1)) ys' P B.E0) B.E0) B.E0 := hw2
    have St : Sit (B.at F1) F3 H3 σ' (envT (wipeE env vs) x) ((D, oLst s ys) :: os) := ⟨S3.fin, hσ, S3.ow, S3.nd⟩
    show wi1 σ' H3 _
    refine si F1 D ys x σ' H3 _ ⟨F3, _, St, hw3, fun bs hbs J1 F4 H4 S4 e34 wk1 hz1 => ?_⟩
    refine ⟨(fun j k H => k = bs.length - j ∧ j ≤ bs.length ∧ ∃ F' ys, Sit (B.at F4) F' H σ' (envT (wipeE env vs) x) ((D, oLst s ys) :: os) ∧ in2 (f x) (bs.drop j) ys (fun ys' => fl2 w1 f (xs.drop (i + 1)) ys' P B.E0) B.E0 : Nat → Nat → Hp → Prop), ?_, ?_⟩
    · refine ⟨bs.length, by simp, Nat.zero_le _, F4, ys, ⟨⟨S4.fin.fh, S4.fin.bf, Ex.refl F4, S4.fin.bb, S4.fin.ios, S4.fin.keep⟩, S4.env, S4.ow, S4.nd⟩, ?_⟩
      rw [List.drop_zero]
      exact hbs
    have e14 : Ex F1 F4 := S4.fin.mrk
    rintro j kk H5 ⟨rfl, hj, F5, zs, S5, hw5⟩
    have e45 : Ex F4 F5 := S5.fin.mrk
    by_cases hjl : j < bs.length
    · obtain ⟨z, hzj⟩ : ∃ z, bs[j]? = some z := ⟨_, List.getElem?_eq_getElem hjl⟩
      refine .inr ⟨wk1.go j F5 H5 e45 S5.fh hjl, (fun H' => ∃ F' ys, Sit (B.at F4) F' H' σ' (envT (wipeE env vs) x) ((D, oLst s ys) :: os) ∧ in2 (f x) (bs.drop (j + 1)) ys (fun ys' => fl2 w1 f (xs.drop (i + 1)) ys' P B.E0) B.E0 : Hp → Prop), ?_, fun v1 H6 y1 => ?_⟩
      · intro H' h
        exact ⟨bs.length - (j + 1), by omega, rfl, hjl, h⟩
      obtain ⟨F6, gr6, rv6⟩ := wk1.yld j F5 H5 v1 H6 z e45 S5.fh y1 hzj
      have S6 : Sit (B.at F4) F6 H6 σ' (envT (wipeE env vs) x) ((D, oLst s zs) :: os) := S5.grow gr6
      refine tgt1 F6 H6 v1 z (wipe σ' vs1) (wipeE (envT (wipeE env vs) x) vs1) _ rv6 S6.fh (S6.env.wipe _) fun σ3 hσ3 hwipe3 => ⟨?_, ?_⟩
      · rw [hwipe3 _ his1]
        exact wipe_wipe σ' _
      rw [drop_cons hzj] at hw5
      have hw6 : f x z (fun q => zs.length < sizeLine ∧ in2 (f x) (bs.drop (j + 1)) (zs ++ [q]) (fun ys' => fl2 w1 f (xs.drop (i + 1)) ys' P B.E0) B.E0) B.E0 := hw5
      have St6 : Sit (B.at F4) F6 H6 σ3 (envT1 (wipeE (envT (wipeE env vs) x) vs1) z) ((D, oLst s zs) :: os) := ⟨S6.fin, hσ3, S6.ow, S6.nd⟩
      show te σ3 H6 _
      refine se F4 D zs x z σ3 H6 _ ⟨F6, _, St6, hw6, fun q hq v' F7 H7 S7 e67 okq => ?_⟩
      obtain ⟨hF7, ⟨o, ho, vs', eo, hl, pr⟩, hB7⟩ := S7.ow (D, oLst s zs) (List.mem_cons_self ..)
      subst eo
      have hlen : vs'.length < sizeLine := by
        have := pr.length
        have := hq.1
        omega
      refine ⟨vs', ho, hlen, F7, zs ++ [q], ?_, hq.2⟩
      have S8 := S7.change (j := 0) (ow' := oLst s (zs ++ [q])) (o' := .lst (vs' ++ [v'])) rfl ⟨vs' ++ [v'], rfl, by rw [List.length_append, List.length_singleton]; omega, Paired.app pr (.cons okq .nil)⟩
      exact ⟨S8.fin, (S6.env.mono e67), S8.ow, S8.nd⟩
    · have ej : j = bs.length := by omega
      subst ej
      refine .inl ⟨wk1.stop _ F5 H5 e45 S5.fh (Nat.le_refl _), F5, zs, ?_, ?_⟩
      · exact ⟨⟨S5.fin.fh, S5.fin.bf, e14.trans e45, S5.fin.bb, S5.fin.ios, S5.fin.keep⟩, S3.env.mono ((e34.trans e45)), S5.ow, S5.nd⟩
      · rw [List.drop_length] at hw5
        exact hw5
  · have e : i = xs.length := by omega
    subst e
    refine .inl ⟨wk.stop _ F2 H2 e12 S2.fh (Nat.le_refl _), ?_⟩
    rw [List.drop_length] at hw2
    exact k ys hw2 D F2 H2 ⟨⟨S2.fin.fh, S2.fin.bf, S1.fin.mrk.trans e12, S2.fin.bb, S2.fin.ios, S2.fin.keep⟩, S2.env, S2.ow, S2.nd⟩ (e1.trans e12)
/-- the inner place -/
abbrev envJ (env : Env) (own : List (Str × Nat)) {α γ : Type} (envT : Env → α → Env) (vs1 : List Nat) (envT1 : Env → γ → Env) (x : α) (y : γ) : Env := envT1 (wipeE (envI env own envT x) vs1) y
variable {w : W (List α)} {w1 : α → W (List γ)} {f : α → γ → W β} {own : List (Str × Nat)} {vs1 : List Nat} {g g1 : TG} {is is1 : List Nat} {envT : Env → α → Env} {envT1 : Env → γ → Env}
variable (hc : X.calm = true) (hN : X.N.Nodup) (src : ES X B env os tg iter r w) (ok : BlkOk X.N X.env.scope scope own) (tgt : TgT g r is envT)
  (hg : ∀ (s : Shared) (H : Hp) (C : Addr) (cl : List (Str × Addr)) (fp : List Addr), PG (X.blk s H scope (compEnvC scope cl C X.env) fp) tg g) (his : ∀ i ∈ is, i ∈ own.map (fun p : Str × Nat => p.2))
  (tgt1 : TgT g1 r1 is1 envT1) (hg1 : ∀ (s : Shared) (H : Hp) (C : Addr) (cl : List (Str × Addr)) (fp : List Addr), PG (X.blk s H scope (compEnvC scope cl C X.env) fp) tg1 g1) (his1 : ∀ i ∈ is1, i ∈ vs1) (hv1 : ∀ i ∈ vs1, i ∈ own.map (fun p : Str × Nat => p.2))
  (src1 : ∀ (s' : Shared) (H : Hp) (C : Addr) (cl : List (Str × Addr)) (fp : List Addr) (M : Hp) (D : Addr) (ys : List β) (x : α), ES (X.blk s' H scope (compEnvC scope cl C X.env) fp) (B.at M) (envI env own envT x) ((D, oLst s ys) :: os) tg1 iter1 r1 (w1 x))
  (he : ∀ (s' : Shared) (H : Hp) (C : Addr) (cl : List (Str × Addr)) (fp : List Addr) (M : Hp) (D : Addr) (ys : List β) (x : α) (y : γ), EE (X.blk s' H scope (compEnvC scope cl C X.env) fp) (B.at M) (envJ env own envT vs1 envT1 x y) ((D, oLst s ys) :: os) elt s (f x y))
abbrev teJ (B : Bs) (env : Env) (os : Os) (own : List (Str × Nat)) {α β γ : Type} (envT : Env → α → Env) (vs1 : List Nat) (envT1 : Env → γ → Env) (s : Rp β) (f : α → γ → W β) : TE := fun σ H Q => ∃ p : Hp × Addr × List β × α × γ, tOf (B.at p.1) (envJ env own envT vs1 envT1 p.2.2.2.1 p.2.2.2.2) ((p.2.1, oLst s p.2.2.1) :: os) s (f p.2.2.2.1 p.2.2.2.2) σ H Q
abbrev tiJ (B : Bs) (env : Env) (os : Os) (own : List (Str × Nat)) {α β γ : Type} (envT : Env → α → Env) (r1 : Rp γ) (s : Rp β) (w1 : α → W (List γ)) : TI := fun σ H R => ∃ p : Hp × Addr × List β × α, tSrc (B.at p.1) (envI env own envT p.2.2.2) ((p.2.1, oLst s p.2.2.1) :: os) r1 (w1 p.2.2.2) σ H R
theorem ex_teJ {Y : Cx} (h : ∀ (M : Hp) (D : Addr) (ys : List β) (x : α) (y : γ), EE Y (B.at M) (envJ env own envT vs1 envT1 x y) ((D, oLst s ys) :: os) elt s (f x y)) : PE Y elt (teJ B env os own envT vs1 envT1 s f) :=
  ⟨fun pins s σ H Q I ⟨p, q⟩ => (h p.1 p.2.1 p.2.2.1 p.2.2.2.1 p.2.2.2.2).run pins s σ H Q I q⟩
theorem ex_tiJ {Y : Cx} (h : ∀ (M : Hp) (D : Addr) (ys : List β) (x : α), ES Y (B.at M) (envI env own envT x) ((D, oLst s ys) :: os) tg1 iter1 r1 (w1 x)) : PI Y tg1 iter1 (tiJ B env os own envT r1 s w1) :=
  ⟨fun pins s σ H Q I ⟨p, q⟩ => (h p.1 p.2.1 p.2.2.1 p.2.2.2).run pins s σ H Q I q⟩
include hc hN src ok tgt hg his tgt1 hg1 his1 hv1 src1 he
theorem n_comp2 (hs : ∀ x, foldedSetIterable iter X.env x = pure x := by intro _; rfl) (hs1 : ∀ env x, foldedSetIterable iter1 env x = pure x := by intro _ _; rfl) : EN X B env os (.ListComp elt [⟨tg, iter, [], 0⟩, ⟨tg1, iter1, [], 0⟩] scope pos) s (bnd w fun xs => fl2 w1 f xs []) :=
  PE.imp (pe_lc2 hc hN src ok hv1 hg (fun _ _ _ _ _ => pts_nil) (fun s' H C cl fp => ex_tiJ (src1 s' H C cl fp)) hg1 (fun _ _ _ _ _ => pts_nil) (fun s' H C cl fp => ex_teJ (he s' H C cl fp)) hs hs1) fun σ H Q h =>
    lc2_read (fun M D ys x σ H R q => ⟨(M, D, ys, x), q⟩) (fun M D ys x y σ H Q q => ⟨(M, D, ys, x, y), q⟩) tgt his tgt1 his1 h
theorem c_comp2 {i : Nat} {y : Str} {py spos : Pos} (hy : X.N[i]? = some y) (hyl : X.env.scope.names.lookup y = some .local) (hsw : swapsWith (.ListComp elt [⟨tg, iter, [], 0⟩, ⟨tg1, iter1, [], 0⟩] scope pos) (some (.Name y py)) spos.line X.env = pure true)
    (hs : ∀ x, foldedSetIterable iter X.env x = pure x := by intro _; rfl) (hs1 : ∀ env x, foldedSetIterable iter1 env x = pure x := by intro _ _; rfl) : PS X (.Assign [.Name y py] (.ListComp elt [⟨tg, iter, [], 0⟩, ⟨tg1, iter1, [], 0⟩] scope pos) spos) (tAsg (tNew B env os s (bnd w fun xs => fl2 w1 f xs [])) (gName i)) := by
  have h := ps_setLc2 (pos := pos) (spos := spos) (py := py) hc hN hy hyl hsw src ok hv1 hg (fun _ _ _ _ _ => pts_nil) (fun s' H C cl fp => ex_tiJ (src1 s' H C cl fp)) hg1 (fun _ _ _ _ _ => pts_nil) (fun s' H C cl fp => ex_teJ (he s' H C cl fp)) hs hs1
  exact ⟨fun pins s σ H D I q => h.run pins s σ H D I (lc2_read (fun M D ys x σ H R q => ⟨(M, D, ys, x), q⟩) (fun M D ys x y σ H Q q => ⟨(M, D, ys, x, y), q⟩) tgt his tgt1 his1 q)⟩
end
theorem Ok.in2 {γ β : Type} {f : γ → W β} {g : γ → β} : ∀ {bs : List γ} {ys : List β}, (∀ b ∈ bs, Ok (f b) (· = g b)) → ys.length + bs.length ≤ sizeLine → Ok (in2 f bs ys) (· = ys ++ bs.map g)
  | [], ys, _, _ => by
    rw [List.map_nil, List.append_nil]
    exact Ok.eq
  | b :: bs, ys, h, hl => by
    rw [List.length_cons] at hl
    refine Ok.bndE (h b (List.mem_cons_self ..)) (Ok.chk (by omega) ?_)
    refine (Ok.in2 (fun c hc => h c (List.mem_cons_of_mem _ hc)) (by rw [List.length_append, List.length_singleton]; omega)).mono fun z hz => ?_
    rw [hz, List.map_cons, List.append_assoc]
    rfl
theorem Ok.fl2 {α γ β : Type} {w1 : α → W (List γ)} {f : α → γ → W β} {b : α → List γ} {g : α → γ → β} : ∀ {xs : List α} {ys : List β}, (∀ x ∈ xs, Ok (w1 x) (· = b x)) → (∀ x ∈ xs, ∀ y ∈ b x, Ok (f x y) (· = g x y)) →
    ys.length + (xs.flatMap fun x => (b x).map (g x)).length ≤ sizeLine → Ok (fl2 w1 f xs ys) (· = ys ++ xs.flatMap fun x => (b x).map (g x))
  | [], ys, _, _, _ => by
    rw [List.flatMap_nil, List.append_nil]
    exact Ok.eq
  | x :: xs, ys, h1, h2, hl => by
    rw [List.flatMap_cons, List.length_append, List.length_map] at hl
    refine Ok.bndE (h1 x (List.mem_cons_self ..)) (Ok.bndE (Ok.in2 (h2 x (List.mem_cons_self ..)) (by omega)) ?_)
    refine (Ok.fl2 (fun c hc => h1 c (List.mem_cons_of_mem _ hc)) (fun c hc => h2 c (List.mem_cons_of_mem _ hc)) (by rw [List.length_append, List.length_map]; omega)).mono fun z hz => ?_
    rw [hz, List.flatMap_cons, List.append_assoc]
end Mi
namespace PySem.W
open PySem PySem.Spec PySem.Calls PyProof.Rows
section
variable {M : Model} {A : Around} {E : Value → Shared → Prop} {s : Shared} {K : Frag} {env : Env} {pos : Pos} {x C : Addr} {ox : Obj} {first : List Value} {Q : Value → Shared → Prop}
/-- an own object as what is called -/
theorem own_callWith {args : List (Bool × Sem Value)} {keywords : List (Option Str × Sem Value)} (hplain : (args.any (·.1) || keywords.any (·.1.isNone)) = false) (hd : ox.data = .plain)
    (h : wpAny M A (evalArgs (.ref x) true args keywords) (fun a s₁ => (∃ od, kco_P K x C ox od s₁.heap) ∧ wpAny M A (call (.ref x) (first ++ a.pos) a.kw) Q E s₁) E s) : wpAny M A (callWith pos (.ref x) first args keywords) Q E s := by
  unfold callWith
  refine wpAny_bind (wpAny_holding (wpAny_mono h (fun a s₁ h₁ => wpAny_bind (wpAny_standAt ?_)) fun _ _ y => y))
  obtain ⟨⟨od, h₀⟩, h₁⟩ := h₁
  have L := kco_keeper (M := M) h₀.2 hd
  simp only [hplain]
  refine wpAny_bind (L.here ?_)
  have tail : ∀ {t : Sem Value}, wpAny M A t Q E s₁ → wpAny M A (t >>= fun r => holding [r] point >>= fun _ => pure r) Q E s₁ :=
    fun ht => wpAny_bind (wpAny_mono ht (fun r s₂ hr => wpAny_bind (wpAny_holding (wpAny_point (wpAny_pure hr)))) fun _ _ y => y)
  exact tail (wpAny_operateT h₁)
theorem own_callWithP {e : Expr} {rest : List Expr} (hd : ox.data = .plain) (h : wpAny M A (spliced (backTo pos (starEach (e :: rest) env))) (fun vs s₁ => (∃ od, kco_P K x C ox od s₁.heap) ∧ wpAny M A (call (.ref x) (first ++ vs)) Q E s₁) E s)
    (he : starEach (e :: rest) env = (false, eval e env) :: starEach rest env := by rfl) (hplain : (backTo pos (starEach rest env)).any (·.1) = false := by rfl) :
    wpAny M A (callWith pos (.ref x) first (backTo pos (starEach (e :: rest) env)) []) Q E s := by
  rw [he] at h ⊢
  exact own_callWith (by show ((false || (backTo pos (starEach rest env)).any (·.1)) || false) = false; rw [hplain]; rfl) hd (evalArgs_plain h)
end
end PySem.W
namespace Mi
open PySem L2 Evl
open PyProof.Rows (Call_)
section
variable {X : Cx} {B : Bs} {env : Env} {os : Os} {pos p p2 pos2 : Pos} {α β γ κ : Type} {r : Rp α} {a b e : Expr}
theorem e_gcd {x : Str} {w1 : W Int} {w2 : Int → W Int} (ha : EE X B env os a rInt w1) (hb : ∀ x, EE X B env os b rInt (w2 x)) (hm : X.mg x = some (.builtin "math.gcd")) (hg : Gl X x := by rfl) (hdb : (x == ("__debug__" : Str)) = false := by decide)
    (hs : starEach [a, b] X.env = (false, eval a X.env) :: starEach [b] X.env := by rfl) (hs2 : starEach [b] X.env = (false, eval b X.env) :: starEach [] X.env := by rfl) (hpl : (backTo pos (starEach [b] X.env)).any (·.1) = false := by rfl) :
    EE X B env os (.Call (.Name x p) [a, b] [] pos) rInt (bnd w1 fun i => bnd (w2 i) fun j => ret ((Nat.gcd i.natAbs j.natAbs : Nat) : Int)) :=
  PE.imp (pe_callBfun cr_gcd hg hm (pa_cons ha (pa_cons (PE.ex hb) pa_nil hs2) hs) hdb hs hpl) fun σ H Q ⟨F, P, S, hw, k⟩ => ⟨F, _, S, hw, fun i hi v F1 H1 S1 e1 ok1 => ⟨i, F1, _, S1, hi, fun j hj u F2 H2 S2 e2 ok2 => by
    have ok1 : v = .int i := ok1
    have ok2 : u = .int j := ok2
    subst ok1 ok2
    exact ⟨i, j, rfl, k _ hj (.int _) F2 H2 S2 (e1.trans e2) rfl⟩⟩⟩
theorem zip_paired {F : Hp} [DecidableEq κ] {rk : Rp κ} {kf : κ → Key} (KR : KeyR rk kf) : ∀ {vs us : List V} {xs : List κ} {ys : List α}, Paired (rk.ok F) vs xs → Paired (r.ok F) us ys → ∃ kvs : List (Key × V), kvs.length = min vs.length us.length ∧ Paired (DPair F rk kf r) kvs (xs.zip ys) ∧ ∀ (i : Nat) (v u : V), vs[i]? = some v → us[i]? = some u → ∃ k, kvs[i]? = some (k, u) ∧ v = kV k
  | _, _, _, _, .nil, _ => ⟨[], by simp, by simpa using Paired.nil, fun i v u h => by simp at h⟩
  | _, _, _, _, .cons _ _, .nil => ⟨[], by simp, by simpa using Paired.nil, fun i v u _ h => by simp at h⟩
  | v :: vs, u :: us, x :: xs, y :: ys, .cons h1 t1, .cons h2 t2 => by
    obtain ⟨kvs, z1, z2, z3⟩ := zip_paired KR t1 t2
    have e1 := KR.of h1
    refine ⟨(kf x, u) :: kvs, by simp only [List.length_cons, z1]; omega, ?_, fun i v' u' g1 g2 => ?_⟩
    · rw [List.zip_cons_cons]
      exact .cons ⟨rfl, by rw [← e1]; exact h1, h2⟩ z2
    · cases i with
      | zero =>
        simp at g1 g2
        subst g1 g2
        exact ⟨kf x, rfl, e1⟩
      | succ i =>
        simp at g1 g2
        obtain ⟨k, q1, q2⟩ := z3 i v' u' g1 g2
        exact ⟨k, by simpa using q1, q2⟩
end
end Mi
namespace GQB
open PySem PySem.SeqAt GQ
open AutoSeq1 (wpAny_loadPart')
open MeetsSeq MeetsSeq2 MeetsSeq3 SeqRoads2
section
variable {prog : Program} {w : World} {A : Around} {R : Result → Shared → Prop}
def Read2 (l b : Addr) (N : Nat) (s : Shared) (items items2 : Array Value) : Prop := ∃ n n2, s.heap.get? l = some { cls := .type "list", data := .seq items n } ∧ s.heap.get? b = some { cls := .type "list", data := .seq items2 n2 } ∧ items.size = N ∧ items2.size = N
/-- at each turn the lists are read anew -/
def TurnB (prog : Program) (w : World) (A : Around) (E : Value → Shared → Prop) (l b : Addr) (N : Nat) (I : Nat → Shared → Prop) (J : Shared → Prop) : Prop :=
  ∀ i s, I i s → ∃ its its2, Read2 l b N s its its2 ∧ ∀ (h1 : i < its.size) (h2 : i < its2.size), wpAny (model prog w) A.in1 (eqBool its[i] its2[i]) (fun r s' => if r = true then I (i + 1) s' else J s') E s
theorem eq_loopB (l b : Addr) (N : Nat) (I : Nat → Shared → Prop) (J : Shared → Prop) (turn : TurnB prog w A (fun e s' => R (.error e) s') l b N I J) (rJ : ∀ s, J s → ∃ its its2, Read2 l b N s its its2)
    (fin : ∀ s, I N s → R (.ok (.ret (.bool true))) s) (finF : ∀ s, J s → R (.ok (.ret (.bool false))) s) (k : Nat) :
    ∀ i : Nat, N - i = k → i ≤ N → ∀ s, I i s →
      wpAny (model prog w) A.in1 (Builtin.«list.__eq__.loop» ⟨[.ref l, .ref b, rawInt i, rawInt 2], []⟩) (FinOf prog w A R) (fun e s' => R (.error e) s') s := by
  induction k with
  | zero =>
    intro i hk hi s h
    obtain ⟨its, its2, ⟨n, n2, hl1, hb1, hs1, hs2⟩, _⟩ := turn _ _ h
    have hi' : i = N := by omega
    have hR : R (.ok (.ret (.bool true))) s := fin s (hi' ▸ h)
    obtain ⟨hp, g, d, tk, os⟩ := s
    wp_walk using wpAny_loadPart' hl1, wpAny_loadPart' hb1
    have hi1 : its[((i : Nat) : Int).toNat]? = none := by simp; omega
    have hi2 : its2[((i : Nat) : Int).toNat]? = none := by simp; omega
    rw [hi1, hi2]
    wp_walk using wpAny_loadPart' hl1, wpAny_loadPart' hb1
    show R (.ok (.ret (.bool (its.size == its2.size)))) _
    rw [hs1, hs2]
    simpa using hR
  | succ k ih =>
    intro i hk hi s h
    obtain ⟨its, its2, ⟨n, n2, hl1, hb1, hs1, hs2⟩, ht⟩ := turn _ _ h
    have hlt : i < its.size := by omega
    have hlt2 : i < its2.size := by omega
    have ht := ht hlt hlt2
    obtain ⟨hp, g, d, tk, os⟩ := s
    wp_walk using wpAny_loadPart' hl1, wpAny_loadPart' hb1
    have hi1 : its[((i : Nat) : Int).toNat]? = some its[i] := by simp [hlt]
    have hi2 : its2[((i : Nat) : Int).toNat]? = some its2[i] := by simp [hlt2]
    have hc : ((i : Int) + 1) = ((i + 1 : Nat) : Int) := by omega
    rw [hi1, hi2]
    refine wpAny_bind (wpAny_mono ht (fun r s2 h2 => ?_) fun _ _ x => x)
    cases r with
    | true =>
      have h2 : I (i + 1) s2 := h2
      have hrec := ih (i + 1) (by omega) (by omega) s2 h2
      obtain ⟨hp2, g2, d2, tk2, os2⟩ := s2
      wp_walk
      rw [hc]
      exact ⟨plainId_quiet plain_eq_loop _, codeAny_builtin entry_eq_loop (by
        rw [Around.under_plainId plain_eq_loop _]
        exact hrec)⟩
    | false =>
      have h2 : J s2 := h2
      obtain ⟨jts, jts2, m, m2, hl2, hb2, ms1, ms2⟩ := rJ _ h2
      have hR := finF s2 h2
      obtain ⟨hp2, g2, d2, tk2, os2⟩ := s2
      wp_walk using wpAny_loadPart' hl2, wpAny_loadPart' hb2
      have ji1 : jts[((i : Nat) : Int).toNat]? = some (jts[i]'(by omega)) := by simp [show i < jts.size by omega]
      have ji2 : jts2[((i : Nat) : Int).toNat]? = some (jts2[i]'(by omega)) := by simp [show i < jts2.size by omega]
      rw [ji1, ji2]
      wp_walk
      exact hR
theorem list_eqB (l b : Addr) (N : Nat) (I : Nat → Shared → Prop) (J : Shared → Prop) (turn : TurnB prog w A (fun e s' => R (.error e) s') l b N I J) (rJ : ∀ s, J s → ∃ its its2, Read2 l b N s its its2)
    (fin : ∀ s, I N s → R (.ok (.ret (.bool true))) s) (finF : ∀ s, J s → R (.ok (.ret (.bool false))) s) {s : Shared} (h : I 0 s) :
    wpAny (model prog w) A.in1 (Builtin.«list.__eq__» ⟨[.ref l, .ref b], []⟩) (FinOf prog w A R) (fun e s' => R (.error e) s') s := by
  obtain ⟨its, its2, ⟨n, n2, hl1, hb1, hs1, hs2⟩, _⟩ := turn _ _ h
  have hrec := eq_loopB (A := A) (R := R) l b N I J turn rJ fin finF _ 0 rfl (Nat.zero_le _) s h
  obtain ⟨hp, g, d, tk, os⟩ := s
  have f3 := AutoSeq1.sub_list_list
  have hne : ¬ (its.size != its2.size) = true := by simp [hs1, hs2]
  wp_walk using wpAny_loadPart' hl1, wpAny_loadPart' hb1
  exact ⟨plainId_quiet plain_eq_loop _, codeAny_builtin entry_eq_loop (by
    rw [Around.under_plainId plain_eq_loop _]
    exact hrec)⟩
theorem list_neLen (l b : Addr) (its its2 : Array Value) {n n2 : Nat} {s : Shared} (hl1 : s.heap.get? l = some { cls := .type "list", data := .seq its n }) (hb1 : s.heap.get? b = some { cls := .type "list", data := .seq its2 n2 }) (hs : its.size ≠ its2.size) (h : R (.ok (.ret (.bool false))) s) :
    wpAny (model prog w) A.in1 (Builtin.«list.__eq__» ⟨[.ref l, .ref b], []⟩) (FinOf prog w A R) (fun e s' => R (.error e) s') s := by
  obtain ⟨hp, g, d, tk, os⟩ := s
  have f3 := AutoSeq1.sub_list_list
  have hne : (its.size != its2.size) = true := by simpa using hs
  wp_walk using wpAny_loadPart' hl1, wpAny_loadPart' hb1
  exact h
theorem tuple_eqB (l b : Addr) (items items2 : Array Value) (n n2 : Nat) (dd dd2 : Option Addr) (sl sl2 : Array (Option Value)) (hsz : items.size = items2.size) (I : Nat → Shared → Prop) (J : Shared → Prop)
    (turn : ∀ i (h1 : i < items.size) (h2 : i < items2.size) s, I i s → wpAny (model prog w) A.in1 (eqBool items[i] items2[i]) (fun r s' => if r = true then I (i + 1) s' else J s') (fun e s' => R (.error e) s') s)
    (fin : ∀ s, I items.size s → R (.ok (.ret (.bool true))) s) (finF : ∀ s, J s → R (.ok (.ret (.bool false))) s) {s : Shared} (hl1 : s.heap.get? l = some { cls := .type "tuple", dict := dd, data := .seq items n, slots := sl }) (hb1 : s.heap.get? b = some { cls := .type "tuple", dict := dd2, data := .seq items2 n2, slots := sl2 }) (h : I 0 s) :
    wpAny (model prog w) A.in1 (Builtin.«tuple.__eq__» ⟨[.ref l, .ref b], []⟩) (FinOf prog w A R) (fun e s' => R (.error e) s') s := by
  have f2 := AutoSeq1.sub_tuple_tuple
  have hZ : (items.toList.zip items2.toList).length = items.size := by simp [hsz]
  have h0 := h
  obtain ⟨hp, g, d, tk, os⟩ := s
  wp_walk using wpAny_loadPart' hl1, wpAny_loadPart' hb1, wpAny_forIn_list _ (fun rest b s' => b.1 = none ∧ ∃ i, rest = (items.toList.zip items2.toList).drop i ∧ i ≤ items.size ∧ I i s') _
  case turn =>
    rintro ⟨y, x⟩ rest b s' ⟨hb', i, hz, hi, hI⟩
    have hlt : i < (items.toList.zip items2.toList).length := by
      rcases Nat.lt_or_ge i (items.toList.zip items2.toList).length with h' | h'
      · exact h'
      · rw [List.drop_of_length_le h'] at hz; cases hz
    have h1 : i < items.size := hZ ▸ hlt
    have h2 : i < items2.size := hsz ▸ h1
    rw [List.drop_eq_getElem_cons hlt] at hz
    injection hz with hyx hrest
    have hy : y = items[i] := by have := congrArg Prod.fst hyx; simpa using this
    have hx : x = items2[i] := by have := congrArg Prod.snd hyx; simpa using this
    subst hy hx
    refine wpAny_bind (wpAny_mono (turn i h1 h2 s' hI) (fun r s2 q2 => ?_) fun _ _ x => x)
    cases r with
    | true =>
      have q2 : I (i + 1) s2 := q2
      wp_walk
      exact ⟨rfl, i + 1, hrest, h1, q2⟩
    | false =>
      have q2 : J s2 := q2
      have hR := finF s2 q2
      wp_walk
      exact hR
  case fin =>
    rintro ⟨b1, b2⟩ s' ⟨hb', i, hz, hi, hI⟩
    simp only at hb'
    subst hb'
    have hge : items.size ≤ i := by
      rcases Nat.lt_or_ge i (items.toList.zip items2.toList).length with h' | h'
      · rw [List.drop_eq_getElem_cons h'] at hz; cases hz
      · exact hZ ▸ h'
    have hi' : i = items.size := by omega
    have hR : R (.ok (.ret (.bool true))) s' := fin s' (hi' ▸ hI)
    wp_walk
    simpa [Builtin.Tuple.tupleCompareSizes, hsz] using hR
  case h =>
    exact ⟨rfl, 0, rfl, Nat.zero_le _, h0⟩
end
section
variable {prog : Program} {w : World} {A : Around} {E : Value → Shared → Prop} {s : Shared}
theorem rc_listB {l b : Addr} {N : Nat} {Q : Value → Shared → Prop} (hu : A.units < cLine) (I : Nat → Shared → Prop) (J : Shared → Prop) (turn : TurnB prog w A E l b N I J) (rJ : ∀ s, J s → ∃ its its2, Read2 l b N s its its2)
    (fin : ∀ s, I N s → Q (.bool true) s) (finF : ∀ s, J s → Q (.bool false) s) (h : I 0 s) : wpAny (model prog w) A (richCompare .Eq (.ref l) (.ref b)) Q E s := by
  obtain ⟨its, its2, ⟨n, n2, hl1, hb1, hs1, hs2⟩, _⟩ := turn _ _ h
  refine wpAny_richCompare_same_room (op := .Eq) ⟨_, hl1, rfl⟩ ⟨_, hb1, rfl⟩ F.slot_list_eq (call_here F.slot_list_eq ⟨_, hl1, rfl⟩ F.entry_list_eq (F.args_list_eq_2 _ _) ?_) hu
  exact list_eqB (R := wants (fun v s' => v ≠ .notImplemented ∧ Q v s') E) l b N I J turn rJ (fun s' q => ⟨(fun x => nomatch x), fin s' q⟩) (fun s' q => ⟨(fun x => nomatch x), finF s' q⟩) h
theorem rc_listNe {l b : Addr} {its its2 : Array Value} {n n2 : Nat} {Q : Value → Shared → Prop} (hu : A.units < cLine) (hl1 : s.heap.get? l = some { cls := .type "list", data := .seq its n }) (hb1 : s.heap.get? b = some { cls := .type "list", data := .seq its2 n2 }) (hs : its.size ≠ its2.size) (h : Q (.bool false) s) : wpAny (model prog w) A (richCompare .Eq (.ref l) (.ref b)) Q E s := by
  refine wpAny_richCompare_same_room (op := .Eq) ⟨_, hl1, rfl⟩ ⟨_, hb1, rfl⟩ F.slot_list_eq (call_here F.slot_list_eq ⟨_, hl1, rfl⟩ F.entry_list_eq (F.args_list_eq_2 _ _) ?_) hu
  exact list_neLen (R := wants (fun v s' => v ≠ .notImplemented ∧ Q v s') E) l b its its2 hl1 hb1 hs ⟨(fun x => nomatch x), h⟩
theorem rc_tupB {l b : Addr} {items items2 : Array Value} {Q : Value → Shared → Prop} (hsz : items.size = items2.size) (hu : A.units < cLine) (I : Nat → Shared → Prop) (J : Shared → Prop)
    (hl : s.heap.IsTuple l items) (hb : s.heap.IsTuple b items2)
    (turn : ∀ i (h1 : i < items.size) (h2 : i < items2.size) s, I i s → wpAny (model prog w) A.in1 (eqBool items[i] items2[i]) (fun r s' => if r = true then I (i + 1) s' else J s') E s)
    (fin : ∀ s, I items.size s → Q (.bool true) s) (finF : ∀ s, J s → Q (.bool false) s) (h : I 0 s) : wpAny (model prog w) A (richCompare .Eq (.ref l) (.ref b)) Q E s := by
  obtain ⟨⟨cls, dd, data, sl⟩, ho, hc, n, hd⟩ := id hl
  obtain ⟨⟨cls2, dd2, data2, sl2⟩, ho2, hc2, n2, hd2⟩ := id hb
  simp only at hc hd hc2 hd2
  subst hc hd hc2 hd2
  refine wpAny_richCompare_same_room (op := .Eq) ⟨_, ho, rfl⟩ ⟨_, ho2, rfl⟩ F.slot_tuple_eq (call_here F.slot_tuple_eq ⟨_, ho, rfl⟩ F.entry_tuple_eq (F.args_tuple_eq_2 _ _) ?_) hu
  exact tuple_eqB (R := wants (fun v s' => v ≠ .notImplemented ∧ Q v s') E) l b items items2 n n2 dd dd2 sl sl2 hsz I J turn (fun s' q => ⟨(fun x => nomatch x), fin s' q⟩) (fun s' q => ⟨(fun x => nomatch x), finF s' q⟩) ho ho2 h
end
end GQB
namespace Mi
open PySem L2 Evl
def eqL {α : Type} (g : α → α → Bool) : List α → List α → Bool
  | [], [] => true
  | x :: xs, y :: ys => g x y && eqL g xs ys
  | _, _ => false
theorem eqL_iff {α : Type} {g : α → α → Bool} : ∀ {xs ys : List α}, eqL g xs ys = true ↔ xs.length = ys.length ∧ ∀ (i : Nat) (x y : α), xs[i]? = some x → ys[i]? = some y → g x y = true
  | [], [] => by simp [eqL]
  | [], y :: ys => by simp [eqL]
  | x :: xs, [] => by simp [eqL]
  | x :: xs, y :: ys => by
    unfold eqL
    rw [Bool.and_eq_true, eqL_iff]
    constructor
    · rintro ⟨h1, h2, h3⟩
      refine ⟨by simp [h2], fun i a b g1 g2 => ?_⟩
      cases i with
      | zero =>
        simp at g1 g2
        rw [← g1, ← g2]
        exact h1
      | succ i => exact h3 i a b (by simpa using g1) (by simpa using g2)
    · rintro ⟨h1, h2⟩
      exact ⟨h2 0 x y rfl rfl, by simpa using h1, fun i a b g1 g2 => h2 (i + 1) a b (by simpa using g1) (by simpa using g2)⟩
def eqP2 {α β : Type} (f : α → α → Bool) (g : β → β → Bool) (p q : α × β) : Bool := f p.1 q.1 && g p.2 q.2
section
variable {X : Cx} {B : Bs} {env : Env} {os : Os} {α β : Type} {r : Rp α} {t : Rp β} {n m : Nat}
/-- the state behind a comparison -/
def EqAfter (X : Cx) (B : Bs) (env : Env) (os : Os) (pins : List (Addr × Obj)) (σ σ0 : L2.St) (F : Hp) (s' : Shared) : Prop := ∃ F' H', Inv X pins σ H' s' ∧ Sit B F' H' σ0 env os ∧ Ex F F'
def EqS (X : Cx) (n : Nat) (B : Bs) (env : Env) (os : Os) (r : Rp α) (g : α → α → Bool) : Prop :=
  ∀ (A : Around) (pins : List (Addr × Obj)) (s : Shared) (σ σ0 : L2.St) (F H : Hp) (u v : Value) (vx vy : V) (x y : α), Sub X n A → Inv X pins σ H s → Sit B F H σ0 env os → RelV vx u → RelV vy v → r.ok F vx x → r.ok F vy y →
    wpAny (model X.prog X.w) A (eqBool u v) (fun c s' => c = g x y ∧ EqAfter X B env os pins σ σ0 F s') X.xe s
def RcS (X : Cx) (n : Nat) (B : Bs) (env : Env) (os : Os) (r : Rp α) (g : α → α → Bool) : Prop :=
  ∀ (A : Around) (pins : List (Addr × Obj)) (s : Shared) (σ σ0 : L2.St) (F H : Hp) (u v : Value) (vx vy : V) (x y : α), Sub X n A → Inv X pins σ H s → Sit B F H σ0 env os → RelV vx u → RelV vy v → r.ok F vx x → r.ok F vy y →
    wpAny (model X.prog X.w) A (richCompare .Eq u v) (fun c s' => c = .bool (g x y) ∧ EqAfter X B env os pins σ σ0 F s') X.xe s
/-- one thing is equal to itself -/
def SelfG (X : Cx) (r : Rp α) (g : α → α → Bool) : Prop := ∀ (pins : List (Addr × Obj)) (s : Shared) (σ : L2.St) (F H : Hp) v x y, Inv X pins σ H s → Ex F H → r.ok F v x → r.ok F v y → g x y = true
def RefR (r : Rp α) : Prop := ∀ F v x, r.ok F v x → ∃ a, v = .ref a
theorem EqS.mono {g : α → α → Bool} (h : EqS X n B env os r g) (hn : n ≤ m) : EqS X m B env os r g := fun A pins s σ σ0 F H u v vx vy x y sb => h A pins s σ σ0 F H u v vx vy x y (sb.mono hn)
theorem RcS.eqS {g : α → α → Bool} (h : RcS X n B env os r g) (hs : SelfG X r g) (hr : RefR r) : EqS X n B env os r g := by
  intro A pins s σ σ0 F H u v vx vy x y sb I S rx ry ox oy
  obtain ⟨a, rfl⟩ := hr _ _ _ ox
  obtain ⟨b, rfl⟩ := hr _ _ _ oy
  cases rx
  cases ry
  by_cases hab : a = b
  · subst hab
    exact SeqAt.EqAt.same (A := A) (s := s) (.ref a) X.prog X.w X.xe _ ⟨(hs _ _ _ _ _ _ _ _ I S.fh ox oy).symm, F, H, I, S, Ex.refl F⟩
  · refine GQ.eqBool_refG hab (wpAny_mono (h A pins s σ σ0 F H _ _ (.ref a) (.ref b) x y sb I S rfl rfl ox oy) (fun c s' q => ?_) fun _ _ x => x)
    obtain ⟨hc, q⟩ := q
    exact ⟨_, hc, rfl, q⟩
theorem self_int : SelfG X rInt (fun x y => decide (x = y)) := fun pins s σ F H v x y _ _ h1 h2 => by
  have h1 : v = .int x := h1
  have h2 : v = .int y := h2
  rw [h1] at h2
  cases h2
  simp
theorem eqs_int : EqS X 0 B env os rInt (fun x y => decide (x = y)) := by
  intro A pins s σ σ0 F H u v vx vy x y sb I S rx ry ox oy
  have ox : vx = .int x := ox
  have oy : vy = .int y := oy
  subst ox oy
  have q := eqAt_V (A := A) (s := s) rx ry rfl rfl
  have e : eqV (V.int x) (V.int y) = decide (x = y) := by
    rw [Bool.eq_iff_iff]
    simp [eqV]
  rw [e] at q
  exact q X.prog X.w X.xe _ ⟨rfl, F, H, I, S, Ex.refl F⟩
section
variable {k : Nat} {f C : Addr} {fd : FuncData} {ps : List Str} {fl : α → List (Str × Slot)} {wf : α × α × Unit → W Bool} {g : α → α → Bool}
theorem rcs_obj (G : FnOk X.prog X.w X.K X.mg X.base CX0 k f fd ps (spW (fun q : α × α × Unit => [sv (rObj C fl) q.1, sv (rObj C fl) q.2.1]) (fun _ => []) wf rBool)) (hb : Binds X.K fd ps []) (hs : PySem.W.findIn X.K (.ref C) "__eq__" = some (some (.ref f))) (hf : PySem.W.isFn X.K (.ref f) = true)
    (hw : ∀ x y, wf (x, y, ()) = ret (g x y)) : RcS X k B env os (rObj C fl) g := by
  intro A pins s σ σ0 F H u v vx vy x y sb I S rx ry ⟨a, dx, fs, ex, ha, hfa⟩ ⟨b, dy, gs, ey, hb', hfb⟩
  subst ex ey
  cases rx
  cases ry
  obtain ⟨mA, J, _⟩ := ins_get I.hok (S.fh _ _ ha)
  obtain ⟨mB, J', _⟩ := ins_get I.hok (S.fh _ _ hb')
  obtain ⟨od, J, _⟩ := J.look
  obtain ⟨od', J', _⟩ := J'.look
  obtain ⟨m, hF⟩ := I.fr
  refine PySem.W.cmp_K (op := .Eq) (tb := .ref C) sb.room.units0 hF I.ok.mod.kin J J'.type (by simp [PySem.W.notFirst]) hs hf ?_
  have e0 : Env0 X.prog X.w X.K X.mg X.base A X.stack s H := by
    have e := I.env0
    exact ⟨by rw [sb.fr]; exact e.frames, e.mod, e.bs, e.bsz, e.funs, e.frf, e.hok, e.bare⟩
  have r2 : Vals [V.ref a, V.ref b] [Value.ref a, Value.ref b] := .cons rfl (.cons rfl .nil)
  refine wpAny_mono (run_at G sb.room hb I e0 r2 (Q := fun v H' => v = .bl (g x y) ∧ ∃ F', Sit B F' H' σ0 env os ∧ Ex F F') ⟨(x, y, ()), F, (· = g x y), S.fh, .cons ⟨_, rfl, a, dx, fs, rfl, ha, hfa⟩ (.cons ⟨_, rfl, b, dy, gs, rfl, hb', hfb⟩ .nil), fun z hz => (by cases hz), List.nodup_nil, by
    rw [hw]
    rfl, fun z hz v' F' H' fn ow okz => ⟨by rw [← hz]; exact okz, F', S.back OsLe.none fn ow, fn.bf⟩⟩) (fun c s' z => ?_) fun _ _ z => z
  obtain ⟨vv, H', I', rv, e, F', S', ef⟩ := z
  subst e
  cases rv
  exact ⟨rfl, F', H', I', S', ef⟩
/-- what stands for one thing alone -/
theorem self_fld {β : Type} {f : Str} {s : Rp β} {get : α → β} (hf : ∀ x, (fl x).lookup f = some (sv s (get x))) (inj : ∀ F v x y, s.ok F v x → s.ok F v y → x = y) (h : ∀ x y, get x = get y → g x y = true) : SelfG X (rObj C fl) g := fun pins s' σ F H v x y _ _ ⟨a, dx, vs, e1, h1, f1⟩ ⟨b, dy, ws, e2, h2, f2⟩ => by
  subst e1
  cases e2
  rw [h1] at h2
  cases h2
  obtain ⟨u, q1, u1, t1, o1⟩ := f1.get (hf x)
  obtain ⟨u', q2, u2, t2, o2⟩ := f2.get (hf y)
  rw [q1] at q2
  cases q2
  cases t1
  cases t2
  exact h x y (inj F _ _ _ o1 o2)
theorem inj_int (F : Hp) (v : V) (x y : Int) (h1 : rInt.ok F v x) (h2 : rInt.ok F v y) : x = y := by
  have h1 : v = .int x := h1
  have h2 : v = .int y := h2
  rw [h1] at h2
  cases h2
  rfl
theorem inj_lst {β : Type} {s : Rp β} (inj : ∀ F v x y, s.ok F v x → s.ok F v y → x = y) (F : Hp) (v : V) (xs ys : List β) (h1 : (rLst s).ok F v xs) (h2 : (rLst s).ok F v ys) : xs = ys := by
  obtain ⟨a, vs, e1, g1, _, o1⟩ := h1
  obtain ⟨b, ws, e2, g2, _, o2⟩ := h2
  subst e1
  cases e2
  rw [g1] at g2
  cases g2
  rename_i z1 z2
  clear g1 z1 z2
  induction o1 generalizing ys with
  | nil =>
    cases o2
    rfl
  | cons r t ih =>
    cases o2 with
    | cons r' t' => rw [inj F _ _ _ r r', ih _ t']
theorem ref_obj : RefR (rObj C fl) := fun F v x ⟨a, dx, vs, h, _⟩ => ⟨a, h⟩
end
theorem ref_t2 {K : PySem.W.Frag} : RefR (rT2 K r t) := fun F v x ⟨a, v1, v2, h, _⟩ => ⟨a, h⟩
theorem relV_inj {v v' : V} {u : Value} (h : RelV v u) (h' : RelV v' u) : v = v' := by
  cases v <;> cases v' <;> simp [RelV] at h h' <;> first
    | (obtain ⟨t, h⟩ := h; obtain ⟨t', h'⟩ := h'; subst h; cases h' <;> rfl)
    | (obtain ⟨t, h⟩ := h; subst h; cases h')
    | (obtain ⟨t', h'⟩ := h'; subst h'; cases h)
    | (subst h; cases h'; rfl)
    | (subst h; cases h')
    | (subst h; simp at h')
    | rfl
theorem vals_inj {vs ws : List V} {us : List Value} (h : Vals vs us) (h' : Vals ws us) : vs = ws := by
  induction h generalizing ws with
  | nil =>
    cases h'
    rfl
  | cons r t ih =>
    cases h' with
    | cons r' t' => rw [relV_inj r r', ih t']
theorem self_t2 {f : α → α → Bool} {g : β → β → Bool} (hf : SelfG X r f) (hg : SelfG X t g) : SelfG X (rT2 X.K r t) (eqP2 f g) := fun pins s σ F H v x y I fh ⟨a, x1, x2, ex, hx, o1, o2⟩ ⟨b, y1, y2, ey, hy, p1, p2⟩ => by
  subst ex
  cases ey
  obtain ⟨its, rv, ⟨o, e, ec, n, ed⟩, z⟩ := I.tuple (ex_t fh hx)
  obtain ⟨its2, rv2, ⟨o2, e2, ec2, n2, ed2⟩, z2⟩ := I.tuple (ex_t fh hy)
  rw [e] at e2
  cases e2
  rw [ed] at ed2
  have ed2' : its.toArray = its2.toArray := by
    injection ed2
  have ed3 : its = its2 := by
    have := congrArg Array.toList ed2'
    simpa using this
  subst ed3
  have hv := vals_inj rv rv2
  cases hv
  unfold eqP2
  rw [hf pins s σ F H x1 x.1 y.1 I fh o1 p1, hg pins s σ F H x2 x.2 y.2 I fh o2 p2]
  rfl
theorem rcs_t2 {f : α → α → Bool} {g : β → β → Bool} (hf : EqS X n B env os r f) (hg : EqS X n B env os t g) : RcS X (n + 1) B env os (rT2 X.K r t) (eqP2 f g) := by
  intro A pins s σ σ0 F H u v vx vy x y sb I S rx ry ⟨a, x1, x2, ex, hx, o1, o2⟩ ⟨b, y1, y2, ey, hy, p1, p2⟩
  subst ex ey
  cases rx
  cases ry
  obtain ⟨its, rv, e, z⟩ := I.tuple (ex_t S.fh hx)
  obtain ⟨its2, rv2, e2, z2⟩ := I.tuple (ex_t S.fh hy)
  obtain ⟨i1, i2, rfl, ri1, ri2⟩ : ∃ i1 i2, its = [i1, i2] ∧ RelV x1 i1 ∧ RelV x2 i2 := by
    cases rv with
    | cons h1 t1 => cases t1 with
      | cons h2 t2 => cases t2; exact ⟨_, _, rfl, h1, h2⟩
  obtain ⟨j1, j2, rfl, rj1, rj2⟩ : ∃ i1 i2, its2 = [i1, i2] ∧ RelV y1 i1 ∧ RelV y2 i2 := by
    cases rv2 with
    | cons h1 t1 => cases t1 with
      | cons h2 t2 => cases t2; exact ⟨_, _, rfl, h1, h2⟩
  refine GQB.rc_tupB (by rfl) sb.room.units0 (fun i s' => EqAfter X B env os pins σ σ0 F s' ∧ i ≤ 2 ∧ (1 ≤ i → f x.1 y.1 = true) ∧ (2 ≤ i → g x.2 y.2 = true)) (fun s' => EqAfter X B env os pins σ σ0 F s' ∧ eqP2 f g x y = false) e e2 (fun i h1 h2 s' q => ?_) (fun s' q => ?_) (fun s' q => ?_) ⟨⟨F, H, I, S, Ex.refl F⟩, by decide, fun h => by omega, fun h => by omega⟩
  · obtain ⟨⟨F1, H1, I1, S1, e1⟩, hi, q1, q2⟩ := q
    have h1' : i < 2 := by simpa using h1
    have hi2 : i = 0 ∨ i = 1 := by omega
    rcases hi2 with rfl | rfl
    · refine wpAny_mono (hf A.in1 pins s' σ σ0 F1 H1 i1 j1 x1 y1 x.1 y.1 sb.in1 I1 S1 ri1 rj1 (r.mono e1 o1) (r.mono e1 p1)) (fun c s2 q => ?_) fun _ _ x => x
      obtain ⟨hc, F2, H2, I2, S2, e2'⟩ := q
      cases c with
      | true => exact ⟨⟨F2, H2, I2, S2, e1.trans e2'⟩, by decide, fun _ => hc.symm, fun h => by omega⟩
      | false =>
        refine ⟨⟨F2, H2, I2, S2, e1.trans e2'⟩, ?_⟩
        unfold eqP2
        rw [← hc]
        rfl
    · refine wpAny_mono (hg A.in1 pins s' σ σ0 F1 H1 i2 j2 x2 y2 x.2 y.2 sb.in1 I1 S1 ri2 rj2 (t.mono e1 o2) (t.mono e1 p2)) (fun c s2 q => ?_) fun _ _ x => x
      obtain ⟨hc, F2, H2, I2, S2, e2'⟩ := q
      cases c with
      | true => exact ⟨⟨F2, H2, I2, S2, e1.trans e2'⟩, by decide, fun _ => q1 (by decide), fun _ => hc.symm⟩
      | false =>
        refine ⟨⟨F2, H2, I2, S2, e1.trans e2'⟩, ?_⟩
        unfold eqP2
        rw [← hc, Bool.and_false]
  · obtain ⟨q0, _, q1, q2⟩ := q
    refine ⟨?_, q0⟩
    have a1 := q1 (by simp)
    have a2 := q2 (by simp)
    unfold eqP2
    rw [a1, a2]
    rfl
  · exact ⟨by rw [q.2], q.1⟩
theorem rcs_lst {g : α → α → Bool} (hg : EqS X n B env os r g) : RcS X (n + 1) B env os (rLst r) (eqL g) := by
  intro A pins s σ σ0 F H u v vx vy xs ys sb I S rx ry ⟨a, vs, ex, hx, zx, ox⟩ ⟨b, us, ey, hy, zy, oy⟩
  subst ex ey
  cases rx
  cases ry
  obtain ⟨z, its, k, rv, e⟩ := I.hok a _ (S.fh _ _ hx)
  obtain ⟨z2, its2, k2, rv2, e2⟩ := I.hok b _ (S.fh _ _ hy)
  have l1 : its.length = xs.length := by rw [← rv.length]; exact ox.length
  have l2 : its2.length = ys.length := by rw [← rv2.length]; exact oy.length
  by_cases hl : xs.length = ys.length
  · have rd : ∀ s', EqAfter X B env os pins σ σ0 F s' → ∃ its its2, GQB.Read2 a b xs.length s' its its2 := fun s' ⟨F1, H1, I1, S1, e1⟩ => by
      obtain ⟨z, its, k, rv, e⟩ := I1.hok a _ (S1.fh _ _ (e1 _ _ hx))
      obtain ⟨z2, its2, k2, rv2, e2⟩ := I1.hok b _ (S1.fh _ _ (e1 _ _ hy))
      exact ⟨its.toArray, its2.toArray, k, k2, e, e2, by rw [List.size_toArray, ← rv.length, ox.length], by rw [List.size_toArray, ← rv2.length, oy.length, hl]⟩
    refine GQB.rc_listB (N := xs.length) sb.room.units0 (fun i s' => EqAfter X B env os pins σ σ0 F s' ∧ ∀ j, j < i → ∀ x y, xs[j]? = some x → ys[j]? = some y → g x y = true) (fun s' => EqAfter X B env os pins σ σ0 F s' ∧ eqL g xs ys = false) (fun i s' q => ?_) (fun s' q => rd s' q.1) (fun s' q => ?_) (fun s' q => ⟨by rw [q.2], q.1⟩) ⟨⟨F, H, I, S, Ex.refl F⟩, fun j hj => by omega⟩
    · obtain ⟨⟨F1, H1, I1, S1, e1⟩, hall⟩ := q
      obtain ⟨z, its, k, rv, e⟩ := I1.hok a _ (S1.fh _ _ (e1 _ _ hx))
      obtain ⟨z2, its2, k2, rv2, e2⟩ := I1.hok b _ (S1.fh _ _ (e1 _ _ hy))
      have s1 : its.toArray.size = xs.length := by rw [List.size_toArray, ← rv.length, ox.length]
      have s2 : its2.toArray.size = xs.length := by rw [List.size_toArray, ← rv2.length, oy.length, hl]
      refine ⟨its.toArray, its2.toArray, ⟨k, k2, e, e2, s1, s2⟩, fun h1 h2 => ?_⟩
      have hi : i < xs.length := by omega
      obtain ⟨x, gx⟩ : ∃ x, xs[i]? = some x := ⟨_, List.getElem?_eq_getElem hi⟩
      obtain ⟨y, gy⟩ : ∃ y, ys[i]? = some y := ⟨_, List.getElem?_eq_getElem (by omega)⟩
      obtain ⟨vx, g1, o1⟩ := Paired.get ox gx
      obtain ⟨vy, g2, o2⟩ := Paired.get oy gy
      obtain ⟨u1, t1, r1⟩ := Paired.get' rv g1
      obtain ⟨u2, t2, r2⟩ := Paired.get' rv2 g2
      have q1 : its.toArray[i] = u1 := by
        have : its[i]? = some its.toArray[i] := by
          rw [List.getElem?_eq_getElem (by simpa using h1)]
          simp
        rw [t1] at this
        exact (Option.some.inj this).symm
      have q2 : its2.toArray[i] = u2 := by
        have : its2[i]? = some its2.toArray[i] := by
          rw [List.getElem?_eq_getElem (by simpa using h2)]
          simp
        rw [t2] at this
        exact (Option.some.inj this).symm
      rw [q1, q2]
      refine wpAny_mono (hg A.in1 pins s' σ σ0 F1 H1 u1 u2 vx vy x y sb.in1 I1 S1 r1 r2 (r.mono e1 o1) (r.mono e1 o2)) (fun c s2 q => ?_) fun _ _ x => x
      obtain ⟨hc, F2, H2, I2, S2, e12⟩ := q
      cases c with
      | true =>
        refine ⟨⟨F2, H2, I2, S2, e1.trans e12⟩, fun j hj x' y' hx' hy' => ?_⟩
        by_cases hji : j < i
        · exact hall j hji x' y' hx' hy'
        · have : j = i := by omega
          subst this
          rw [gx] at hx'
          rw [gy] at hy'
          cases hx'
          cases hy'
          exact hc.symm
      | false =>
        refine ⟨⟨F2, H2, I2, S2, e1.trans e12⟩, ?_⟩
        have : ¬ eqL g xs ys = true := fun h => by
          have := (eqL_iff.mp h).2 i x y gx gy
          rw [← hc] at this
          cases this
        simpa using this
    · refine ⟨?_, q.1⟩
      have : eqL g xs ys = true := eqL_iff.mpr ⟨hl, fun i x y hx' hy' => q.2 i (List.getElem?_eq_some_iff.mp hx').1 x y hx' hy'⟩
      rw [this]
  · refine GQB.rc_listNe sb.room.units0 e e2 (by simp [l1, l2, hl]) ⟨?_, F, H, I, S, Ex.refl F⟩
    have : ¬ eqL g xs ys = true := fun h => hl (eqL_iff.mp h).1
    simp [this]
end
end Mi
namespace Mi
open PySem L2 Evl
open PyProof.Rows (Call_)
section
variable {X : Cx} {B : Bs} {env : Env} {os : Os} {pos p p2 pos2 apos : Pos} {α β γ κ : Type} {r : Rp α} {t : Rp β} {a b e : Expr} {n : Nat}
/-- xs == ys -/
theorem e_eqLO {g : α → α → Bool} {w1 : W α} {w2 : α → W α} (h : RcS X n B env os r g) (hr : Room n X.A) (ha : EE X B env os a r w1) (hb : ∀ x, EE X B env os b r (w2 x)) (hm : behindInMarks .Eq b = false := by rfl) :
    EE X B env os (.Compare a [.Eq] [b] pos) rBool (bnd w1 fun x => bnd (w2 x) fun y => ret (g x y)) := by
  have ho : OpR X (compareOp .Eq) (fun vx vy H Q => ∃ σ0 F x y, Sit B F H σ0 env os ∧ r.ok F vx x ∧ r.ok F vy y ∧ ∀ F' H', Sit B F' H' σ0 env os → Ex F F' → Q (.bl (g x y)) H') := by
    intro pins s σ H vx vy u v Q I rx ry ⟨σ0, F, x, y, S, ox, oy, q⟩
    show wpAny (model X.prog X.w) X.A (richCompare .Eq u v) (EP X pins σ Q) X.xe s
    refine wpAny_mono (h X.A pins s σ σ0 F H u v vx vy x y ⟨hr, rfl⟩ I S rx ry ox oy) (fun c s' z => ?_) fun _ _ x => x
    obtain ⟨hc, F', H', I', S', e'⟩ := z
    subst hc
    exact ⟨.bl _, H', I', rfl, q F' H' S' e'⟩
  exact PE.imp (pe_cmpR ho ha (PE.ex hb) hm) fun σ H Q ⟨F, P, S, hw, k⟩ => ⟨F, _, S, hw, fun x hx v F1 H1 S1 e1 ok1 => ⟨x, F1, _, S1, hx, fun y hy u F2 H2 S2 e2 ok2 => ⟨σ, F2, x, y, S2, r.mono e2 ok1, ok2, fun F' H' S' e' => k _ hy (.bl _) F' H' S' ((e1.trans e2).trans e') rfl⟩⟩⟩
/-- bool(d) -/
theorem call_boolD : CallR X (.type "bool") (fun xs H Q => ∃ a kvs, xs = [.ref a] ∧ Rd H a (.dK kvs) ∧ Q (.bl (!kvs.isEmpty)) H) := by
  intro pins s σ H xs us Q I r ⟨a, kvs, ex, hd, q⟩
  subst ex
  obtain rfl := Vals.ref1 r
  exact boolX (d_truth I hd fun s' I' => ⟨.bl _, H, I', rfl, q⟩)
theorem e_boolD [DecidableEq κ] {rk : Rp κ} {kf : κ → Key} {w : W (List (κ × α))} (ha : EE X B env os a (rDct rk kf r) w) (hm : X.mg "bool" = none) (hg : Gl X "bool" := by rfl) (he : starEach [a] X.env = (false, eval a X.env) :: starEach [] X.env := by rfl) (hpl : (backTo pos (starEach [] X.env)).any (·.1) = false := by rfl) :
    EE X B env os (.Call (.Name "bool" p) [a] [] pos) rBool (bnd w fun x => ret (!x.isEmpty)) :=
  PE.imp (pe_callTy call_boolD hg hm (by decide +kernel) (pa_cons ha pa_nil he) (by decide) (by decide) he hpl) fun σ H Q ⟨F, P, S, hw, k⟩ => ⟨F, _, S, hw, fun x hx v F1 H1 S1 e1 ⟨p1, ob, kvs, q1, h1, z1, ok1⟩ => by
    have el : kvs.isEmpty = x.isEmpty := by
      have := ok1.length
      cases kvs <;> cases x <;> first | rfl | (simp at this)
    refine ⟨p1, kvs, by rw [q1], .inr ⟨_, S1.fh _ _ h1⟩, ?_⟩
    rw [el]
    exact k _ hx (.bl (!x.isEmpty)) F1 H1 S1 e1 rfl⟩
/-- any([xs, ..]) -/
theorem call_anyLL (hc : X.calm = true) : CallR X (.builtin "any") (fun xs H Q => ∃ (a : Addr) (vs : List V) (ds : List PyData), xs = [.ref a] ∧ SqL X.K H a vs ∧ DpAll X.K H vs ds ∧ (∀ d ∈ ds, ∃ ys : List PyData, d = .list ys ∧ PyData.plainAll ys = true ∧ ys.length ≤ sizeLine) ∧ Q (.bl (ds.any PyData.truthy)) H) := by
  intro pins s σ H xs us Q I r ⟨a, vs, ds, ex, hs, hd, hl, q⟩
  subst ex
  obtain rfl := Vals.ref1 r
  obtain ⟨its, rv, pl, hz⟩ := I.list hs
  obtain ⟨as, hr⟩ := Dp.readsAll I ds vs its hd rv
  refine PySem.W.any_list_data (vs := its.toArray) (xs := ds) (as := as) (I.ok.hd hc) pl.isList (by simpa using hr) ?_ ?_ fun h' tk hk => ⟨.bl _, H, I.kept hk, rfl, q⟩
  · clear hd hr q
    induction ds with
    | nil => rfl
    | cons d ds ih =>
      obtain ⟨ys, e, h2, _⟩ := hl d (List.mem_cons_self ..)
      subst e
      rw [PyData.plainAll, ih fun x hx => hl x (List.mem_cons_of_mem _ hx)]
      simp [PyData.plain, h2]
  · intro x hx
    obtain ⟨ys, e, _, h3⟩ := hl x hx
    subst e
    simp only [PyData.fits63]
    have : sizeLine < 2 ^ 62 := by rw [sizeLine_eq]; decide
    omega
theorem plain_ints : ∀ zs : List Int, PyData.plainAll (zs.map PyData.int) = true
  | [] => rfl
  | z :: zs => by
    rw [List.map_cons, PyData.plainAll, plain_ints zs]
    rfl
theorem e_anyLI {w : W (List (List Int))} (hc : X.calm = true) (ha : EE X B env os a (rLst (rLst rInt)) w) (hm : X.mg "any" = none) (hg : Gl X "any" := by rfl) (he : starEach [a] X.env = (false, eval a X.env) :: starEach [] X.env := by rfl) (hpl : (backTo pos (starEach [] X.env)).any (·.1) = false := by rfl) :
    EE X B env os (.Call (.Name "any" p) [a] [] pos) rBool (bnd w fun x => ret (x.any fun y => !y.isEmpty)) :=
  PE.imp (pe_callB (call_anyLL hc) hg hm (by decide +kernel) (pa_cons ha pa_nil he) (by decide) (by decide) he hpl) fun σ H Q ⟨F, P, S, hw, k⟩ => ⟨F, _, S, hw, fun x hx v F1 H1 S1 e1 ⟨p1, vs, q1, h1, z1, ok1⟩ => by
    obtain ⟨d1, _, _⟩ := dd_all (dd_lst (K := X.K) dd_int) ok1
    have dl : ∀ y ∈ x, y.length ≤ sizeLine := by
      intro y hy
      obtain ⟨i, hi⟩ := List.getElem?_of_mem hy
      obtain ⟨v, _, o⟩ := Paired.get ok1 hi
      obtain ⟨a, vs, _, _, z, ok⟩ := o
      rw [← ok.length]
      exact z
    refine ⟨p1, vs, x.map (fun ys => .list (ys.map .int)), by rw [q1], SqL.of (S1.fh _ _ h1), ?_, ?_, ?_⟩
    · clear k hx ok1 dl
      refine (show ∀ {vs ds}, DpAll X.K F1 vs ds → DpAll X.K H1 vs ds from ?_) d1
      intro vs ds h
      exact DpAll.rec (K := X.K) (H := F1) (motive_1 := fun v d _ => Dp X.K H1 v d) (motive_2 := fun vs ds _ => DpAll X.K H1 vs ds) .non .bl .int .str (fun h1 _ ih => .lst (ex_l S1.fh h1) ih) (fun h1 _ ih => .tup (ex_t S1.fh h1) ih) .nil (fun _ _ i1 i2 => .cons i1 i2) h
    · intro d hd
      obtain ⟨y, hy, rfl⟩ := List.mem_map.mp hd
      exact ⟨_, rfl, plain_ints y, by rw [List.length_map]; exact dl y hy⟩
    · have e : (x.map (fun ys : List Int => PyData.list (ys.map .int))).any PyData.truthy = x.any fun y => !y.isEmpty := by
        rw [List.any_map]
        congr 1
        funext y
        cases y <;> rfl
      rw [e]
      exact k _ hx (.bl _) F1 H1 S1 e1 rfl⟩
/-- dict(zip(xs, ys)) -/
theorem zip_has {P : Program} {w : World} : ∀ {kvs : List (Key × V)} {vs us : List V} {its its2 : List Value}, kvs.length = min vs.length us.length → (∀ (i : Nat) (v u : V), vs[i]? = some v → us[i]? = some u → ∃ k, kvs[i]? = some (k, u) ∧ v = kV k) → Vals vs its → Vals us its2 →
    ∃ kvV : List (Key × Value), KV kvs kvV ∧ PySem.PairsHave (mixKind P w) (min its.length its2.length) (fun i k v => its.toArray[i]? = some k ∧ its2.toArray[i]? = some v) kvV := by
  intro kvs vs us its its2 hl h r1 r2
  refine ⟨(kvs.map (·.1)).zip its2, ?_, ?_, ?_⟩
  · have key : ∀ (kvs : List (Key × V)) (us : List V) (its2 : List Value), Vals us its2 → kvs.length ≤ us.length → (∀ (i : Nat) (p : Key × V), kvs[i]? = some p → us[i]? = some p.2) → KV kvs ((kvs.map (·.1)).zip its2) := by
      intro kvs
      induction kvs with
      | nil => intro us its2 _ _ _; exact .nil
      | cons p kvs ih =>
        intro us its2 r hle hh
        cases r with
        | nil => simp at hle
        | cons h1 t1 =>
          rename_i u it us its2
          have e : u = p.2 := by
            have := hh 0 p rfl
            simpa using this
          subst e
          refine .cons ⟨rfl, h1⟩ (ih us its2 t1 (by simpa using hle) fun i q hq => ?_)
          have := hh (i + 1) q (by simpa using hq)
          simpa using this
    refine key kvs us its2 r2 (by omega) fun i p hp => ?_
    have hi := (List.getElem?_eq_some_iff.mp hp).1
    obtain ⟨v, hv⟩ : ∃ v, vs[i]? = some v := ⟨_, List.getElem?_eq_getElem (by omega)⟩
    obtain ⟨u, hu⟩ : ∃ u, us[i]? = some u := ⟨_, List.getElem?_eq_getElem (by omega)⟩
    obtain ⟨k, hk, _⟩ := h i v u hv hu
    rw [hk] at hp
    cases hp
    exact hu
  · rw [List.length_zip, List.length_map, hl, ← r1.length, ← r2.length]
    try omega
  · rintro i key v ⟨g1, g2⟩
    have g1 : its[i]? = some key := by simpa using g1
    have g2 : its2[i]? = some v := by simpa using g2
    obtain ⟨x1, q1, t1⟩ := Paired.get r1 g1
    obtain ⟨x2, q2, t2⟩ := Paired.get r2 g2
    obtain ⟨k, hk, e⟩ := h i x1 x2 q1 q2
    refine ⟨k, ?_, ?_⟩
    · rw [List.getElem?_zip_eq_some]
      exact ⟨by rw [List.getElem?_map, hk]; rfl, g2⟩
    · subst e
      exact kV_is (P := P) (w := w) t1
theorem d_zip [DecidableEq κ] {rk : Rp κ} {kf : κ → Key} {w1 : W (List κ)} {w2 : List κ → W (List α)} (KR : KeyR rk kf) (hc : X.calm = true) (ha : EE X B env os a (rLst rk) w1) (hb : ∀ x, EE X B env os b (rLst r) (w2 x)) (hmd : X.mg "dict" = none) (hmz : X.mg "zip" = none)
    (hgd : Gl X "dict" := by rfl) (hgz : Gl X "zip" := by rfl) (hs : starEach [a, b] X.env = (false, eval a X.env) :: starEach [b] X.env := by rfl) (hs2 : starEach [b] X.env = (false, eval b X.env) :: starEach [] X.env := by rfl) (hpl : (backTo pos2 (starEach [b] X.env)).any (·.1) = false := by rfl)
    (hz1 : starEach [.Call (.Name "zip" p2) [a, b] [] pos2] X.env = (false, eval (.Call (.Name "zip" p2) [a, b] [] pos2) X.env) :: starEach [] X.env := by rfl) (hz2 : (backTo pos (starEach [] X.env)).any (·.1) = false := by rfl) :
    ED X B env os (.Call (.Name "dict" p) [.Call (.Name "zip" p2) [a, b] [] pos2] [] pos) rk kf r (bnd w1 fun xs => bnd (w2 xs) fun ys => ret (mergeD [] (xs.zip ys))) := by
  refine ⟨fun pins s σ H Q I ⟨F, P, S, hw, k⟩ => ?_⟩
  refine wpAny_Call_Name_kw (ld_blt I hgd hmd (show bootBuiltins "dict" = some (.type "dict") by decide +kernel) ?_ (by decide) (by decide))
  refine PyProof.Rows.callWith_type1 ?_ hz1 hz2
  rw [hz1]
  refine PySem.Calls.spliced_cons ?_
  refine Call_ (ld_blt I hgz hmz PyProof.Rows.boot_zip (PyProof.Rows.callWith_type1 (thn ((pa_cons ha (pa_cons (PE.ex hb) pa_nil hs2) hs).run pos2 pins s σ H (fun vs H1 => ∃ v u F1 xs ys, vs = [v, u] ∧ Sit B F1 H1 σ env os ∧ Ex F F1 ∧ (rLst rk).ok F1 v xs ∧ (rLst r).ok F1 u ys ∧ P (mergeD [] (xs.zip ys))) I
    ⟨F, _, S, hw, fun xs hx v F1 H1 S1 e1 ok1 => ⟨xs, F1, _, S1, hx, fun ys hy u F2 H2 S2 e2 ok2 => ⟨v, u, F2, xs, ys, rfl, S2, e1.trans e2, (rLst rk).mono e2 ok1, ok2, hy⟩⟩⟩) fun us s1 ⟨vs, H1, I1, r1, v, u, F1, xs, ys, ev, S1, e1, ⟨l1, vs1, q1, h1, z1, ok1⟩, ⟨l2, vs2, q2, h2, z2, ok2⟩, hp⟩ => ?_) hs hpl))
  subst ev q1 q2
  cases r1 with
  | cons rr1 t1 => cases t1 with
    | cons rr2 t2 =>
      cases t2
      cases rr1
      cases rr2
      obtain ⟨y1, its, k1, rv1, g1⟩ := I1.hok l1 _ (S1.fh _ _ h1)
      obtain ⟨y2, its2, k2, rv2, g2⟩ := I1.hok l2 _ (S1.fh _ _ h2)
      have il1 : s1.heap.IsList l1 its.toArray := ⟨_, g1, rfl, _, rfl⟩
      have il2 : s1.heap.IsList l2 its2.toArray := ⟨_, g2, rfl, _, rfl⟩
      refine call_zip_2 il1 il2 fun h' hz hTI hTO hi1 hi2 hsz hk => ?_
      refine PySem.Calls.spliced_nil ?_
      have I2 : Inv X pins σ H1 { s1 with heap := h' } := I1.kept (t' := s1.toks) hk
      obtain ⟨kvs, a1, a2, a3⟩ := zip_paired (r := r) KR ok1 ok2
      obtain ⟨kvV, b1, b2⟩ := zip_has (P := X.prog) (w := X.w) a1 a3 rv1 rv2
      have hlen : kvs.length ≤ sizeLine := by omega
      have hn : min its.toArray.size its2.toArray.size = min its.length its2.length := by simp
      refine PySem.call_dict_pairs (knd := mixKind X.prog X.w) (kvs := kvV) (PySem.PairArg.zip _ _ _ _ _ l1 l2 (PySem.W.ktu_apart s1.heap.objs.size l1 l2 (Heap.lt_size g1) (Heap.lt_size g2)) its.toArray its2.toArray) (I2.ok.hd hc) ⟨hz, hTI, ⟨_, _, hTO⟩, hi1, hi2, il1.at fun o e => hk _ o e, il2.at fun o e => hk _ o e⟩ (by rw [hn]; exact b2) ?_ fun h2' tk hd' hk2 => ?_
      · rw [hn, ← rv1.length, ← rv2.length]
        omega
      · have hbig : s1.heap.objs.size ≤ h'.objs.size := by omega
        have hm : (h'.objs.size == sysModules) = false := beq_eq_false_iff_ne.mpr (Nat.ne_of_gt I2.big)
        have hml : (mergeK [] kvs).length ≤ sizeLine := by
          refine Nat.le_trans (length_mergeK kvs []) ?_
          rw [List.length_nil, Nat.zero_add]
          exact hlen
        have keep : ∀ b o, s1.heap.get? b = some o → h2'.get? b = some o := fun b o e => by
          refine hk2 b o (fun hb => ?_) (hk b o e)
          have hlt := Heap.lt_size e
          have : b = s1.heap.objs.size + 4 ∨ b = s1.heap.objs.size + 3 ∨ b = s1.heap.objs.size ∨ b = s1.heap.objs.size + 1 := by simpa using hb
          rcases this with e' | e' | e' | e' <;> rw [e'] at hlt
          · exact absurd hlt (Nat.not_lt.mpr (Nat.le_add_right _ _))
          · exact absurd hlt (Nat.not_lt.mpr (Nat.le_add_right _ _))
          · exact absurd hlt (Nat.lt_irrefl _)
          · exact absurd hlt (Nat.not_lt.mpr (Nat.le_add_right _ _))
        have nF : H1 h'.objs.size = none := I1.hok.fresh hbig
        exact ⟨.ref h'.objs.size, upd H1 h'.objs.size (.dK (mergeK [] kvs)), I1.laid (t' := tk) keep hbig (show ObjOk X.prog X.w _ _ _ (.dK (mergeK [] kvs)) from ⟨hml, hm, merged [] kvV, KV.merge b1 .nil, hd'⟩), rfl, k _ hp h'.objs.size F1 _ (S1.newOwn nF ⟨_, rfl, hml, merge_ok KR a2 .nil⟩) e1⟩
end
end Mi
namespace Mi
open PySem L2 Evl
section
variable {X : Cx} {B : Bs} {env : Env} {os : Os} {pos p : Pos} {ι ρ α β : Type} {a e : Expr} {es : List Expr} {rest : List Stmt} {post : Post β}
theorem e_callO {k : Nat} {f C : Addr} {fd : FuncData} {ps : List Str} {fl : α → List (Str × Slot)} {args : α × ι → Env} {sl : ι → Env} {wf : α × ι → W ρ} {ro : Rp ρ} {x : Str} {w1 : W α} {w2 : α → W ι}
    (G : FnOk X.prog X.w X.K X.mg X.base CX0 k f fd ps (spW args (fun _ => []) wf ro)) (hr : Room k X.A) (hb : Binds X.K fd ps []) (hs : PySem.W.findIn X.K (.ref C) "__call__" = some (some (.ref f))) (hf : PySem.W.isFn X.K (.ref f) = true) (hfn : PySem.W.fnIn X.K f = true)
    (hx : EE X B env os (.Name x p) (rObj C fl) w1) (ha : ∀ x, AA X B env os (e :: es) sl (w2 x)) (hc : ∀ x i, args (x, i) = sv (rObj C fl) x :: sl i)
    (he : starEach (e :: es) X.env = (false, eval e X.env) :: starEach es X.env := by rfl) (hpl : (backTo pos (starEach es X.env)).any (·.1) = false := by rfl) :
    EE X B env os (.Call (.Name x p) (e :: es) [] pos) ro (bnd w1 fun x => bnd (w2 x) fun i => noX (wf (x, i))) := by
  refine ⟨fun pins s σ H Q I ⟨F, P, S, hw, kk⟩ => ?_⟩
  refine wpAny_Call_Name_kw (thn (hx.run pins s σ H (fun v H1 => ∃ x F1, Sit B F1 H1 σ env os ∧ Ex F F1 ∧ (rObj C fl).ok F1 v x ∧ (bnd (w2 x) fun i => noX (wf (x, i))) P B.E0) I ⟨F, _, S, hw, fun x hx v F1 H1 S1 e1 ok => ⟨x, F1, S1, e1, ok, hx⟩⟩) fun u s1 ⟨v, H1, I1, rx, x, F1, S1, e1, ⟨y, dx, fs, ev, hy, hfl⟩, hx1⟩ => ?_)
  subst ev
  obtain rfl : u = Value.ref y := rx
  refine PySem.W.own_callWithP (C := C) (ox := PySem.W.instObj C dx) (K := X.K) rfl (thn ((ha x).run pos pins s1 σ H1 (fun vs H2 => ∃ i F2, Sit B F2 H2 σ env os ∧ Ex F1 F2 ∧ EnvOk F2 (sl i) (vs.map some) ∧ noX (wf (x, i)) P B.E0) I1 ⟨F1, _, S1, hx1, fun i hi vs F2 H2 S2 e2 ok => ⟨i, F2, S2, e2, ok, hi⟩⟩) fun us s2 ⟨vs, H2, I2, r2, i, F2, S2, e2, ok2, hi⟩ => ?_) he hpl
  obtain ⟨mA, J, _⟩ := ins_get I2.hok (S2.fh _ _ (e2 _ _ hy))
  obtain ⟨od, J, _⟩ := J.look
  refine ⟨⟨od, I2.kIn, J⟩, ?_⟩
  rw [List.nil_append]
  have hsp : spW args (fun _ => []) wf ro (.ref y :: vs) H2 (fun v H' => ∃ z F', P z ∧ Sit B F' H' σ env os ∧ Ex F2 F' ∧ ro.ok F' v z) (fun _ _ _ => False) :=
    ⟨(x, i), F2, P, S2.fh, by rw [hc]; exact .cons ⟨_, rfl, y, dx, fs, rfl, e2 _ _ hy, hfl.mono e2⟩ ok2, fun p hp => (by cases hp), List.nodup_nil, hi, fun z hz v' F' H' fn ow okz => ⟨z, F', hz, S2.back OsLe.none fn ow, fn.bf, okz⟩⟩
  have hl : (Value.ref y :: us).length = ps.length := by rw [List.length_cons, ← r2.length]; exact G.len _ _ _ _ hsp
  have b := hb s2 (.ref y :: us) I2.kIn (by rw [List.append_nil]; exact hl)
  rw [List.append_nil] at b
  have r3 : Vals (V.ref y :: vs) (Value.ref y :: us) := .cons rfl r2
  refine wpAny_call (PySem.W.kco_code (a := ⟨us, []⟩) I2.kIn J rfl hs hf hfn (codeAny_mono (G.run X.A X.stack s2 H2 ⟨.ref y :: us, []⟩ (.ref y :: us) (.ref y :: vs) _ _ hr I2.env0 b r3 hsp) fun res s' hq => ?_))
  cases res with
  | error e => exact False.elim hq
  | ok fl =>
    cases fl with
    | ret u =>
      obtain ⟨vv, H', I', rv, z, F', hz, S', e', okz⟩ := I2.after hq
      exact ⟨vv, H', I', rv, kk z hz vv F' H' S' ((e1.trans e2).trans e') okz⟩
    | next => exact False.elim hq
    | brk => exact False.elim hq
    | cont => exact False.elim hq
end
end Mi
namespace Mi
open PySem L2 Evl
section
variable {X : Cx} {B : Bs} {env : Env} {os : Os} {pos pos' : Pos} {j : Nat} {α β : Type} {r : Rp α} {e : Expr}
/-- what says whether a value is None -/
def IsN (r : Rp α) (f : α → Bool) : Prop := ∀ F v x, r.ok F v x → decide (v = V.non) = f x
theorem isn_int : IsN rInt (fun _ => false) := fun F v x h => by
  have h : v = .int x := h
  subst h
  rfl
theorem isn_non : IsN rNon (fun _ => true) := fun F v x h => by
  have h : v = .non := h
  subst h
  rfl
theorem sem_isN {f : α → Bool} (h : IsN r f) : R2T (fun x y H Q => y = .non ∧ Q (.bl (decide (x = .non))) H) r rNon rBool (fun x _ => ret (f x)) := fun F H v u x y P E Q fh o1 o2 hw k => by
  refine ⟨o2, ?_⟩
  rw [h F v x o1]
  exact k _ hw (.bl _) F H (Grow.refl fh) rfl
theorem e_isN {f : α → Bool} {w : W α} (h : IsN r f) (ha : EE X B env os e r w) : EE X B env os (.Compare e [.Is] [.Constant .none j pos'] pos) rBool (bnd w fun x => bnd (ret ()) fun _ => ret (f x)) := e_cmp op_isN (sem_isN h) (nomark _) ha fun _ => e_non
theorem eqv_selfI (xs : List Int) : PyData.eqv (.list (xs.map .int)) (.list (xs.map .int)) = true := by
  rw [PyData.eqv]
  induction xs with
  | nil => rfl
  | cons x xs ih =>
    rw [List.map_cons, PyData.eqvAll, ih, PyData.eqv]
    simp
end
end Mi
namespace Mi
open PySem L2 Evl
section
variable {X : Cx} {B : Bs} {env : Env} {os : Os} {pos : Pos} {κ α : Type} [DecidableEq κ] {rk : Rp κ} {kf : κ → Key} {r : Rp α} {a : Expr}
theorem t_dinO (i j : Nat) {x : Str} {p1 : Pos} {q : Addr} {xs : List (κ × α)} {w : W κ} (K : KeyR rk kf) (hu : X.A.units + 100 < cLine) (hi : env[i]? = some (sv (rAdr q) ())) (hj : os[j]? = some (q, oDct rk kf r xs)) (ha : EE X B env os a rk w) (hN : X.N[i]? = some x := by rfl)
    (hv : Vis X.env.scope x := by first | exact Or.inl rfl | exact Or.inr (Or.inl rfl) | exact Or.inr (Or.inr rfl)) (hd : (x == ("__debug__" : Str)) = false := by decide) (hcd : (x == ("__classdict__" : Str)) = false := by decide) (hm : behindInMarks .In (.Name x p1) = false := by rfl) :
    ET X B env os (.Compare a [.In] [.Name x p1] pos) (bnd w fun k => ret (dget xs k).isSome) :=
  t_of_pc (pc_din (by omega) ha (pe_var hN hv hd hcd)) (fun σ H Q ⟨F, P, S, hw, kk⟩ => ⟨F, _, S, hw, fun k hk v F1 H1 S1 e1 ok1 => by
    obtain ⟨g1, g2, kvs, g3, g4, g5⟩ := S1.dct hi hj
    have eu := K.of ok1
    subst eu
    refine ⟨.ref q, g1, q, valV kvs (kf k), rfl, .inl ⟨kvs, kf k, .inl g3, rfl, rfl⟩, ?_⟩
    have : (valV kvs (kf k)).isSome = (dget xs k).isSome := by
      rcases dget_ok K g5 k with ⟨g1, g2⟩ | ⟨v, x, g1, g2, g3⟩ <;> rw [g1, g2] <;> rfl
    rw [this]
    exact kk _ hk (.bl _) F1 H1 S1 e1 rfl⟩) hm
end
end Mi
namespace Mi
open PySem L2 Evl
theorem tyX_tup {K : PySem.W.Frag} {H : Hp} {a : Addr} {xs : List V} (h : SqT K H a xs) : TyX K H (.ref a) (.type "tuple") := by
  rcases h with (h | ⟨o, h⟩) | ⟨o, its, n, h1, h2, _⟩
  · exact .base (.tup h)
  · exact .fTuple h
  · exact .kTuple h1 h2
section
variable {K : PySem.W.Frag} {α β γ : Type} {r : Rp α} {s : Rp β} {t : Rp γ}
theorem ty_tup : TyR K (rTup K r) (.type "tuple") := fun F H v x ⟨a, vs, e, h, _⟩ q => by
  rw [e]
  exact tyX_tup (ex_t q h)
theorem ty_t2 : TyR K (rT2 K r s) (.type "tuple") := fun F H v x ⟨a, v1, v2, e, h, _⟩ q => by
  rw [e]
  exact tyX_tup (ex_t q h)
end
section
variable {X : Cx} {B : Bs} {env : Env} {os : Os} {pos p : Pos} {α β γ : Type} {r : Rp α} {s : Rp β} {t : Rp γ} {a b : Expr}
theorem e_lenTn {n : Nat} {c : Int} (hc : c = (n : Int)) (h : ∀ F v x, r.ok F v x → ∃ a vs, v = V.ref a ∧ SqT X.K F a vs ∧ vs.length = n) {w : W α} (ha : EE X B env os a r w) (hm : X.mg "len" = none) (hg : Gl X "len" := by rfl) (he : starEach [a] X.env = (false, eval a X.env) :: starEach [] X.env := by rfl) (hpl : (backTo pos (starEach [] X.env)).any (·.1) = false := by rfl) :
    EE X B env os (.Call (.Name "len" p) [a] [] pos) rInt (bnd w fun _ => ret c) :=
  PE.imp (pe_callB call_len hg hm PySem.boot_len (pa_cons ha pa_nil he) (by decide) (by decide) he hpl) fun σ H Q ⟨F, P, S, hw, kk⟩ => ⟨F, _, S, hw, fun x hx v F1 H1 S1 e1 ok => by
    obtain ⟨a1, vs, e, hs, hl⟩ := h F1 v x ok
    subst e hc
    exact ⟨_, n, rfl, .inr ⟨vs, ex_t S1.fh hs, hl.symm⟩, kk _ hx (.int _) F1 H1 S1 e1 rfl⟩⟩
theorem len_t2 {K : PySem.W.Frag} (F : Hp) (v : V) (x : α × β) (h : (rT2 K r s).ok F v x) : ∃ a vs, v = V.ref a ∧ SqT K F a vs ∧ vs.length = 2 := let ⟨a, v1, v2, e, hs, _⟩ := h; ⟨a, _, e, hs, rfl⟩
end
end Mi
namespace Mi
open PySem L2 Evl
section
variable {X : Cx} {B : Bs} {env : Env} {os : Os} {pos : Pos} {α : Type} {r : Rp α} {a : Expr}
theorem e_isTT {w : W α} {t : Value} {x1 x2 : Str} {T1 T2 : String} {k : Bool} {p1 p2 p3 p4 : Pos} {kk0 : Nat} (ty : TyR X.K r t) (hk : PySem.W.kitAny X.K t [.type T1, .type T2] = some k) (ha : EE X B env os a r w) (hm : X.mg "isinstance" = none) (hx1 : X.mg x1 = none) (hx2 : X.mg x2 = none)
    (hv1 : bootBuiltins x1 = some (.type T1) := by decide +kernel) (hn1 : x1 ≠ "__name__" := by decide) (hd1 : (x1 == ("__debug__" : Str)) = false := by decide) (hv2 : bootBuiltins x2 = some (.type T2) := by decide +kernel) (hn2 : x2 ≠ "__name__" := by decide) (hd2 : (x2 == ("__debug__" : Str)) = false := by decide)
    (hg : Gl X "isinstance" := by rfl) (hg1 : Gl X x1 := by rfl) (hg2 : Gl X x2 := by rfl) (hs : starEach [a, .Tuple [.Name x1 p2, .Name x2 p3] kk0 p4] X.env = (false, eval a X.env) :: starEach [.Tuple [.Name x1 p2, .Name x2 p3] kk0 p4] X.env := by rfl) (hs2 : starEach [.Tuple [.Name x1 p2, .Name x2 p3] kk0 p4] X.env = (false, eval (.Tuple [.Name x1 p2, .Name x2 p3] kk0 p4) X.env) :: starEach [] X.env := by rfl)
    (hs3 : starEach [.Name x1 p2, .Name x2 p3] X.env = (false, eval (.Name x1 p2) X.env) :: starEach [.Name x2 p3] X.env := by rfl) (hs4 : starEach [.Name x2 p3] X.env = (false, eval (.Name x2 p3) X.env) :: starEach [] X.env := by rfl) (hpl : (backTo pos (starEach [.Tuple [.Name x1 p2, .Name x2 p3] kk0 p4] X.env)).any (·.1) = false := by rfl) :
    EE X B env os (.Call (.Name "isinstance" p1) [a, .Tuple [.Name x1 p2, .Name x2 p3] kk0 p4] [] pos) rBool (bnd w fun _ => ret k) :=
  PE.imp (pe_callB call_isiT hg hm (by decide +kernel) (pa_cons ha (pa_cons (pe_tup (pa_cons (pe_bltn (v := .ty T1) hg1 hx1 hv1 rfl hn1 hd1) (pa_cons (pe_bltn (v := .ty T2) hg2 hx2 hv2 rfl hn2 hd2) pa_nil hs4) hs3)) pa_nil hs2) hs) (by decide) (by decide) hs hpl) fun σ H Q ⟨F, P, S, hw, kk⟩ => ⟨F, _, S, hw, fun d hd v F1 H1 S1 e1 ok => ⟨by show 2 ≤ sizeLine; decide, fun q hq => by
    have g : Grow F1 H1 (upd F1 q (.tup [.ty T1, .ty T2])) (upd H1 q (.tup [.ty T1, .ty T2])) := Grow.alloc S1.fh hq
    exact ⟨v, q, [.ty T1, .ty T2], _, [.type T1, .type T2], k, rfl, upd_same, .cons (.ty T1) (.cons (.ty T2) .nil), ty _ _ v d (r.mono g.f ok) (S1.grow g).fh, hk, kk _ hd (.bl _) _ _ (S1.grow g) (e1.trans g.f) rfl⟩⟩⟩
theorem kt_lst {K : PySem.W.Frag} : PySem.W.kitAny K (.type "list") [.type "list", .type "tuple"] = some true := kt_lt (.list [])
theorem kt_tup {K : PySem.W.Frag} : PySem.W.kitAny K (.type "tuple") [.type "list", .type "tuple"] = some true := kt_lt (.tuple [])
theorem e_isLT_lst {w : W (List α)} {p1 p2 p3 p4 : Pos} {kk0 : Nat} (ha : EE X B env os a (rLst r) w) (hm : X.mg "isinstance" = none) (hx1 : X.mg "list" = none) (hx2 : X.mg "tuple" = none)
    (hg : Gl X "isinstance" := by rfl) (hg1 : Gl X "list" := by rfl) (hg2 : Gl X "tuple" := by rfl) (hs : starEach [a, .Tuple [.Name "list" p2, .Name "tuple" p3] kk0 p4] X.env = (false, eval a X.env) :: starEach [.Tuple [.Name "list" p2, .Name "tuple" p3] kk0 p4] X.env := by rfl) (hs2 : starEach [.Tuple [.Name "list" p2, .Name "tuple" p3] kk0 p4] X.env = (false, eval (.Tuple [.Name "list" p2, .Name "tuple" p3] kk0 p4) X.env) :: starEach [] X.env := by rfl)
    (hs3 : starEach [.Name "list" p2, .Name "tuple" p3] X.env = (false, eval (.Name "list" p2) X.env) :: starEach [.Name "tuple" p3] X.env := by rfl) (hs4 : starEach [.Name "tuple" p3] X.env = (false, eval (.Name "tuple" p3) X.env) :: starEach [] X.env := by rfl) (hpl : (backTo pos (starEach [.Tuple [.Name "list" p2, .Name "tuple" p3] kk0 p4] X.env)).any (·.1) = false := by rfl) :
    EE X B env os (.Call (.Name "isinstance" p1) [a, .Tuple [.Name "list" p2, .Name "tuple" p3] kk0 p4] [] pos) rBool (bnd w fun _ => ret true) := e_isTT ty_lst kt_lst ha hm hx1 hx2 (hg := hg) (hg1 := hg1) (hg2 := hg2) (hs := hs) (hs2 := hs2) (hs3 := hs3) (hs4 := hs4) (hpl := hpl)
theorem e_isLT_tup {w : W (List α)} {p1 p2 p3 p4 : Pos} {kk0 : Nat} (ha : EE X B env os a (rTup X.K r) w) (hm : X.mg "isinstance" = none) (hx1 : X.mg "list" = none) (hx2 : X.mg "tuple" = none)
    (hg : Gl X "isinstance" := by rfl) (hg1 : Gl X "list" := by rfl) (hg2 : Gl X "tuple" := by rfl) (hs : starEach [a, .Tuple [.Name "list" p2, .Name "tuple" p3] kk0 p4] X.env = (false, eval a X.env) :: starEach [.Tuple [.Name "list" p2, .Name "tuple" p3] kk0 p4] X.env := by rfl) (hs2 : starEach [.Tuple [.Name "list" p2, .Name "tuple" p3] kk0 p4] X.env = (false, eval (.Tuple [.Name "list" p2, .Name "tuple" p3] kk0 p4) X.env) :: starEach [] X.env := by rfl)
    (hs3 : starEach [.Name "list" p2, .Name "tuple" p3] X.env = (false, eval (.Name "list" p2) X.env) :: starEach [.Name "tuple" p3] X.env := by rfl) (hs4 : starEach [.Name "tuple" p3] X.env = (false, eval (.Name "tuple" p3) X.env) :: starEach [] X.env := by rfl) (hpl : (backTo pos (starEach [.Tuple [.Name "list" p2, .Name "tuple" p3] kk0 p4] X.env)).any (·.1) = false := by rfl) :
    EE X B env os (.Call (.Name "isinstance" p1) [a, .Tuple [.Name "list" p2, .Name "tuple" p3] kk0 p4] [] pos) rBool (bnd w fun _ => ret true) := e_isTT ty_tup kt_tup ha hm hx1 hx2 (hg := hg) (hg1 := hg1) (hg2 := hg2) (hs := hs) (hs2 := hs2) (hs3 := hs3) (hs4 := hs4) (hpl := hpl)
end
end Mi
namespace Mi
open PySem L2 Evl
open PyProof.Rows (envOfC)
section
variable {P : Program} {w : World} {K : PySem.W.Frag} {mg : Str → Option Value} {base : Heap} {k : Nat} {f C : Addr} {fd : FuncData} {ps N : List Str} {ι ρ : Type} {args : ι → Env} {os : ι → Os} {wf : ι → W ρ} {ro : Rp ρ} {fl : ρ → List (Str × Slot)}
theorem initWE {x qual : Str} {st : Stmt} (F : FunE K x qual st f fd) (S : FnScope N ps (defScope st)) (hl : ∀ i, (args i).length + 1 = ps.length)
    (body : ∀ (cdv : Value) (A : Around) (outer : List PySem.Env) (s : Shared) (H : Hp) (E : XK) (B : Bs) (a : Addr) (i : ι), Room k (A.deeper (envOfC qual (defScope st) s.heap.objs.size f cdv)) →
      BG (cxOf CX0 P w K mg base N qual (defScope st) f cdv A outer s H E).nox B (entry (sv (rAdr a) () :: args i) (N.length - ps.length)) [(a, oObj C [])] (defBody st) (pIn B C a fl) (wf i)) : FnOk P w K mg base CX0 (k + 1) f fd ps (spI C args wf fl) := by
  refine F.ok S (spI_len hl) fun cdv A outer s H vs Q E hr hsp => ?_
  have hvl := spI_len hl vs H Q E hsp
  obtain ⟨i, F0, P0, a, dx, us, ev, fh, fa, ha, he, hw, hk⟩ := hsp
  subst ev
  have ow : ∀ p ∈ ([(a, oObj C [])] : Os), F0 p.1 = none ∧ ∃ o, H p.1 = some o ∧ p.2.ok F0 o := fun p hp => by
    rw [List.mem_singleton.mp hp]
    exact ⟨fa, _, ha, dx, [], rfl, .nil⟩
  refine ⟨_, PSs.nox (body cdv A outer s H E (bs0 F0 H [(a, oObj C [])]) a i hr), F0, P0, ⟨bs0_start fh ow, ?_, fun p hp => ?_, by simp⟩, hw, fun y hy => ⟨fun F' H' fn ow => hk y hy F' H' fn ow, fun σ F' H' fn ow => hk y hy F' H' fn ow⟩⟩
  · rw [← hvl]
    exact entry_ok (.cons ⟨_, rfl, rfl⟩ he)
  · obtain ⟨h1, o, h2, h3⟩ := ow p hp
    exact ⟨h1, ⟨o, h2, h3⟩, .inr (List.mem_map_of_mem hp)⟩
end
end Mi
namespace Mi
open PySem L2 Evl
section
variable {X : Cx} {B : Bs} {env : Env} {os : Os} {pos p : Pos} {a : Expr}
def sortJ (xs : List Int) : W (List Int) := fun P _ => ∀ ys : List Int, ys.Perm xs → ys.Pairwise (· ≤ ·) → P ys
theorem n_sortedJ {w : W (List Int)} (ha : EE X B env os a (rLst rInt) w) (hm : X.mg "sorted" = none) (hg : Gl X "sorted" := by rfl) (he : starEach [a] X.env = (false, eval a X.env) :: starEach [] X.env := by rfl) (hpl : (backTo pos (starEach [] X.env)).any (·.1) = false := by rfl) :
    EN X B env os (.Call (.Name "sorted" p) [a] [] pos) rInt (bnd w sortJ) :=
  PE.imp (pe_callB cr_sortedI hg hm (by decide +kernel) (pa_cons ha pa_nil he) (by decide) (by decide) he hpl) fun σ H Q ⟨F, P, S, hw, k⟩ => ⟨F, _, S, hw, fun x hx v F1 H1 S1 e1 ⟨p1, vs, q1, h1, z1, ok1⟩ => by
    have ev := ints_map ok1
    subst ev
    have hx : ∀ ys : List Int, ys.Perm x → ys.Pairwise (· ≤ ·) → P ys := hx
    refine ⟨p1, x, by rw [q1], SqL.of (S1.fh _ _ h1), fun ys q h2 h3 hq => k ys (hx ys h2 h3) q F1 _ (S1.newOwn hq ⟨ys.map V.int, rfl, ?_, ints_paired ys⟩) e1⟩
    rw [List.length_map, h2.length_eq]
    rw [List.length_map] at z1
    exact z1⟩
end
end Mi
set_option exponentiation.threshold 20000
namespace Mi
open PySem L2 Evl
theorem Ok.modN {a b : Nat} (hb : 0 < b) : Ok (modI (a : Int) (b : Int)) (· = ((a % b : Nat) : Int)) := Ok.chk (by omega) (Ok.ret (Int.ofNat_fmod a b).symm)
theorem Ok.divN {a b : Nat} (hb : 0 < b) (h : b < 2 ^ 9000) : Ok (divI (a : Int) (b : Int)) (· = ((a / b : Nat) : Int)) := Ok.chk ⟨by omega, log2_lt (by simpa using h) (by decide)⟩ (Ok.ret (Int.ofNat_fdiv a b).symm)
theorem Ok.mulN {a b : Nat} (h : b < 2 ^ 64) : Ok (mulI (a : Int) (b : Int)) (· = ((a * b : Nat) : Int)) := (Ok.mulR (by simpa using h)).mono fun x hx => by rw [hx]; exact (Int.natCast_mul a b).symm
theorem small9000 {b : Nat} (h : b < 2 ^ 64) : b < 2 ^ 9000 := Nat.lt_trans h (Nat.pow_lt_pow_right (by decide) (by decide))
def Prm (p : Nat) : Prop := 2 ≤ p ∧ ∀ d, d ∣ p → d = 1 ∨ d = p
theorem Prm.dvd_mul {p a b : Nat} (h : Prm p) (hd : p ∣ a * b) : p ∣ a ∨ p ∣ b := by
  rcases h.2 (Nat.gcd p a) (Nat.gcd_dvd_left p a) with e | e
  · exact .inr (Nat.Coprime.dvd_of_dvd_mul_left e hd)
  · exact .inl (by rw [← e]; exact Nat.gcd_dvd_right p a)
theorem Prm.cop {p a : Nat} (h : Prm p) (hd : ¬ p ∣ a) : Nat.Coprime a p := by
  rcases h.2 (Nat.gcd a p) (Nat.gcd_dvd_right a p) with e | e
  · exact e
  · exact absurd (by rw [← e]; exact Nat.gcd_dvd_left a p) hd
theorem Prm.dvd_pow {p q k : Nat} (h : Prm p) (hq : Prm q) (hd : p ∣ q ^ k) : p = q := by
  induction k with
  | zero =>
    have := Nat.le_of_dvd (by decide) (show p ∣ 1 from hd)
    have := h.1
    omega
  | succ k ih =>
    rw [Nat.pow_succ] at hd
    rcases h.dvd_mul hd with q' | q'
    · exact ih q'
    · rcases hq.2 p q' with e | e
      · have := h.1
        omega
      · exact e
theorem exists_prm : ∀ {n : Nat}, 2 ≤ n → ∃ p, Prm p ∧ p ∣ n := by
  intro n
  induction n using Nat.strongRecOn with
  | _ n ih =>
    intro h
    by_cases hp : Prm n
    · exact ⟨n, hp, Nat.dvd_refl n⟩
    · have : ∃ d, d ∣ n ∧ d ≠ 1 ∧ d ≠ n := by
        refine Classical.byContradiction fun q => hp ⟨h, fun d hd => ?_⟩
        refine Classical.byContradiction fun r => q ⟨d, hd, ?_, ?_⟩
        · exact fun e => r (.inl e)
        · exact fun e => r (.inr e)
      obtain ⟨d, hd, h1, h2⟩ := this
      have hle := Nat.le_of_dvd (by omega) hd
      have h0 : d ≠ 0 := by
        rintro rfl
        have := Nat.eq_zero_of_zero_dvd hd
        omega
      obtain ⟨p, hp1, hp2⟩ := ih d (by omega) (by omega)
      exact ⟨p, hp1, Nat.dvd_trans hp2 hd⟩
def divsL (m : Nat) : List Nat := (List.range (m + 1)).filter fun d => decide (0 < d ∧ d ∣ m)
theorem mem_divsL {m d : Nat} (hm : 0 < m) : d ∈ divsL m ↔ d ∣ m := by
  unfold divsL
  rw [List.mem_filter, List.mem_range, decide_eq_true_eq]
  constructor
  · exact fun h => h.2.2
  · intro h
    have := Nat.le_of_dvd hm h
    have h0 : 0 < d := Nat.pos_of_dvd_of_pos h hm
    exact ⟨by omega, h0, h⟩
theorem divsL_sorted (m : Nat) : (divsL m).Pairwise (· < ·) := List.pairwise_lt_range.filter _
theorem divsL_nodup (m : Nat) : (divsL m).Nodup := (divsL_sorted m).imp fun h => Nat.ne_of_lt h
theorem divsL_len (m : Nat) : (divsL m).length ≤ m := by
  have h := len_nodup (xs := divsL m) (ys := (List.range m).map (· + 1)) (divsL_nodup m) fun x hx => by
    unfold divsL at hx
    rw [List.mem_filter, List.mem_range, decide_eq_true_eq] at hx
    rw [List.mem_map]
    exact ⟨x - 1, by rw [List.mem_range]; omega, by omega⟩
  rwa [List.length_map, List.length_range] at h
theorem divsL_last {m : Nat} (hm : 0 < m) : m ∈ divsL m := (mem_divsL hm).mpr (Nat.dvd_refl m)
theorem divsL_inj {m n : Nat} (hm : 0 < m) (hn : 0 < n) (h : divsL m = divsL n) : m = n := by
  have h1 : m ∣ n := (mem_divsL hn).mp (by rw [← h]; exact divsL_last hm)
  have h2 : n ∣ m := (mem_divsL hm).mp (by rw [h]; exact divsL_last hn)
  exact Nat.dvd_antisymm h1 h2
/-- a sorted list of whole numbers with the members of a strictly ascending one -/
theorem sorted_uniq {xs ys : List Int} (h1 : xs.Pairwise (· ≤ ·)) (h2 : ys.Pairwise (· < ·)) (hn : xs.Nodup) (h : ∀ x, x ∈ xs ↔ x ∈ ys) : xs = ys :=
  List.Perm.eq_of_pairwise (fun a b _ _ p q => Int.le_antisymm p q) h1 (h2.imp fun h => Int.le_of_lt h) ((List.perm_ext_iff_of_nodup hn (h2.imp fun h => Int.ne_of_lt h)).mpr h)
def primesW_l2c (s5 : ((List Int) × Int × Int)) (s10 : Int) : W Bool :=
  bnd (modI s10 s5.2.2) fun t11 => ret (decide (t11 = (0 : Int)))
def primesW_l2 (s5 : ((List Int) × Int × Int)) (s10 : Int) : W Int :=
  bnd (divI s10 s5.2.2) fun rest_12 => ret (rest_12)
def primesW_l1c (s5 : ((List Int) × Int × Int)) : W Bool :=
  bnd (mulI s5.2.2 s5.2.2) fun t6 => ret (decide (t6 ≤ s5.2.1))
def primesW_l1 (s5 : ((List Int) × Int × Int)) : W ((List Int) × Int × Int) :=
  bnd (bnd (modI s5.2.1 s5.2.2) fun t7 => ret (decide (t7 = (0 : Int)))) fun b8 => bnd (if b8 = true then (bnd (ret (s5.2.2)) fun y9 => chk (s5.1.length < sizeLine) (bnd (whileW (primesW_l2c s5) (primesW_l2 s5) (s5.2.1)) fun (s14 : Int) => ret (((s5.1 ++ [y9]), s14)))) else (ret ((s5.1, s5.2.1)))) fun (s15 : ((List Int) × Int)) => bnd (ret (s5.2.2 + ((1 : Int)))) fun low_16 => ret ((s15.1, s15.2, low_16))
def primesW (a_number : Int) : W (List Int) :=
  bnd (ret (([] : (List Int)))) fun found_1 => bnd (ret (a_number)) fun rest_3 => bnd (ret ((2 : Int))) fun low_4 => bnd (whileW (primesW_l1c) (primesW_l1) ((found_1, rest_3, low_4))) fun (s17 : ((List Int) × Int × Int)) => bnd (bnd (ret (decide (((1 : Int)) < s17.2.1))) fun c => if c = true then catL s17.1 ([s17.2.1]) else ret (s17.1)) fun z => ret z
/-- what the list of the primes in m is -/
structure PrimesOf (m : Nat) (ps : List Nat) : Prop where
  asc : ps.Pairwise (· < ·)
  prm : ∀ p ∈ ps, Prm p ∧ p ∣ m
  all : ∀ p, Prm p → p ∣ m → p ∈ ps
/-- the state of the search: found below low; no number from 2 to low - 1 divides rest -/
structure PInv (m : Nat) (ps : List Nat) (rest low : Nat) : Prop where
  low2 : 2 ≤ low
  rest0 : 0 < rest
  dv : rest ∣ m
  asc : ps.Pairwise (· < ·)
  prm : ∀ p ∈ ps, Prm p ∧ p ∣ m ∧ p < low
  all : ∀ p, Prm p → p ∣ m → p ∈ ps ∨ p ∣ rest
  no : ∀ d, 2 ≤ d → d < low → ¬ d ∣ rest
theorem PInv.len {m rest low : Nat} {ps : List Nat} (h : PInv m ps rest low) : ps.length ≤ low := by
  have := len_nodup (xs := ps) (ys := List.range low) (h.asc.imp fun h => Nat.ne_of_lt h) fun x hx => by
    rw [List.mem_range]
    exact (h.prm x hx).2.2
  rwa [List.length_range] at this
theorem PInv.low {m rest low : Nat} {ps : List Nat} (h : PInv m ps rest low) (hd : low ∣ rest) : Prm low := ⟨h.low2, fun d hd' => by
  refine Classical.byContradiction fun q => ?_
  have hle := Nat.le_of_dvd (by have := h.low2; omega) hd'
  have h0 : d ≠ 0 := by
    rintro rfl
    have := Nat.eq_zero_of_zero_dvd hd'
    have := h.low2
    omega
  have h1 : d ≠ 1 := fun e => q (.inl e)
  have h2 : d ≠ low := fun e => q (.inr e)
  exact h.no d (by omega) (by omega) (Nat.dvd_trans hd' hd)⟩
/-- taking a number out of another one -/
theorem strip_ok {f : Int → W Bool} {g : Int → W Int} {low : Nat} (hl : 2 ≤ low) (hs : low < 2 ^ 64) (hf : ∀ s : Nat, 0 < s → Ok (f (s : Int)) (· = decide (s % low = 0))) (hg : ∀ s : Nat, 0 < s → Ok (g (s : Int)) (· = ((s / low : Nat) : Int))) {rest : Nat} (h0 : 0 < rest) :
    Ok (whileW f g (rest : Int)) fun r => ∃ (r' k : Nat), r = (r' : Int) ∧ rest = low ^ k * r' ∧ 0 < r' ∧ ¬ low ∣ r' := by
  refine Ok.while (inv := fun s => ∃ (r' k : Nat), s = (r' : Int) ∧ rest = low ^ k * r' ∧ 0 < r') (fun s => s.natAbs) ?_ ⟨rest, 0, rfl, by simp, h0⟩
  rintro s ⟨r', k, rfl, e, hp⟩
  refine ⟨decide (r' % low = 0), hf r' hp, fun hv => ?_, fun hv => ?_⟩
  · refine (hg r' hp).mono ?_
    rintro x rfl
    have hm : r' % low = 0 := of_decide_eq_true hv
    have hd : low ∣ r' := Nat.dvd_of_mod_eq_zero hm
    have hdiv : 0 < r' / low := Nat.div_pos (Nat.le_of_dvd hp hd) (by omega)
    refine ⟨⟨r' / low, k + 1, rfl, ?_, hdiv⟩, ?_⟩
    · rw [e, Nat.pow_succ, Nat.mul_assoc, Nat.mul_div_cancel' hd]
    · have : r' / low < r' := Nat.div_lt_self hp (by omega)
      show (((r' / low : Nat) : Int)).natAbs < ((r' : Nat) : Int).natAbs
      rw [Int.natAbs_natCast, Int.natAbs_natCast]
      exact this
  · refine ⟨r', k, rfl, e, hp, fun hd => ?_⟩
    exact (of_decide_eq_false hv) (Nat.mod_eq_zero_of_dvd hd)
theorem primesW_ok {m : Nat} (hm : 0 < m) (hb : m < 2 ^ 40) : Ok (primesW (m : Int)) fun r => ∃ ps : List Nat, r = ps.map (fun p : Nat => (p : Int)) ∧ PrimesOf m ps := by
  unfold primesW
  refine Ok.retB (Ok.retB (Ok.retB ?_))
  refine Ok.bnd (J := fun s : (List Int) × Int × Int => ∃ (ps : List Nat) (rest low : Nat), s = (ps.map (fun p : Nat => (p : Int)), (rest : Int), (low : Int)) ∧ PInv m ps rest low ∧ rest < low * low) ?_ ?_
  · refine Ok.while (inv := fun s : (List Int) × Int × Int => ∃ (ps : List Nat) (rest low : Nat), s = (ps.map (fun p : Nat => (p : Int)), (rest : Int), (low : Int)) ∧ PInv m ps rest low ∧ low ≤ 2 ^ 20 + 1) (fun s => 2 ^ 41 - s.2.2.toNat) ?_ ⟨[], m, 2, rfl, ⟨Nat.le_refl _, hm, Nat.dvd_refl m, .nil, fun p h => (by cases h), fun p h1 h2 => .inr h2, fun d h1 h2 => by omega⟩, by decide⟩
    rintro s ⟨ps, rest, low, rfl, I, hlow⟩
    have l2 := I.low2
    have hrm : rest ≤ m := Nat.le_of_dvd hm I.dv
    refine ⟨decide (low * low ≤ rest), ?_, fun hv => ?_, fun hv => ⟨ps, rest, low, rfl, I, by have := of_decide_eq_false hv; omega⟩⟩
    · unfold primesW_l1c
      refine Ok.bndE (Ok.mulN (by omega)) (Ok.ret ?_)
      rw [decide_eq_decide]
      exact Int.ofNat_le
    · have hle : low * low ≤ rest := of_decide_eq_true hv
      have hlr : low ≤ 2 ^ 20 := by
        refine Nat.le_of_not_lt fun h => ?_
        have : 2 ^ 20 * 2 ^ 20 ≤ low * low := Nat.mul_le_mul (Nat.le_of_lt h) (Nat.le_of_lt h)
        have e : 2 ^ 20 * 2 ^ 20 = 2 ^ 40 := by decide
        omega
      have hlen := I.len
      have lift : ∀ {x : Int}, x = ((low + 1 : Nat) : Int) → (low : Int) + 1 = x := fun e => by rw [e]; rfl
      unfold primesW_l1
      refine Ok.bndE (x := decide (rest % low = 0)) (Ok.bndE (Ok.modN (by omega)) (Ok.ret ?_)) ?_
      · rw [decide_eq_decide]
        exact ⟨fun h => by omega, fun h => by omega⟩
      refine Ok.bnd (J := fun t : List Int × Int => ∃ (ps' : List Nat) (r' : Nat), t = (ps'.map (fun p : Nat => (p : Int)), (r' : Int)) ∧ PInv m ps' r' (low + 1)) ?_ ?_
      · refine Ok.ite (fun hd => ?_) fun hd => ?_
        · have hd : low ∣ rest := Nat.dvd_of_mod_eq_zero (of_decide_eq_true hd)
          have hp := I.low hd
          refine Ok.retB (Ok.chk (by rw [List.length_map]; have : sizeLine = 16777216 := sizeLine_eq; omega) ?_)
          refine Ok.bnd (strip_ok (low := low) l2 (by omega) (fun s hs => ?_) (fun s hs => ?_) I.rest0) ?_
          · unfold primesW_l2c
            refine Ok.bndE (Ok.modN (by omega)) (Ok.ret ?_)
            rw [decide_eq_decide]
            exact ⟨fun h => by omega, fun h => by omega⟩
          · unfold primesW_l2
            exact Ok.bndE (Ok.divN (by omega) (small9000 (by omega))) Ok.eq
          · rintro x ⟨r', k, rfl, e, h0, hnd⟩
            have hr' : r' ∣ rest := ⟨low ^ k, by rw [e, Nat.mul_comm]⟩
            refine Ok.ret ⟨ps ++ [low], r', by simp, ⟨by omega, h0, Nat.dvd_trans hr' I.dv, ?_, ?_, ?_, ?_⟩⟩
            · rw [List.pairwise_append]
              exact ⟨I.asc, List.pairwise_singleton _ _, fun a ha b hb => by rw [List.mem_singleton.mp hb]; exact (I.prm a ha).2.2⟩
            · intro p hp'
              rcases List.mem_append.mp hp' with q | q
              · exact ⟨(I.prm p q).1, (I.prm p q).2.1, by have := (I.prm p q).2.2; omega⟩
              · rw [List.mem_singleton.mp q]
                exact ⟨hp, Nat.dvd_trans hd I.dv, by omega⟩
            · intro p h1 h2
              rcases I.all p h1 h2 with q | q
              · exact .inl (List.mem_append_left _ q)
              · rw [e] at q
                rcases h1.dvd_mul q with z | z
                · rw [h1.dvd_pow hp z]
                  exact .inl (by simp)
                · exact .inr z
            · intro d h1 h2 h3
              by_cases hdl : d < low
              · exact I.no d h1 hdl (Nat.dvd_trans h3 hr')
              · have : d = low := by omega
                subst this
                exact hnd h3
        · have hd : ¬ low ∣ rest := fun q => hd (decide_eq_true (Nat.mod_eq_zero_of_dvd q))
          refine Ok.ret ⟨ps, rest, rfl, ⟨by omega, I.rest0, I.dv, I.asc, fun p hp => ⟨(I.prm p hp).1, (I.prm p hp).2.1, by have := (I.prm p hp).2.2; omega⟩, I.all, fun d h1 h2 h3 => ?_⟩⟩
          by_cases hdl : d < low
          · exact I.no d h1 hdl h3
          · have : d = low := by omega
            subst this
            exact hd h3
      · rintro t ⟨ps', r', rfl, I'⟩
        refine Ok.retB (Ok.ret ⟨⟨ps', r', low + 1, rfl, I', by omega⟩, ?_⟩)
        show 2 ^ 41 - ((low : Int) + 1).toNat < 2 ^ 41 - ((low : Int)).toNat
        have e1 : ((low : Int) + 1).toNat = low + 1 := by omega
        have e2 : ((low : Int)).toNat = low := by omega
        rw [e1, e2]
        omega
  · rintro s ⟨ps, rest, low, rfl, I, hlt⟩
    have r0 := I.rest0
    have small : ∀ d, d ∣ rest → d = 1 ∨ d = rest := by
      intro d hd
      refine Classical.byContradiction fun q => ?_
      have hle := Nat.le_of_dvd r0 hd
      have h0 : d ≠ 0 := by
        rintro rfl
        have := Nat.eq_zero_of_zero_dvd hd
        omega
      have h1 : d ≠ 1 := fun e => q (.inl e)
      have h2 : d ≠ rest := fun e => q (.inr e)
      obtain ⟨e, he⟩ := hd
      have he1 : e ∣ rest := ⟨d, by rw [he, Nat.mul_comm]⟩
      have hd2 : low ≤ d := Nat.le_of_not_lt fun hh => I.no d (by omega) hh ⟨e, he⟩
      have he0 : e ≠ 0 := by
        rintro rfl
        omega
      have he2 : e ≠ 1 := by
        rintro rfl
        omega
      have he3 : low ≤ e := Nat.le_of_not_lt fun hh => I.no e (by omega) hh he1
      have := Nat.mul_le_mul hd2 he3
      omega
    refine Ok.bnd (J := fun r => ∃ ps : List Nat, r = ps.map (fun p : Nat => (p : Int)) ∧ PrimesOf m ps) ?_ fun z hz => Ok.ret hz
    refine Ok.retB (Ok.ite (fun h => ?_) fun h => ?_)
    · have h1 : 1 < rest := by have h' : (1 : Int) < (rest : Int) := of_decide_eq_true h; omega
      have hp : Prm rest := ⟨h1, small⟩
      have hlr : low ≤ rest := Nat.le_of_not_lt fun hh => I.no rest (by omega) hh (Nat.dvd_refl rest)
      refine (show Ok (catL _ _) _ from Ok.chk ?_ (Ok.ret ⟨ps ++ [rest], by simp, ?_, ?_, ?_⟩))
      · have hlen := len_nodup (xs := ps) (ys := (List.range (2 ^ 20 + 2))) (I.asc.imp fun h => Nat.ne_of_lt h) fun x hx => by
          obtain ⟨q1, q2, q3⟩ := I.prm x hx
          rw [List.mem_range]
          refine Nat.lt_of_not_le fun hh => ?_
          have hxr : x * rest ∣ m := by
            have hco : Nat.Coprime x rest := q1.2 _ (Nat.gcd_dvd_left x rest) |>.elim (fun e => e) fun e => by
              have : x ∣ rest := by rw [← e]; exact Nat.gcd_dvd_right x rest
              rcases small x this with z | z
              · have := q1.1; omega
              · omega
            exact Nat.Coprime.mul_dvd_of_dvd_of_dvd hco q2 I.dv
          have := Nat.le_of_dvd hm hxr
          have h2 : (2 ^ 20 + 2) * (2 ^ 20 + 2) ≤ x * rest := Nat.mul_le_mul hh (by omega)
          have e : 2 ^ 40 < (2 ^ 20 + 2) * (2 ^ 20 + 2) := by decide
          omega
        rw [List.length_range] at hlen
        rw [List.length_map]
        show ps.length + 1 ≤ sizeLine
        have : sizeLine = 16777216 := sizeLine_eq
        omega
      · rw [List.pairwise_append]
        exact ⟨I.asc, List.pairwise_singleton _ _, fun a ha b hb => by rw [List.mem_singleton.mp hb]; have := (I.prm a ha).2.2; omega⟩
      · intro p hp'
        rcases List.mem_append.mp hp' with q | q
        · exact ⟨(I.prm p q).1, (I.prm p q).2.1⟩
        · rw [List.mem_singleton.mp q]
          exact ⟨hp, I.dv⟩
      · intro p h1 h2
        rcases I.all p h1 h2 with q | q
        · exact List.mem_append_left _ q
        · rcases small p q with z | z
          · have := h1.1; omega
          · rw [z]; simp
    · have h1 : rest = 1 := by
        have : ¬ (1 : Int) < (rest : Int) := fun q => h (decide_eq_true q)
        omega
      subst h1
      refine Ok.ret ⟨ps, rfl, I.asc, fun p hp => ⟨(I.prm p hp).1, (I.prm p hp).2.1⟩, fun p h1 h2 => ?_⟩
      rcases I.all p h1 h2 with q | q
      · exact q
      · have := Nat.le_of_dvd (by decide) q
        have := h1.1
        omega
end Mi
set_option exponentiation.threshold 20000
namespace Mi
open PySem L2 Evl
theorem divsL_few {m : Nat} (hm : 0 < m) (hb : m < 2 ^ 40) : (divsL m).length ≤ 2 ^ 21 := by
  have h1 : ((divsL m).filter fun d => decide (d * d ≤ m)).length ≤ 2 ^ 20 := by
    have := len_nodup (xs := (divsL m).filter fun d => decide (d * d ≤ m)) (ys := List.range (2 ^ 20)) ((divsL_nodup m).filter _) fun x hx => by
      rw [List.mem_filter, decide_eq_true_eq] at hx
      rw [List.mem_range]
      refine Nat.lt_of_not_le fun h => ?_
      have : 2 ^ 20 * 2 ^ 20 ≤ x * x := Nat.mul_le_mul h h
      have e : 2 ^ 20 * 2 ^ 20 = 2 ^ 40 := by decide
      omega
    rwa [List.length_range] at this
  have h2 : ((divsL m).filter fun d => !decide (d * d ≤ m)).length ≤ 2 ^ 20 := by
    have nd : (((divsL m).filter fun d => !decide (d * d ≤ m)).map fun d => m / d).Nodup := by
      rw [List.Nodup, List.pairwise_map]
      refine (List.Pairwise.imp_of_mem ?_ ((divsL_nodup m).filter _))
      intro a b ha hb' hab e
      rw [List.mem_filter] at ha hb'
      have da := (mem_divsL hm).mp ha.1
      have db := (mem_divsL hm).mp hb'.1
      refine hab ?_
      have q1 : m / (m / a) = a := Nat.div_div_self da (by omega)
      have q2 : m / (m / b) = b := Nat.div_div_self db (by omega)
      rw [← q1, ← q2, e]
    have := len_nodup (ys := List.range (2 ^ 20)) nd fun x hx => by
      obtain ⟨d, hd, rfl⟩ := List.mem_map.mp hx
      rw [List.mem_filter] at hd
      have dd := (mem_divsL hm).mp hd.1
      have hlt : m < d * d := by
        have := hd.2
        simpa using this
      rw [List.mem_range]
      obtain ⟨e, he⟩ := dd
      have hd0 : 0 < d := Nat.pos_of_ne_zero fun z => by subst z; omega
      have hq : m / d = e := by rw [he]; exact Nat.mul_div_cancel_left e hd0
      rw [hq]
      have hed : e < d := by
        refine Nat.lt_of_not_le fun h => ?_
        have := Nat.mul_le_mul_left d h
        omega
      refine Nat.lt_of_not_le fun h => ?_
      have : 2 ^ 20 * 2 ^ 20 ≤ d * e := Nat.mul_le_mul (by omega) h
      have e : 2 ^ 20 * 2 ^ 20 = 2 ^ 40 := by decide
      omega
    rwa [List.length_map, List.length_range] at this
  have h3 : (divsL m).length = ((divsL m).filter fun d => decide (d * d ≤ m)).length + ((divsL m).filter fun d => !decide (d * d ≤ m)).length := by
    rw [← List.length_append]
    exact ((List.filter_append_perm (fun d => decide (d * d ≤ m)) (divsL m)).length_eq).symm
  have e : 2 ^ 20 + 2 ^ 20 = 2 ^ 21 := by decide
  omega
structure DivOf (found : List Int) (n : Nat) : Prop where
  nd : found.Nodup
  mem : ∀ x : Int, x ∈ found ↔ ∃ d : Nat, x = (d : Int) ∧ d ∣ n
theorem DivOf.len {found : List Int} {n : Nat} (h : DivOf found n) (hn : 0 < n) (hb : n < 2 ^ 40) : found.length ≤ 2 ^ 21 := by
  refine Nat.le_trans (len_nodup (ys := (divsL n).map fun d : Nat => (d : Int)) h.nd fun x hx => ?_) (by rw [List.length_map]; exact divsL_few hn hb)
  obtain ⟨d, rfl, hd⟩ := (h.mem x).mp hx
  exact List.mem_map_of_mem ((mem_divsL hn).mpr hd)
theorem pow_strip {p n : Nat} (hp : Prm p) (hn : ¬ p ∣ n) : ∀ (k x : Nat), x ∣ n * p ^ k → ∃ d i, d ∣ n ∧ i ≤ k ∧ x = d * p ^ i := by
  intro k
  induction k with
  | zero => exact fun x h => ⟨x, 0, by simpa using h, Nat.le_refl _, by simp⟩
  | succ k ih =>
    intro x h
    by_cases hx : p ∣ x
    · obtain ⟨y, rfl⟩ := hx
      have h' : p * y ∣ p * (n * p ^ k) := by
        have e : n * p ^ (k + 1) = p * (n * p ^ k) := by
          rw [Nat.pow_succ, ← Nat.mul_assoc, Nat.mul_comm]
        rwa [e] at h
      obtain ⟨d, i, h1, h2, h3⟩ := ih y (Nat.dvd_of_mul_dvd_mul_left (by have := hp.1; omega) h')
      refine ⟨d, i + 1, h1, by omega, ?_⟩
      rw [h3, Nat.pow_succ]
      ac_rfl
    · exact ⟨x, 0, Nat.Coprime.dvd_of_dvd_mul_right (Nat.Coprime.pow_right _ (hp.cop hx)) h, Nat.zero_le _, by simp⟩
theorem pow_inj {p : Nat} (hp : Prm p) {d e i j : Nat} (hd : ¬ p ∣ d) (he : ¬ p ∣ e) (h : d * p ^ i = e * p ^ j) : d = e ∧ i = j := by
  have key : ∀ {d e i j : Nat}, ¬ p ∣ d → i < j → d * p ^ i = e * p ^ j → False := by
    intro d e i j hd hij h
    have e1 : p ^ j = p ^ i * p ^ (j - i) := by rw [← Nat.pow_add]; congr 1; omega
    rw [e1, ← Nat.mul_assoc, Nat.mul_right_comm] at h
    have hpi : 0 < p ^ i := Nat.pow_pos (by have := hp.1; omega)
    have := Nat.eq_of_mul_eq_mul_right hpi h
    refine hd ⟨e * p ^ (j - i - 1), ?_⟩
    rw [this]
    have e2 : p ^ (j - i) = p * p ^ (j - i - 1) := by
      rw [← Nat.pow_succ']
      congr 1
      omega
    rw [e2, Nat.mul_left_comm]
  have hij : i = j := by
    rcases Nat.lt_trichotomy i j with q | q | q
    · exact (key hd q h).elim
    · exact q
    · exact (key he q h.symm).elim
  subst hij
  exact ⟨Nat.eq_of_mul_eq_mul_right (Nat.pow_pos (by have := hp.1; omega)) h, rfl⟩
abbrev powL (p k : Nat) : List Int := (List.range (k + 1)).map fun i => ((p ^ i : Nat) : Int)
theorem DivOf.step {found : List Int} {n p k : Nat} (h : DivOf found n) (hn : 0 < n) (hp : Prm p) (hnd : ¬ p ∣ n) : DivOf (found.flatMap fun x => (powL p k).map fun y => x * y) (n * p ^ k) := by
  have hp0 : 0 < p := by have := hp.1; omega
  have ndv : ∀ d : Nat, d ∣ n → ¬ p ∣ d := fun d hd q => hnd (Nat.dvd_trans q hd)
  refine ⟨?_, fun x => ?_⟩
  · rw [List.Nodup, List.pairwise_flatMap]
    refine ⟨fun x hx => ?_, ?_⟩
    · obtain ⟨d, rfl, hd⟩ := (h.mem x).mp hx
      have hd0 : 0 < d := Nat.pos_of_dvd_of_pos hd hn
      rw [List.map_map, List.pairwise_map]
      refine List.nodup_range.imp fun {i j} hij e => hij ?_
      have e' : d * p ^ i = d * p ^ j := by
        have : ((d * p ^ i : Nat) : Int) = ((d * p ^ j : Nat) : Int) := by
          rw [Int.natCast_mul, Int.natCast_mul]
          exact e
        exact Int.ofNat.inj this
      exact (pow_inj hp (ndv d hd) (ndv d hd) e').2
    · refine List.Pairwise.imp_of_mem ?_ h.nd
      intro a b ha hb hab x hx y hy e
      obtain ⟨d, rfl, hd⟩ := (h.mem a).mp ha
      obtain ⟨d', rfl, hd'⟩ := (h.mem b).mp hb
      obtain ⟨u, hu, rfl⟩ := List.mem_map.mp hx
      obtain ⟨i, _, rfl⟩ := List.mem_map.mp hu
      obtain ⟨v, hv, rfl⟩ := List.mem_map.mp hy
      obtain ⟨j, _, rfl⟩ := List.mem_map.mp hv
      have e' : d * p ^ i = d' * p ^ j := by
        have : ((d * p ^ i : Nat) : Int) = ((d' * p ^ j : Nat) : Int) := by
          rw [Int.natCast_mul, Int.natCast_mul]
          exact e
        exact Int.ofNat.inj this
      exact hab (by rw [(pow_inj hp (ndv d hd) (ndv d' hd') e').1])
  · rw [List.mem_flatMap]
    constructor
    · rintro ⟨a, ha, hx⟩
      obtain ⟨d, rfl, hd⟩ := (h.mem a).mp ha
      obtain ⟨u, hu, rfl⟩ := List.mem_map.mp hx
      obtain ⟨i, hi, rfl⟩ := List.mem_map.mp hu
      rw [List.mem_range] at hi
      refine ⟨d * p ^ i, by rw [Int.natCast_mul], Nat.mul_dvd_mul hd (Nat.pow_dvd_pow p (by omega))⟩
    · rintro ⟨e, rfl, he⟩
      obtain ⟨d, i, h1, h2, h3⟩ := pow_strip hp hnd k e he
      refine ⟨(d : Int), (h.mem _).mpr ⟨d, rfl, h1⟩, List.mem_map.mpr ⟨((p ^ i : Nat) : Int), List.mem_map.mpr ⟨i, List.mem_range.mpr (by omega), rfl⟩, ?_⟩⟩
      rw [h3, Int.natCast_mul]
def divisW_l2c (x4 : Int) (s8 : (Int × (List Int))) : W Bool :=
  bnd (modI s8.1 x4) fun t9 => ret (decide (t9 = (0 : Int)))
def divisW_l2 (x4 : Int) (s8 : (Int × (List Int))) : W (Int × (List Int)) :=
  bnd (divI s8.1 x4) fun rest_10 => bnd (bnd (idx s8.2 (-((1 : Int)))) fun t12 => mulI t12 x4) fun y14 => chk (s8.2.length < sizeLine) (ret ((rest_10, (s8.2 ++ [y14]))))
def divisW_l1 (s5 : ((List Int) × Int)) (x4 : Int) : W ((List Int) × Int) :=
  bnd (ret ([(1 : Int)])) fun powers_6 => bnd (whileW (divisW_l2c x4) (divisW_l2 x4) ((s5.2, powers_6))) fun (s15 : (Int × (List Int))) => bnd (fl2 (fun (x20 : Int) => ret (s15.2)) (fun (x20 : Int) (x21 : Int) => mulI x20 x21) s5.1 []) fun found_19 => ret ((found_19, s15.1))
def divisW (a_number : Int) : W (List Int) :=
  bnd (ret ([(1 : Int)])) fun found_1 => bnd (ret (a_number)) fun rest_2 => bnd (noX (primesW a_number)) fun xs24 => bnd (forW divisW_l1 ((found_1, rest_2)) xs24) fun (s25 : ((List Int) × Int)) => bnd (sortJ s25.1) fun z => ret z
theorem idx_last {xs : List Int} {y : Int} : idx (xs ++ [y]) (-1) = ret y := by
  unfold idx atI
  have : ixN (xs ++ [y]).length (-1) = some xs.length := by
    unfold ixN
    rw [List.length_append, List.length_singleton]
    simp
    try omega
  rw [this]
  simp
theorem powers_ok {p rest : Nat} (hp : 2 ≤ p) (h0 : 0 < rest) (hb : rest < 2 ^ 40) (hpb : p < 2 ^ 40) : Ok (whileW (divisW_l2c (p : Int)) (divisW_l2 (p : Int)) ((rest : Int), [(1 : Int)])) fun s => ∃ (r' k : Nat), s = ((r' : Int), powL p k) ∧ rest = p ^ k * r' ∧ 0 < r' ∧ ¬ p ∣ r' := by
  refine Ok.while (inv := fun s => ∃ (r' k : Nat), s = ((r' : Int), powL p k) ∧ rest = p ^ k * r' ∧ 0 < r') (fun s => s.1.natAbs) ?_ ⟨rest, 0, by simp [powL], by simp, h0⟩
  rintro s ⟨r', k, rfl, e, hr⟩
  have hk : k ≤ 40 := by
    refine Nat.le_of_not_lt fun h => ?_
    have h1 : 2 ^ 40 ≤ p ^ k := Nat.le_trans (Nat.pow_le_pow_right (by decide) (by omega)) (Nat.pow_le_pow_left hp k)
    have h2 : p ^ k ≤ p ^ k * r' := Nat.le_mul_of_pos_right _ hr
    omega
  have hpk : p ^ k ≤ rest := by rw [e]; exact Nat.le_mul_of_pos_right _ hr
  have hrr : r' ≤ rest := by rw [e]; exact Nat.le_mul_of_pos_left _ (Nat.pow_pos (by omega))
  refine ⟨decide (r' % p = 0), ?_, fun hv => ?_, fun hv => ⟨r', k, rfl, e, hr, fun q => (of_decide_eq_false hv) (Nat.mod_eq_zero_of_dvd q)⟩⟩
  · unfold divisW_l2c
    refine Ok.bndE (Ok.modN (by omega)) (Ok.ret ?_)
    rw [decide_eq_decide]
    exact ⟨fun h => by omega, fun h => by omega⟩
  · have hd : p ∣ r' := Nat.dvd_of_mod_eq_zero (of_decide_eq_true hv)
    have hdiv : 0 < r' / p := Nat.div_pos (Nat.le_of_dvd hr hd) (by omega)
    unfold divisW_l2
    refine Ok.bndE (Ok.divN (by omega) (small9000 (by omega))) ?_
    refine Ok.bndE (x := ((p ^ (k + 1) : Nat) : Int)) ?_ ?_
    · have el : powL p k = (List.range k).map (fun i => ((p ^ i : Nat) : Int)) ++ [((p ^ k : Nat) : Int)] := by
        show (List.range (k + 1)).map _ = _
        rw [List.range_succ, List.map_append]
        rfl
      show Ok (bnd (idx (powL p k) (-1)) _) _
      rw [el, idx_last]
      refine Ok.retB ?_
      rw [Nat.pow_succ]
      exact Ok.mulN (by omega)
    · refine Ok.chk ?_ (Ok.ret ⟨⟨r' / p, k + 1, ?_, ?_, hdiv⟩, ?_⟩)
      · show ((List.range (k + 1)).map _).length < sizeLine
        rw [List.length_map, List.length_range]
        have : sizeLine = 16777216 := sizeLine_eq
        omega
      · show (((r' / p : Nat) : Int), powL p k ++ _) = _
        congr 1
        show _ = (List.range (k + 1 + 1)).map _
        rw [List.range_succ (n := k + 1), List.map_append]
        rfl
      · rw [e, Nat.pow_succ, Nat.mul_assoc, Nat.mul_div_cancel' hd]
      · show (((r' / p : Nat) : Int)).natAbs < ((r' : Nat) : Int).natAbs
        rw [Int.natAbs_natCast, Int.natAbs_natCast]
        exact Nat.div_lt_self hr (by omega)
abbrev dvs (m : Nat) : List Int := (divsL m).map fun d : Nat => (d : Int)
theorem dvs_sorted (m : Nat) : (dvs m).Pairwise (· < ·) := by
  rw [List.pairwise_map]
  exact (divsL_sorted m).imp fun h => by omega
theorem divisW_ok {m : Nat} (hm : 0 < m) (hb : m < 2 ^ 40) : Ok (divisW (m : Int)) (· = dvs m) := by
  unfold divisW
  refine Ok.retB (Ok.retB (Ok.bnd (Ok.noX (primesW_ok hm hb)) ?_))
  rintro x ⟨ps, rfl, hps⟩
  refine Ok.bnd (J := fun s : List Int × Int => DivOf s.1 m) ?_ ?_
  · refine Ok.forW (inv := fun k s => ∃ (n r : Nat), s.2 = (r : Int) ∧ m = n * r ∧ DivOf s.1 n ∧ (∀ j, j < k → ∀ (hj : j < ps.length), ¬ ps[j] ∣ r) ∧ (∀ j, k ≤ j → ∀ (hj : j < ps.length), ¬ ps[j] ∣ n)) ?_ ?_ ?_
    · refine ⟨1, m, rfl, by simp, ⟨by simp, fun x => ?_⟩, fun j hj => by omega, fun j _ hj q => ?_⟩
      · rw [List.mem_singleton]
        constructor
        · rintro rfl
          exact ⟨1, rfl, Nat.dvd_refl 1⟩
        · rintro ⟨d, rfl, hd⟩
          rw [Nat.dvd_one.mp hd]
          rfl
      · have := Nat.dvd_one.mp q
        have := (hps.prm _ (List.getElem_mem hj)).1.1
        omega
    · rintro k hk ⟨found, rest⟩ ⟨n, r, er, e, hD, h1, h2⟩
      have hk' : k < ps.length := by simpa using hk
      obtain ⟨hp, hpm⟩ := hps.prm _ (List.getElem_mem hk')
      have ex : (ps.map (fun p : Nat => (p : Int)))[k] = ((ps[k] : Nat) : Int) := by simp
      rw [ex]
      have er : rest = (r : Int) := er
      subst er
      have hn0 : 0 < n := Nat.pos_of_ne_zero fun z => by subst z; omega
      have hr0 : 0 < r := Nat.pos_of_ne_zero fun z => by subst z; omega
      have hrm : r ≤ m := by rw [e]; exact Nat.le_mul_of_pos_left _ hn0
      have hpm' : ps[k] ≤ m := Nat.le_of_dvd hm hpm
      unfold divisW_l1
      refine Ok.retB (Ok.bnd (powers_ok (p := ps[k]) hp.1 hr0 (by omega) (by omega)) ?_)
      rintro s ⟨r', i, rfl, e', hr', hnr'⟩
      have hstep := hD.step (k := i) hn0 hp (h2 k (Nat.le_refl _) hk')
      have hN : n * ps[k] ^ i ≤ m := by
        rw [e, e', ← Nat.mul_assoc]
        exact Nat.le_mul_of_pos_right _ hr'
      have hlen := hstep.len (Nat.mul_pos hn0 (Nat.pow_pos (by have := hp.1; omega))) (by omega)
      have hpi : ps[k] ^ i ≤ r := by rw [e']; exact Nat.le_mul_of_pos_right _ hr'
      refine Ok.bndE (x := found.flatMap fun x => (powL ps[k] i).map fun y => x * y) ?_ ?_
      · refine (Ok.fl2 (b := fun _ => powL ps[k] i) (g := fun x y => x * y) (fun x _ => Ok.eq) (fun x hx y hy => ?_) ?_).mono fun z hz => by rw [hz]; rfl
        · obtain ⟨j, hj, rfl⟩ := List.mem_map.mp hy
          rw [List.mem_range] at hj
          have hle : ps[k] ^ j ≤ ps[k] ^ i := Nat.pow_le_pow_right (by have := hp.1; omega) (by omega)
          exact Ok.mulR (by rw [Int.natAbs_natCast]; omega)
        · show ([] : List Int).length + _ ≤ sizeLine
          have : sizeLine = 16777216 := sizeLine_eq
          rw [List.length_nil]
          omega
      · refine Ok.ret ⟨n * ps[k] ^ i, r', rfl, by rw [e, e', Nat.mul_assoc], hstep, fun j hj hjl => ?_, fun j hj hjl q => ?_⟩
        · by_cases hjk : j < k
          · intro q
            exact h1 j hjk hjl (by rw [e']; exact Nat.dvd_trans q (Nat.dvd_mul_left _ _))
          · have : j = k := by omega
            subst this
            exact hnr'
        · have hpj := (hps.prm _ (List.getElem_mem hjl)).1
          rcases hpj.dvd_mul q with z | z
          · exact h2 j (by omega) hjl z
          · have := hpj.dvd_pow hp z
            have hlt := List.pairwise_iff_getElem.mp hps.asc k j hk' hjl (by omega)
            omega
    · rintro ⟨found, rest⟩ ⟨n, r, er, e, hD, h1, _⟩
      have : r = 1 := by
        refine Classical.byContradiction fun hr => ?_
        have hr0 : 0 < r := Nat.pos_of_ne_zero fun z => by subst z; omega
        obtain ⟨p, hp, hpr⟩ := exists_prm (n := r) (by omega)
        have hpm : p ∣ m := by rw [e]; exact Nat.dvd_trans hpr (Nat.dvd_mul_left _ _)
        obtain ⟨j, hj, hj2⟩ := List.getElem_of_mem (hps.all p hp hpm)
        exact h1 j (by simpa using hj) hj (by rw [hj2]; exact hpr)
      subst this
      rw [Nat.mul_one] at e
      subst e
      exact hD
  · rintro ⟨found, rest⟩ hD
    refine Ok.bndE (x := dvs m) (fun P E hp ys h1 h2 => hp ys ?_) Ok.eq
    have hD : DivOf found m := hD
    refine sorted_uniq h2 (dvs_sorted m) (h1.nodup_iff.mpr hD.nd) fun x => ?_
    rw [h1.mem_iff]
    refine (hD.mem x).trans ?_
    rw [List.mem_map]
    exact ⟨fun ⟨d, h, hd⟩ => ⟨d, (mem_divsL hm).mpr hd, h.symm⟩, fun ⟨d, hd, h⟩ => ⟨d, h.symm, (mem_divsL hm).mp hd⟩⟩
def lowsW (a_law_number : Int) : W (List Int) :=
  bnd (bnd (rng2 ((1 : Int)) (a_law_number + ((1 : Int)))) fun l1 => filtW (fun (x2 : Int) => bnd (modI a_law_number x2) fun t3 => ret (decide (t3 = (0 : Int)))) (fun (x2 : Int) => ret (x2)) l1) fun z => ret z
theorem lowsW_ok {m : Nat} (hm : 0 < m) (hb : m ≤ 1000000) : Ok (lowsW (m : Int)) (· = dvs m) := by
  unfold lowsW
  refine Ok.bndE (x := dvs m) (Ok.bndE (Ok.rng2 (a := 1) (n := m + 1) (by omega) (by omega)) ?_) Ok.eq
  refine (Ok.filt (p := fun x : Int => decide (x.toNat ∣ m)) (g := fun x => x) (fun x hx => ?_) fun x hx _ => Ok.eq).mono fun z hz => ?_
  · obtain ⟨k, hk, rfl⟩ := List.mem_map.mp hx
    refine Ok.bndE (Ok.modN (by omega)) (Ok.ret ?_)
    rw [decide_eq_decide, Int.toNat_natCast]
    exact ⟨fun h => Nat.dvd_of_mod_eq_zero (by omega), fun h => by rw [Nat.mod_eq_zero_of_dvd h]; rfl⟩
  · rw [hz, List.map_id']
    have p1 : (((List.range (m + 1 - 1)).map fun k : Nat => ((1 + k : Nat) : Int)).filter fun x : Int => decide (x.toNat ∣ m)).Pairwise (· < ·) := by
      refine List.Pairwise.filter _ ?_
      rw [List.pairwise_map]
      exact List.pairwise_lt_range.imp fun h => by omega
    refine sorted_uniq (p1.imp fun h => Int.le_of_lt h) (dvs_sorted m) (p1.imp fun h => Int.ne_of_lt h) fun x => ?_
    rw [List.mem_filter, List.mem_map, List.mem_map]
    constructor
    · rintro ⟨⟨k, hk, rfl⟩, h⟩
      exact ⟨1 + k, (mem_divsL hm).mpr (by have := of_decide_eq_true h; rwa [Int.toNat_natCast] at this), rfl⟩
    · rintro ⟨d, hd, rfl⟩
      have hd := (mem_divsL hm).mp hd
      have h1 := Nat.le_of_dvd hm hd
      have h0 := Nat.pos_of_dvd_of_pos hd hm
      exact ⟨⟨d - 1, List.mem_range.mpr (by omega), by omega⟩, by simpa using hd⟩
end Mi
namespace Mi
open PySem L2 Evl PyProof.Rows
end Mi
namespace Mi
open PySem L2 Evl
open PyProof.Rows (envOfC)
end Mi
namespace Mi
open PySem L2 Evl PyProof.Rows
open PyProof.Rows (envOfC)
theorem OsLe.cons {os l : Os} {p : Addr × Own} (h : p ∈ os) (t : OsLe os l) : OsLe os (p :: l) := fun q hq => by
  rcases List.mem_cons.mp hq with e | hq
  · rw [e]
    exact h
  · exact t q hq
end Mi
namespace Mi
open PySem L2 Evl
end Mi
namespace Mi
open PySem L2 Evl
def rawD (P : Program) (w : World) (D : Addr) (xs : List (NestedKey × Addr × Value)) (h : Heap) : Prop :=
  ∃ o es ep, h.get? D = some o ∧ o.ExactDict ∧ o.data = .dict es ep ∧ es.toList = xs.map (entryOfKey (nestedKind P w)) ∧ (xs.map (·.1)).Nodup ∧ (D == sysModules) = false
theorem rawD.stay {P : Program} {w : World} {D : Addr} {xs : List (NestedKey × Addr × Value)} : ∀ h1 h2 : Heap, rawD P w D xs h1 → (∀ o, h1.get? D = some o → h2.get? D = some o) → rawD P w D xs h2 :=
  fun h1 h2 ⟨o, es, ep, a1, a2⟩ k => ⟨o, es, ep, k o a1, a2⟩
theorem rawD.ok {P : Program} {w : World} {H : Hp} {h : Heap} {D : Addr} {xs : List (NestedKey × Addr × Value)} (r : rawD P w D xs h) : ObjOk P w H h D (.ext (rawD P w D xs)) := by
  obtain ⟨o, es, ep, h1, h2⟩ := id r
  exact ⟨r, ⟨o, h1⟩, rawD.stay⟩
/-- a tuple of whole numbers and None, as a key -/
def PartK (v : V) (k : NestedKey) : Prop := (∃ i, v = .int i ∧ k = .num i) ∨ (v = .non ∧ k = .none)
def RowAt (K : PySem.W.Frag) (H : Hp) (k : NestedKey) (b : Addr) : Prop := ∃ vs ks, SqT K H b vs ∧ k = .tup ks ∧ Paired PartK vs ks
theorem RowAt.mono {K : PySem.W.Frag} {H H' : Hp} {k : NestedKey} {b : Addr} (e : Ex H H') : RowAt K H k b → RowAt K H' k b := fun ⟨vs, ks, h, r⟩ => ⟨vs, ks, ex_t e h, r⟩
end Mi
namespace Mi
open PySem PySem.Spec PyProof.Rows L2 Evl
/-- the new dict -/
theorem rawD.new {X : Cx} {pins : List (Addr × Obj)} {σ : L2.St} {H : Hp} {s : Shared} (I : Inv X pins σ H s) : Inv X pins σ (upd H s.heap.objs.size (.ext (rawD X.prog X.w s.heap.objs.size []))) { s with heap := s.heap.push { cls := .type "dict", data := .dict #[] } } := by
  refine I.laid (t' := s.toks) (fun b o e => Heap.get?_push_of_some _ e) (Nat.le_refl _) (rawD.ok ?_)
  obtain ⟨o, es, ep, h1, h2, h3, h4, _, h6⟩ := Heap.DictOfH.new (knd := nestedKind X.prog X.w) s.heap
  exact ⟨o, es, ep, h1, h2, h3, h4, h6, beq_eq_false_iff_ne.mpr (Nat.ne_of_gt I.big)⟩
end Mi
namespace Mi
open PySem L2 Evl
abbrev Row3 := Int × Int × Option Int
abbrev rRow (K : PySem.W.Frag) : Rp Row3 := rT3 K rInt rInt (rOpt rInt)
def optK : Option Int → NestedKey
  | none => .none
  | some i => .num i
def rowKey (x : Row3) : NestedKey := .tup [.num x.1, .num x.2.1, optK x.2.2]
def RowP (K : PySem.W.Frag) (F : Hp) (p : NestedKey × Addr × Value) (x : Row3) : Prop := p.1 = rowKey x ∧ p.2.2 = .bool true ∧ (rRow K).ok F (.ref p.2.1) x
theorem RowP.mono {K : PySem.W.Frag} {F F' : Hp} (e : Ex F F') {p : NestedKey × Addr × Value} {x : Row3} : RowP K F p x → RowP K F' p x := fun ⟨h1, h2, h3⟩ => ⟨h1, h2, (rRow K).mono e h3⟩
end Mi
namespace Mi
open PySem L2 Evl
end Mi
namespace Mi
open PySem L2 Evl
end Mi
namespace Mi
open PySem L2 Evl
def Itr (P : Program) (w : World) (d : Addr) (o : Obj) (xs : List (NestedKey × Addr × Value)) : It :=
  ⟨fun i H => H d = some (.frz o (.ext (rawD P w d xs))) ∧ i < xs.length, fun i H x H' => H' = H ∧ ∃ p, xs[i]? = some p ∧ x = .ref p.2.1, fun i H => H d = some (.frz o (.ext (rawD P w d xs))) ∧ xs.length ≤ i⟩
end Mi
namespace Mi
open PySem L2 Evl
end Mi
namespace Mi
open PySem L2 Evl
end Mi
namespace Mi
open PySem L2 Evl PyProof.Rows PySem.W
end Mi
namespace Mi
open PySem L2 Evl PyProof.Rows PySem.W
open PyProof.Rows (envOfC)
end Mi
namespace Mi
open PySem L2 Evl
end Mi
namespace Mi
open PySem L2 Evl
end Mi
namespace Mi
open PySem L2 Evl
end Mi
namespace Mi
open PySem L2 Evl
end Mi
namespace Mi
open PySem L2 Evl
open PyProof.Rows (envOfC)
end Mi
namespace Mi
open PySem L2 Evl LamX
open PyProof.Rows (envOfC)
section
variable {Z : Addr → Option Obj} {F H F' H' : Hp} {osT : Os}
theorem fn_remT (fn : Fn (bs0 (addC Z F) (addC Z H) osT) F' H') (fh : Ex F H) (hz : ∀ b o, Z b = some o → H b = none) (hT : ∀ p ∈ osT, Z p.1 = none) : Fn (bs0 F H osT) (remC Z F') (remC Z H') := by
  have zF : ∀ b u, F b = some u → Z b = none := fun b u e => by
    cases q : Z b with
    | none => rfl
    | some o => rw [fresh_back fh (hz b o q)] at e; cases e
  have bf : Ex F (remC Z F') := fun b u e => by
    rw [remC_none (zF b u e)]
    exact fn.bf b u (by show addC Z F b = _; rw [addC_none (zF b u e)]; exact e)
  refine ⟨ex_remC fn.fh, bf, bf, fh, fun a ha => ?_, fun a o h1 h2 h3 => ?_⟩
  · obtain ⟨o, e⟩ := fn.ios a ha
    obtain ⟨p, hp, ep⟩ := List.mem_map.mp ha
    exact ⟨o, by rw [remC_none (by rw [← ep]; exact hT p hp)]; exact e⟩
  · have q : Z a = none := by
      cases q : Z a with
      | none => rfl
      | some u => rw [show (bs0 F H osT).H a = H a from rfl, hz a u q] at h2; cases h2
    rw [remC_none q, remC_none q]
    exact fn.keep a o (by show addC Z F a = none; rw [addC_none q]; exact h1) (by show addC Z H a = _; rw [addC_none q]; exact h2) h3
theorem fn_addT (fn : Fn (bs0 (remC Z F) (remC Z H) osT) F' H') (fh : Ex F H) (hz : ∀ b o, Z b = some o → F b = some (cellHO b o)) (hf : ∀ b o, Z b = some o → H' b = none) (hT : ∀ p ∈ osT, Z p.1 = none) : Fn (bs0 F H osT) (addC Z F') (addC Z H') := by
  have bf : Ex F (addC Z F') := fun b u e => by
    cases q : Z b with
    | none => rw [addC_none q]; exact fn.bf b u (by show remC Z F b = _; rw [remC_none q]; exact e)
    | some o =>
      rw [hz b o q] at e
      rw [addC_some q, e]
  refine ⟨ex_addC fn.fh, bf, bf, fh, fun a ha => ?_, fun a o h1 h2 h3 => ?_⟩
  · obtain ⟨o, e⟩ := fn.ios a ha
    obtain ⟨p, hp, ep⟩ := List.mem_map.mp ha
    exact ⟨o, by rw [addC_none (by rw [← ep]; exact hT p hp)]; exact e⟩
  · have q : Z a = none := by
      cases q : Z a with
      | none => rfl
      | some u => rw [show (bs0 F H osT).F a = F a from rfl, hz a u q] at h1; cases h1
    rw [addC_none q, addC_none q]
    exact fn.keep a o (by show remC Z F a = none; rw [remC_none q]; exact h1) (by show remC Z H a = _; rw [remC_none q]; exact h2) h3
end
/-- what is said of one's own leans on no cell -/
def OwnZ (ow : Own) : Prop := ∀ (P : Program) (w : World) (F H : Hp) (h : Heap) (Z : Addr → Option Obj), HOk P w H h → Ex F H → (∀ b o, Z b = some o → F b = some (cellHO b o) ∧ ∃ v, o.data = .cell v) → ∀ o, ow.ok F o → ow.ok (remC Z F) o
section
variable {X : Cx} {B : Bs} {env : Env} {os osT : Os} {ι ρ : Type} {args : ι → Env} {wf : ι → W ρ} {ro : Rp ρ} {k : Nat} {f : Addr} {fd : FuncData} {ps : List Str}
theorem callCT {pins : List (Addr × Obj)} {σ : L2.St} {F H : Hp} {s : Shared} {us : List Value} {vs : List V} {P : ρ → Prop} {Q : VK} (G : FnOk X.prog X.w X.K X.mg X.base CX0 k f fd ps (spW args (fun _ => osT) wf ro)) (ho : OsLe os osT) (hnd : (osT.map (·.1)).Nodup) (hoz : ∀ p ∈ osT, OwnZ p.2) (hr : Room k X.A) (hb : Binds X.K fd ps [])
    (hstk : X.stack = X.env :: X.outer) (hfr : X.env.frame = some X.env.locals) (hfn : ∀ x, X.fn x = true) (I : Inv X pins σ H s) (S : Sit B F H σ env os) (r : Vals vs us) (i : ι) (hargs : EnvOk (addC (cellZ X s.heap) F) (args i) (vs.map some)) (hw : wf i P (fun _ => False)) (pl : PlR ro)
    (kk : ∀ z, P z → ∀ v F' H', Sit B F' H' σ env os → Ex F F' → ro.ok F' v z → Q v H') : wpAny (model X.prog X.w) X.A (call (.ref f) us) (EP X pins σ Q) X.xe s := by
  have zok : ∀ b o, cellZ X s.heap b = some o → s.heap.get? b = some o ∧ H b = none ∧ b ∉ frs X.stack ∧ X.base.get? b = none := fun b o e => by
    obtain ⟨⟨y, h1⟩, h2⟩ := cellZ_of e
    have above := I.ok.cab y b (hfn y) h1
    refine ⟨h2, I.freeC y b h1, fun hm => ?_, ?_⟩
    · rw [hstk] at hm
      obtain ⟨en, hen, q⟩ := List.mem_filterMap.mp hm
      rcases List.mem_cons.mp hen with z | z
      · subst z
        rw [hfr] at q
        have q : X.env.locals = b := Option.some.inj q
        obtain ⟨m, ⟨oL, es, ep, e1, e2, _⟩, _⟩ := I.loc
        obtain ⟨v, oc, e3, e4⟩ := I.cell y b h1
        rw [q, e3] at e1
        cases e1
        rw [e4] at e2
        cases e2
      · obtain ⟨_, o', e', _⟩ := I.ok.funs.mem (List.mem_filterMap.mpr ⟨en, z, q⟩)
        exact absurd (Heap.lt_size e') (Nat.not_lt.mpr above)
    · cases z : X.base.get? b with
      | none => rfl
      | some o' => exact absurd (Heap.lt_size (I.ok.bs b o' z).1) (Nat.not_lt.mpr above)
  have zH : ∀ b o, cellZ X s.heap b = some o → H b = none := fun b o e => (zok b o e).2.1
  have e0 := env0_add I.env0 zok
  have zT : ∀ p ∈ osT, cellZ X s.heap p.1 = none := fun p hp => by
    cases z : cellZ X s.heap p.1 with
    | none => rfl
    | some o =>
      obtain ⟨_, ⟨u, hu, _⟩, _⟩ := S.ow p (ho p hp)
      rw [zH _ o z] at hu
      cases hu
  have hsp : spW args (fun _ => osT) wf ro vs (addC (cellZ X s.heap) H) (fun v H' => (∀ b o, cellZ X s.heap b = some o → H' b = some (cellHO b o)) ∧ ∃ x F', P x ∧ Fn (bs0 (addC (cellZ X s.heap) F) (addC (cellZ X s.heap) H) osT) F' H' ∧ OsOk (bs0 (addC (cellZ X s.heap) F) (addC (cellZ X s.heap) H) osT) F' H' osT ∧ ro.ok F' v x) E0 := by
    refine ⟨i, addC (cellZ X s.heap) F, P, ex_addC S.fh, hargs, fun p hp => ?_, hnd, hw, fun x hx v F' H' fn ow ok => ⟨fun b o e => fn.fh _ _ (fn.bf _ _ (addC_some e)), x, F', hx, fn, ow, ok⟩⟩
    obtain ⟨y1, ⟨o, y2, y3⟩, _⟩ := S.ow p (ho p hp)
    exact ⟨by rw [addC_none (zT p hp)]; exact y1, o, by rw [addC_none (zT p hp)]; exact y2, p.2.mono (ex_add fun b o z => fresh_back S.fh (zH b o z)) y3⟩
  have hl : us.length = ps.length := by rw [← r.length]; exact G.len _ _ _ _ hsp
  have b := hb s us I.kIn (by rw [List.append_nil]; exact hl)
  rw [List.append_nil] at b
  refine wpAny_call (codeAny_mono (G.run X.A X.stack s (addC (cellZ X s.heap) H) ⟨us, []⟩ us vs _ E0 hr e0 b r hsp) fun res s' hq => ?_)
  cases res with
  | error e => exact False.elim hq
  | ok fl =>
    cases fl with
    | ret u =>
      obtain ⟨v, H', os', bare, un, hok, rv, hc, x, F', hx, fn, ow, ok⟩ := hq
      have f2 := fn_remT fn S.fh zH zT
      refine I.after ⟨v, remC (cellZ X s.heap) H', os', bare, un_rem un hok (fun b o e => ⟨(zok b o e).1, (zok b o e).2.1, (zok b o e).2.2.1⟩) hc, hok_rem hok hc, rv, kk x hx v _ _ (S.back ho f2 fun p hp => ?_) f2.bf (pl _ _ _ _ (fun a o e n => ?_) ok)⟩
      · obtain ⟨y1, ⟨o, y2, y3⟩, y4⟩ := ow p hp
        exact ⟨by rw [remC_none (zT p hp)]; exact y1, ⟨o, by rw [remC_none (zT p hp)]; exact y2, hoz p hp _ _ F' H' _ _ hok fn.fh (fun b o z => ⟨fn.bf _ _ (addC_some z), by
          obtain ⟨⟨y, q1⟩, q2⟩ := cellZ_of z
          obtain ⟨v, o', ho', hd'⟩ := I.cell y b q1
          rw [q2] at ho'
          cases ho'
          exact ⟨v, hd'⟩⟩) o y3⟩, .inr (List.mem_map_of_mem hp)⟩
      · cases q : cellZ X s.heap a with
        | none => rw [remC_none q]; exact e
        | some o' =>
          have z := fn.bf _ _ (addC_some (H := F) q)
          rw [z] at e
          cases e
          exact absurd rfl (n _)
    | next => exact False.elim hq
    | brk => exact False.elim hq
    | cont => exact False.elim hq
/-- f(e), e a list of lambdas or one: lifted to closures -/
theorem e_callCT {x : Str} {e : Expr} {p pos : Pos} {α : Type} {rr : Rp α} {w : W α} (i : ι) (G : FnOk X.prog X.w X.K X.mg X.base CX0 k f fd ps (spW args (fun _ => osT) wf ro)) (ho : OsLe os osT) (hnd : (osT.map (·.1)).Nodup) (hoz : ∀ p ∈ osT, OwnZ p.2) (hr : Room k X.A) (hm : X.mg x = some (.ref f)) (hk : PySem.W.keepIn X.K (.ref f) = true) (hb : Binds X.K fd ps [])
    (ha : EE X B env os e rr w) (hstk : X.stack = X.env :: X.outer) (hfr : X.env.frame = some X.env.locals) (hfn : ∀ x, X.fn x = true) (pl : PlR ro)
    (conv : ∀ (pins : List (Addr × Obj)) (σ : L2.St) (F H : Hp) (s : Shared) (v : V) (y : α), Inv X pins σ H s → Sit B F H σ env os → rr.ok F v y → EnvOk (addC (cellZ X s.heap) F) (args i) [some v])
    (hg : Gl X x := by rfl) (hdb : (x == ("__debug__" : Str)) = false := by decide) (he : starEach [e] X.env = (false, eval e X.env) :: starEach [] X.env := by rfl) (hpl : (backTo pos (starEach [] X.env)).any (·.1) = false := by rfl) :
    EE X B env os (.Call (.Name x p) [e] [] pos) ro (bnd w fun _ => noX (wf i)) := by
  refine ⟨fun pins s σ H Q I ⟨F, P, S, hw, kk⟩ => ?_⟩
  refine wpAny_Call_Name_kw (ld_glob I hg hm ?_ hdb)
  have pa : PA X [e] (tCons (tOf B env os rr w) tNil) := pa_cons ha pa_nil he
  refine PySem.W.callWith_K (h₀ := X.base) I.ok.mod.kin hk (thn (pa.run pos pins s σ H (fun vs H1 => ∃ v F1 y, vs = [v] ∧ Sit B F1 H1 σ env os ∧ Ex F F1 ∧ rr.ok F1 v y ∧ noX (wf i) P B.E0) I ⟨F, _, S, hw, fun y hy v F1 H1 S1 e1 ok => ⟨v, F1, y, rfl, S1, e1, ok, hy⟩⟩) fun us s1 ⟨vs, H1, I1, r, v, F1, y, ev, S1, e1, ok, hw1⟩ => ⟨I1.kIn, ?_⟩) he hpl
  subst ev
  exact callCT G ho hnd hoz hr hb hstk hfr hfn I1 S1 r i (conv pins σ F1 H1 s1 v y I1 S1 ok) hw1 pl fun z hz v F' H' S' e' ok' => kk z hz v F' H' S' (e1.trans e') ok'
end
end Mi
namespace Mi
open PySem L2 Evl LamX
open PyProof.Rows (envOfC IntsAre AllBare)
end Mi
namespace Mi
open PySem L2 Evl LamX
end Mi
namespace GenFr
open PySem
open Sem (wp)
/-- the same to look at, never to be resumed -/
def kill : GenState → GenState
  | .suspended _ l c p fs cl => .suspended (fun _ => .unsupported "") l c p fs cl
  | x => x
theorem kill_bare (x : GenState) : (kill x).bare = x.bare := by cases x <;> rfl
def Frame.isGen : Frame → Bool
  | .gen .. => true
  | _ => false
def NoG (fs : List Frame) : Prop := ∀ F ∈ fs, Frame.isGen F = false
def NoS : GenState → Prop
  | .suspended _ _ _ _ fs _ => NoG fs
  | _ => True
abbrev Fz := Nat → Option GenState
/-- what f tells of is suspended and killed in s; all else that is suspended holds no other generator's frame -/
structure Kd (f : Fz) (s : Shared) : Prop where
  dead : ∀ i X, f i = some X → s.gens[i]? = some (kill X) ∧ ∃ k l c p fs cl, X = .suspended k l c p fs cl
  wf : ∀ i x, f i = none → s.gens[i]? = some x → NoS x
def back (f : Fz) (s : Shared) : Shared := { s with gens := s.gens.mapIdx fun i x => (f i).getD x }
section
variable {f : Fz} {s : Shared} {g : Nat} {x y : GenState}
theorem back_size : (back f s).gens.size = s.gens.size := by simp [back]
theorem back_at (h : s.gens[g]? = some x) : (back f s).gens[g]? = some ((f g).getD x) := by
  simp [back, h]
theorem Kd.free (K : Kd f s) (h : s.gens[g]? = some x) (hx : ∀ k l c p fs cl, x ≠ .suspended k l c p fs cl) : f g = none := by
  cases q : f g with
  | none => rfl
  | some X =>
    obtain ⟨e, k, l, c, p, fs, cl, e2⟩ := K.dead g X q
    subst e2
    rw [h] at e
    exact (hx _ _ _ _ _ _ (Option.some.inj e)).elim
theorem Kd.set (K : Kd f s) (h : f g = none) (hy : NoS y) : Kd f (s.setGen g y) := ⟨fun i X e => by
  obtain ⟨e1, e2⟩ := K.dead i X e
  refine ⟨?_, e2⟩
  have q : g ≠ i := fun z => by
    subst z
    rw [h] at e
    cases e
  show (s.gens.setIfInBounds g y)[i]? = _
  rw [Array.getElem?_setIfInBounds_ne q]
  exact e1, fun i x e ex => by
  have ex : (s.gens.setIfInBounds g y)[i]? = some x := ex
  by_cases q : g = i
  · subst q
    rw [Array.getElem?_setIfInBounds] at ex
    split at ex
    · split at ex
      · cases ex
        exact hy
      · cases ex
    · exact K.wf g x e ex
  · rw [Array.getElem?_setIfInBounds_ne q] at ex
    exact K.wf i x e ex⟩
theorem Kd.push (K : Kd f s) (c : Code) : Kd f ({ s with gens := s.gens.push (.fresh c) } : Shared) := ⟨fun i X e => by
  obtain ⟨e1, e2⟩ := K.dead i X e
  have hl := (Array.getElem?_eq_some_iff.mp e1).1
  refine ⟨?_, e2⟩
  show (s.gens.push (.fresh c))[i]? = _
  rw [Array.getElem?_push_lt hl, ← e1, Array.getElem?_eq_getElem hl], fun i x e ex => by
  have ex : (s.gens.push (.fresh c))[i]? = some x := ex
  rw [Array.getElem?_push] at ex
  split at ex
  · cases ex
    trivial
  · exact K.wf i x e ex⟩
theorem Kd.heap (K : Kd f s) {s' : Shared} (h : s'.gens = s.gens) : Kd f s' := ⟨fun i X e => by rw [h]; exact K.dead i X e, fun i x e ex => K.wf i x e (by rw [← h]; exact ex)⟩
end
end GenFr
namespace Mi
open PySem L2 Evl GenFr
open PyProof.Rows (AllBare)
theorem bare_back {f : Fz} {s : Shared} (K : Kd f s) (h : AllBare s.gens) : AllBare (back f s).gens := fun y hy => by
  obtain ⟨i, hi, e⟩ := Array.getElem_of_mem hy
  have hl : i < s.gens.size := by
    have := hi
    rwa [back_size] at this
  have z := back_at (f := f) (Array.getElem?_eq_getElem hl)
  rw [Array.getElem?_eq_getElem hi, e] at z
  have z := Option.some.inj z
  cases q : f i with
  | none =>
    rw [q, Option.getD_none] at z
    rw [z]
    exact h _ (Array.getElem_mem hl)
  | some X =>
    rw [q, Option.getD_some] at z
    have k := (K.dead i X q).1
    rw [Array.getElem?_eq_getElem hl] at k
    have k := Option.some.inj k
    have b := h _ (Array.getElem_mem hl)
    rw [k, kill_bare] at b
    rw [z]
    exact b
section
variable {X : Cx} {pins : List (Addr × Obj)} {σ : L2.St} {H : Hp} {s : Shared}
theorem _root_.L2.Inv.back {f : Fz} (I : L2.Inv X pins σ H s) (K : Kd f s) : L2.Inv X pins σ H (back f s) := ⟨I.ok, I.os, bare_back K I.bare, I.base, I.loc, I.cell, I.free, I.freeC, I.pin, I.hok, I.len⟩
/-- every suspended generator of s stands as it stood -/
def Stand (s s' : Shared) : Prop := ∀ (g : Nat) k l c p fs cl, s.gens[g]? = some (.suspended k l c p fs cl) → s'.gens[g]? = some (.suspended k l c p fs cl)
theorem Stand.refl (s : Shared) : Stand s s := fun _ _ _ _ _ _ _ h => h
theorem Stand.trans {s s1 s2 : Shared} (a : Stand s s1) (b : Stand s1 s2) : Stand s s2 := fun g k l c p fs cl h => b _ _ _ _ _ _ _ (a _ _ _ _ _ _ _ h)
end
end Mi
namespace GenFor
open PySem PySem.Spec PyProof.Rows GenW L2
end GenFor
namespace Gen1
open PySem PySem.Spec PyProof.Rows GenW L2 GenFor
abbrev Done1 := Result → Shared → Prop
abbrev Out1 := Value → Shared → (Resume → Sem PySem.Fin) → Code → List Frame → Prop
def End1 (R : Done1) (Z : Out1) (e : End) (s : Shared) : Prop := match e with
  | .ret r => R r s
  | .susp v g l k c p fs => (End.susp v g l k c p fs).quiet = true ∧ Z v s k c fs
def Seg1 (M : Model) (A : Around) (R : Done1) (Z : Out1) (c : Code) (t : Sem PySem.Fin) (fs : List Frame) (s : Shared) : Prop :=
  ∀ Γ p, Γ.code = c → Γ.Woken A → ∃ e s', Runs M Γ p t fs s e s' ∧ End1 R Z e s'
section
variable {M : Model} {A : Around} {R : Done1} {Z : Out1} {c : Code} {fs : List Frame} {s : Shared} {env : Env}
  {K : Flow → Sem PySem.Fin} {J : Value → Sem PySem.Fin} {gd : Bool → Bool} {lv : List Value → List Value}
theorem one_call {c' : Code} {h g l} {k : Result → Sem PySem.Fin} (hc : ∀ p, Seg1 M A R Z c' (M.den c') (.ret k h g l c p [] :: fs) s) : Seg1 M A R Z c (.call c' h g l k) fs s := by
  rintro Γ p rfl hΓ
  obtain ⟨e, s', hr, he⟩ := hc p (Γ.goto c') p rfl (hΓ.goto c')
  exact ⟨e, s', runs_call_seg hr, he⟩
end
end Gen1
namespace Gen1
open PySem PySem.Spec PyProof.Rows GenW L2 GenFor
end Gen1
namespace Gen1
open PySem PySem.Spec PyProof.Rows GenW L2 GenFor
/-- the loop's code: x runs over the list's iterator at `it` -/
structure Lp where
  x : Str
  it : Addr
  li : Addr
  env : Env
  p0 : Pos
  p1 : Pos
  p2 : Pos
  p3 : Pos
abbrev Lp.code (L : Lp) : Code := .forLoop (.Name L.x L.p0) (.ref L.it) [.Expr (.Yield (some (.Name L.x L.p1)) L.p2) L.p3] [] L.env
/-- what the loop needs of its frame -/
structure Lp.Ok (L : Lp) : Prop where
  kind : L.env.scope.kind = .function
  loc : L.env.kindOf L.x = some .local
  co : L.env.scope.isCoroutine = false
  plain : (L.env.scope.kind == .class || (L.env.scope.kind == .module && L.env.locals != L.env.globals)) = false
  debug : (L.x == ("__debug__" : Str)) = false
  inter : interactive L.env = false
/-- what the suspended loop needs of the heap -/
structure Lp.At (L : Lp) (its : Array Value) (i : Nat) (h : Heap) : Prop where
  iter : h.IsListIter L.it L.li i
  list : h.IsList L.li its
  ns : ∃ m, h.Ns L.env.locals m
/-- suspended in the loop -/
def Sus (M : Model) (L : Lp) (fs : List Frame) (gs : GenState) : Prop := ∃ k l p, gs = .suspended k l L.code p fs false ∧
  ∀ (A : Around) (R : Done1) (Z : Out1) (s : Shared), Seg1 M A R Z L.code (.pure (.again L.code)) fs s → Seg1 M A R Z L.code (k (.send .none)) fs s
end Gen1
namespace Gen1
open PySem PySem.Spec PyProof.Rows GenW L2 GenFor
end Gen1
namespace Gen1
open PySem PySem.Spec PyProof.Rows GenW L2 GenFor
/-- what is dead stays dead -/
structure Dead (h h' : Heap) : Prop where
  sz : h.objs.size ≤ h'.objs.size
  dead : ∀ b, b < h.objs.size → h.get? b = none → h'.get? b = none
theorem Dead.refl (h : Heap) : Dead h h := ⟨Nat.le_refl _, fun _ _ e => e⟩
theorem Dead.trans {h h1 h2 : Heap} (a : Dead h h1) (b : Dead h1 h2) : Dead h h2 := ⟨Nat.le_trans a.sz b.sz, fun c hc e => b.dead c (Nat.lt_of_lt_of_le hc a.sz) (a.dead c hc e)⟩
theorem Dead.push {h : Heap} {o : Obj} : Dead h (h.push o) := ⟨by rw [Heap.size_push]; exact Nat.le_succ _, fun b hb e => by
  rw [← e]
  unfold Heap.get?
  rw [show (h.push o).objs = h.objs.push o from rfl, Array.getElem?_push_lt hb, Array.getElem?_eq_getElem hb]⟩
/-- what lies below the mark is as it was -/
def Below (h h' : Heap) : Prop := ∀ b, b < h.objs.size → h'.get? b = h.get? b
theorem Below.push (h : Heap) (o : Obj) : Below h (h.push o) := fun b hb => by
  unfold Heap.get?
  rw [show (h.push o).objs = h.objs.push o from rfl, Array.getElem?_push_lt hb, Array.getElem?_eq_getElem hb]
theorem Below.trans {h h1 h2 : Heap} (a : Below h h1) (b : Below h1 h2) (hs : h.objs.size ≤ h1.objs.size) : Below h h2 := fun c hc => (b c (Nat.lt_of_lt_of_le hc hs)).trans (a c hc)
theorem Below.cells : ∀ (names : List (Str × NameKind)) (h : Heap), Below h (pushCells h names)
  | [], _ => fun _ _ => rfl
  | (_, kind) :: r, h => by
    unfold pushCells
    split
    · exact (Below.push h _).trans (Below.cells r _) (by rw [Heap.size_push]; exact Nat.le_succ _)
    · exact Below.cells r h
end Gen1
namespace Gen1
open PySem PySem.Spec PyProof.Rows GenW L2 GenFor
/-- it raises nothing -/
abbrev E0 : XK := fun _ _ _ => False
end Gen1
namespace Gen1
open PySem PySem.Spec PyProof.Rows GenW L2 GenFor
end Gen1
namespace Gen1
open PySem PySem.Spec PyProof.Rows GenW L2 GenFor GenFr
end Gen1
namespace Gen1
open PySem PySem.Spec PyProof.Rows GenW L2 GenFor GenFr
/-- the loop's state: the generator is suspended at i, nobody looks at its objects -/
structure SSt (B : Cx) (L : Lp) (fs : List Frame) (a : Addr) (g : Nat) (its : Array Value) (i : Nat) (H : Hp) (s : Shared) : Prop where
  sus : ∃ gs, s.gens[g]? = some gs ∧ Sus (model B.prog B.w) L fs gs
  pos : L.At its i s.heap
  gen : s.heap.IsGen a g
  fp : ∀ b ∈ [a, L.env.locals, L.it, L.li], FpOk B [] H b
theorem SSt.obj {B : Cx} {L : Lp} {fs : List Frame} {a : Addr} {g : Nat} {its : Array Value} {i : Nat} {h : Heap} (hp : L.At its i h) (hg : h.IsGen a g) : ∀ b ∈ [a, L.env.locals, L.it, L.li], ∃ o, h.get? b = some o ∧ ∀ v, o.data ≠ .cell v := fun b hb => by
  have hb : b = a ∨ b = L.env.locals ∨ b = L.it ∨ b = L.li := by simpa using hb
  rcases hb with z | z | z | z <;> rw [z]
  · obtain ⟨o, _, _, e, _, d, _⟩ := hg
    exact ⟨o, e, fun v y => by rw [d] at y; cases y⟩
  · obtain ⟨m, o, es, ep, e, d, _⟩ := hp.ns
    exact ⟨o, e, fun v y => by rw [d] at y; cases y⟩
  · obtain ⟨o, e, _, d⟩ := hp.iter
    exact ⟨o, e, fun v y => by rw [d] at y; cases y⟩
  · obtain ⟨o, e, _, n, d⟩ := hp.list
    exact ⟨o, e, fun v y => by rw [d] at y; cases y⟩
end Gen1
namespace Mi
open PySem L2
open PySem.W HeadRun in
theorem pairO {α β γ δ : Type} {o : Option α} {f : α → β} {g : α → γ} {h : α → δ} {b : β} {c : γ} {d : δ} (e1 : o.map f = some b) (e2 : o.map g = some c) (e3 : o.map h = some d) : o.map (fun x => (f x, g x, h x)) = some (b, c, d) := by
  cases o with
  | none => cases e1
  | some x =>
    cases e1
    cases e2
    cases e3
    rfl
open PySem.W HeadRun in
theorem pair2 {α γ δ : Type} {o : Option α} {g : α → γ} {h : α → δ} {c : γ} {d : δ} (e2 : o.map g = some c) (e3 : o.map h = some d) : o.map (fun x => (g x, h x)) = some (c, d) := by
  cases o with
  | none => cases e2
  | some x =>
    cases e2
    cases e3
    rfl
section
open PySem.W HeadRun PySem.Calls
variable {r : OpenRow} {q : Program} {K : Params → Frag} {as ts : List Addr} {ek : ∀ P, as = (K P).map (·.1)} {loose : List PySem.Str} {d : DefRec} {kwd : List (PySem.Str × PySem.Expr)}
abbrev obT (as ts : List Addr) (s : SharedT) : List (Option Obj) × List (Option Obj) := (as.map (getT s), ts.map (getT s))
theorem obT_eq (s : SharedT) : obT as ts s = (kmHook K as ek ts).obs s.abs := by
  show (as.map (getT s), ts.map (getT s)) = (as.map s.abs.heap.get?, ts.map s.abs.heap.get?)
  rw [show (getT s) = s.abs.heap.get? from funext (getT_eq s)]
/-- a law of a program with imports at its head; the view q holds them -/
theorem head_i (N : Nat) (r1 : ∀ w : World, (wholeF (fun p => stepQ (denQ tabQ) p w) fenceQ N r.prog).map (fun x => looksF r.prog x.1.heap x.2.abs) = some true)
    (r2 : ∀ w : World, (wholeF (fun p => stepQ (denQ tabQ) p w) fenceQ N r.prog).map (fun x => seenQ q loose (importedModules r.prog.main.body) (fun s => xlAt q [] s && recOk r.toRowW.records s) x.2.abs) = some (openGood q loose))
    (r3 : ∀ w : World, (wholeF (fun p => stepQ (denQ tabQ) p w) fenceQ N r.prog).map (fun x => as.map (getT x.2)) = some ((K w.params).map fun p => some p.2))
    (r4 : ∀ w : World, (wholeF (fun p => stepQ (denQ tabQ) p w) fenceQ N r.prog).map (fun x => ts.map (getT x.2)) = some (ts.map fun _ => some (tabObj #[])))
    (hdef : defOf q r.name = some (d, kwd)) (hp : r.prog.theDef r.name = some (d.params, d.body, d.scope)) (hk : kwWritten? d.params.kwonlyargs d.params.kw_defaults = some kwd)
    (hwr : (!r.writes || r.records.isEmpty) = true) (k1 : r.wellSaid = true) (ok : (chainsOk q && opensWell r.prog && (frees r.toRowW && r.within.isEmpty)) = true) (hb : r.prog.bare) (hw : r.toRowW.promised)
    (call : WalkO q loose (XL q []) (kmHook K as ek ts).says r.toRowW d kwd fun f vs => PySem.call f vs) : r.Holds :=
  head_imp (H := kmHook K as ek ts) (ob := obT as ts) (M := N) (fun s => obT_eq s) (fun w => by
    unfold RunEqI
    exact pairO (r1 w) (r2 w) (pair2 (r3 w) (r4 w))) hdef hp hk hwr k1 ok hb hw call
end
end Mi
namespace Gen1
open PySem PySem.Spec PyProof.Rows GenW L2 GenFor GenFr
end Gen1
namespace Mi
open PySem L2 Evl Gen1
open PyProof.Rows (envOfC)
end Mi
namespace Mi
open PySem L2 Evl
end Mi
namespace Mi
open PySem L2 Evl
end Mi
namespace ZipG
open PySem
open PySem.Sem (wp)
abbrev nx (u : Value) : Sem Value := Builtin.SmallTypes.nextOf u
section
variable {P : Program} {w : World} {A : Around} {E : Value → Shared → Prop} {s : Shared} {z TI TO T : Addr} {u1 u2 : Value}
/-- what is wanted where an inner one raises while the zip's own tuple is in use -/
def ErZ (z TI TO : Addr) (E : Value → Shared → Prop) : Value → Shared → Prop := fun e s' => IsZip s'.heap z TI TO .ellipsis ∧ ∀ h', IsZip h' z TI TO .none → Heap.SameBut z s'.heap h' → E e { s' with heap := h' }
theorem erz {m : Sem α} {Q : α → Shared → Prop} (h : wpAny (model P w) A m Q (ErZ z TI TO E) s) : wpAny (model P w) A (m.onRaise fun _ => setField (.ref z) 0 .none) Q E s :=
  wpAny_onRaise (wpAny_mono h (fun _ _ q => q) fun e s' ⟨hz, q⟩ => wpAny_setField_rec hz (by simp) fun h' hz' hs' => q h' hz' hs')
/-- the first tuple of a zip, or one behind a tuple that is gone -/
theorem zip_first {Q : Value → Shared → Prop} (hz : IsZip s.heap z TI TO .none) (hTI : IsPair s.heap TI u1 u2) (hne : TO ≠ z)
    (h : ∀ k1, IsZip k1 z TI TO .ellipsis → Heap.SameBut z s.heap k1 → wpAny (model P w) A (nx u1) (fun x s2 => ∃ a b, IsPair s2.heap TO a b ∧ IsZip s2.heap z TI TO .ellipsis ∧ ∀ k3, IsPair k3 TO x b → Heap.SameBut TO s2.heap k3 →
      wpAny (model P w) A (nx u2) (fun y s4 => IsPair s4.heap TO x b ∧ IsZip s4.heap z TI TO .ellipsis ∧ ∀ k6, IsZip k6 z TI TO (rawInt s4.heap.objs.size) → IsPair k6 TO x y → IsPair k6 s4.heap.objs.size x y → k6.objs.size = s4.heap.objs.size + 1 →
        (∀ c o, c ≠ z → c ≠ TO → s4.heap.get? c = some o → k6.get? c = some o) → Q (.ref s4.heap.objs.size) { s4 with heap := k6 }) (ErZ z TI TO E) { s2 with heap := k3 }) (ErZ z TI TO E) { s with heap := k1 }) :
    wpAny (model P w) A (Builtin.«zip.__next__» ⟨[.ref z], []⟩) (fun fin s' => ∃ v, fin = .done (.ret v) ∧ Q v s') E s := by
  show wpAny _ _ (field (.ref z) 2 >>= _) _ _ _
  refine wpAny_bind (wpAny_field hz rfl (x := .bool false) rfl ?_)
  show wpAny _ _ (field (.ref z) 3 >>= _) _ _ _
  refine wpAny_bind (wpAny_field hz rfl (x := .ref TI) rfl (wpAny_bind (wpAny_seqItems hTI rfl ?_)))
  show wpAny _ _ (Builtin.SmallTypes.ownedTupleIsFree (.ref z) >>= _) _ _ _
  refine wpAny_bind ?_
  unfold Builtin.SmallTypes.ownedTupleIsFree
  refine wpAny_bind (wpAny_field hz rfl (x := .none) rfl (wpAny_pure ?_))
  simp only [if_true]
  refine wpAny_bind (wpAny_rule (wpAny_bind (wpAny_field hz rfl (x := .ref TO) rfl (wpAny_bind (wpAny_setField_rec hz (by simp) fun k1 z1 b1 => ?_)))))
  have z1 : IsZip k1 z TI TO .ellipsis := z1
  refine wpAny_bind ?_
  simp only [List.zipIdx_cons, List.zipIdx_nil, List.forIn_cons, List.forIn_nil]
  refine wpAny_bind (wpAny_bind (erz (TI := TI) (TO := TO) ?_))
  show wpAny _ _ (nx u1 >>= _) _ _ _
  refine wpAny_bind (wpAny_mono (h k1 z1 b1) (fun x s2 ⟨a, b, p2, z2, q2⟩ => wpAny_pure ?_) fun _ _ e => e)
  refine wpAny_bind (wpAny_seqItems p2 rfl (wpAny_bind (wpAny_updateSeq_pair p2 fun k3 p3 b3 => wpAny_bind (wpAny_letGo (wpAny_pure ?_)))))
  have p3 : IsPair k3 TO x b := p3
  refine wpAny_bind (wpAny_bind (erz (TI := TI) (TO := TO) ?_))
  show wpAny _ _ (nx u2 >>= _) _ _ _
  refine wpAny_bind (wpAny_mono (q2 k3 p3 b3) (fun y s4 ⟨p4, z4, q4⟩ => wpAny_pure ?_) fun _ _ e => e)
  refine wpAny_bind (wpAny_seqItems p4 rfl (wpAny_bind (wpAny_updateSeq_pair p4 fun k5 p5 b5 => wpAny_bind (wpAny_letGo (wpAny_pure (wpAny_pure ?_))))))
  have p5 : IsPair k5 TO x y := p5
  have sz : k5.objs.size = s4.heap.objs.size := b5.1
  have z5 : IsZip k5 z TI TO .ellipsis := b5.extBut _ _ (Ne.symm hne) z4
  refine wpAny_bind (wpAny_seqItems p5 rfl (wpAny_bind (wpAny_newTuple ?_)))
  show wpAny _ _ (Builtin.SmallTypes.ownedTupleHandOut (.ref z) (.ref k5.objs.size) >>= _) _ _ _
  refine wpAny_bind ?_
  unfold Builtin.SmallTypes.ownedTupleHandOut
  have z6 : IsZip (k5.push { cls := .type "tuple", data := .seq #[x, y] }) z TI TO .ellipsis := Heap.get?_push_of_some _ z5
  refine wpAny_bind (wpAny_setField_rec z6 (by simp) fun k7 z7 b7 => ?_)
  have z7 : IsZip k7 z TI TO (rawInt k5.objs.size) := z7
  refine wpAny_setField_rec z7 (by simp) fun k8 z8 b8 => wpAny_pure ⟨_, rfl, ?_⟩
  have z8 : IsZip k8 z TI TO (rawInt k5.objs.size) := z8
  have up : ∀ c o, c ≠ z → k5.get? c = some o → k8.get? c = some o := fun c o c1 e => b8.extBut _ _ c1 (b7.extBut _ _ c1 (Heap.get?_push_of_some _ e))
  have zl : k5.objs.size ≠ z := Nat.ne_of_gt (Heap.lt_size z5)
  have t8 : IsPair k8 k5.objs.size x y := b8.extBut _ _ zl (b7.extBut _ _ zl (Heap.get?_push_size _ rfl))
  have s8 : k8.objs.size = k5.objs.size + 1 := by rw [b8.1, b7.1, Heap.size_push]
  rw [sz] at z8 t8 s8
  show Q (.ref k5.objs.size) _
  rw [sz]
  exact q4 k8 z8 (up _ _ hne p5) t8 s8 fun c o c1 c2 e => up c o c1 (b5.extBut _ _ c2 e)
/-- a later tuple of a zip, the one before still there -/
theorem zip_later {f : Bool} {oT : Obj} {Q : Value → Shared → Prop} (hz : IsZipHeld s.heap z TI TO T f) (hT : s.heap.get? T = some oT) (hTI : IsPair s.heap TI u1 u2)
    (h : ∀ k1, IsZipHeld k1 z TI TO T true → Heap.SameBut z s.heap k1 → wpAny (model P w) A (nx u1) (fun x s2 => wpAny (model P w) A (nx u2) (fun y s3 => Q (.ref s3.heap.objs.size) { s3 with heap := s3.heap.push { cls := .type "tuple", data := .seq #[x, y] } }) E s2) E { s with heap := k1 }) :
    wpAny (model P w) A (Builtin.«zip.__next__» ⟨[.ref z], []⟩) (fun fin s' => ∃ v, fin = .done (.ret v) ∧ Q v s') E s := by
  show wpAny _ _ (field (.ref z) 2 >>= _) _ _ _
  refine wpAny_bind (wpAny_field hz rfl (x := .bool false) rfl ?_)
  show wpAny _ _ (field (.ref z) 3 >>= _) _ _ _
  refine wpAny_bind (wpAny_field hz rfl (x := .ref TI) rfl (wpAny_bind (wpAny_seqItems hTI rfl ?_)))
  show wpAny _ _ (Builtin.SmallTypes.ownedTupleIsFree (.ref z) >>= _) _ _ _
  refine wpAny_bind (wpAny_tupleHeld_zip hz hT fun k1 z1 b1 => ?_)
  simp only [Bool.false_eq_true, if_false]
  refine wpAny_bind ?_
  rw [← Array.forIn_toList]
  simp only [List.forIn_cons, List.forIn_nil]
  refine wpAny_bind (wpAny_bind (wpAny_holding ?_))
  show wpAny _ _ (nx u1 >>= _) _ _ _
  refine wpAny_bind (wpAny_mono (h k1 z1 b1) (fun x s2 q2 => wpAny_pure (wpAny_pure (wpAny_bind (wpAny_bind (wpAny_holding ?_))))) fun _ _ e => e)
  show wpAny _ _ (nx u2 >>= _) _ _ _
  refine wpAny_bind (wpAny_mono q2 (fun y s3 q3 => wpAny_pure (wpAny_pure (wpAny_pure ?_))) fun _ _ e => e)
  show wpAny _ _ (newTuple [x, y] >>= _) _ _ _
  exact wpAny_bind (wpAny_newTuple (wpAny_pure ⟨_, rfl, q3⟩))
/-- next of a zip -/
theorem next_zip {Q : Option Value → Shared → Prop} (hTy : s.TypeIs (.ref z) "zip")
    (h : wpAny (model P w) A.in1 (Builtin.«zip.__next__» ⟨[.ref z], []⟩) (fun fin s' => ∃ v, fin = .done (.ret v) ∧ Q (some v) s') (fun e s' => ∃ a o, e = .ref a ∧ s'.heap.get? a = some o ∧ o.cls = .type "StopIteration" ∧ Q none s') s) :
    wpAny (model P w) A (pyNext (.ref z)) Q E s := by
  unfold pyNext
  refine wpAny_bind (wpAny_attempt (wpAny_callSpecial?_slot (name := Str.ofString "__next__") hTy F.slot_zip_next
    (wpAny_call_entry F.slot_zip_next hTy F.entry_zip_next (wpAny_mono h (fun fin s' ⟨v, e, q⟩ => ⟨v, e, wpAny_pure q⟩) fun e s' ⟨a, o, ea, ho, hc, q⟩ => ?_) (F.args_zip_next_1 _))))
  subst ea
  exact wpAny_bind (wpAny_isInstance (T := "StopIteration") (b := true) ⟨o, ho, hc⟩ isSubtype_stop (wpAny_pure q))
end
/-- one of the two inner ones: u walks over what stands at l -/
structure Src (P : Program) (w : World) (u l : Addr) (xs : Array Value) (St : Nat → Heap → Prop) : Prop where
  objU : ∀ {i h}, St i h → ∃ o, h.get? u = some o
  objL : ∀ {i h}, St i h → ∃ o, h.get? l = some o
  keep : ∀ {i h h'}, St i h → (∀ o, h.get? u = some o → h'.get? u = some o) → (∀ o, h.get? l = some o → h'.get? l = some o) → St i h'
  item : ∀ {A : Around} {s : Shared} {i : Nat} {x : Value} {Q : Value → Shared → Prop} {E : Value → Shared → Prop}, St i s.heap → xs[i]? = some x → (∀ h', St (i + 1) h' → Heap.SameBut u s.heap h' → Q x { s with heap := h' }) → wpAny (model P w) A (nx (.ref u)) Q E s
  done : ∀ {A : Around} {s : Shared} {i : Nat} {Q : Value → Shared → Prop} {E : Value → Shared → Prop}, A.handled = none → St i s.heap → xs[i]? = none → (∀ h' e, Heap.ExtBut u s.heap h' → (∃ o, h'.get? e = some o ∧ o.cls = .type "StopIteration") → E (.ref e) { s with heap := h' }) → wpAny (model P w) A (nx (.ref u)) Q E s
theorem src_list {P : Program} {w : World} {u l : Addr} {xs : Array Value} (hne : l ≠ u) : Src P w u l xs (fun i h => h.IsListIter u l i ∧ h.IsList l xs) where
  objU := fun ⟨⟨o, e, _⟩, _⟩ => ⟨o, e⟩
  objL := fun ⟨_, ⟨o, e, _⟩⟩ => ⟨o, e⟩
  keep := fun ⟨a, b⟩ k1 k2 => ⟨a.at k1, b.at k2⟩
  item := fun ⟨a, b⟩ hx q => wpAny_nextOf_list_item a b hx fun h' a' sb => q h' ⟨a', b.at fun o e => sb.extBut _ _ hne e⟩ sb
  done := fun hh ⟨a, b⟩ hx q => wpAny_nextOf_list_end hh a b hx fun h' e x y => q h' e x y
theorem src_tuple {P : Program} {w : World} {u l : Addr} {xs : Array Value} (hne : l ≠ u) : Src P w u l xs (fun i h => h.IsTupleIter u l i ∧ h.IsTuple l xs) where
  objU := fun ⟨⟨o, e, _⟩, _⟩ => ⟨o, e⟩
  objL := fun ⟨_, ⟨o, e, _⟩⟩ => ⟨o, e⟩
  keep := fun ⟨⟨o, e, r⟩, ⟨o2, e2, r2⟩⟩ k1 k2 => ⟨⟨o, k1 o e, r⟩, ⟨o2, k2 o2 e2, r2⟩⟩
  item := fun ⟨a, b⟩ hx q => RZ.nextOf_tuple_item a b hx fun h' a' sb => q h' ⟨a', let ⟨o2, e2, r2⟩ := b; ⟨o2, sb.extBut _ _ hne e2, r2⟩⟩ sb
  done := fun hh ⟨a, b⟩ hx q => RZ.nextOf_tuple_end hh a b hx fun h' e x y => q h' e x y
section
variable {P : Program} {w : World} {A : Around} {E : Value → Shared → Prop} {s : Shared} {z TI TO T i1 i2 l1 l2 : Addr} {xs ys : Array Value} {S1 S2 : Nat → Heap → Prop} {k : Nat}
/-- where a walk over a zip stands -/
structure At (S1 S2 : Nat → Heap → Prop) (z TI TO i1 i2 : Addr) (k : Nat) (h : Heap) : Prop where
  ti : IsPair h TI (.ref i1) (.ref i2)
  s1 : S1 k h
  s2 : S2 k h
def Fresh (z TI TO : Addr) (h : Heap) : Prop := IsZip h z TI TO .none ∧ ∃ a b, IsPair h TO a b
theorem first_item {x y : Value} {Q : Option Value → Shared → Prop} (D : ZipApart z TI TO i1 i2 l1 l2) (R1 : Src P w i1 l1 xs S1) (R2 : Src P w i2 l2 ys S2) (a : At S1 S2 z TI TO i1 i2 k s.heap) (f : Fresh z TI TO s.heap) (hx : xs[k]? = some x) (hy : ys[k]? = some y)
    (hQ : ∀ h', At S1 S2 z TI TO i1 i2 (k + 1) h' → IsZipHeld h' z TI TO s.heap.objs.size false → IsPair h' s.heap.objs.size x y → h'.objs.size = s.heap.objs.size + 1 → (∀ c o, c ≠ z → c ≠ TO → c ≠ i1 → c ≠ i2 → s.heap.get? c = some o → h'.get? c = some o) → Q (some (.ref s.heap.objs.size)) { s with heap := h' }) :
    wpAny (model P w) A (pyNext (.ref z)) Q E s := by
  obtain ⟨hz, pa, pb, hTO⟩ := f
  refine next_zip ⟨_, hz, rfl⟩ (zip_first (Q := fun v s' => Q (some v) s') hz a.ti D.TOz fun k1 z1 b1 => ?_)
  have g1 : S1 k k1 := R1.keep a.s1 (fun o => b1.extBut _ o D.i1z) (fun o => b1.extBut _ o D.l1z)
  have g2 : S2 k k1 := R2.keep a.s2 (fun o => b1.extBut _ o D.i2z) (fun o => b1.extBut _ o D.l2z)
  refine R1.item (s := { s with heap := k1 }) g1 hx fun k2 n1 b2 => ⟨pa, pb, b2.extBut _ _ D.TOi1 (b1.extBut _ _ D.TOz hTO), b2.extBut _ _ (Ne.symm D.i1z) z1, fun k3 p3 b3 => ?_⟩
  have g3 : S2 k k3 := R2.keep (R2.keep g2 (fun o => b2.extBut _ o (Ne.symm D.i12)) (fun o => b2.extBut _ o D.l2i1)) (fun o => b3.extBut _ o (Ne.symm D.TOi2)) (fun o => b3.extBut _ o D.l2TO)
  refine R2.item (s := { s with heap := k3 }) g3 hy fun k4 n2 b4 => ⟨b4.extBut _ _ D.TOi2 p3, b4.extBut _ _ (Ne.symm D.i2z) (b3.extBut _ _ (Ne.symm D.TOz) (b2.extBut _ _ (Ne.symm D.i1z) z1)), fun k6 z6 q6 t6 sz6 up => ?_⟩
  have sz : k4.objs.size = s.heap.objs.size := by
    have e1 := b1.1
    have e2 := b2.1
    have e3 := b3.1
    have e4 := b4.1
    exact e4.trans (e3.trans (e2.trans e1))
  have z6 : IsZip k6 z TI TO (rawInt k4.objs.size) := z6
  have t6 : IsPair k6 k4.objs.size x y := t6
  have sz6 : k6.objs.size = k4.objs.size + 1 := sz6
  rw [sz] at z6 t6 sz6
  show Q (some (.ref k4.objs.size)) _
  rw [sz]
  have up4 : ∀ c o, c ≠ z → c ≠ TO → c ≠ i1 → c ≠ i2 → s.heap.get? c = some o → k6.get? c = some o := fun c o c1 c2 c3 c4 e => up c o c1 c2 (b4.extBut _ _ c4 (b3.extBut _ _ c2 (b2.extBut _ _ c3 (b1.extBut _ _ c1 e))))
  refine hQ k6 ⟨up4 _ _ D.TIz D.TITO D.TIi1 D.TIi2 a.ti, ?_, ?_⟩ z6 t6 sz6 up4
  · refine R1.keep n1 (fun o e => up _ o D.i1z (Ne.symm D.TOi1) (b4.extBut _ _ D.i12 (b3.extBut _ _ (Ne.symm D.TOi1) e))) (fun o e => up _ o D.l1z D.l1TO (b4.extBut _ _ D.l1i2 (b3.extBut _ _ D.l1TO e)))
  · exact R2.keep n2 (fun o e => up _ o D.i2z (Ne.symm D.TOi2) e) (fun o e => up _ o D.l2z D.l2TO e)
theorem later_item {f : Bool} {oT : Obj} {x y : Value} {Q : Option Value → Shared → Prop} (D : ZipApart z TI TO i1 i2 l1 l2) (R1 : Src P w i1 l1 xs S1) (R2 : Src P w i2 l2 ys S2) (a : At S1 S2 z TI TO i1 i2 k s.heap) (hz : IsZipHeld s.heap z TI TO T f) (hT : s.heap.get? T = some oT) (hx : xs[k]? = some x) (hy : ys[k]? = some y)
    (hQ : ∀ h', At S1 S2 z TI TO i1 i2 (k + 1) h' → IsZipHeld h' z TI TO T true → IsPair h' s.heap.objs.size x y → h'.objs.size = s.heap.objs.size + 1 → (∀ c o, c ≠ z → c ≠ i1 → c ≠ i2 → s.heap.get? c = some o → h'.get? c = some o) → Q (some (.ref s.heap.objs.size)) { s with heap := h' }) :
    wpAny (model P w) A (pyNext (.ref z)) Q E s := by
  refine next_zip ⟨_, hz, rfl⟩ (zip_later (Q := fun v s' => Q (some v) s') hz hT a.ti fun k1 z1 b1 => ?_)
  have g1 : S1 k k1 := R1.keep a.s1 (fun o => b1.extBut _ o D.i1z) (fun o => b1.extBut _ o D.l1z)
  have g2 : S2 k k1 := R2.keep a.s2 (fun o => b1.extBut _ o D.i2z) (fun o => b1.extBut _ o D.l2z)
  refine R1.item (s := { s with heap := k1 }) g1 hx fun k2 n1 b2 => ?_
  have g3 : S2 k k2 := R2.keep g2 (fun o => b2.extBut _ o (Ne.symm D.i12)) (fun o => b2.extBut _ o D.l2i1)
  refine R2.item (s := { s with heap := k2 }) g3 hy fun k3 n2 b3 => ?_
  have sz : k3.objs.size = s.heap.objs.size := by
    have e1 := b1.1
    have e2 := b2.1
    have e3 := b3.1
    exact e3.trans (e2.trans e1)
  have up : ∀ c o, c ≠ z → c ≠ i1 → c ≠ i2 → s.heap.get? c = some o → (k3.push { cls := .type "tuple", data := .seq #[x, y] }).get? c = some o := fun c o c1 c3 c4 e => Heap.get?_push_of_some _ (b3.extBut _ _ c4 (b2.extBut _ _ c3 (b1.extBut _ _ c1 e)))
  have tp : IsPair (k3.push { cls := .type "tuple", data := .seq #[x, y] }) k3.objs.size x y := Heap.get?_push_size _ rfl
  have sp : (k3.push { cls := .type "tuple", data := .seq #[x, y] }).objs.size = k3.objs.size + 1 := Heap.size_push ..
  show Q (some (.ref k3.objs.size)) _
  rw [sz] at tp sp ⊢
  refine hQ _ ⟨up _ _ D.TIz D.TIi1 D.TIi2 a.ti, ?_, ?_⟩ (Heap.get?_push_of_some _ (b3.extBut _ _ (Ne.symm D.i2z) (b2.extBut _ _ (Ne.symm D.i1z) z1))) tp sp up
  · exact R1.keep n1 (fun o e => Heap.get?_push_of_some _ (b3.extBut _ _ D.i12 e)) (fun o e => Heap.get?_push_of_some _ (b3.extBut _ _ D.l1i2 e))
  · exact R2.keep n2 (fun o e => Heap.get?_push_of_some _ e) (fun o e => Heap.get?_push_of_some _ e)
theorem first_end {Q : Option Value → Shared → Prop} (hh : A.handled = none) (D : ZipApart z TI TO i1 i2 l1 l2) (R1 : Src P w i1 l1 xs S1) (R2 : Src P w i2 l2 ys S2) (a : At S1 S2 z TI TO i1 i2 k s.heap) (f : Fresh z TI TO s.heap) (hend : xs[k]? = none ∨ ys[k]? = none)
    (hQ : ∀ h', (∀ c o, c ≠ z → c ≠ TO → c ≠ i1 → c ≠ i2 → s.heap.get? c = some o → h'.get? c = some o) → Q none { s with heap := h' }) : wpAny (model P w) A (pyNext (.ref z)) Q E s := by
  obtain ⟨hz, pa, pb, hTO⟩ := f
  refine next_zip ⟨_, hz, rfl⟩ (zip_first (Q := fun v s' => Q (some v) s') hz a.ti D.TOz fun k1 z1 b1 => ?_)
  have g1 : S1 k k1 := R1.keep a.s1 (fun o => b1.extBut _ o D.i1z) (fun o => b1.extBut _ o D.l1z)
  have g2 : S2 k k1 := R2.keep a.s2 (fun o => b1.extBut _ o D.i2z) (fun o => b1.extBut _ o D.l2z)
  have stop : ∀ (h2 : Heap) (e : Addr), IsZip h2 z TI TO .ellipsis → (∃ o, h2.get? e = some o ∧ o.cls = .type "StopIteration") → (∀ c o, c ≠ z → c ≠ TO → c ≠ i1 → c ≠ i2 → s.heap.get? c = some o → h2.get? c = some o) →
      ErZ z TI TO (fun e s' => ∃ a o, e = .ref a ∧ s'.heap.get? a = some o ∧ o.cls = .type "StopIteration" ∧ Q none s') (.ref e) { s with heap := h2 } := fun h2 e z2 ⟨o, ho, hc⟩ up => by
    refine ⟨z2, fun h' z' b' => ⟨e, o, rfl, b'.extBut _ _ (fun ez => ?_) ho, hc, hQ h' fun c o c1 c2 c3 c4 q => b'.extBut _ _ c1 (up c o c1 c2 c3 c4 q)⟩⟩
    have z2 : h2.get? z = some _ := z2
    rw [ez, z2] at ho
    cases ho
    simp at hc
  cases hx : xs[k]? with
  | none => exact R1.done (s := { s with heap := k1 }) hh g1 hx fun h2 e b2 he => stop h2 e (b2 _ _ (Ne.symm D.i1z) z1) he fun c o c1 _ c3 _ q => b2 _ _ c3 (b1.extBut _ _ c1 q)
  | some x =>
    have hy : ys[k]? = none := by rcases hend with h | h; rw [hx] at h; cases h; exact h
    refine R1.item (s := { s with heap := k1 }) g1 hx fun k2 n1 b2 => ⟨pa, pb, b2.extBut _ _ D.TOi1 (b1.extBut _ _ D.TOz hTO), b2.extBut _ _ (Ne.symm D.i1z) z1, fun k3 p3 b3 => ?_⟩
    have g3 : S2 k k3 := R2.keep (R2.keep g2 (fun o => b2.extBut _ o (Ne.symm D.i12)) (fun o => b2.extBut _ o D.l2i1)) (fun o => b3.extBut _ o (Ne.symm D.TOi2)) (fun o => b3.extBut _ o D.l2TO)
    exact R2.done (s := { s with heap := k3 }) hh g3 hy fun h4 e b4 he => stop h4 e (b4 _ _ (Ne.symm D.i2z) (b3.extBut _ _ (Ne.symm D.TOz) (b2.extBut _ _ (Ne.symm D.i1z) z1))) he fun c o c1 c2 c3 c4 q => b4 _ _ c4 (b3.extBut _ _ c2 (b2.extBut _ _ c3 (b1.extBut _ _ c1 q)))
theorem later_end {f : Bool} {oT : Obj} {Q : Option Value → Shared → Prop} (hh : A.handled = none) (D : ZipApart z TI TO i1 i2 l1 l2) (R1 : Src P w i1 l1 xs S1) (R2 : Src P w i2 l2 ys S2) (a : At S1 S2 z TI TO i1 i2 k s.heap) (hz : IsZipHeld s.heap z TI TO T f) (hT : s.heap.get? T = some oT) (hend : xs[k]? = none ∨ ys[k]? = none)
    (hQ : ∀ h', (∀ c o, c ≠ z → c ≠ i1 → c ≠ i2 → s.heap.get? c = some o → h'.get? c = some o) → Q none { s with heap := h' }) : wpAny (model P w) A (pyNext (.ref z)) Q E s := by
  refine next_zip ⟨_, hz, rfl⟩ (zip_later (Q := fun v s' => Q (some v) s') hz hT a.ti fun k1 z1 b1 => ?_)
  have g1 : S1 k k1 := R1.keep a.s1 (fun o => b1.extBut _ o D.i1z) (fun o => b1.extBut _ o D.l1z)
  have g2 : S2 k k1 := R2.keep a.s2 (fun o => b1.extBut _ o D.i2z) (fun o => b1.extBut _ o D.l2z)
  cases hx : xs[k]? with
  | none => exact R1.done (s := { s with heap := k1 }) hh g1 hx fun h2 e b2 ⟨o, ho, hc⟩ => ⟨e, o, rfl, ho, hc, hQ h2 fun c o c1 c3 _ q => b2 _ _ c3 (b1.extBut _ _ c1 q)⟩
  | some x =>
    have hy : ys[k]? = none := by rcases hend with h | h; rw [hx] at h; cases h; exact h
    refine R1.item (s := { s with heap := k1 }) g1 hx fun k2 n1 b2 => ?_
    have g3 : S2 k k2 := R2.keep g2 (fun o => b2.extBut _ o (Ne.symm D.i12)) (fun o => b2.extBut _ o D.l2i1)
    exact R2.done (s := { s with heap := k2 }) hh g3 hy fun h4 e b4 ⟨o, ho, hc⟩ => ⟨e, o, rfl, ho, hc, hQ h4 fun c o c1 c3 c4 q => b4 _ _ c4 (b2.extBut _ _ c3 (b1.extBut _ _ c1 q))⟩
/-- such a zip as what dict() reads -/
theorem arg (D : ZipApart z TI TO i1 i2 l1 l2) (R1 : Src P w i1 l1 xs S1) (R2 : Src P w i2 l2 ys S2) :
    PairArg P w "zip" z [z, TI, TO, i1, i2, l1, l2] [z, TO, i1, i2] (min xs.size ys.size) (fun i k v => xs[i]? = some k ∧ ys[i]? = some v) (fun h => At S1 S2 z TI TO i1 i2 0 h ∧ Fresh z TI TO h) where
  type := fun s ok => ⟨_, ok.2.1, rfl⟩
  notDict := by decide
  keep := fun h h' ⟨a, f⟩ hk => ⟨⟨hk _ _ a.ti, R1.keep a.s1 (hk _) (hk _), R2.keep a.s2 (hk _) (hk _)⟩, hk _ _ f.1, let ⟨x, y, q⟩ := f.2; ⟨x, y, hk _ _ q⟩⟩
  there := fun h ⟨a, f⟩ b hb => by
    obtain ⟨x, y, q⟩ := f.2
    simp only [List.mem_cons, List.not_mem_nil, or_false] at hb
    rcases hb with e | e | e | e | e | e | e <;> rw [e]
    · exact ⟨_, f.1⟩
    · exact ⟨_, a.ti⟩
    · exact ⟨_, q⟩
    · exact R1.objU a.s1
    · exact R2.objU a.s2
    · exact R1.objL a.s1
    · exact R2.objL a.s2
  sub := fun b hb => by simp at hb ⊢; rcases hb with e | e | e | e <;> simp [e]
  noKeys := fun A s Q E hA ok h => getAttrOr_miss_zip ok.2.1 rfl rfl rfl zip_no_keys (by decide +kernel) hA h
  iter := fun A s d Q E hA ⟨a, f⟩ hd hdf h => by
    simp only [List.mem_cons, List.not_mem_nil, or_false, not_or] at hdf
    obtain ⟨dz, dTI, dTO, di1, di2, dl1, dl2⟩ := hdf
    refine wpAny_pyIter_zip f.1 (h z [z, TO, i1, i2] (fun i h => At S1 S2 z TI TO i1 i2 i h ∧ (Fresh z TI TO h ∨ ∃ T f oT, IsZipHeld h z TI TO T f ∧ h.get? T = some oT ∧ T ≠ z ∧ T ≠ i1 ∧ T ≠ i2 ∧ T ≠ d)) s.heap s.toks ?_ ⟨a, .inl f⟩ (fun _ _ e => e) fun b hb => .inl hb)
    refine ⟨fun hm => ?_, fun i h1 h2 ⟨a, zz⟩ hk => ⟨⟨hk _ _ (Ne.symm dTI) a.ti, R1.keep a.s1 (fun o => hk _ o (Ne.symm di1)) (fun o => hk _ o (Ne.symm dl1)), R2.keep a.s2 (fun o => hk _ o (Ne.symm di2)) (fun o => hk _ o (Ne.symm dl2))⟩, ?_⟩, fun i s1 Q1 E1 hi ⟨a, zz⟩ hds hQ => ?_, fun s1 Q1 E1 ⟨a, zz⟩ hQ => ?_⟩
    · simp only [List.mem_cons, List.not_mem_nil, or_false] at hm
      rcases hm with e | e | e | e
      · exact dz e
      · exact dTO e
      · exact di1 e
      · exact di2 e
    · rcases zz with ⟨hz, x, y, q⟩ | ⟨T, f, oT, hz, hT, r1, r2, r3, r4⟩
      · exact .inl ⟨hk _ _ (Ne.symm dz) hz, x, y, hk _ _ (Ne.symm dTO) q⟩
      · exact .inr ⟨T, f, oT, hk _ _ (Ne.symm dz) hz, hk _ _ r4 hT, r1, r2, r3, r4⟩
    · have ex := Array.getElem?_eq_getElem (Nat.lt_of_lt_of_le hi (Nat.min_le_left ..))
      have ey := Array.getElem?_eq_getElem (Nat.lt_of_lt_of_le hi (Nat.min_le_right ..))
      have lt : ∀ {c o}, s1.heap.get? c = some o → s1.heap.objs.size ≠ c := fun e => Nat.ne_of_gt (Heap.lt_size e)
      have n1 : s1.heap.objs.size ≠ i1 := let ⟨_, e⟩ := R1.objU a.s1; lt e
      have n2 : s1.heap.objs.size ≠ i2 := let ⟨_, e⟩ := R2.objU a.s2; lt e
      rcases zz with f | ⟨T, f, oT, hz, hT, r1, r2, r3, r4⟩
      · exact first_item D R1 R2 a f ex ey fun h' a' z' t' _ hk => hQ _ _ _ h' s1.toks ⟨ex, ey⟩ (.inl ⟨_, t', rfl, _, rfl⟩) ⟨a', .inr ⟨_, false, _, z', t', lt f.1, n1, n2, Nat.ne_of_gt hds⟩⟩ fun c o hc e => hk c o (fun x => hc (by simp [x])) (fun x => hc (by simp [x])) (fun x => hc (by simp [x])) (fun x => hc (by simp [x])) e
      · exact later_item D R1 R2 a hz hT ex ey fun h' a' z' t' _ hk => hQ _ _ _ h' s1.toks ⟨ex, ey⟩ (.inl ⟨_, t', rfl, _, rfl⟩) ⟨a', .inr ⟨T, true, oT, z', hk _ _ r1 r2 r3 hT, r1, r2, r3, r4⟩⟩ fun c o hc e => hk c o (fun x => hc (by simp [x])) (fun x => hc (by simp [x])) (fun x => hc (by simp [x])) e
    · have hend : xs[min xs.size ys.size]? = none ∨ ys[min xs.size ys.size]? = none := by
        rcases Nat.le_total xs.size ys.size with h | h
        · exact .inl (Array.getElem?_eq_none (by omega))
        · exact .inr (Array.getElem?_eq_none (by omega))
      rcases zz with f | ⟨T, f, oT, hz, hT, r1, r2, r3, r4⟩
      · exact first_end hA D R1 R2 a f hend fun h' hk => hQ h' s1.toks fun c o hc e => hk c o (fun x => hc (by simp [x])) (fun x => hc (by simp [x])) (fun x => hc (by simp [x])) (fun x => hc (by simp [x])) e
      · exact later_end hA D R1 R2 a hz hT hend fun h' hk => hQ h' s1.toks fun c o hc e => hk c o (fun x => hc (by simp [x])) (fun x => hc (by simp [x])) (fun x => hc (by simp [x])) e
end
end ZipG
namespace ZipG
open PySem
open PySem.Sem (wp)
abbrev lay1 (h : Heap) (p : Addr) : Heap := h.push { cls := .type "list_iterator", data := .fields #[.ref p, .int 0 0] }
abbrev lay2 (h : Heap) (p q : Addr) : Heap := (lay1 h p).push { cls := .type "tuple_iterator", data := .fields #[.ref q, .int 0 0] }
abbrev lay3 (h : Heap) (p q : Addr) : Heap := (lay2 h p q).push { cls := .type "tuple", data := .seq #[.ref h.objs.size, .ref (lay1 h p).objs.size] }
abbrev lay4 (h : Heap) (p q : Addr) : Heap := (lay3 h p q).push { cls := .type "tuple", data := .seq #[.none, .none] }
abbrev lay5 (h : Heap) (p q : Addr) : Heap := (lay4 h p q).push { cls := .type "zip", data := .fields #[.none, .bool false, .bool false, .ref (lay2 h p q).objs.size, .ref (lay3 h p q).objs.size] }
theorem meets_new (p q : Addr) (xs ys : Array Value) :
    Meets (Builtin.«zip.__new__» ⟨[.type "zip", .ref p, .ref q], []⟩) (fun _ R s => s.heap.IsList p xs ∧ s.heap.IsTuple q ys ∧ R (.ok (.ret (.ref (lay4 s.heap p q).objs.size))) { s with heap := lay5 s.heap p q }) :=
  .of_wp fun prog w A R s hh => by
    obtain ⟨hp, g, d, tk, os⟩ := s
    obtain ⟨hl, ht, hR⟩ := hh
    have hs0 := sub_zip
    have iL : Heap.IsList (Shared.heap ⟨hp, g, d, tk, os⟩) p xs := hl
    have iT : Heap.IsTuple (Shared.heap ⟨lay1 hp p, g, d, tk, os⟩) q ys := Heap.IsTuple.push ht _
    wp_walk using wpAny_pyIter_list iL, wpAny_pyIter_tuple iT
    exact ⟨_, rfl, hR⟩
theorem call_new {P : Program} {w : World} {A : Around} {E : Value → Shared → Prop} {s : Shared} {p q : Addr} {xs ys : Array Value} {Q : Value → Shared → Prop} (hl : s.heap.IsList p xs) (ht : s.heap.IsTuple q ys)
    (h : ∀ h' n, n = s.heap.objs.size → IsZip h' (n + 4) (n + 2) (n + 3) .none → IsPair h' (n + 2) (.ref n) (.ref (n + 1)) → IsPair h' (n + 3) .none .none → h'.IsListIter n p 0 → h'.IsTupleIter (n + 1) q 0 → h'.objs.size = n + 5 → (∀ c o, s.heap.get? c = some o → h'.get? c = some o) → Q (.ref (n + 4)) { s with heap := h' }) :
    wpAny (model P w) A (call (.type "zip") [.ref p, .ref q]) Q E s := by
  refine callType_new F.called_zip (by decide) (F.typeCall_zip_2 _ _) (F.newCall_zip_2 _ _) (fun obj => F.args_object_init_3 obj _ _) F.entry_zip_new (meets_new p q xs ys) ⟨hl, ht, ?_⟩
  obtain ⟨n, hn⟩ : ∃ n, n = s.heap.objs.size := ⟨_, rfl⟩
  have e1 : (lay1 s.heap p).objs.size = n + 1 := by rw [hn]; exact Heap.size_push ..
  have e2 : (lay2 s.heap p q).objs.size = n + 2 := (Heap.size_push ..).trans (by rw [e1])
  have e3 : (lay3 s.heap p q).objs.size = n + 3 := (Heap.size_push ..).trans (by rw [e2])
  have e4 : (lay4 s.heap p q).objs.size = n + 4 := (Heap.size_push ..).trans (by rw [e3])
  have e5 : (lay5 s.heap p q).objs.size = n + 5 := (Heap.size_push ..).trans (by rw [e4])
  have f5 : (lay5 s.heap p q).get? (lay4 s.heap p q).objs.size = some _ := Heap.get?_push_size _ rfl
  have f4 : (lay5 s.heap p q).get? (lay3 s.heap p q).objs.size = some _ := Heap.get?_push_of_some _ (Heap.get?_push_size _ rfl)
  have f3 : (lay5 s.heap p q).get? (lay2 s.heap p q).objs.size = some _ := Heap.get?_push_of_some _ (Heap.get?_push_of_some _ (Heap.get?_push_size _ rfl))
  have f2 : (lay5 s.heap p q).get? (lay1 s.heap p).objs.size = some _ := Heap.get?_push_of_some _ (Heap.get?_push_of_some _ (Heap.get?_push_of_some _ (Heap.get?_push_size _ rfl)))
  have f1 : (lay5 s.heap p q).get? s.heap.objs.size = some _ := Heap.get?_push_of_some _ (Heap.get?_push_of_some _ (Heap.get?_push_of_some _ (Heap.get?_push_of_some _ (Heap.get?_push_size _ rfl))))
  have kp : ∀ c o, s.heap.get? c = some o → (lay5 s.heap p q).get? c = some o := fun c o x => Heap.get?_push_of_some _ (Heap.get?_push_of_some _ (Heap.get?_push_of_some _ (Heap.get?_push_of_some _ (Heap.get?_push_of_some _ x))))
  show _ ∧ _
  rw [e4, e3, e2] at f5
  rw [e3] at f4
  rw [e2, e1, ← hn] at f3
  rw [e1] at f2
  rw [← hn] at f1
  rw [e4]
  exact ⟨⟨_, f5, rfl⟩, h _ n hn f5 f3 f4 ⟨_, f1, rfl, rfl⟩ ⟨_, f2, rfl, rfl⟩ e5 kp⟩
end ZipG
namespace Mi
open PySem L2 Evl
section
variable {X : Cx} {B : Bs} {env : Env} {os : Os} {pos p p2 pos2 : Pos} {κ α : Type} [DecidableEq κ] {rk : Rp κ} {kf : κ → Key} {r : Rp α} {a b : Expr}
/-- dict(zip(list, tuple)) -/
theorem d_zipT {w1 : W (List κ)} {w2 : List κ → W (List α)} (KR : KeyR rk kf) (hc : X.calm = true) (ha : EE X B env os a (rLst rk) w1) (hb : ∀ x, EE X B env os b (rTup X.K r) (w2 x)) (hmd : X.mg "dict" = none) (hmz : X.mg "zip" = none)
    (hgd : Gl X "dict" := by rfl) (hgz : Gl X "zip" := by rfl) (hs : starEach [a, b] X.env = (false, eval a X.env) :: starEach [b] X.env := by rfl) (hs2 : starEach [b] X.env = (false, eval b X.env) :: starEach [] X.env := by rfl) (hpl : (backTo pos2 (starEach [b] X.env)).any (·.1) = false := by rfl)
    (hz1 : starEach [.Call (.Name "zip" p2) [a, b] [] pos2] X.env = (false, eval (.Call (.Name "zip" p2) [a, b] [] pos2) X.env) :: starEach [] X.env := by rfl) (hz2 : (backTo pos (starEach [] X.env)).any (·.1) = false := by rfl) :
    ED X B env os (.Call (.Name "dict" p) [.Call (.Name "zip" p2) [a, b] [] pos2] [] pos) rk kf r (bnd w1 fun xs => bnd (w2 xs) fun ys => ret (mergeD [] (xs.zip ys))) := by
  refine ⟨fun pins s σ H Q I ⟨F, P, S, hw, k⟩ => ?_⟩
  refine wpAny_Call_Name_kw (ld_blt I hgd hmd (show bootBuiltins "dict" = some (.type "dict") by decide +kernel) ?_ (by decide) (by decide))
  refine PyProof.Rows.callWith_type1 ?_ hz1 hz2
  rw [hz1]
  refine PySem.Calls.spliced_cons ?_
  refine PyProof.Rows.Call_ (ld_blt I hgz hmz PyProof.Rows.boot_zip (PyProof.Rows.callWith_type1 (thn ((pa_cons ha (pa_cons (PE.ex hb) pa_nil hs2) hs).run pos2 pins s σ H (fun vs H1 => ∃ v u F1 xs ys, vs = [v, u] ∧ Sit B F1 H1 σ env os ∧ Ex F F1 ∧ (rLst rk).ok F1 v xs ∧ (rTup X.K r).ok F1 u ys ∧ P (mergeD [] (xs.zip ys))) I
    ⟨F, _, S, hw, fun xs hx v F1 H1 S1 e1 ok1 => ⟨xs, F1, _, S1, hx, fun ys hy u F2 H2 S2 e2 ok2 => ⟨v, u, F2, xs, ys, rfl, S2, e1.trans e2, (rLst rk).mono e2 ok1, ok2, hy⟩⟩⟩) fun us s1 ⟨vs, H1, I1, r1, v, u, F1, xs, ys, ev, S1, e1, ⟨l1, vs1, q1, h1, z1, ok1⟩, ⟨l2, vs2, q2, h2, z2, ok2⟩, hp⟩ => ?_) hs hpl))
  subst ev q1 q2
  cases r1 with
  | cons rr1 t1 => cases t1 with
    | cons rr2 t2 =>
      cases t2
      cases rr1
      cases rr2
      obtain ⟨y1, its, k1, rv1, g1⟩ := I1.hok l1 _ (S1.fh _ _ h1)
      have il1 : s1.heap.IsList l1 its.toArray := ⟨_, g1, rfl, _, rfl⟩
      obtain ⟨its2, rv2, il2, _⟩ := I1.tuple (ex_t S1.fh h2)
      have il2 : s1.heap.IsTuple l2 its2.toArray := il2
      refine ZipG.call_new il1 il2 fun h' n hn hz hTI hTO hi1 hi2 hsz hk => ?_
      refine PySem.Calls.spliced_nil ?_
      have I2 : Inv X pins σ H1 { s1 with heap := h' } := I1.kept (t' := s1.toks) hk
      obtain ⟨kvs, a1, a2, a3⟩ := zip_paired (r := r) KR ok1 ok2
      obtain ⟨kvV, b1, b2⟩ := zip_has (P := X.prog) (w := X.w) a1 a3 rv1 rv2
      have hlen : kvs.length ≤ sizeLine := by omega
      have lt1 : l1 < n := by rw [hn]; exact Heap.lt_size g1
      have lt2 : l2 < n := by rw [hn]; obtain ⟨_, e, _⟩ := il2; exact Heap.lt_size e
      have hmn : min its.toArray.size its2.toArray.size = min its.length its2.length := by simp
      have D : ZipApart (n + 4) (n + 2) (n + 3) n (n + 1) l1 l2 := PySem.W.ktu_apart n l1 l2 lt1 lt2
      have il2' : h'.IsTuple l2 its2.toArray := by obtain ⟨o, e, rr⟩ := il2; exact ⟨o, hk _ _ e, rr⟩
      refine PySem.call_dict_pairs (knd := mixKind X.prog X.w) (kvs := kvV) (ZipG.arg D (ZipG.src_list (Nat.ne_of_lt lt1)) (ZipG.src_tuple (Nat.ne_of_lt (Nat.lt_succ_of_lt lt2)))) (I2.ok.hd hc) ⟨⟨hTI, ⟨hi1, il1.at fun o e => hk _ o e⟩, ⟨hi2, il2'⟩⟩, hz, _, _, hTO⟩ (by rw [hmn]; exact b2) ?_ fun h2' tk hd' hk2 => ?_
      · rw [hmn, ← rv1.length, ← rv2.length]
        omega
      · have hbig : s1.heap.objs.size ≤ h'.objs.size := by omega
        have hm : (h'.objs.size == sysModules) = false := beq_eq_false_iff_ne.mpr (Nat.ne_of_gt I2.big)
        have hml : (mergeK [] kvs).length ≤ sizeLine := by
          refine Nat.le_trans (length_mergeK kvs []) ?_
          rw [List.length_nil, Nat.zero_add]
          exact hlen
        have keep : ∀ b o, s1.heap.get? b = some o → h2'.get? b = some o := fun b o e => by
          refine hk2 b o (fun hb => ?_) (hk b o e)
          have hlt : b < n := by rw [hn]; exact Heap.lt_size e
          have h4 : b = n + 4 ∨ b = n + 3 ∨ b = n ∨ b = n + 1 := by simpa using hb
          rcases h4 with q | q | q | q <;> rw [q] at hlt
          · exact absurd hlt (Nat.not_lt.mpr (Nat.le_add_right _ _))
          · exact absurd hlt (Nat.not_lt.mpr (Nat.le_add_right _ _))
          · exact absurd hlt (Nat.lt_irrefl _)
          · exact absurd hlt (Nat.not_lt.mpr (Nat.le_add_right _ _))
        have nF : H1 h'.objs.size = none := I1.hok.fresh hbig
        exact ⟨.ref h'.objs.size, upd H1 h'.objs.size (.dK (mergeK [] kvs)), I1.laid (t' := tk) keep hbig (show ObjOk X.prog X.w _ _ _ (.dK (mergeK [] kvs)) from ⟨hml, hm, merged [] kvV, KV.merge b1 .nil, hd'⟩), rfl, k _ hp h'.objs.size F1 _ (S1.newOwn nF ⟨_, rfl, hml, merge_ok KR a2 .nil⟩) e1⟩
end
end Mi
namespace Gen1
open PySem PySem.Spec PyProof.Rows GenW L2 GenFor
end Gen1
namespace SetTx
open PySem PySem.Spec PyProof.Rows L2
open PySem.Froz (SD sObj TxOk addTx tailTx add_x add_ok is_str)
open PySem.F (called_set sub_list_set sub_list_frozenset)
/-- the set of the texts l at a; its table can be walked -/
def SetS (P : Program) (w : World) (h : Heap) (a : Addr) (l : List Str) : Prop :=
  ∃ D : SD, h.get? a = some (sObj "set" D) ∧ TxOk P w D l ∧ l.Nodup ∧ Ris D.2.2.place.toList ∧ (w.params.followText "set-order" = true ∨ D.2.2.led = true) ∧ l.length < scanBound
section
variable {P : Program} {w : World} {h h' : Heap} {a : Addr} {l : List Str}
theorem SetS.at (R : SetS P w h a l) (k : ∀ o, h.get? a = some o → h'.get? a = some o) : SetS P w h' a l := by
  obtain ⟨D, ho, r⟩ := R
  exact ⟨D, k _ ho, r⟩
end
end SetTx
namespace SetTx
open PySem PySem.Spec PyProof.Rows L2
end SetTx
namespace Mi
open PySem L2 Evl SetTx
end Mi
namespace Mi
open PySem L2 Evl
end Mi
namespace Mi
open PySem L2 Evl
open PySem.SeqAt (RcAt RcNeAt)
end Mi
namespace Mi
open PySem L2 Evl
end Mi
namespace Mi
open PySem L2 Evl
end Mi
namespace Mi
end Mi
namespace Mi
open PySem L2 Evl LamX
open PyProof.Rows (envOfC)
def eBT (K : PySem.W.Frag) (tb : ETab) (B : Bs) (osT : Os) : XK := fun cls d H => ∃ e F, B.E0 e ∧ Fn (B.at B.F) F H ∧ OsOk B F H osT ∧ ErAt K tb F e cls d
abbrev wBT (K : PySem.W.Frag) (tb : ETab) (B : Bs) (osT : Os) : WX := fun cls d _ H => eBT K tb B osT cls d H
section
variable {X : Cx} {B : Bs} {F F' H H' : Hp} {σ : L2.St} {env : Env} {os osT osf : Os} {tb : ETab} {ι ρ : Type} {args : ι → Env} {wf : ι → W ρ} {ro : Rp ρ} {C : Addr} {fl : ρ → List (Str × Slot)}
theorem passBT (tk : Takes X (wBT X.K tb B osT)) : Passes (L2.CX X.prog X.w) X (eBT X.K tb B osT) := passes_call tk fun _ _ _ _ h => h
/-- what a call leaves alone -/
theorem Sit.backO (S : Sit B F H σ env os) (hT : OsLe os osT) (hd : ∀ p ∈ osT, p.1 ∉ osf.map (·.1)) (fn : Fn (bs0 F H osf) F' H') : OsOk B F' H' osT := fun p hp => by
  obtain ⟨h1, ⟨o, h2, h3⟩, h4⟩ := S.ow p (hT p hp)
  obtain ⟨k1, k2⟩ := fn.keep p.1 o h1 h2 (hd p hp)
  exact ⟨k2, ⟨o, k1, p.2.mono fn.bf h3⟩, h4⟩
theorem spf_XT0 (hT : OsLe os osT) : SpF (spX X.K tb args (fun _ => []) wf ro) (eBT X.K tb B osT) B env os args wf (resV B env os ro) :=
  ⟨fun {F H σ vs i P Q} S ok hw k => ⟨i, F, P, B.E0, S.fh, ok, fun p hp => (by cases hp), List.nodup_nil, hw, fun y hy v F2 H2 fn ow okv => k y hy v F2 H2 (S.back OsLe.none fn ow) fn.bf okv, fun e he cls d F2 H2 fn er => ⟨e, F2, he, S.backE OsLe.none fn, S.backO hT (fun _ _ => List.not_mem_nil) fn, er⟩⟩⟩
theorem spm_XT (hT : OsLe os osT) : SpM (spIX X.K tb C args wf fl) (eBT X.K tb B osT) B env os C args wf fl := ⟨fun {F H σ vs i P Q} S ok hw k x dx hx hdx hne => by
  have g : Grow F H (upd F dx (.own x)) (upd H dx (.own x)) := Grow.alloc S.fh hdx
  have S1 := S.grow g
  have hx1 : upd H dx (.own x) x = none := by rw [upd_ne (Ne.symm hne)]; exact hx
  have S2 := S1.newOwn (o := .ins C dx []) (ow := oObj C []) hx1 ⟨dx, [], rfl, .nil⟩
  refine ⟨i, upd F dx (.own x), P, B.E0, x, dx, vs, rfl, S2.fh, ?_, upd_same, ok.mono g.f, hw, fun r hr F' H' fn ow => ⟨rfl, ?_⟩, fun e he cls d F' H' fn er => ⟨e, F', he, S2.backEI (S1.fin.fresh hx1) fn, S2.backO (fun p hp => List.mem_cons_of_mem _ (hT p hp)) (fun p hp hm => ?_) fn, er⟩⟩
  · exact (S2.ow (x, oObj C []) List.mem_cons_self).1
  · obtain ⟨F2, o, e2, h1, ⟨dx', vs', h2, h3⟩, S4⟩ := (S2.backI fn ow).freeze
    subst h2
    exact k r hr (.ref x) F2 H' S4 ((g.f.trans fn.bf).trans e2) ⟨x, dx', vs', rfl, h1, h3⟩
  · have e : p.1 = x := by simpa using hm
    obtain ⟨_, ⟨o, h2, _⟩, _⟩ := S.ow p (hT p hp)
    rw [e, hx] at h2
    cases h2⟩
end
def spCB (K : PySem.W.Frag) (tb : ETab) {ρ : Type} (osT : Os) (w : W ρ) (r : Rp ρ) (F H : Hp) (Q : VK) (E : XK) : Prop := (∀ p ∈ osT, F p.1 = none ∧ ∃ o, H p.1 = some o ∧ p.2.ok F o) ∧ (osT.map (·.1)).Nodup ∧ ∃ (P : ρ → Prop) (PE : Er → Prop), w P PE ∧ (∀ x, P x → ∀ v F' H', Fn (bs0 F H osT) F' H' → OsOk (bs0 F H osT) F' H' osT → r.ok F' v x → Q v H') ∧
  ∀ e, PE e → ∀ cls d F' H', Fn (bs0 F H osT) F' H' → OsOk (bs0 F H osT) F' H' osT → ErAt K tb F' e cls d → E cls d H'
def rCloB (P : Program) (w : World) (K : PySem.W.Frag) (mg : Str → Option Value) (base : Heap) (tb : ETab) (k : Nat) (osT : Os) {ρ : Type} (r : Rp ρ) : Rp (W ρ) :=
  ⟨fun F v wf => ∃ (g : Addr) (φ : Heap → Prop), v = .ref g ∧ F g = some (.ext φ) ∧ (∀ h, φ h → PySem.W.FnAt g h) ∧ ∀ (A : Around) (outer : List PySem.Env) (s : Shared) (F' H : Hp) (Q : VK) (E : XK), Ex F F' → Ex F' H → Room k A → Env0 P w K mg base A outer s H → spCB K tb osT wf r F' H Q E →
    codeAny (model P w) A (.call (.ref g) ⟨[], []⟩) (CR (L2.CX P w) outer P w H s Q E) s, fun e ⟨g, φ, h1, h2, h3, h4⟩ => ⟨g, φ, h1, e _ _ h2, h3, fun A o s F' H Q E e1 => h4 A o s F' H Q E (e.trans e1)⟩⟩
section
variable {X : Cx} {B : Bs} {env : Env} {os osT : Os} {ρ : Type} {r : Rp ρ} {tb : ETab}
theorem e_callCloB (i : Nat) {k : Nat} {x : Str} {p pos : Pos} {wf : W ρ} (tk : Takes X (wBT X.K tb B osT)) (ho : OsLe os osT) (hnd : (osT.map (·.1)).Nodup) (hr : Room k X.A) (he : env[i]? = some (sv (rCloB X.prog X.w X.K X.mg X.base tb k osT r) wf) := by rfl) (hN : X.N[i]? = some x := by rfl) (hv : Vis X.env.scope x := by first | exact Or.inl rfl | exact Or.inr (Or.inl rfl) | exact Or.inr (Or.inr rfl))
    (hd : (x == ("__debug__" : Str)) = false := by decide) (hcd : (x == ("__classdict__" : Str)) = false := by decide) : EE X B env os (.Call (.Name x p) [] [] pos) r wf := by
  refine ⟨fun pins s σ H Q I ⟨F, P, S, hw, k⟩ => ?_⟩
  obtain ⟨ov, h1, v, h2, g, φ, ev, hg, hφ, run⟩ := S.env.get he
  subst h2 ev
  refine wpAny_Call_Name_kw (thn ((pe_var (pos := p) hN hv hd hcd).run pins s σ H (fun v H1 => v = .ref g ∧ H1 = H) I ⟨.ref g, h1, rfl, rfl⟩) fun u s1 ⟨v, H1, I1, r1, e1, e2⟩ => ?_)
  subst e1 e2
  obtain rfl : u = Value.ref g := r1
  have hx : ObjOk X.prog X.w H1 s1.heap g (.ext φ) := I1.hok g _ (S.fh _ _ hg)
  refine PySem.W.callWith_F0 (hφ _ hx.1) ?_
  refine wpAny_call (codeAny_mono (run X.A X.stack s1 F H1 Q (eBT X.K tb B osT) (Ex.refl F) S.fh hr I1.env0 ⟨fun p hp => ?_, hnd, P, B.E0, hw, fun y hy v F' H' fn ow ok => ?_, fun e he cls d F' H' fn ow er => ⟨e, F', he, S.backE ho fn, fun p hp => ?_, er⟩⟩) fun res s' hq => ?_)
  · obtain ⟨y1, y2, _⟩ := S.ow p (ho p hp)
    exact ⟨y1, y2⟩
  · exact k y hy v F' H' (S.back ho fn ow) fn.bf ok
  · exact ⟨(ow p hp).1, (ow p hp).2.1, (S.ow p (ho p hp)).2.2⟩
  · cases res with
    | error e => exact passBT tk pins σ H1 s1 e s' I1 hq
    | ok fl =>
      cases fl with
      | ret u => exact I1.after hq
      | next => exact False.elim hq
      | brk => exact False.elim hq
      | cont => exact False.elim hq
theorem clo_ofB {pins : List (Addr × Obj)} {σ : L2.St} {F H : Hp} {s : Shared} {v : V} {params : Arguments} {body : Expr} {scope : Scope} {df : Bool} {ps : List Str} {vs : List Nat} {k : Nat} {wf : W ρ} (I : Inv X pins σ H s) (S : Sit B F H σ env os)
    (hv : (rLam ⟨X.env.qual ++ "<lambda>", params, body, scope, cloFrom X.env.cells scope.names []⟩ df).ok F v ())
    (L : LamS2 X.env.scope scope ps) (hb : LamBind ⟨X.env.qual ++ "<lambda>", params, body, scope, cloFrom X.env.cells scope.names []⟩ df ps) (hvs : ∀ p ∈ ps, ∀ i, X.N[i]? = some p → i ∈ vs)
    (hoz : ∀ p ∈ osT, OwnZ p.2)
    (hbody : ∀ (A : Around) (outer : List PySem.Env) (s1 : Shared) (H1 : Hp) (E : XK) (f c' : Addr) (B' : Bs), Room k (A.deeper (lamEnv X scope s1.heap.objs.size f c')) → Takes (lamCx X A outer s1 H1 E scope f c') (wBT X.K tb B' osT) → EE (lamCx X A outer s1 H1 E scope f c') B' (wipeE env vs) osT body r wf) :
    (rCloB X.prog X.w X.K X.mg X.base tb (k + 1) osT r).ok (addC (cellZ X s.heap) F) v wf := by
  obtain ⟨g, c', dV, ev, hg, hco, hd⟩ := hv
  have zH : ∀ b o, cellZ X s.heap b = some o → H b = none := fun b o e => let ⟨⟨y, h1⟩, _⟩ := cellZ_of e; I.freeC y b h1
  have zF : ∀ b u, F b = some u → cellZ X s.heap b = none := fun b u e => by
    cases z : cellZ X s.heap b with
    | none => rfl
    | some o => rw [fresh_back S.fh (zH b o z)] at e; cases e
  refine ⟨g, _, ev, (addC_none (zF _ _ hg)).trans hg, fun h ⟨pm, ctv, e⟩ => ⟨_, _, _, _, e⟩, fun A outer s1 F' H1 Q E e1 fh1 hr e0 ⟨hT, hnd, P', PE, hw, hk, hx⟩ => ?_⟩
  have zF1 : ∀ b o, cellZ X s.heap b = some o → F' b = some (cellHO b o) := fun b o e => e1 _ _ (addC_some e)
  have zH1 : ∀ b o, cellZ X s.heap b = some o → H1 b = some (cellHO b o) := fun b o e => fh1 _ _ (zF1 b o e)
  have up : ∀ b u, F b = some u → F' b = some u := fun b u e => e1 _ _ ((addC_none (zF b u e)).trans e)
  have exm : Ex F (remC (cellZ X s.heap) F') := fun b u e => by rw [remC_none (zF b u e)]; exact up b u e
  have e0m := env0_rem e0 zH1
  have nfr : ∀ b o, cellZ X s.heap b = some o → b ∉ frs outer := fun b o e hb => by
    have := e0.frf b hb
    rw [zH1 b o e] at this
    cases this
  have atc : ∀ y c, X.env.cells.lookup y = some c → ∃ o, cellZ X s.heap c = some o ∧ s.heap.get? c = some o ∧ s1.heap.get? c = some o := fun y c e => by
    obtain ⟨v, o, ho, _⟩ := I.cell y c e
    have z : cellZ X s.heap c = some o := (cellZ_at e).trans ho
    exact ⟨o, z, ho, cell_at e0.hok (zH1 c o z)⟩
  obtain ⟨pm, ctv, ho⟩ : ∃ (pm ctv : Value), s1.heap.get? g = some ({ cls := .type "function", data := .func (PySem.W.lmFn (X.env.qual ++ "<lambda>") params body scope (cloFrom X.env.cells scope.names []) dV pm (.ref c') ctv) } : Obj) := by
    have x := e0.hok g _ (fh1 _ _ (up _ _ hg))
    exact x.1
  have hcode : s1.heap.CodeRec (.ref c') (X.env.qual ++ "<lambda>") := NdefX.codeO_at e0.hok (fh1 _ _ (up _ _ hco))
  obtain ⟨us, vs', rv, hul, hbind⟩ : ∃ (us : List Value) (vs' : List V), Vals vs' us ∧ us.length = ps.length ∧ ∀ (M : Model) (A : Around) (Q : List (Str × Value) → Shared → Prop) (E : Value → Shared → Prop), Q (ps.zip us) s1 → wpAny M A (bindArgs (PySem.W.lmFn (X.env.qual ++ "<lambda>") params body scope (cloFrom X.env.cells scope.names []) dV pm (.ref c') ctv) ⟨[], []⟩) Q E s1 := by
    unfold LamBind at hb
    unfold DfOk at hd
    cases df with
    | false =>
      obtain ⟨h1, h2⟩ := hb
      subst h1
      have hd : dV = .none := hd
      subst hd
      exact ⟨[], [], .nil, rfl, fun M A Q E q => by rw [h2]; exact wpAny_pure q⟩
    | true =>
      obtain ⟨h1, h2⟩ := hb
      obtain ⟨td, e1', e2'⟩ := hd
      subst e1'
      obtain ⟨kk, h3, h4⟩ := h2 td pm (.ref c') ctv
      have x := e0.hok td _ (fh1 _ _ (up _ _ e2'))
      obtain ⟨_, its, rv, o, ho', _, n, hod⟩ := x
      have hl := rv.length
      match its, rv, hod with
      | [u], rv, hod =>
        refine ⟨[u], [.int 0], rv, by rw [h1]; rfl, fun M A Q E q => ?_⟩
        rw [h3]
        refine wpAny_bind (wpAny_seqItems ho' hod ?_)
        have h5 := h4 u
        have h6 : kk (some ([u] : List Value).toArray) = pure (ps.zip [u]) := h5
        rw [h6]
        exact wpAny_pure q
  have lim : s1.heap.NoLimit := e0.mod.nolimit.keeps fun b o e => (e0.bs b o e).1
  refine PySem.W.kla_callFunE hr.depth ho rfl L.co L.gen rfl hcode ?_
  refine hbind _ _ _ _ (wpAny_newFunctionEnv L.nocell (fun ⟨n, _⟩ hy => L.par n (List.of_mem_zip hy).1) (fun h₁ hns hsb => ⟨lim.fresh _ hsb, ?_⟩) L.kind)
  show codeAny _ _ (.expr body (lamEnv X scope s1.heap.objs.size g c')) _ _
  have kp : ∀ b o, s1.heap.get? b = some o → h₁.get? b = some o := fun b o e => hsb.extBut b o (Nat.ne_of_lt (Heap.lt_size e)) (Heap.get?_push_of_some _ e)
  obtain ⟨B', hB'⟩ : ∃ B' : Bs, B' = { bs0 (remC (cellZ X s.heap) F') (remC (cellZ X s.heap) H1) osT with E0 := PE } := ⟨_, rfl⟩
  have J := lam_inv (s1 := s1) (f := g) (c' := c') (E := eBT X.K tb B' osT) (σ := wipe σ vs) (tk := s1.toks + (ps.zip us).length) I.ok L e0m hr.hd hns kp (fun y c e => by
      obtain ⟨o, z1, z2, z3⟩ := atc y c e
      obtain ⟨v, o', ho', hd'⟩ := I.cell y c e
      rw [z2] at ho'
      cases ho'
      exact ⟨remC_some z1, v, _, z3, hd'⟩) (fun i y v hy hi hvis => by
      obtain ⟨h1, h2⟩ := wipe_none hi
      have hf : scope.names.lookup y = some .free := by
        rcases hvis with k | k | k
        · exact absurd (hvs y (L.loc _ (PySem.mem_of_lookup k) rfl) i hy) h1
        · exact absurd rfl (L.nocell _ (PySem.mem_of_lookup k))
        · exact k
      obtain ⟨m, hn, hl⟩ := I.loc
      have hvis' : Vis X.env.scope y := (L.free _ (PySem.mem_of_lookup hf) rfl).elim (fun k => .inr (.inl k)) (fun k => .inr (.inr k))
      obtain ⟨u, ru, lu⟩ := hl i y v hy h2 hvis'
      refine ⟨hf, ?_⟩
      rcases lu with ⟨k', _⟩ | ⟨_, c, hc, o, ho2, hd2⟩
      · have k' : X.env.scope.names.lookup y = some .local := k'
        rcases L.free _ (PySem.mem_of_lookup hf) rfl with k2 | k2 <;> rw [show X.env.scope.names.lookup y = _ from k2] at k' <;> cases k'
      · obtain ⟨o', z1, z2, z3⟩ := atc y c hc
        rw [ho2] at z2
        cases z2
        exact ⟨c, u, hc, ru, _, z3, hd2⟩) (by rw [wipe_len]; exact I.len)
  have hbd := hbody A outer s1 (remC (cellZ X s.heap) H1) (eBT X.K tb B' osT) g c' B' (hr.deeper _) ((takes_of rfl rfl rfl rfl).imp fun cls d σ' H' h => h)
  have zT : ∀ p ∈ osT, cellZ X s.heap p.1 = none := fun p hp => by
    cases z : cellZ X s.heap p.1 with
    | none => rfl
    | some o =>
      have := (hT p hp).1
      rw [zF1 _ o z] at this
      cases this
  have cur : ∀ {H' : Hp} {s' : Shared}, Un (frs outer) [] (remC (cellZ X s.heap) H1) H' s1.heap s'.heap → ∀ b o, cellZ X s.heap b = some o → s'.heap.get? b = some o ∧ H' b = none := fun {H' s'} un b o z => by
    have e := cell_at e0.hok (zH1 b o z)
    exact ⟨un.keep b o e (remC_some z) (nfr b o z) (by simp), un.free b o e (remC_some z) (by simp)⟩
  refine PySem.W.kla_codeExpr (wpAny_mono (hbd.run [] _ _ _ (fun v H2 => ∃ x F2, P' x ∧ Fn (bs0 (remC (cellZ X s.heap) F') (remC (cellZ X s.heap) H1) osT) F2 H2 ∧ OsOk (bs0 (remC (cellZ X s.heap) F') (remC (cellZ X s.heap) H1) osT) F2 H2 osT ∧ r.ok F2 v x) J ⟨remC (cellZ X s.heap) F', P', ?_, ?_, fun z hz v F2 H2 S2 e2 okz => ?_⟩) (fun u s' hq => ?_) fun e s' he => ?_)
  · subst hB'
    refine ⟨?_, (S.env.mono exm).wipe vs, fun p hp => ?_, hnd⟩
    · have z := bs0_start (os := osT) (ex_remC (Z := cellZ X s.heap) fh1) fun p hp => by
        obtain ⟨y1, o, y2, y3⟩ := hT p hp
        exact ⟨by rw [remC_none (zT p hp)]; exact y1, o, by rw [remC_none (zT p hp)]; exact y2, hoz p hp _ _ _ _ _ _ e0.hok fh1 (fun b o z => ⟨zF1 b o z, by
          obtain ⟨⟨y, q1⟩, q2⟩ := cellZ_of z
          obtain ⟨v, o', ho', hd'⟩ := I.cell y b q1
          rw [q2] at ho'
          cases ho'
          exact ⟨v, hd'⟩⟩) o y3⟩
      exact ⟨z.fh, z.bf, z.mrk, z.bb, z.ios, z.keep⟩
    · obtain ⟨y1, o, y2, y3⟩ := hT p hp
      exact ⟨by rw [remC_none (zT p hp)]; exact y1, ⟨o, by rw [remC_none (zT p hp)]; exact y2, hoz p hp _ _ _ _ _ _ e0.hok fh1 (fun b o z => ⟨zF1 b o z, by
        obtain ⟨⟨y, q1⟩, q2⟩ := cellZ_of z
        obtain ⟨v, o', ho', hd'⟩ := I.cell y b q1
        rw [q2] at ho'
        cases ho'
        exact ⟨v, hd'⟩⟩) o y3⟩, .inr (List.mem_map_of_mem hp)⟩
  · subst hB'
    exact hw
  · subst hB'
    have f := S2.fin
    exact ⟨z, F2, hz, ⟨f.fh, f.bf, f.mrk, f.bb, f.ios, f.keep⟩, fun p hp => S2.ow p hp, okz⟩
  · obtain ⟨v', H2, J', rv', x, F2, px, fn, ow, okx⟩ := hq
    have cu := cur J'.base
    have fa := fn_addT fn fh1 zF1 (fun b o z => (cu b o z).2) zT
    refine ⟨v', addC (cellZ X s.heap) H2, J'.os, J'.bare, un_add J'.base zH1, hok_add J'.hok cu, rv', hk x px v' (addC (cellZ X s.heap) F2) _ fa (fun p hp => ?_) (r.mono (ex_add fun b o z => fresh_back fn.fh (cu b o z).2) okx)⟩
    obtain ⟨y1, ⟨o, y2, y3⟩, _⟩ := ow p hp
    exact ⟨by rw [addC_none (zT p hp)]; exact y1, ⟨o, by rw [addC_none (zT p hp)]; exact y2, p.2.mono (ex_add fun b o z => fresh_back fn.fh (cu b o z).2) y3⟩, .inr (List.mem_map_of_mem hp)⟩
  · have conv : ∀ (e' : Value) (s'' : Shared), L2.CX X.prog X.w outer (remC (cellZ X s.heap) H1) s1 (eBT X.K tb B' osT) e' s'' → L2.CX X.prog X.w outer H1 s1 E e' s'' := fun e' s'' c => cx_add c zH1 e0.hok nfr fun cls d H' hfree ⟨er, F2, h1, h2, h2o, h3⟩ => by
      subst hB'
      have mon : Ex F2 (addC (cellZ X s.heap) F2) := ex_add fun b o z => fresh_back h2.fh (hfree b o z)
      refine hx er h1 cls d (addC (cellZ X s.heap) F2) _ (fn_addT ⟨h2.fh, h2.bf, h2.mrk, h2.bb, h2.ios, h2.keep⟩ fh1 zF1 hfree zT) (fun p hp => ?_) (h3.mono mon)
      obtain ⟨y1, ⟨o, y2, y3⟩, _⟩ := h2o p hp
      exact ⟨by rw [addC_none (zT p hp)]; exact y1, ⟨o, by rw [addC_none (zT p hp)]; exact y2, p.2.mono mon y3⟩, .inr (List.mem_map_of_mem hp)⟩
    exact wpAny_mono he (fun _ s'' c => conv _ _ c) fun e' s'' c => conv _ _ c
end
theorem clos_okB {P : Program} {w : World} {K : PySem.W.Frag} {mg : Str → Option Value} {base : Heap} {tb : ETab} {osT : Os} {k : Nat} {ρ : Type} {r : Rp ρ} {X : Cx} {s : Shared} {F H : Hp} {σ : L2.St} {B : Bs} {env : Env} {os : Os} {pins : List (Addr × Obj)} {v : V} {u : Unit} {Ds : List (LamD × Bool)} {wfs : List (W ρ)} (I : Inv X pins σ H s) (S : Sit B F H σ env os) (hv : (rLamL Ds).ok F v u)
    (hz : Paired (fun (D : LamD × Bool) (wf : W ρ) => ∀ v, (rLam D.1 D.2).ok F v () → (rCloB P w K mg base tb k osT r).ok (addC (cellZ X s.heap) F) v wf) Ds wfs) : EnvOk (addC (cellZ X s.heap) F) [sv (rLst (rCloB P w K mg base tb k osT r)) wfs] [some v] := by
  obtain ⟨a, vs, ev, hF, hl, hp⟩ := hv
  have na : cellZ X s.heap a = none := by
    cases z : cellZ X s.heap a with
    | none => rfl
    | some o =>
      obtain ⟨⟨y, h1⟩, _⟩ := cellZ_of z
      have := I.freeC y a h1
      rw [S.fh _ _ hF] at this
      cases this
  refine .cons ⟨v, rfl, a, vs, ev, (addC_none na).trans hF, hl, ?_⟩ .nil
  clear hl ev hF na
  induction hp generalizing wfs with
  | nil =>
    cases hz
    exact .nil
  | cons h t ih =>
    cases hz with
    | cons h2 t2 => exact .cons (h2 _ h) (ih t2)
end Mi
namespace Mi
open PySem L2 Evl LamX
open PyProof.Rows (envOfC)
section
variable {X : Cx} {B : Bs} {env : Env} {os : Os} {tb : ETab} {osT : Os} {ι ρ σ' : Type} {wf : List (W σ') × Unit → W ρ} {ro : Rp ρ} {r : Rp σ'} {k kc : Nat} {f : Addr} {fd : FuncData} {ps : List Str}
/-- f(x), x a name that holds a list of lambdas -/
theorem e_callLB {x y : Str} {p1 p2 pos : Pos} {Ds : List (LamD × Bool)} {u : Unit} (j : Nat) (wfs : List (W σ')) (he : env[j]? = some (sv (rLamL Ds) u)) (G : FnOk X.prog X.w X.K X.mg X.base CX0 k f fd ps (spW (fun i : List (W σ') × Unit => [sv (rLst (rCloB X.prog X.w X.K X.mg X.base tb kc osT r)) i.1]) (fun _ => osT) wf ro)) (ho : OsLe os osT) (hnd : (osT.map (·.1)).Nodup) (hoz : ∀ p ∈ osT, OwnZ p.2) (hr : Room k X.A) (hm : X.mg x = some (.ref f)) (hk : PySem.W.keepIn X.K (.ref f) = true) (hb : Binds X.K fd ps [])
    (hstk : X.stack = X.env :: X.outer) (hfr : X.env.frame = some X.env.locals) (hfn : ∀ x, X.fn x = true) (pl : PlR ro)
    (conv : ∀ (pins : List (Addr × Obj)) (σ : L2.St) (F H : Hp) (s : Shared), Inv X pins σ H s → Sit B F H σ env os → Paired (fun (D : LamD × Bool) (wf : W σ') => ∀ v, (rLam D.1 D.2).ok F v () → (rCloB X.prog X.w X.K X.mg X.base tb kc osT r).ok (addC (cellZ X s.heap) F) v wf) Ds wfs)
    (hN : X.N[j]? = some y := by rfl) (hv : Vis X.env.scope y := by first | exact Or.inl rfl | exact Or.inr (Or.inl rfl) | exact Or.inr (Or.inr rfl)) (hd2 : (y == ("__debug__" : Str)) = false := by decide) (hcd : (y == ("__classdict__" : Str)) = false := by decide)
    (hg : Gl X x := by rfl) (hdb : (x == ("__debug__" : Str)) = false := by decide) (hs : starEach [Expr.Name y p2] X.env = (false, eval (Expr.Name y p2) X.env) :: starEach [] X.env := by rfl) (hpl : (backTo pos (starEach [] X.env)).any (·.1) = false := by rfl) :
    EE X B env os (.Call (.Name x p1) [.Name y p2] [] pos) ro (noX (wf (wfs, ()))) :=
  e_conv (e_callCT (wfs, ()) G ho hnd hoz hr hm hk hb (e_name j he hN hv hd2 hcd) hstk hfr hfn pl (fun pins σ F H s v y I S ok => clos_okB I S ok (conv pins σ F H s I S)) hg hdb hs hpl) rfl
end
section
variable {P : Program} {w : World} {K : PySem.W.Frag} {tb : ETab} {osT : Os} {mg : Str → Option Value} {base : Heap} {k : Nat} {f C1 C2 : Addr} {fd : FuncData} {ps N : List Str} {ι ρ : Type} {args : ι → Env} {w1 : ι → W ρ} {w2 : Er → W ρ} {ro : Rp ρ}
theorem tryFnB {x qual x1 x2 n : Str} {st b₀ : Stmt} {body suite : List Stmt} {hds : List ExceptHandler} {np1 np2 tp pos' pos : Pos} {kk i : Nat} (F : Fun K x qual st f fd) (S : FnScope N ps (defScope st)) (hl : ∀ i, (args i).length = ps.length)
    (hblk : defBody st = [.Try body (.ExceptHandler (some (.Tuple [.Name x1 np1, .Name x2 np2] kk tp)) (some n) (b₀ :: suite) pos' :: hds) [] [] pos]) (hi : N[i]? = some n) (hln : (defScope st).names.lookup n = some .local)
    (g1 : (defScope st).names.lookup x1 = some .globalImplicit) (g2 : (defScope st).names.lookup x2 = some .globalImplicit) (d1 : (x1 == ("__debug__" : Str)) = false) (d2 : (x2 == ("__debug__" : Str)) = false) (m1 : mg x1 = some (.ref C1)) (m2 : mg x2 = some (.ref C2))
    (hall : ∀ t ∈ tb, PySem.W.exmAny K (.ref t.2.1) [.ref C1, .ref C2] = some true)
    (hbody : ∀ (cdv : Value) (A : Around) (outer : List PySem.Env) (s : Shared) (H : Hp) (E : XK) (pn : List (Addr × Obj)) (xe : Value → Shared → Prop) (B : Bs) (i0 : ι), Room k (A.deeper (envOfC qual (defScope st) s.heap.objs.size f cdv)) →
      Takes ((cxOf CX0 P w K mg base N qual (defScope st) f cdv A outer s H E).nox.tr pn xe) (wBT K tb B osT) → BG ((cxOf CX0 P w K mg base N qual (defScope st) f cdv A outer s H E).nox.tr pn xe) B (entry (args i0) (N.length - ps.length)) osT body (pFn B osT ro) (w1 i0))
    (hsuite : ∀ (cdv : Value) (A : Around) (outer : List PySem.Env) (s : Shared) (H : Hp) (E : XK) (a : Addr) (oe : Obj) (pn : List (Addr × Obj)) (B : Bs) (e : Er), Room k (A.deeper (envOfC qual (defScope st) s.heap.objs.size f cdv)) →
      BG ((cxOf CX0 P w K mg base N qual (defScope st) f cdv A outer s H E).nox.suite a ((a, oe) :: pn)) B ((List.replicate N.length sa).set i (sv (rExc K tb (a, oe)) e)) osT (b₀ :: suite) (pFn B osT ro) (w2 e)) :
    FnOk P w K mg base CX0 (k + 1) f fd ps (spW args (fun _ => osT) (fun i0 => tryW (w1 i0) w2) ro) := by
  refine F.ok S (spW_len hl) fun cdv A outer s H vs Q E hr hsp => ?_
  have hvl := spW_len hl vs H Q E hsp
  obtain ⟨i0, F0, P0, fh, he, ho, nd, hw, hk⟩ := hsp
  obtain ⟨X, hX⟩ : ∃ X, X = (cxOf CX0 P w K mg base N qual (defScope st) f cdv A outer s H E).nox := ⟨_, rfl⟩
  obtain ⟨B1, hB1⟩ : ∃ B1 : Bs, B1 = { bs0 F0 H osT with E0 := fun e => w2 e P0 fun _ => False } := ⟨_, rfl⟩
  have fn1 : ∀ F' H', Fn B1 F' H' → Fn (bs0 F0 H osT) F' H' := fun F' H' f => by
    subst hB1
    exact ⟨f.fh, f.bf, f.mrk, f.bb, f.ios, f.keep⟩
  have key : PSs X (defBody st) (fun D σ H' => D = { nx := fun _ H' => Q .non H', rt := Q } ∧ tBG B1 (entry (args i0) (N.length - ps.length)) osT (pFn B1 osT ro) (w1 i0) D σ H') := by
    rw [hblk]
    suffices one : PS X (.Try body (.ExceptHandler (some (.Tuple [.Name x1 np1, .Name x2 np2] kk tp)) (some n) (b₀ :: suite) pos' :: hds) [] [] pos) (fun D σ H' => D = { nx := fun _ H' => Q .non H', rt := Q } ∧ tBG B1 (entry (args i0) (N.length - ps.length)) osT (pFn B1 osT ro) (w1 i0) D σ H')
      from PSs.imp (pss_one one) fun _ _ _ q => q
    refine ⟨fun pins s' σ H' D I ⟨eD, h⟩ => ?_⟩
    refine (ps_try_tup2 (X := X) (i := i) (c1 := .ref C1) (c2 := .ref C2) (tb := fun W D σ H' => (∀ cls d σ H', σ.length = X.N.length → wBT K tb B1 osT cls d σ H' → W cls d σ H') ∧ tBG B1 (entry (args i0) (N.length - ps.length)) osT (pFn B1 osT ro) (w1 i0) D σ H')
      (ts := fun a oe cls d => fun D σ H' => ∃ e, tBG (bs0 F0 H osT) ((List.replicate N.length sa).set i (sv (rExc K tb (a, oe)) e)) osT (pFn (bs0 F0 H osT) osT ro) (w2 e) D σ H') (by subst hX; rfl) (by subst hX; rfl) (by subst hX; exact S.nd) (by subst hX; exact hi) (by subst hX; exact hln) (by subst hX; exact ⟨g1, d1, .inl m1⟩) (by subst hX; exact ⟨g2, d2, .inl m2⟩)
      (fun W pn xe tk _ => ?_) (fun a oe cls d pn hz hv => ?_)).run pins s' σ H' D I ⟨?_, h⟩
    · refine ⟨fun pins s' σ H' D I ⟨hW, h⟩ => ?_⟩
      subst hX
      exact (hbody cdv A outer s H E pn xe B1 i0 hr (takes_len tk hW)).run pins s' σ H' D I h
    · refine PSs.ex fun e => ?_
      subst hX
      exact hsuite cdv A outer s H E a oe pn _ e hr
    · rintro cls d σ2 H2 hlen ⟨e, F2, h1, h2, h2o, h3⟩
      have h2' := fn1 F2 H2 (by subst hB1; exact ⟨h2.fh, h2.bf, h2.bf, h2.bb, h2.ios, h2.keep⟩)
      have h1' : w2 e P0 fun _ => False := by
        subst hB1
        exact h1
      obtain ⟨C, fo, dd, fs, q1, q2, q3⟩ := id h3
      refine ⟨by rw [q2, show X.K = K by subst hX; rfl]; exact hall _ q1, fun a oe na hz hv => ⟨e, F2, P0, ⟨h2', ?_, fun p hp => (by subst hB1; exact h2o p hp), nd⟩, h1', fun y hy => ?_⟩⟩
      · have hN : X.N.length = N.length := by
          subst hX
          rfl
        exact EnvOk.set (s := sv (rExc K tb (a, oe)) e) ⟨_, rfl, rfl, hv, cls, d, hz, h3⟩ (env_sa (by rw [hlen, hN]))
      · subst eD
        exact ⟨fun v F' H' fn ow ok => hk y hy v F' H' fn ow ok, fun σ F' H' fn ow ok => hk y hy .non F' H' fn ow ok⟩
  rw [hX] at key
  refine ⟨_, key, ⟨rfl, F0, P0, ⟨?_, ?_, fun p hp => ?_, nd⟩, ?_, fun y hy => ⟨fun v F' H' fn ow ok => hk y hy v F' H' (fn1 _ _ fn) (by subst hB1; exact ow) ok, fun σ F' H' fn ow ok => hk y hy .non F' H' (fn1 _ _ fn) (by subst hB1; exact ow) ok⟩⟩⟩
  · have z := bs0_start (os := osT) fh ho
    subst hB1
    exact ⟨z.fh, z.bf, z.mrk, z.bb, z.ios, z.keep⟩
  · rw [← hvl]
    exact entry_ok he
  · obtain ⟨h1, h2⟩ := ho p hp
    subst hB1
    exact ⟨h1, h2, .inr (List.mem_map_of_mem hp)⟩
  · subst hB1
    exact hw
end
end Mi
namespace Mi
open PySem L2 Evl LamX
theorem remZ_pl {Z : Addr → Option Obj} {F : Hp} (hz : ∀ b o, Z b = some o → F b = some (cellHO b o) ∧ ∃ v, o.data = .cell v) : ∀ a o, F a = some o → (∀ φ, o ≠ .ext φ) → remC Z F a = some o := fun a o e n => by
  cases q : Z a with
  | none => rw [remC_none q]; exact e
  | some u =>
    have z := (hz a u q).1
    rw [z] at e
    cases e
    exact absurd rfl (n _)
theorem ownz_bag {cells : List Int} : OwnZ (oBag cells) := fun P w F H h Z hok fh hz o ⟨p, hp⟩ => by
  have pl := remZ_pl hz
  obtain ⟨vs, h1, h3⟩ := hp
  refine ⟨p, vs, h1, ?_⟩
  unfold bagS at h3 ⊢
  cases h3 with
  | cons a t =>
    cases t with
    | cons b t =>
      cases t with
      | cons c t =>
        cases t with
        | cons d t =>
          cases t with
          | cons e t =>
            cases t
            obtain ⟨v, e1, e2⟩ := a
            exact .cons ⟨v, e1, pl_lst pl_int _ _ _ _ pl e2⟩ (.cons b (.cons c (.cons d (.cons e .nil))))
end Mi
namespace Mi
open PySem L2 Evl
inductive Mx (α : Type) where
  | dat (d : PyData)
  | obj (x : α)
  | lst (xs : List α)
def rMx (K : PySem.W.Frag) (C : Addr) {α : Type} (fl : α → List (Str × Slot)) : Rp (Mx α) :=
  ⟨fun F v m => match m with | .dat d => (rD K).ok F v d | .obj x => (rObj C fl).ok F v x | .lst xs => (rLst (rObj C fl)).ok F v xs, fun {F F' v m} e h => by
    cases m with
    | dat d => exact (rD K).mono e h
    | obj x => exact (rObj C fl).mono e h
    | lst xs => exact (rLst (rObj C fl)).mono e h⟩
def Mx.isObj {α : Type} : Mx α → Bool
  | .obj _ => true
  | _ => false
def Mx.isSeq {α : Type} : Mx α → Bool
  | .dat d => tyD d == "list" || tyD d == "tuple"
  | .obj _ => false
  | .lst _ => true
def Mx.ty {α : Type} (C : Addr) : Mx α → Value
  | .dat d => .type (tyD d)
  | .obj _ => .ref C
  | .lst _ => .type "list"
def lenM {α : Type} : Mx α → W Int
  | .dat d => lenD d
  | .obj _ => fail
  | .lst xs => ret (xs.length : Int)
section
variable {X : Cx} {B : Bs} {env : Env} {os : Os} {pos : Pos} {α β γ : Type} {r : Rp α} {s : Rp β} {a e : Expr} {C : Addr} {fl : γ → List (Str × Slot)}
theorem e_weak {g : α → β} {w : W α} (h : ∀ F v x, r.ok F v x → s.ok F v (g x)) (ha : EE X B env os e r w) : EE X B env os e s (bnd w fun x => ret (g x)) := PE.imp ha fun σ H Q ⟨F, P, S, hw, k⟩ => ⟨F, _, S, hw, fun x hx v F' H' S' e' ok => k (g x) hx v F' H' S' e' (h F' v x ok)⟩
theorem Paired.mapR {A : Type} {R : A → α → Prop} {R' : A → β → Prop} {g : α → β} (h : ∀ v x, R v x → R' v (g x)) : ∀ {vs : List A} {xs : List α}, Paired R vs xs → Paired R' vs (xs.map g)
  | _, _, .nil => .nil
  | _, _, .cons q t => .cons (h _ _ q) (Paired.mapR h t)
theorem mx_D {K : PySem.W.Frag} : ∀ F v (d : PyData), (rD K).ok F v d → (rMx K C fl).ok F v (.dat d) := fun _ _ _ h => h
theorem mx_O {K : PySem.W.Frag} : ∀ F v (x : γ), (rObj C fl).ok F v x → (rMx K C fl).ok F v (.obj x) := fun _ _ _ h => h
theorem mx_L {K : PySem.W.Frag} : ∀ F v (xs : List γ), (rLst (rObj C fl)).ok F v xs → (rMx K C fl).ok F v (.lst xs) := fun _ _ _ h => h
theorem e_mxD {w : W PyData} (ha : EE X B env os e (rD X.K) w) : EE X B env os e (rMx X.K C fl) (bnd w fun x => ret (.dat x)) := e_weak mx_D ha
theorem e_mxL {w : W (List γ)} (ha : EE X B env os e (rLst (rObj C fl)) w) : EE X B env os e (rMx X.K C fl) (bnd w fun x => ret (.lst x)) := e_weak mx_L ha
def TyF (K : PySem.W.Frag) {α : Type} (r : Rp α) (ty : α → Value) : Prop := ∀ (F H : Hp) (v : V) (x : α), r.ok F v x → Ex F H → TyX K H v (ty x)
theorem tyf_mx {K : PySem.W.Frag} (c : C8.InsC K C) : TyF K (rMx K C fl) (Mx.ty C) := fun F H v x h e => by
  cases x with
  | dat d => exact ty_D h e
  | obj x => exact ty_obj c F H v x h e
  | lst xs => exact ty_lst F H v xs h e
theorem e_isCF {w : W α} {ty : α → Value} {x : Str} {D : Addr} {k : α → Bool} {p1 p2 : Pos} (tf : TyF X.K r ty) (hk : ∀ d, PySem.W.kitOne X.K (ty d) (.ref D) = some (k d)) (ha : EE X B env os a r w) (hm : X.mg "isinstance" = none) (hx : X.mg x = some (.ref D)) (hd : (x == ("__debug__" : Str)) = false := by decide)
    (hg : Gl X "isinstance" := by rfl) (hgx : Gl X x := by rfl) (hs : starEach [a, .Name x p2] X.env = (false, eval a X.env) :: starEach [.Name x p2] X.env := by rfl) (hs2 : starEach [.Name x p2] X.env = (false, eval (.Name x p2) X.env) :: starEach [] X.env := by rfl) (hpl : (backTo pos (starEach [.Name x p2] X.env)).any (·.1) = false := by rfl) :
    EE X B env os (.Call (.Name "isinstance" p1) [a, .Name x p2] [] pos) rBool (bnd w fun d => ret (k d)) :=
  PE.imp (pe_callB call_isi hg hm (by decide +kernel) (pa_cons ha (pa_cons (pe_glob (v := .ref D) hgx hx rfl hd) pa_nil hs2) hs) (by decide) (by decide) hs hpl) fun σ H Q ⟨F, P, S, hw, kk⟩ => ⟨F, _, S, hw, fun d hd v F1 H1 S1 e1 ok =>
    ⟨v, .ref D, _, .ref D, k d, rfl, .own D, tf F1 H1 v d ok S1.fh, hk d, kk _ hd (.bl _) F1 H1 S1 e1 rfl⟩⟩
theorem e_isTF {w : W α} {ty : α → Value} {x1 x2 : Str} {T1 T2 : String} {k : α → Bool} {p1 p2 p3 p4 : Pos} {kk0 : Nat} (tf : TyF X.K r ty) (hk : ∀ d, PySem.W.kitAny X.K (ty d) [.type T1, .type T2] = some (k d)) (ha : EE X B env os a r w) (hm : X.mg "isinstance" = none) (hx1 : X.mg x1 = none) (hx2 : X.mg x2 = none)
    (hv1 : bootBuiltins x1 = some (.type T1) := by decide +kernel) (hn1 : x1 ≠ "__name__" := by decide) (hd1 : (x1 == ("__debug__" : Str)) = false := by decide) (hv2 : bootBuiltins x2 = some (.type T2) := by decide +kernel) (hn2 : x2 ≠ "__name__" := by decide) (hd2 : (x2 == ("__debug__" : Str)) = false := by decide)
    (hg : Gl X "isinstance" := by rfl) (hg1 : Gl X x1 := by rfl) (hg2 : Gl X x2 := by rfl) (hs : starEach [a, .Tuple [.Name x1 p2, .Name x2 p3] kk0 p4] X.env = (false, eval a X.env) :: starEach [.Tuple [.Name x1 p2, .Name x2 p3] kk0 p4] X.env := by rfl) (hs2 : starEach [.Tuple [.Name x1 p2, .Name x2 p3] kk0 p4] X.env = (false, eval (.Tuple [.Name x1 p2, .Name x2 p3] kk0 p4) X.env) :: starEach [] X.env := by rfl)
    (hs3 : starEach [.Name x1 p2, .Name x2 p3] X.env = (false, eval (.Name x1 p2) X.env) :: starEach [.Name x2 p3] X.env := by rfl) (hs4 : starEach [.Name x2 p3] X.env = (false, eval (.Name x2 p3) X.env) :: starEach [] X.env := by rfl) (hpl : (backTo pos (starEach [.Tuple [.Name x1 p2, .Name x2 p3] kk0 p4] X.env)).any (·.1) = false := by rfl) :
    EE X B env os (.Call (.Name "isinstance" p1) [a, .Tuple [.Name x1 p2, .Name x2 p3] kk0 p4] [] pos) rBool (bnd w fun d => ret (k d)) :=
  PE.imp (pe_callB call_isiT hg hm (by decide +kernel) (pa_cons ha (pa_cons (pe_tup (pa_cons (pe_bltn (v := .ty T1) hg1 hx1 hv1 rfl hn1 hd1) (pa_cons (pe_bltn (v := .ty T2) hg2 hx2 hv2 rfl hn2 hd2) pa_nil hs4) hs3)) pa_nil hs2) hs) (by decide) (by decide) hs hpl) fun σ H Q ⟨F, P, S, hw, kk⟩ => ⟨F, _, S, hw, fun d hd v F1 H1 S1 e1 ok => ⟨by show 2 ≤ sizeLine; decide, fun q hq => by
    have g : Grow F1 H1 (upd F1 q (.tup [.ty T1, .ty T2])) (upd H1 q (.tup [.ty T1, .ty T2])) := Grow.alloc S1.fh hq
    exact ⟨v, q, [.ty T1, .ty T2], _, [.type T1, .type T2], k d, rfl, upd_same, .cons (.ty T1) (.cons (.ty T2) .nil), tf _ _ v d (r.mono g.f ok) (S1.grow g).fh, hk d, kk _ hd (.bl _) _ _ (S1.grow g) (e1.trans g.f) rfl⟩⟩⟩
theorem km_obj {K : PySem.W.Frag} (hk : ∀ d : PyData, PySem.W.kitOne K (.type (tyD d)) (.ref C) = some false) : ∀ m : Mx γ, PySem.W.kitOne K (m.ty C) (.ref C) = some m.isObj := fun m => by
  cases m with
  | dat d => exact hk d
  | obj x => exact kit_refl
  | lst xs => exact hk (.list [])
theorem km_seq {K : PySem.W.Frag} (ho : PySem.W.kitAny K (.ref C) [.type "list", .type "tuple"] = some false) : ∀ m : Mx γ, PySem.W.kitAny K (m.ty C) [.type "list", .type "tuple"] = some m.isSeq := fun m => by
  cases m with
  | dat d => exact kt_lt d
  | obj x => exact ho
  | lst xs => exact kt_lst
theorem e_lenM {w : W (Mx γ)} {p : Pos} (ha : EE X B env os a (rMx X.K C fl) w) (hm : X.mg "len" = none) (hg : Gl X "len" := by rfl) (he : starEach [a] X.env = (false, eval a X.env) :: starEach [] X.env := by rfl) (hpl : (backTo pos (starEach [] X.env)).any (·.1) = false := by rfl) :
    EE X B env os (.Call (.Name "len" p) [a] [] pos) rInt (bnd w lenM) :=
  PE.imp (pe_callB call_len hg hm PySem.boot_len (pa_cons ha pa_nil he) (by decide) (by decide) he hpl) fun σ H Q ⟨F, P, S, hw, kk⟩ => ⟨F, _, S, hw, fun d hd v F1 H1 S1 e1 ok => by
    cases d with
    | obj x => exact False.elim hd
    | lst xs =>
      obtain ⟨q, vs, e, h1, h2, h3⟩ := ok
      subst e
      exact ⟨.ref q, vs.length, rfl, .inl ⟨vs, SqL.of (S1.fh _ _ h1), rfl⟩, kk _ (by rw [h3.length]; exact hd) (.int _) F1 H1 S1 e1 rfl⟩
    | dat d =>
      have hd : lenD d P B.E0 := hd
      obtain ⟨ok, h2, h3⟩ := ok
      cases ok with
      | non => exact False.elim hd
      | bl b => exact False.elim hd
      | int i => exact False.elim hd
      | str x => exact ⟨_, x.length, rfl, ⟨hd.1, rfl⟩, kk _ hd.2 (.int _) F1 H1 S1 e1 rfl⟩
      | @lst a1 vs ds h t =>
        have hl := (dpAll_paired t).length
        exact ⟨_, ds.length, rfl, .inl ⟨vs, ex_l S1.fh h, hl.symm⟩, kk _ hd (.int _) F1 H1 S1 e1 rfl⟩
      | @tup a1 vs ds h t =>
        have hl := (dpAll_paired t).length
        exact ⟨_, ds.length, rfl, .inr ⟨vs, ex_t S1.fh h, hl.symm⟩, kk _ hd (.int _) F1 H1 S1 e1 rfl⟩⟩
end
end Mi
namespace Mi
open PySem L2 Evl
section
variable {X : Cx} {B : Bs} {env : Env} {os : Os} {α β : Type} {r : Rp α} {s : Rp β} {e : Expr}
theorem e_lstW {g : α → β} {w : W (List α)} (h : ∀ F v x, r.ok F v x → s.ok F v (g x)) (ha : EE X B env os e (rLst r) w) : EE X B env os e (rLst s) (bnd w fun xs => ret (xs.map g)) := PE.imp ha fun σ H Q ⟨F, P, S, hw, k⟩ => ⟨F, _, S, hw, fun xs hx v F' H' S' e' ⟨a, vs, h1, h2, h3, h4⟩ => k (xs.map g) hx v F' H' S' e' ⟨a, vs, h1, h2, h3, Paired.mapR (h F') h4⟩⟩
theorem kit_any2f {K : PySem.W.Frag} {t a b : Value} (h1 : PySem.W.kitOne K t a = some false) (h2 : PySem.W.kitOne K t b = some false) : PySem.W.kitAny K t [a, b] = some false := by
  unfold PySem.W.kitAny PySem.W.kitAny PySem.W.kitAny
  rw [h1, h2]
end
end Mi
namespace Mi
open PySem L2 Evl
end Mi
namespace Mi
open PySem L2 Evl
end Mi
namespace Mi
open PySem L2 Evl
section
variable {X : Cx} {B : Bs} {env : Env} {os : Os} {pos : Pos} {γ : Type} {a : Expr} {C : Addr} {fl : γ → List (Str × Slot)}
def Mx.isDct : Mx γ → Bool
  | .dat d => tyD d == "dict"
  | _ => false
theorem km_dict {K : PySem.W.Frag} (ho : PySem.W.kitOne K (.ref C) (.type "dict") = some false) : ∀ m : Mx γ, PySem.W.kitOne K (m.ty C) (.type "dict") = some m.isDct := fun m => by
  cases m with
  | dat d => exact kd_dict d
  | obj x => exact ho
  | lst xs => exact kd_dict (.list [])
theorem e_noDictM {w : W (Mx γ)} {p1 p2 : Pos} (ic : C8.InsC X.K C) (ho : PySem.W.kitOne X.K (.ref C) (.type "dict") = some false) (ha : EE X B env os a (rMx X.K C fl) w) (hm : X.mg "isinstance" = none) (hx : X.mg "dict" = none)
    (hg : Gl X "isinstance" := by rfl) (hgx : Gl X "dict" := by rfl) (hs : starEach [a, .Name "dict" p2] X.env = (false, eval a X.env) :: starEach [.Name "dict" p2] X.env := by rfl) (hs2 : starEach [.Name "dict" p2] X.env = (false, eval (.Name "dict" p2) X.env) :: starEach [] X.env := by rfl) (hpl : (backTo pos (starEach [.Name "dict" p2] X.env)).any (·.1) = false := by rfl) :
    EE X B env os (.Call (.Name "isinstance" p1) [a, .Name "dict" p2] [] pos) rBool (bnd w fun _ => ret false) :=
  PE.imp (pe_callB call_isi hg hm (by decide +kernel) (pa_cons ha (pa_cons (pe_bltn (v := .ty "dict") hgx hx (by decide +kernel) rfl (by decide) (by decide)) pa_nil hs2) hs) (by decide) (by decide) hs hpl) fun σ H Q ⟨F, P, S, hw, kk⟩ => ⟨F, _, S, hw, fun d hd v F1 H1 S1 e1 ok =>
    ⟨v, .ty "dict", _, .type "dict", d.isDct, rfl, .ty "dict", tyf_mx ic F1 H1 v d ok S1.fh, km_dict ho d, by
      have z : d.isDct = false := by
        cases d with
        | dat d =>
          obtain ⟨ok, _⟩ := ok
          cases ok <;> rfl
        | obj x => rfl
        | lst xs => rfl
      rw [z]
      exact kk _ hd (.bl _) F1 H1 S1 e1 rfl⟩⟩
end
section
variable {X : Cx} {B : Bs} {env : Env} {os : Os} {pos : Pos} {a b : Expr} {D1 D2 : List (LamD × Bool)} {u1 u2 : Unit}
theorem e_catLam (ha : EE X B env os a (rLamL D1) (ret u1)) (hb : EE X B env os b (rLamL D2) (ret u2)) (hz : (D1 ++ D2).length ≤ sizeLine) : EE X B env os (.BinOp a .Add b pos) (rLamL (D1 ++ D2)) (ret ()) :=
  PE.imp (pe_op op_cat ha (PE.ex (fun _ : Unit => hb))) fun σ H Q ⟨F, P, S, hw, k⟩ => ⟨F, fun _ => P (), S, hw, fun x hx v F1 H1 S1 e1 ⟨p1, vs, q1, h1, z1, ok1⟩ => ⟨x, F1, fun _ => P (), S1, hx, fun y hy u F2 H2 S2 e2 ⟨p2, us, q2, h2, z2, ok2⟩ => by
    have hl : vs.length + us.length ≤ sizeLine := by rw [ok1.length, ok2.length, ← List.length_append]; exact hz
    exact ⟨p1, p2, vs, us, q1, q2, S2.fh _ _ (e2 _ _ h1), S2.fh _ _ h2, hl, fun p hp => by
      obtain ⟨F3, o, e3, g1, ⟨vs', g2, g3, g4⟩, S3⟩ := (S2.newOwn (ow := oLams (D1 ++ D2)) hp ⟨vs ++ us, rfl, by rw [List.length_append]; exact hl, Paired.app (LamsOk.mono e2 ok1) ok2⟩).freeze
      subst g2
      exact k () hy (.ref p) F3 _ S3 ((e1.trans e2).trans e3) ⟨p, vs', rfl, g1, g3, g4⟩⟩⟩⟩
theorem e_catLam3 {d1 d2 d3 : LamD × Bool} (ha : EE X B env os a (rLamL [d1, d2, d3]) (ret u1)) (hb : EE X B env os b (rLamL D2) (ret u2)) (hz : (d1 :: d2 :: d3 :: D2).length ≤ sizeLine) : EE X B env os (.BinOp a .Add b pos) (rLamL (d1 :: d2 :: d3 :: D2)) (ret ()) := e_catLam ha hb hz
end
section
variable {X : Cx} {CX : CXT} {E : XK} {sp : Sp} {B : Bs} {env : Env} {os : Os} {pos p : Pos} {ι ρ α : Type} {e : Expr} {es : List Expr}
theorem e_callOX {k : Nat} {f C : Addr} {fd : FuncData} {ps : List Str} {fl : α → List (Str × Slot)} {args : α × ι → Env} {sl : ι → Env} {wf : α × ι → W ρ} {ro : Rp ρ} {x : Str} {w1 : W α} {w2 : α → W ι}
    (G : FnOk X.prog X.w X.K X.mg X.base CX k f fd ps sp) (hp : Passes CX X E) (hsf : SpF sp E B env os args wf (resV B env os ro)) (hr : Room k X.A) (hb : Binds X.K fd ps []) (hs : PySem.W.findIn X.K (.ref C) "__call__" = some (some (.ref f))) (hf : PySem.W.isFn X.K (.ref f) = true) (hfn : PySem.W.fnIn X.K f = true)
    (hx : EE X B env os (.Name x p) (rObj C fl) w1) (ha : ∀ x, AA X B env os (e :: es) sl (w2 x)) (hc : ∀ x i, args (x, i) = sv (rObj C fl) x :: sl i)
    (he : starEach (e :: es) X.env = (false, eval e X.env) :: starEach es X.env := by rfl) (hpl : (backTo pos (starEach es X.env)).any (·.1) = false := by rfl) :
    EE X B env os (.Call (.Name x p) (e :: es) [] pos) ro (bnd w1 fun x => bnd (w2 x) fun i => wf (x, i)) := by
  refine ⟨fun pins s σ H Q I ⟨F, P, S, hw, kk⟩ => ?_⟩
  refine wpAny_Call_Name_kw (thn (hx.run pins s σ H (fun v H1 => ∃ x F1, Sit B F1 H1 σ env os ∧ Ex F F1 ∧ (rObj C fl).ok F1 v x ∧ (bnd (w2 x) fun i => wf (x, i)) P B.E0) I ⟨F, _, S, hw, fun x hx v F1 H1 S1 e1 ok => ⟨x, F1, S1, e1, ok, hx⟩⟩) fun u s1 ⟨v, H1, I1, rx, x, F1, S1, e1, ⟨y, dx, fs, ev, hy, hfl⟩, hx1⟩ => ?_)
  subst ev
  obtain rfl : u = Value.ref y := rx
  refine PySem.W.own_callWithP (C := C) (ox := PySem.W.instObj C dx) (K := X.K) rfl (thn ((ha x).run pos pins s1 σ H1 (fun vs H2 => ∃ i F2, Sit B F2 H2 σ env os ∧ Ex F1 F2 ∧ EnvOk F2 (sl i) (vs.map some) ∧ wf (x, i) P B.E0) I1 ⟨F1, _, S1, hx1, fun i hi vs F2 H2 S2 e2 ok => ⟨i, F2, S2, e2, ok, hi⟩⟩) fun us s2 ⟨vs, H2, I2, r2, i, F2, S2, e2, ok2, hi⟩ => ?_) he hpl
  obtain ⟨mA, J, _⟩ := ins_get I2.hok (S2.fh _ _ (e2 _ _ hy))
  obtain ⟨od, J, _⟩ := J.look
  refine ⟨⟨od, I2.kIn, J⟩, ?_⟩
  rw [List.nil_append]
  have hsp : sp (.ref y :: vs) H2 Q E := hsf.ok S2 (i := (x, i)) (by rw [hc]; exact .cons ⟨_, rfl, y, dx, fs, rfl, e2 _ _ hy, hfl.mono e2⟩ ok2) hi fun z hz v F' H' S' e' okz => kk z hz v F' H' S' ((e1.trans e2).trans e') okz
  have hl : (Value.ref y :: us).length = ps.length := by rw [List.length_cons, ← r2.length]; exact G.len _ _ _ _ hsp
  have b := hb s2 (.ref y :: us) I2.kIn (by rw [List.append_nil]; exact hl)
  rw [List.append_nil] at b
  have r3 : Vals (V.ref y :: vs) (Value.ref y :: us) := .cons rfl r2
  refine wpAny_call (PySem.W.kco_code (a := ⟨us, []⟩) I2.kIn J rfl hs hf hfn (codeAny_mono (G.run X.A X.stack s2 H2 ⟨.ref y :: us, []⟩ (.ref y :: us) (.ref y :: vs) _ _ hr I2.env0 b r3 hsp) fun res s' hq => ?_))
  cases res with
  | error e => exact hp pins σ H2 s2 e s' I2 hq
  | ok fl =>
    cases fl with
    | ret u => exact I2.after hq
    | next => exact False.elim hq
    | brk => exact False.elim hq
    | cont => exact False.elim hq
end
theorem bg_env {X : Cx} {B : Bs} {env env' : Env} {os : Os} {blk : List Stmt} {β : Type} {post : Post β} {w : W β} (h : env = env') (k : BG X B env' os blk post w) : BG X B env os blk post w := h ▸ k
end Mi
local macro_rules | `(tactic| walk_at "wn") => `(tactic| first | with_reducible rfl | simp only [Mi.wn_bb, Mi.wn_br, Mi.wn_rb])
local macro_rules | `(tactic| walk_at "lev") => `(tactic| first | decide | exact Nat.le_refl _ | exact Nat.le_trans (by decide) (Nat.le_add_right _ _))
local macro_rules | `(tactic| walk_at "loc") => `(tactic| first | exact Or.inl rfl | exact Or.inr rfl)
namespace K19
open PySem L2 Evl Mi
def topS (i : Nat) : Stmt := PySem.Challenge.pw_anydial_k19_tables_refused.main.body.getD i (.Pass ⟨0, 0, 0, 0⟩)
abbrev s_is_whole : Stmt := topS 11
abbrev N_is_whole : List Str := ["value"]
theorem sc_is_whole : FnScope N_is_whole ["value"] (defScope s_is_whole) := ⟨rfl, rfl, rfl, by decide +kernel, rfl, by decide +kernel, by decide +kernel⟩
abbrev s_is_number : Stmt := topS 12
abbrev N_is_number : List Str := ["value", "least", "most"]
theorem sc_is_number : FnScope N_is_number ["value", "least", "most"] (defScope s_is_number) := ⟨rfl, rfl, rfl, by decide +kernel, rfl, by decide +kernel, by decide +kernel⟩
abbrev s_need_number : Stmt := topS 13
abbrev N_need_number : List Str := ["value", "least", "most"]
theorem sc_need_number : FnScope N_need_number ["value", "least", "most"] (defScope s_need_number) := ⟨rfl, rfl, rfl, by decide +kernel, rfl, by decide +kernel, by decide +kernel⟩
abbrev s_primes_in : Stmt := topS 15
abbrev N_primes_in : List Str := ["number", "found", "rest", "low"]
theorem sc_primes_in : FnScope N_primes_in ["number"] (defScope s_primes_in) := ⟨rfl, rfl, rfl, by decide +kernel, rfl, by decide +kernel, by decide +kernel⟩
abbrev s_all_divisors : Stmt := topS 14
abbrev N_all_divisors : List Str := ["number", "found", "rest", "prime", "powers", "low", "high"]
theorem sc_all_divisors : FnScope N_all_divisors ["number"] (defScope s_all_divisors) := ⟨rfl, rfl, rfl, by decide +kernel, rfl, by decide +kernel, by decide +kernel⟩
abbrev s_common : Stmt := topS 16
abbrev N_common : List Str := ["one", "other"]
theorem sc_common : FnScope N_common ["one", "other"] (defScope s_common) := ⟨rfl, rfl, rfl, by decide +kernel, rfl, by decide +kernel, by decide +kernel⟩
abbrev s_Poly_init : Stmt := inClass (topS 19) 0
abbrev N_Poly_init : List Str := ["self", "coefs", "at", "coef", "row"]
theorem sc_Poly_init : FnScope N_Poly_init ["self", "coefs"] (defScope s_Poly_init) := ⟨rfl, rfl, rfl, by decide +kernel, rfl, by decide +kernel, by decide +kernel⟩
abbrev s_poly_of : Stmt := topS 20
abbrev N_poly_of : List Str := ["row"]
theorem sc_poly_of : FnScope N_poly_of ["row"] (defScope s_poly_of) := ⟨rfl, rfl, rfl, by decide +kernel, rfl, by decide +kernel, by decide +kernel⟩
abbrev s_Poly_eq : Stmt := inClass (topS 19) 12
abbrev N_Poly_eq : List Str := ["self", "other"]
theorem sc_Poly_eq : FnScope N_Poly_eq ["self", "other"] (defScope s_Poly_eq) := ⟨rfl, rfl, rfl, by decide +kernel, rfl, by decide +kernel, by decide +kernel⟩
abbrev s_worth_of : Stmt := topS 28
abbrev N_worth_of : List Str := ["poly", "n", "found", "coef"]
theorem sc_worth_of : FnScope N_worth_of ["poly", "n"] (defScope s_worth_of) := ⟨rfl, rfl, rfl, by decide +kernel, rfl, by decide +kernel, by decide +kernel⟩
abbrev s_is_spare : Stmt := topS 29
abbrev N_is_spare : List Str := ["polys", "modulus", "prime", "less", "low"]
theorem sc_is_spare : FnScope N_is_spare ["polys", "modulus", "prime"] (defScope s_is_spare) := ⟨rfl, rfl, rfl, by decide +kernel, rfl, by decide +kernel, by decide +kernel⟩
abbrev s_least_modulus : Stmt := topS 30
abbrev N_least_modulus : List Str := ["modulus", "polys", "least", "prime"]
theorem sc_least_modulus : FnScope N_least_modulus ["modulus", "polys"] (defScope s_least_modulus) := ⟨rfl, rfl, rfl, by decide +kernel, rfl, by decide +kernel, by decide +kernel⟩
abbrev s_need_polys : Stmt := topS 26
abbrev N_need_polys : List Str := ["modulus", "polys", "at", "poly"]
theorem sc_need_polys : FnScope N_need_polys ["modulus", "polys"] (defScope s_need_polys) := ⟨rfl, rfl, rfl, by decide +kernel, rfl, by decide +kernel, by decide +kernel⟩
abbrev s_need_singles : Stmt := topS 27
abbrev N_need_singles : List Str := ["singles", "known", "at", "pair"]
theorem sc_need_singles : FnScope N_need_singles ["singles"] (defScope s_need_singles) := ⟨rfl, rfl, rfl, by decide +kernel, rfl, by decide +kernel, by decide +kernel⟩
abbrev s_Table_init : Stmt := inClass (topS 25) 0
abbrev N_Table_init : List Str := ["self", "modulus", "polys", "singles", "known", "late", "least", "low", "rows", "n"]
theorem sc_Table_init : FnScope N_Table_init ["self", "modulus", "polys", "singles"] (defScope s_Table_init) := ⟨rfl, rfl, rfl, by decide +kernel, rfl, by decide +kernel, by decide +kernel⟩
abbrev s_Table_always : Stmt := inClass (topS 25) 1
abbrev N_Table_always : List Str := ["number"]
theorem sc_Table_always : FnScope N_Table_always ["number"] (defScope s_Table_always) := ⟨rfl, rfl, rfl, by decide +kernel, rfl, by decide +kernel, by decide +kernel⟩
abbrev s_Table_modulus : Stmt := inClass (topS 25) 2
abbrev N_Table_modulus : List Str := ["self"]
theorem sc_Table_modulus : FnScope N_Table_modulus ["self"] (defScope s_Table_modulus) := ⟨rfl, rfl, rfl, by decide +kernel, rfl, by decide +kernel, by decide +kernel⟩
abbrev s_Table_polys : Stmt := inClass (topS 25) 4
abbrev N_Table_polys : List Str := ["self", "low"]
theorem sc_Table_polys : FnScope N_Table_polys ["self"] (defScope s_Table_polys) := ⟨rfl, rfl, rfl, by decide +kernel, rfl, by decide +kernel, by decide +kernel⟩
abbrev s_Table_singles : Stmt := inClass (topS 25) 6
abbrev N_Table_singles : List Str := ["self", "n"]
theorem sc_Table_singles : FnScope N_Table_singles ["self"] (defScope s_Table_singles) := ⟨rfl, rfl, rfl, by decide +kernel, rfl, by decide +kernel, by decide +kernel⟩
abbrev s_Table_poly_at : Stmt := inClass (topS 25) 7
abbrev N_Table_poly_at : List Str := ["self", "n"]
theorem sc_Table_poly_at : FnScope N_Table_poly_at ["self", "n"] (defScope s_Table_poly_at) := ⟨rfl, rfl, rfl, by decide +kernel, rfl, by decide +kernel, by decide +kernel⟩
abbrev s_Table_number_at : Stmt := inClass (topS 25) 9
abbrev N_Table_number_at : List Str := ["self", "n"]
theorem sc_Table_number_at : FnScope N_Table_number_at ["self", "n"] (defScope s_Table_number_at) := ⟨rfl, rfl, rfl, by decide +kernel, rfl, by decide +kernel, by decide +kernel⟩
abbrev s_Table_call : Stmt := inClass (topS 25) 10
abbrev N_Table_call : List Str := ["self", "n"]
theorem sc_Table_call : FnScope N_Table_call ["self", "n"] (defScope s_Table_call) := ⟨rfl, rfl, rfl, by decide +kernel, rfl, by decide +kernel, by decide +kernel⟩
abbrev s_Table_eq : Stmt := inClass (topS 25) 15
abbrev N_Table_eq : List Str := ["self", "other"]
theorem sc_Table_eq : FnScope N_Table_eq ["self", "other"] (defScope s_Table_eq) := ⟨rfl, rfl, rfl, by decide +kernel, rfl, by decide +kernel, by decide +kernel⟩
abbrev s_Table_bool : Stmt := inClass (topS 25) 16
abbrev N_Table_bool : List Str := ["self", "low"]
theorem sc_Table_bool : FnScope N_Table_bool ["self"] (defScope s_Table_bool) := ⟨rfl, rfl, rfl, by decide +kernel, rfl, by decide +kernel, by decide +kernel⟩
abbrev s_law_bag : Stmt := topS 35
abbrev N_law_bag : List Str := ["_law_script", "_law_mark", "_law_cell"]
theorem sc_law_bag : FnScope N_law_bag ["_law_script"] (defScope s_law_bag) := ⟨rfl, rfl, rfl, by decide +kernel, rfl, by decide +kernel, by decide +kernel⟩
abbrev s_law_draw : Stmt := topS 36
abbrev N_law_draw : List Str := ["_law_bag_here", "_law_most", "_law_cell", "_law_digit", "_law_base", "_law_late"]
theorem sc_law_draw : FnScope N_law_draw ["_law_bag_here", "_law_most"] (defScope s_law_draw) := ⟨rfl, rfl, rfl, by decide +kernel, rfl, by decide +kernel, by decide +kernel⟩
abbrev s_law_any : Stmt := topS 37
abbrev N_law_any : List Str := ["_law_bag_here", "_law_some"]
theorem sc_law_any : FnScope N_law_any ["_law_bag_here", "_law_some"] (defScope s_law_any) := ⟨rfl, rfl, rfl, by decide +kernel, rfl, by decide +kernel, by decide +kernel⟩
abbrev s_law_same : Stmt := topS 38
abbrev N_law_same : List Str := ["_law_found", "_law_due"]
theorem sc_law_same : FnScope N_law_same ["_law_found", "_law_due"] (defScope s_law_same) := ⟨rfl, rfl, rfl, by decide +kernel, rfl, by decide +kernel, by decide +kernel⟩
abbrev s_law_field : Stmt := topS 39
abbrev N_law_field : List Str := ["_law_e"]
theorem sc_law_field : FnScope N_law_field ["_law_e"] (defScope s_law_field) := ⟨rfl, rfl, rfl, by decide +kernel, rfl, by decide +kernel, by decide +kernel⟩
abbrev s_law_got : Stmt := topS 40
abbrev N_law_got : List Str := ["_law_ask", "_law_e"]
theorem sc_law_got : FnScope N_law_got ["_law_ask"] (defScope s_law_got) := ⟨rfl, rfl, rfl, by decide +kernel, rfl, by decide +kernel, by decide +kernel⟩
abbrev s_law_all_got : Stmt := topS 41
abbrev N_law_all_got : List Str := ["_law_asks", "_law_ask"]
theorem sc_law_all_got : FnScope N_law_all_got ["_law_asks"] (defScope s_law_all_got) := ⟨rfl, rfl, rfl, by decide +kernel, rfl, by decide +kernel, by decide +kernel⟩
abbrev s_law_odd : Stmt := topS 42
abbrev N_law_odd : List Str := ["_law_bag_here", "_law_more"]
theorem sc_law_odd : FnScope N_law_odd ["_law_bag_here", "_law_more"] (defScope s_law_odd) := ⟨rfl, rfl, rfl, by decide +kernel, rfl, by decide +kernel, by decide +kernel⟩
abbrev s_law_lows : Stmt := topS 43
abbrev N_law_lows : List Str := ["_law_number", "_law_low"]
theorem sc_law_lows : FnScope N_law_lows ["_law_number"] (defScope s_law_lows) := ⟨rfl, rfl, rfl, by decide +kernel, rfl, by decide +kernel, by decide +kernel⟩
abbrev s_law : Stmt := topS 44
abbrev N_law : List Str := ["_law_script", "_law_bag_here", "_law_turn", "_law_modulus", "_law_many", "_law_polys", "_law_singles", "_law_k", "_law_odd_here", "_law_spot", "_law_at", "_law_none", "_law_wrong", "_law_bad", "_law_bent", "_law_late", "_law_asks", "_law_due", "_law_made", "_law_number", "_law_told", "_law_wrong_n", "_law_found", "_law_far", "_law_wide"]
theorem sc_law : FnScope N_law ["_law_script"] (defScope s_law) := ⟨rfl, rfl, rfl, by decide +kernel, rfl, by decide +kernel, by decide +kernel⟩
/-- where the defs stand -/
structure Ad where
  f_is_whole : Addr
  d_is_whole : FuncData
  f_is_number : Addr
  d_is_number : FuncData
  f_need_number : Addr
  d_need_number : FuncData
  f_primes_in : Addr
  d_primes_in : FuncData
  f_all_divisors : Addr
  d_all_divisors : FuncData
  f_common : Addr
  d_common : FuncData
  f_Poly_init : Addr
  d_Poly_init : FuncData
  f_poly_of : Addr
  d_poly_of : FuncData
  f_Poly_eq : Addr
  d_Poly_eq : FuncData
  f_worth_of : Addr
  d_worth_of : FuncData
  f_is_spare : Addr
  d_is_spare : FuncData
  f_least_modulus : Addr
  d_least_modulus : FuncData
  f_need_polys : Addr
  d_need_polys : FuncData
  f_need_singles : Addr
  d_need_singles : FuncData
  f_Table_init : Addr
  d_Table_init : FuncData
  f_Table_always : Addr
  d_Table_always : FuncData
  f_Table_modulus : Addr
  d_Table_modulus : FuncData
  f_Table_polys : Addr
  d_Table_polys : FuncData
  f_Table_singles : Addr
  d_Table_singles : FuncData
  f_Table_poly_at : Addr
  d_Table_poly_at : FuncData
  f_Table_number_at : Addr
  d_Table_number_at : FuncData
  f_Table_call : Addr
  d_Table_call : FuncData
  f_Table_eq : Addr
  d_Table_eq : FuncData
  f_Table_bool : Addr
  d_Table_bool : FuncData
  f_law_bag : Addr
  d_law_bag : FuncData
  f_law_draw : Addr
  d_law_draw : FuncData
  f_law_any : Addr
  d_law_any : FuncData
  f_law_same : Addr
  d_law_same : FuncData
  f_law_field : Addr
  d_law_field : FuncData
  f_law_got : Addr
  d_law_got : FuncData
  f_law_all_got : Addr
  d_law_all_got : FuncData
  f_law_odd : Addr
  d_law_odd : FuncData
  f_law_lows : Addr
  d_law_lows : FuncData
  f_law : Addr
  d_law : FuncData
  c_Poly : Addr
  c_Table : Addr
  p_Table_modulus : Addr
  c_DialError : Addr
  c_InvalidNumber : Addr
  c_InvalidSingles : Addr
  c_InvalidTable : Addr
  c_Missing : Addr
  fx_InvalidNumber : Addr
  cc_InvalidNumber : Addr
  kx_InvalidNumber : Addr
  d_xInvalidNumber : FuncData
  fx_InvalidTable : Addr
  cc_InvalidTable : Addr
  kx_InvalidTable : Addr
  d_xInvalidTable : FuncData
  fx_InvalidSingles : Addr
  cc_InvalidSingles : Addr
  kx_InvalidSingles : Addr
  d_xInvalidSingles : FuncData
  p_Table_always : Addr
  e_Table_init_0 : Addr
abbrev tbl (ad : Ad) : ETab := [("InvalidNumber", ad.c_InvalidNumber, some "given"), ("InvalidTable", ad.c_InvalidTable, some "at"), ("InvalidSingles", ad.c_InvalidSingles, some "at")]
abbrev ftb : FTab := [("InvalidNumber", some "given"), ("InvalidTable", some "at"), ("InvalidSingles", some "at")]
abbrev sx_InvalidNumber : Stmt := inClass (topS 5) 0
abbrev nf_InvalidNumber (ad : Ad) : NdefX.NF := { name := "__init__", qual := "InvalidNumber.__init__", params := defArgs sx_InvalidNumber, body := defBody sx_InvalidNumber, scope := defScope sx_InvalidNumber, cl := [("__class__", ad.cc_InvalidNumber)], c := ad.kx_InvalidNumber }
theorem ns_InvalidNumber : NdefX.NScope ["self", "given", "__class__"] ["self", "given"] ["__class__"] (defScope sx_InvalidNumber) := NdefX.nscope_by (by decide +kernel)
theorem sa_InvalidNumber : (defScope sx_InvalidNumber).names.lookup ("super" : Str) = some .globalImplicit := by decide +kernel
theorem sb_InvalidNumber : (defScope sx_InvalidNumber).names.lookup ("__class__" : Str) = some .free := by decide +kernel
abbrev sx_InvalidTable : Stmt := inClass (topS 7) 0
abbrev nf_InvalidTable (ad : Ad) : NdefX.NF := { name := "__init__", qual := "InvalidTable.__init__", params := defArgs sx_InvalidTable, body := defBody sx_InvalidTable, scope := defScope sx_InvalidTable, cl := [("__class__", ad.cc_InvalidTable)], c := ad.kx_InvalidTable }
theorem ns_InvalidTable : NdefX.NScope ["self", "at", "__class__"] ["self", "at"] ["__class__"] (defScope sx_InvalidTable) := NdefX.nscope_by (by decide +kernel)
theorem sa_InvalidTable : (defScope sx_InvalidTable).names.lookup ("super" : Str) = some .globalImplicit := by decide +kernel
theorem sb_InvalidTable : (defScope sx_InvalidTable).names.lookup ("__class__" : Str) = some .free := by decide +kernel
abbrev sx_InvalidSingles : Stmt := inClass (topS 8) 0
abbrev nf_InvalidSingles (ad : Ad) : NdefX.NF := { name := "__init__", qual := "InvalidSingles.__init__", params := defArgs sx_InvalidSingles, body := defBody sx_InvalidSingles, scope := defScope sx_InvalidSingles, cl := [("__class__", ad.cc_InvalidSingles)], c := ad.kx_InvalidSingles }
theorem ns_InvalidSingles : NdefX.NScope ["self", "at", "__class__"] ["self", "at"] ["__class__"] (defScope sx_InvalidSingles) := NdefX.nscope_by (by decide +kernel)
theorem sa_InvalidSingles : (defScope sx_InvalidSingles).names.lookup ("super" : Str) = some .globalImplicit := by decide +kernel
theorem sb_InvalidSingles : (defScope sx_InvalidSingles).names.lookup ("__class__" : Str) = some .free := by decide +kernel
structure Poly_ where
  own_coefs : (List Int)
abbrev fl_Poly (K : PySem.W.Frag) (ad : Ad) (x : Poly_) : List (Str × Slot) := [("own_coefs", sv (rLst rInt) x.own_coefs)]
structure Table_ where
  own_modulus : Int
  own_polys : (List (Int × Poly_))
  own_singles : (List (Int × Int))
abbrev fl_Table (K : PySem.W.Frag) (ad : Ad) (x : Table_) : List (Str × Slot) := [("own_modulus", sv rInt x.own_modulus), ("own_polys", sv (rDct rInt Sum.inl (rObj ad.c_Poly (fl_Poly K ad))) x.own_polys), ("own_singles", sv (rDct rInt Sum.inl rInt) x.own_singles)]
structure Txt (P : Program) (K : PySem.W.Frag) (mg : Str → Option Value) (ad : Ad) : Prop where
  b_all : mg "all" = none
  b_any : mg "any" = none
  b_bool : mg "bool" = none
  b_dict : mg "dict" = none
  b_enumerate : mg "enumerate" = none
  b_int : mg "int" = none
  b_isinstance : mg "isinstance" = none
  b_len : mg "len" = none
  b_list : mg "list" = none
  b_range : mg "range" = none
  b_repr : mg "repr" = none
  b_sorted : mg "sorted" = none
  b_super : mg "super" = none
  b_tuple : mg "tuple" = none
  b_zip : mg "zip" = none
  bf_gcd : mg "gcd" = some (.builtin "math.gcd")
  m_is_whole : mg "is_whole" = some (.ref ad.f_is_whole)
  F_is_whole : Fun K "is_whole" "is_whole" s_is_whole ad.f_is_whole ad.d_is_whole
  bd_is_whole : Binds K ad.d_is_whole ["value"] []
  m_is_number : mg "is_number" = some (.ref ad.f_is_number)
  F_is_number : Fun K "is_number" "is_number" s_is_number ad.f_is_number ad.d_is_number
  bd_is_number : Binds K ad.d_is_number ["value", "least", "most"] []
  m_need_number : mg "need_number" = some (.ref ad.f_need_number)
  F_need_number : Fun K "need_number" "need_number" s_need_number ad.f_need_number ad.d_need_number
  bd_need_number : Binds K ad.d_need_number ["value", "least", "most"] []
  m_primes_in : mg "primes_in" = some (.ref ad.f_primes_in)
  F_primes_in : Fun K "primes_in" "primes_in" s_primes_in ad.f_primes_in ad.d_primes_in
  bd_primes_in : Binds K ad.d_primes_in ["number"] []
  m_all_divisors : mg "all_divisors" = some (.ref ad.f_all_divisors)
  F_all_divisors : Fun K "all_divisors" "all_divisors" s_all_divisors ad.f_all_divisors ad.d_all_divisors
  bd_all_divisors : Binds K ad.d_all_divisors ["number"] []
  m_common : mg "common" = some (.ref ad.f_common)
  F_common : Fun K "common" "common" s_common ad.f_common ad.d_common
  bd_common : Binds K ad.d_common ["one", "other"] []
  F_Poly_init : Fun K "__init__" "Poly.__init__" s_Poly_init ad.f_Poly_init ad.d_Poly_init
  bs_Poly_init : BindStar K ad.d_Poly_init "self" "coefs"
  m_poly_of : mg "poly_of" = some (.ref ad.f_poly_of)
  F_poly_of : Fun K "poly_of" "poly_of" s_poly_of ad.f_poly_of ad.d_poly_of
  bd_poly_of : Binds K ad.d_poly_of ["row"] []
  F_Poly_eq : Fun K "__eq__" "Poly.__eq__" s_Poly_eq ad.f_Poly_eq ad.d_Poly_eq
  bd_Poly_eq : Binds K ad.d_Poly_eq ["self", "other"] []
  m_worth_of : mg "worth_of" = some (.ref ad.f_worth_of)
  F_worth_of : Fun K "worth_of" "worth_of" s_worth_of ad.f_worth_of ad.d_worth_of
  bd_worth_of : Binds K ad.d_worth_of ["poly", "n"] []
  m_is_spare : mg "is_spare" = some (.ref ad.f_is_spare)
  F_is_spare : Fun K "is_spare" "is_spare" s_is_spare ad.f_is_spare ad.d_is_spare
  bd_is_spare : Binds K ad.d_is_spare ["polys", "modulus", "prime"] []
  m_least_modulus : mg "least_modulus" = some (.ref ad.f_least_modulus)
  F_least_modulus : Fun K "least_modulus" "least_modulus" s_least_modulus ad.f_least_modulus ad.d_least_modulus
  bd_least_modulus : Binds K ad.d_least_modulus ["modulus", "polys"] []
  m_need_polys : mg "need_polys" = some (.ref ad.f_need_polys)
  F_need_polys : Fun K "need_polys" "need_polys" s_need_polys ad.f_need_polys ad.d_need_polys
  bd_need_polys : Binds K ad.d_need_polys ["modulus", "polys"] []
  m_need_singles : mg "need_singles" = some (.ref ad.f_need_singles)
  F_need_singles : Fun K "need_singles" "need_singles" s_need_singles ad.f_need_singles ad.d_need_singles
  bd_need_singles : Binds K ad.d_need_singles ["singles"] []
  F_Table_init : FunE K "__init__" "Table.__init__" s_Table_init ad.f_Table_init ad.d_Table_init
  F_Table_always : Fun K "always" "Table.always" s_Table_always ad.f_Table_always ad.d_Table_always
  bd_Table_always : Binds K ad.d_Table_always ["number"] []
  F_Table_modulus : Fun K "modulus" "Table.modulus" s_Table_modulus ad.f_Table_modulus ad.d_Table_modulus
  bd_Table_modulus : Binds K ad.d_Table_modulus ["self"] []
  F_Table_polys : Fun K "polys" "Table.polys" s_Table_polys ad.f_Table_polys ad.d_Table_polys
  bd_Table_polys : Binds K ad.d_Table_polys ["self"] []
  F_Table_singles : Fun K "singles" "Table.singles" s_Table_singles ad.f_Table_singles ad.d_Table_singles
  bd_Table_singles : Binds K ad.d_Table_singles ["self"] []
  F_Table_poly_at : Fun K "poly_at" "Table.poly_at" s_Table_poly_at ad.f_Table_poly_at ad.d_Table_poly_at
  bd_Table_poly_at : Binds K ad.d_Table_poly_at ["self", "n"] []
  F_Table_number_at : Fun K "number_at" "Table.number_at" s_Table_number_at ad.f_Table_number_at ad.d_Table_number_at
  bd_Table_number_at : Binds K ad.d_Table_number_at ["self", "n"] []
  F_Table_call : Fun K "__call__" "Table.__call__" s_Table_call ad.f_Table_call ad.d_Table_call
  bd_Table_call : Binds K ad.d_Table_call ["self", "n"] []
  F_Table_eq : Fun K "__eq__" "Table.__eq__" s_Table_eq ad.f_Table_eq ad.d_Table_eq
  bd_Table_eq : Binds K ad.d_Table_eq ["self", "other"] []
  F_Table_bool : Fun K "__bool__" "Table.__bool__" s_Table_bool ad.f_Table_bool ad.d_Table_bool
  bd_Table_bool : Binds K ad.d_Table_bool ["self"] []
  m_law_bag : mg "_law_bag" = some (.ref ad.f_law_bag)
  F_law_bag : Fun K "_law_bag" "_law_bag" s_law_bag ad.f_law_bag ad.d_law_bag
  bd_law_bag : Binds K ad.d_law_bag ["_law_script"] []
  m_law_draw : mg "_law_draw" = some (.ref ad.f_law_draw)
  F_law_draw : Fun K "_law_draw" "_law_draw" s_law_draw ad.f_law_draw ad.d_law_draw
  bd_law_draw : Binds K ad.d_law_draw ["_law_bag_here", "_law_most"] []
  m_law_any : mg "_law_any" = some (.ref ad.f_law_any)
  F_law_any : Fun K "_law_any" "_law_any" s_law_any ad.f_law_any ad.d_law_any
  bd_law_any : Binds K ad.d_law_any ["_law_bag_here", "_law_some"] []
  m_law_same : mg "_law_same" = some (.ref ad.f_law_same)
  F_law_same : Fun K "_law_same" "_law_same" s_law_same ad.f_law_same ad.d_law_same
  bd_law_same : Binds K ad.d_law_same ["_law_found", "_law_due"] []
  m_law_field : mg "_law_field" = some (.ref ad.f_law_field)
  F_law_field : Fun K "_law_field" "_law_field" s_law_field ad.f_law_field ad.d_law_field
  bd_law_field : Binds K ad.d_law_field ["_law_e"] []
  m_law_got : mg "_law_got" = some (.ref ad.f_law_got)
  F_law_got : Fun K "_law_got" "_law_got" s_law_got ad.f_law_got ad.d_law_got
  bd_law_got : Binds K ad.d_law_got ["_law_ask"] []
  m_law_all_got : mg "_law_all_got" = some (.ref ad.f_law_all_got)
  F_law_all_got : Fun K "_law_all_got" "_law_all_got" s_law_all_got ad.f_law_all_got ad.d_law_all_got
  bd_law_all_got : Binds K ad.d_law_all_got ["_law_asks"] []
  m_law_odd : mg "_law_odd" = some (.ref ad.f_law_odd)
  F_law_odd : Fun K "_law_odd" "_law_odd" s_law_odd ad.f_law_odd ad.d_law_odd
  bd_law_odd : Binds K ad.d_law_odd ["_law_bag_here", "_law_more"] []
  m_law_lows : mg "_law_lows" = some (.ref ad.f_law_lows)
  F_law_lows : Fun K "_law_lows" "_law_lows" s_law_lows ad.f_law_lows ad.d_law_lows
  bd_law_lows : Binds K ad.d_law_lows ["_law_number"] []
  m_law : mg "law" = some (.ref ad.f_law)
  F_law : Fun K "law" "law" s_law ad.f_law ad.d_law
  bd_law : Binds K ad.d_law ["_law_script"] []
  gc_MOST_MODULUS : ∃ t, mg "MOST_MODULUS" = some (.int (1000000000) t)
  et_Table_init_0 : ∃ (o : Obj) (its : Array Value) (n : Nat), K.lookup ad.e_Table_init_0 = some o ∧ o.cls = .type "tuple" ∧ o.data = .seq its n ∧ its.size ≤ sizeLine ∧ Vals [] its.toList
  cb_Table_always_1 : CB K ad.d_Table_always ["number"] 0 1 [] [0] []
  cb_Table_init_2 : CB K ad.d_Table_init ["self", "modulus", "polys", "singles"] 1 2 [] [0, 1, 2] [.ref ad.e_Table_init_0]
  cb_Table_init_3 : CB K ad.d_Table_init ["self", "modulus", "polys", "singles"] 1 3 [] [0, 1, 2] [.ref ad.e_Table_init_0]
  cb_Table_number_at_1 : CB K ad.d_Table_number_at ["self", "n"] 1 1 [] [0] []
  cb_Table_poly_at_1 : CB K ad.d_Table_poly_at ["self", "n"] 1 1 [] [0] []
  cb_Table_polys_0 : CB K ad.d_Table_polys ["self"] 1 0 [] [] []
  cb_Table_singles_0 : CB K ad.d_Table_singles ["self"] 1 0 [] [] []
  cb_need_number_3 : CB K ad.d_need_number ["value", "least", "most"] 0 3 [] [0, 1, 2] []
  cb_need_polys_2 : CB K ad.d_need_polys ["modulus", "polys"] 0 2 [] [0, 1] []
  cb_need_singles_1 : CB K ad.d_need_singles ["singles"] 0 1 [] [0] []
  cr_Table : ClX.CRead K ad.c_Table (.type "type")
  sm_Table_always : SMet K ad.c_Table (.type "type") "always" ad.p_Table_always ad.f_Table_always
  n_Poly : mg "Poly" = some (.ref ad.c_Poly)
  cl_Poly : Cls K ad.c_Poly
  n_Table : mg "Table" = some (.ref ad.c_Table)
  cl_Table : Cls K ad.c_Table
  mk_Poly : Mk K ad.c_Poly ad.f_Poly_init
  mk_Table : Mk K ad.c_Table ad.f_Table_init
  na_Poly_own_coefs : NoAttr K ad.c_Poly "own_coefs"
  na_Table_own_modulus : NoAttr K ad.c_Table "own_modulus"
  na_Table_own_polys : NoAttr K ad.c_Table "own_polys"
  na_Table_own_singles : NoAttr K ad.c_Table "own_singles"
  mt_Table_number_at : Meth K ad.c_Table "number_at" ad.f_Table_number_at
  mt_Table_poly_at : Meth K ad.c_Table "poly_at" ad.f_Table_poly_at
  mt_Table_polys : Meth K ad.c_Table "polys" ad.f_Table_polys
  mt_Table_singles : Meth K ad.c_Table "singles" ad.f_Table_singles
  pr_Table_modulus : PropOf K ad.c_Table "modulus" ad.p_Table_modulus ad.f_Table_modulus
  ic_Poly : C8.InsC K ad.c_Poly
  ic_Table : C8.InsC K ad.c_Table
  k_NoneType_Poly : PySem.W.kitOne K (.type "NoneType") (.ref ad.c_Poly) = some false
  k_Poly_Poly : PySem.W.kitOne K (.ref ad.c_Poly) (.ref ad.c_Poly) = some true
  k_Poly_dict : PySem.W.kitOne K (.ref ad.c_Poly) (.type "dict") = some false
  k_Poly_list : PySem.W.kitOne K (.ref ad.c_Poly) (.type "list") = some false
  k_Poly_tuple : PySem.W.kitOne K (.ref ad.c_Poly) (.type "tuple") = some false
  k_Table_Table : PySem.W.kitOne K (.ref ad.c_Table) (.ref ad.c_Table) = some true
  k_bool_Poly : PySem.W.kitOne K (.type "bool") (.ref ad.c_Poly) = some false
  k_dict_Poly : PySem.W.kitOne K (.type "dict") (.ref ad.c_Poly) = some false
  k_int_Poly : PySem.W.kitOne K (.type "int") (.ref ad.c_Poly) = some false
  k_list_Poly : PySem.W.kitOne K (.type "list") (.ref ad.c_Poly) = some false
  k_str_Poly : PySem.W.kitOne K (.type "str") (.ref ad.c_Poly) = some false
  k_tuple_Poly : PySem.W.kitOne K (.type "tuple") (.ref ad.c_Poly) = some false
  eq_Poly : PySem.W.findIn K (.ref ad.c_Poly) "__eq__" = some (some (.ref ad.f_Poly_eq))
  fe_Poly : PySem.W.isFn K (.ref ad.f_Poly_eq) = true
  bl_Table : PySem.W.findIn K (.ref ad.c_Table) "__bool__" = some (some (.ref ad.f_Table_bool))
  fb_Table : PySem.W.isFn K (.ref ad.f_Table_bool) = true
  ca_Table : PySem.W.findIn K (.ref ad.c_Table) "__call__" = some (some (.ref ad.f_Table_call))
  fc_Table : PySem.W.isFn K (.ref ad.f_Table_call) = true
  fi_Table : PySem.W.fnIn K ad.f_Table_call = true
  eq_Table : PySem.W.findIn K (.ref ad.c_Table) "__eq__" = some (some (.ref ad.f_Table_eq))
  fe_Table : PySem.W.isFn K (.ref ad.f_Table_eq) = true
  nf_Poly_Poly : PySem.W.notFirst K ad.c_Poly (.ref ad.c_Poly) = true
  nf_Table_Table : PySem.W.notFirst K ad.c_Table (.ref ad.c_Table) = true
  kd_Poly : ∀ d, PySem.W.kitOne K (.type (tyD d)) (.ref ad.c_Poly) = some false
  n_DialError : mg "DialError" = some (.ref ad.c_DialError)
  n_InvalidNumber : mg "InvalidNumber" = some (.ref ad.c_InvalidNumber)
  n_InvalidSingles : mg "InvalidSingles" = some (.ref ad.c_InvalidSingles)
  n_InvalidTable : mg "InvalidTable" = some (.ref ad.c_InvalidTable)
  n_Missing : mg "Missing" = some (.ref ad.c_Missing)
  ox_InvalidNumber : OexG K ad.c_InvalidNumber "ValueError.__new__" PySem.HandSPX.veTail
  ai_InvalidNumber : PySem.W.findIn K (.ref ad.c_InvalidNumber) "__init__" = some (some (.ref ad.fx_InvalidNumber))
  ti_InvalidNumber : PySem.W.typeIn K (.ref ad.fx_InvalidNumber) = some (.type "function")
  su_InvalidNumber : SupG K P ad.c_InvalidNumber ad.fx_InvalidNumber (nf_InvalidNumber ad) ad.d_xInvalidNumber ad.cc_InvalidNumber "ValueError" "ValueError.__new__" "ValueError.__init__" PySem.HandSPX.veTail
  xb_InvalidNumber : Binds K ad.d_xInvalidNumber ["self", "given"] []
  xc_InvalidNumber : PySem.W.findIn K (.ref ad.c_InvalidNumber) "code" = some none
  xn_InvalidNumber : PySem.W.findIn K (.ref ad.c_InvalidNumber) "given" = some none
  ox_InvalidTable : OexG K ad.c_InvalidTable "ValueError.__new__" PySem.HandSPX.veTail
  ai_InvalidTable : PySem.W.findIn K (.ref ad.c_InvalidTable) "__init__" = some (some (.ref ad.fx_InvalidTable))
  ti_InvalidTable : PySem.W.typeIn K (.ref ad.fx_InvalidTable) = some (.type "function")
  su_InvalidTable : SupG K P ad.c_InvalidTable ad.fx_InvalidTable (nf_InvalidTable ad) ad.d_xInvalidTable ad.cc_InvalidTable "ValueError" "ValueError.__new__" "ValueError.__init__" PySem.HandSPX.veTail
  xb_InvalidTable : Binds K ad.d_xInvalidTable ["self", "at"] []
  xc_InvalidTable : PySem.W.findIn K (.ref ad.c_InvalidTable) "code" = some none
  xn_InvalidTable : PySem.W.findIn K (.ref ad.c_InvalidTable) "at" = some none
  ox_InvalidSingles : OexG K ad.c_InvalidSingles "ValueError.__new__" PySem.HandSPX.veTail
  ai_InvalidSingles : PySem.W.findIn K (.ref ad.c_InvalidSingles) "__init__" = some (some (.ref ad.fx_InvalidSingles))
  ti_InvalidSingles : PySem.W.typeIn K (.ref ad.fx_InvalidSingles) = some (.type "function")
  su_InvalidSingles : SupG K P ad.c_InvalidSingles ad.fx_InvalidSingles (nf_InvalidSingles ad) ad.d_xInvalidSingles ad.cc_InvalidSingles "ValueError" "ValueError.__new__" "ValueError.__init__" PySem.HandSPX.veTail
  xb_InvalidSingles : Binds K ad.d_xInvalidSingles ["self", "at"] []
  xc_InvalidSingles : PySem.W.findIn K (.ref ad.c_InvalidSingles) "code" = some none
  xn_InvalidSingles : PySem.W.findIn K (.ref ad.c_InvalidSingles) "at" = some none
  tbok : TbOk K (tbl ad) ftb
  xall : ∀ t ∈ tbl ad, PySem.W.exmAny K (.ref t.2.1) [.ref ad.c_DialError, .ref ad.c_Missing] = some true
section
variable {P : Program} {w : World} {K : PySem.W.Frag} {mg : Str → Option Value} {base : Heap} {ad : Ad}
theorem ex_InvalidNumber (T : Txt P K mg ad) : FnOk P w K mg base CX0 1 ad.fx_InvalidNumber ad.d_xInvalidNumber ["self", "given"] (spE1 ad.c_InvalidNumber "given" "InvalidNumber") :=
  exc_fn1G (N := ["self", "given", "__class__"]) T.su_InvalidNumber ns_InvalidNumber T.b_super rfl rfl ⟨_, _, _, _, _, _, rfl, fun L => ⟨⟨_, rfl⟩, rfl, rfl⟩⟩ sa_InvalidNumber sb_InvalidNumber (by decide) (by decide) (by decide) (by decide) T.xn_InvalidNumber T.xc_InvalidNumber (fun _ => rfl) (fun _ => rfl)
theorem ex_InvalidTable (T : Txt P K mg ad) : FnOk P w K mg base CX0 1 ad.fx_InvalidTable ad.d_xInvalidTable ["self", "at"] (spE1 ad.c_InvalidTable "at" "InvalidTable") :=
  exc_fn1G (N := ["self", "at", "__class__"]) T.su_InvalidTable ns_InvalidTable T.b_super rfl rfl ⟨_, _, _, _, _, _, rfl, fun L => ⟨⟨_, rfl⟩, rfl, rfl⟩⟩ sa_InvalidTable sb_InvalidTable (by decide) (by decide) (by decide) (by decide) T.xn_InvalidTable T.xc_InvalidTable (fun _ => rfl) (fun _ => rfl)
theorem ex_InvalidSingles (T : Txt P K mg ad) : FnOk P w K mg base CX0 1 ad.fx_InvalidSingles ad.d_xInvalidSingles ["self", "at"] (spE1 ad.c_InvalidSingles "at" "InvalidSingles") :=
  exc_fn1G (N := ["self", "at", "__class__"]) T.su_InvalidSingles ns_InvalidSingles T.b_super rfl rfl ⟨_, _, _, _, _, _, rfl, fun L => ⟨⟨_, rfl⟩, rfl, rfl⟩⟩ sa_InvalidSingles sb_InvalidSingles (by decide) (by decide) (by decide) (by decide) T.xn_InvalidSingles T.xc_InvalidSingles (fun _ => rfl) (fun _ => rfl)
def m_is_whole_v0 (a_value : Int) : W Bool :=
  bnd (bnd (ret (true)) fun c1 => if c1 = true then (ret (!false)) else ret false) fun z => ret z
theorem ok_is_whole_v0 (T : Txt P K mg ad) : FnOk P w K mg base CX0 1 ad.f_is_whole ad.d_is_whole ["value"] (spW (fun i : Int × Unit => [sv rInt i.1]) (fun _ => []) (fun i => m_is_whole_v0 i.1) rBool) := by
  refine okW T.F_is_whole sc_is_whole (fun _ => rfl) fun cdv A outer s0 H0 E0 B i hr => ?_
  obtain ⟨a_value, _⟩ := i
  have hu := hr.units
  have hu2 := room100 hr
  have hu8 := Nat.lt_of_le_of_lt (Nat.add_le_add_left (show 8 ≤ 100 by decide) _) hu2
  show BG _ _ _ _ _ _ (m_is_whole_v0 a_value)
  unfold m_is_whole_v0
  exact b_ret RtOk.fn OsW.nil (e_conv (e_and (e_isB (T := "int") (k := true) ty_int (kit_ty (by decide +kernel)) (e_name 0) T.b_isinstance T.b_int) (e_one (e_not (e_isB (T := "bool") (k := false) ty_int (kit_ty (by decide +kernel)) (e_name 0) T.b_isinstance T.b_bool)))) (by walk_at "wn"))
def m_is_whole_v1 (a_value : PyData) : W Bool :=
  bnd (bnd (ret (tyInt (tyD a_value))) fun c1 => if c1 = true then (ret (!(tyD a_value == "bool"))) else ret false) fun z => ret z
theorem ok_is_whole_v1 (T : Txt P K mg ad) : FnOk P w K mg base CX0 1 ad.f_is_whole ad.d_is_whole ["value"] (spW (fun i : PyData × Unit => [sv (rD K) i.1]) (fun _ => []) (fun i => m_is_whole_v1 i.1) rBool) := by
  refine okW T.F_is_whole sc_is_whole (fun _ => rfl) fun cdv A outer s0 H0 E0 B i hr => ?_
  obtain ⟨a_value, _⟩ := i
  have hu := hr.units
  have hu2 := room100 hr
  have hu8 := Nat.lt_of_le_of_lt (Nat.add_le_add_left (show 8 ≤ 100 by decide) _) hu2
  show BG _ _ _ _ _ _ (m_is_whole_v1 a_value)
  unfold m_is_whole_v1
  exact b_ret RtOk.fn OsW.nil (e_conv (e_and (e_isBD (T := "int") (k := tyInt) kd_int (e_name 0) T.b_isinstance T.b_int) (e_one (e_not (e_isBD (T := "bool") (k := fun t => t == "bool") kd_bool (e_name 0) T.b_isinstance T.b_bool)))) (by walk_at "wn"))
def m_is_number_v0 (a_value : Int) (a_least : Int) (a_most : Int) : W Bool :=
  bnd (bnd (noX (m_is_whole_v0 a_value)) fun c5 => if c5 = true then (bnd (ret (decide (a_least ≤ a_value))) fun c4 => if c4 = true then (bnd (ret (false)) fun c2 => if c2 = true then ret true else (ret (decide (a_value ≤ a_most)))) else ret false) else ret false) fun z => ret z
theorem ok_is_number_v0 (T : Txt P K mg ad) : FnOk P w K mg base CX0 2 ad.f_is_number ad.d_is_number ["value", "least", "most"] (spW (fun i : Int × Int × Int × Unit => [sv rInt i.1, sv rInt i.2.1, sv rInt i.2.2.1]) (fun _ => []) (fun i => m_is_number_v0 i.1 i.2.1 i.2.2.1) rBool) := by
  refine okW T.F_is_number sc_is_number (fun _ => rfl) fun cdv A outer s0 H0 E0 B i hr => ?_
  obtain ⟨a_value, a_least, a_most, _⟩ := i
  have hu := hr.units
  have hu2 := room100 hr
  have hu8 := Nat.lt_of_le_of_lt (Nat.add_le_add_left (show 8 ≤ 100 by decide) _) hu2
  show BG _ _ _ _ _ _ (m_is_number_v0 a_value a_least a_most)
  unfold m_is_number_v0
  exact b_ret RtOk.fn OsW.nil (e_conv (e_and (e_call (ok_is_whole_v0 T) (hr.mono (by walk_at "lev")) T.m_is_whole T.F_is_whole.kp T.bd_is_whole (aa_cons (e_name 0) fun _ => aa_nil) (fun _ => OsLe.none) (fun _ => List.nodup_nil)) (e_and (e_le (e_name 1) fun _ => (e_name 0)) (e_one (e_or (e_isN isn_int (e_name 2)) (e_one (e_le (e_name 0) fun _ => (e_name 2))))))) (by walk_at "wn"))
def m_is_number_v1 (a_value : Int) (a_least : Int) (a_most : Unit) : W Bool :=
  bnd (bnd (noX (m_is_whole_v0 a_value)) fun c5 => if c5 = true then (bnd (ret (decide (a_least ≤ a_value))) fun c4 => if c4 = true then (bnd (ret (true)) fun c2 => if c2 = true then ret true else (fail)) else ret false) else ret false) fun z => ret z
theorem ok_is_number_v1 (T : Txt P K mg ad) : FnOk P w K mg base CX0 2 ad.f_is_number ad.d_is_number ["value", "least", "most"] (spW (fun i : Int × Int × Unit × Unit => [sv rInt i.1, sv rInt i.2.1, sv rNon i.2.2.1]) (fun _ => []) (fun i => m_is_number_v1 i.1 i.2.1 i.2.2.1) rBool) := by
  refine okW T.F_is_number sc_is_number (fun _ => rfl) fun cdv A outer s0 H0 E0 B i hr => ?_
  obtain ⟨a_value, a_least, a_most, _⟩ := i
  have hu := hr.units
  have hu2 := room100 hr
  have hu8 := Nat.lt_of_le_of_lt (Nat.add_le_add_left (show 8 ≤ 100 by decide) _) hu2
  show BG _ _ _ _ _ _ (m_is_number_v1 a_value a_least a_most)
  unfold m_is_number_v1
  exact b_ret RtOk.fn OsW.nil (e_conv (e_and (e_call (ok_is_whole_v0 T) (hr.mono (by walk_at "lev")) T.m_is_whole T.F_is_whole.kp T.bd_is_whole (aa_cons (e_name 0) fun _ => aa_nil) (fun _ => OsLe.none) (fun _ => List.nodup_nil)) (e_and (e_le (e_name 1) fun _ => (e_name 0)) (e_one (e_or (e_isN isn_non (e_name 2)) e_fail)))) (by walk_at "wn"))
def m_is_number_v2 (a_value : PyData) (a_least : Int) (a_most : Int) : W Bool :=
  bnd (bnd (noX (m_is_whole_v1 a_value)) fun c7 => if c7 = true then (bnd (bnd (asInt a_value) fun t2 => ret (decide (a_least ≤ t2))) fun c6 => if c6 = true then (bnd (ret (false)) fun c4 => if c4 = true then ret true else (bnd (asInt a_value) fun t3 => ret (decide (t3 ≤ a_most)))) else ret false) else ret false) fun z => ret z
theorem ok_is_number_v2 (T : Txt P K mg ad) : FnOk P w K mg base CX0 2 ad.f_is_number ad.d_is_number ["value", "least", "most"] (spW (fun i : PyData × Int × Int × Unit => [sv (rD K) i.1, sv rInt i.2.1, sv rInt i.2.2.1]) (fun _ => []) (fun i => m_is_number_v2 i.1 i.2.1 i.2.2.1) rBool) := by
  refine okW T.F_is_number sc_is_number (fun _ => rfl) fun cdv A outer s0 H0 E0 B i hr => ?_
  obtain ⟨a_value, a_least, a_most, _⟩ := i
  have hu := hr.units
  have hu2 := room100 hr
  have hu8 := Nat.lt_of_le_of_lt (Nat.add_le_add_left (show 8 ≤ 100 by decide) _) hu2
  show BG _ _ _ _ _ _ (m_is_number_v2 a_value a_least a_most)
  unfold m_is_number_v2
  exact b_ret RtOk.fn OsW.nil (e_conv (e_and (e_call (ok_is_whole_v1 T) (hr.mono (by walk_at "lev")) T.m_is_whole T.F_is_whole.kp T.bd_is_whole (aa_cons (e_name 0) fun _ => aa_nil) (fun _ => OsLe.none) (fun _ => List.nodup_nil)) (e_and (e_le (e_name 1) fun _ => (e_asInt (e_name 0))) (e_one (e_or (e_isN isn_int (e_name 2)) (e_one (e_le (e_asInt (e_name 0)) fun _ => (e_name 2))))))) (by walk_at "wn"))
def m_is_number_v3 (a_value : PyData) (a_least : Int) (a_most : Unit) : W Bool :=
  bnd (bnd (noX (m_is_whole_v1 a_value)) fun c6 => if c6 = true then (bnd (bnd (asInt a_value) fun t2 => ret (decide (a_least ≤ t2))) fun c5 => if c5 = true then (bnd (ret (true)) fun c3 => if c3 = true then ret true else (fail)) else ret false) else ret false) fun z => ret z
theorem ok_is_number_v3 (T : Txt P K mg ad) : FnOk P w K mg base CX0 2 ad.f_is_number ad.d_is_number ["value", "least", "most"] (spW (fun i : PyData × Int × Unit × Unit => [sv (rD K) i.1, sv rInt i.2.1, sv rNon i.2.2.1]) (fun _ => []) (fun i => m_is_number_v3 i.1 i.2.1 i.2.2.1) rBool) := by
  refine okW T.F_is_number sc_is_number (fun _ => rfl) fun cdv A outer s0 H0 E0 B i hr => ?_
  obtain ⟨a_value, a_least, a_most, _⟩ := i
  have hu := hr.units
  have hu2 := room100 hr
  have hu8 := Nat.lt_of_le_of_lt (Nat.add_le_add_left (show 8 ≤ 100 by decide) _) hu2
  show BG _ _ _ _ _ _ (m_is_number_v3 a_value a_least a_most)
  unfold m_is_number_v3
  exact b_ret RtOk.fn OsW.nil (e_conv (e_and (e_call (ok_is_whole_v1 T) (hr.mono (by walk_at "lev")) T.m_is_whole T.F_is_whole.kp T.bd_is_whole (aa_cons (e_name 0) fun _ => aa_nil) (fun _ => OsLe.none) (fun _ => List.nodup_nil)) (e_and (e_le (e_name 1) fun _ => (e_asInt (e_name 0))) (e_one (e_or (e_isN isn_non (e_name 2)) e_fail)))) (by walk_at "wn"))
def m_need_number_v0 (a_value : Int) (a_least : Int) (a_most : Int) : W Unit :=
  bnd (bnd (noX (m_is_number_v0 a_value a_least a_most)) fun r1 => ret (!r1)) fun b2 => if b2 = true then (fail) else (ret ())
theorem ok_need_number_v0 (T : Txt P K mg ad) : FnOk P w K mg base CX0 3 ad.f_need_number ad.d_need_number ["value", "least", "most"] (spW (fun i : Int × Int × Int × Unit => [sv rInt i.1, sv rInt i.2.1, sv rInt i.2.2.1]) (fun _ => []) (fun i => m_need_number_v0 i.1 i.2.1 i.2.2.1) rNon) := by
  refine okW T.F_need_number sc_need_number (fun _ => rfl) fun cdv A outer s0 H0 E0 B i hr => ?_
  obtain ⟨a_value, a_least, a_most, _⟩ := i
  have hu := hr.units
  have hu2 := room100 hr
  have hu8 := Nat.lt_of_le_of_lt (Nat.add_le_add_left (show 8 ≤ 100 by decide) _) hu2
  show BG _ _ _ _ _ _ (m_need_number_v0 a_value a_least a_most)
  unfold m_need_number_v0
  refine b_ifA (t_conv (t_not (t_val (e_call (ok_is_number_v0 T) (hr.mono (by walk_at "lev")) T.m_is_number T.F_is_number.kp T.bd_is_number (aa_cons (e_name 0) fun _ => (aa_cons (e_name 1) fun _ => (aa_cons (e_name 2) fun _ => aa_nil))) (fun _ => OsLe.none) (fun _ => List.nodup_nil)))) (by walk_at "wn")) ?_ ?_
  · exact b_never
  · exact b_end (NxOk.fn OsW.nil)
def m_need_number_v1 (a_value : Int) (a_least : Int) (a_most : Unit) : W Unit :=
  bnd (bnd (noX (m_is_number_v1 a_value a_least a_most)) fun r1 => ret (!r1)) fun b2 => if b2 = true then (fail) else (ret ())
theorem ok_need_number_v1 (T : Txt P K mg ad) : FnOk P w K mg base CX0 3 ad.f_need_number ad.d_need_number ["value", "least", "most"] (spW (fun i : Int × Int × Unit × Unit => [sv rInt i.1, sv rInt i.2.1, sv rNon i.2.2.1]) (fun _ => []) (fun i => m_need_number_v1 i.1 i.2.1 i.2.2.1) rNon) := by
  refine okW T.F_need_number sc_need_number (fun _ => rfl) fun cdv A outer s0 H0 E0 B i hr => ?_
  obtain ⟨a_value, a_least, a_most, _⟩ := i
  have hu := hr.units
  have hu2 := room100 hr
  have hu8 := Nat.lt_of_le_of_lt (Nat.add_le_add_left (show 8 ≤ 100 by decide) _) hu2
  show BG _ _ _ _ _ _ (m_need_number_v1 a_value a_least a_most)
  unfold m_need_number_v1
  refine b_ifA (t_conv (t_not (t_val (e_call (ok_is_number_v1 T) (hr.mono (by walk_at "lev")) T.m_is_number T.F_is_number.kp T.bd_is_number (aa_cons (e_name 0) fun _ => (aa_cons (e_name 1) fun _ => (aa_cons (e_name 2) fun _ => aa_nil))) (fun _ => OsLe.none) (fun _ => List.nodup_nil)))) (by walk_at "wn")) ?_ ?_
  · exact b_never
  · exact b_end (NxOk.fn OsW.nil)
def m_need_number_v2 (a_value : PyData) (a_least : Int) (a_most : Int) : W Unit :=
  bnd (bnd (noX (m_is_number_v2 a_value a_least a_most)) fun r1 => ret (!r1)) fun b2 => if b2 = true then (bnd (ret (a_value)) fun v => thr ⟨"InvalidNumber", [id v]⟩) else (ret ())
theorem ok_need_number_v2 (T : Txt P K mg ad) : FnOk P w K mg base (L2.CX P w) 3 ad.f_need_number ad.d_need_number ["value", "least", "most"] (spX K (tbl ad) (fun i : PyData × Int × Int × Unit => [sv (rD K) i.1, sv rInt i.2.1, sv rInt i.2.2.1]) (fun _ => []) (fun i => m_need_number_v2 i.1 i.2.1 i.2.2.1) rNon) := by
  refine okX T.F_need_number sc_need_number (fun _ => rfl) fun cdv A outer s0 H0 E0 B i hr tk hpo => ?_
  obtain ⟨a_value, a_least, a_most, _⟩ := i
  have hu := hr.units
  have hu2 := room100 hr
  have hu8 := Nat.lt_of_le_of_lt (Nat.add_le_add_left (show 8 ≤ 100 by decide) _) hu2
  show BG _ _ _ _ _ _ (m_need_number_v2 a_value a_least a_most)
  unfold m_need_number_v2
  refine b_ifA (t_conv (t_not (t_val (e_call (ok_is_number_v2 T) (hr.mono (by walk_at "lev")) T.m_is_number T.F_is_number.kp T.bd_is_number (aa_cons (e_name 0) fun _ => (aa_cons (e_name 1) fun _ => (aa_cons (e_name 2) fun _ => aa_nil))) (fun _ => OsLe.none) (fun _ => List.nodup_nil)))) (by walk_at "wn")) ?_ ?_
  · exact b_conv (b_raise1G foot_value tk rfl (List.Mem.head _) (by decide) T.ox_InvalidNumber T.ai_InvalidNumber T.ti_InvalidNumber (ex_InvalidNumber T) (hr.mono (by walk_at "lev")) T.xb_InvalidNumber T.n_InvalidNumber dd_D (by decide) (e_conv (e_name 0) (by walk_at "wn"))) rfl
  · exact b_end (NxOk.fn OsW.nil)
def m_need_number_v3 (a_value : PyData) (a_least : Int) (a_most : Unit) : W Unit :=
  bnd (bnd (noX (m_is_number_v3 a_value a_least a_most)) fun r1 => ret (!r1)) fun b2 => if b2 = true then (bnd (ret (a_value)) fun v => thr ⟨"InvalidNumber", [id v]⟩) else (ret ())
theorem ok_need_number_v3 (T : Txt P K mg ad) : FnOk P w K mg base (L2.CX P w) 3 ad.f_need_number ad.d_need_number ["value", "least", "most"] (spX K (tbl ad) (fun i : PyData × Int × Unit × Unit => [sv (rD K) i.1, sv rInt i.2.1, sv rNon i.2.2.1]) (fun _ => []) (fun i => m_need_number_v3 i.1 i.2.1 i.2.2.1) rNon) := by
  refine okX T.F_need_number sc_need_number (fun _ => rfl) fun cdv A outer s0 H0 E0 B i hr tk hpo => ?_
  obtain ⟨a_value, a_least, a_most, _⟩ := i
  have hu := hr.units
  have hu2 := room100 hr
  have hu8 := Nat.lt_of_le_of_lt (Nat.add_le_add_left (show 8 ≤ 100 by decide) _) hu2
  show BG _ _ _ _ _ _ (m_need_number_v3 a_value a_least a_most)
  unfold m_need_number_v3
  refine b_ifA (t_conv (t_not (t_val (e_call (ok_is_number_v3 T) (hr.mono (by walk_at "lev")) T.m_is_number T.F_is_number.kp T.bd_is_number (aa_cons (e_name 0) fun _ => (aa_cons (e_name 1) fun _ => (aa_cons (e_name 2) fun _ => aa_nil))) (fun _ => OsLe.none) (fun _ => List.nodup_nil)))) (by walk_at "wn")) ?_ ?_
  · exact b_conv (b_raise1G foot_value tk rfl (List.Mem.head _) (by decide) T.ox_InvalidNumber T.ai_InvalidNumber T.ti_InvalidNumber (ex_InvalidNumber T) (hr.mono (by walk_at "lev")) T.xb_InvalidNumber T.n_InvalidNumber dd_D (by decide) (e_conv (e_name 0) (by walk_at "wn"))) rfl
  · exact b_end (NxOk.fn OsW.nil)
def m_primes_in_l2c (s5 : ((List Int) × Int × Int)) (s10 : Int) : W Bool :=
  bnd (modI s10 s5.2.2) fun t11 => ret (decide (t11 = (0 : Int)))
def m_primes_in_l2 (s5 : ((List Int) × Int × Int)) (s10 : Int) : W Int :=
  bnd (divI s10 s5.2.2) fun rest_12 => ret (rest_12)
def m_primes_in_l1c (s5 : ((List Int) × Int × Int)) : W Bool :=
  bnd (mulI s5.2.2 s5.2.2) fun t6 => ret (decide (t6 ≤ s5.2.1))
def m_primes_in_l1 (s5 : ((List Int) × Int × Int)) : W ((List Int) × Int × Int) :=
  bnd (bnd (modI s5.2.1 s5.2.2) fun t7 => ret (decide (t7 = (0 : Int)))) fun b8 => bnd (if b8 = true then (bnd (ret (s5.2.2)) fun y9 => chk (s5.1.length < sizeLine) (bnd (whileW (m_primes_in_l2c s5) (m_primes_in_l2 s5) (s5.2.1)) fun (s14 : Int) => ret (((s5.1 ++ [y9]), s14)))) else (ret ((s5.1, s5.2.1)))) fun (s15 : ((List Int) × Int)) => bnd (ret (s5.2.2 + ((1 : Int)))) fun low_16 => ret ((s15.1, s15.2, low_16))
def m_primes_in (a_number : Int) : W (List Int) :=
  bnd (ret (([] : (List Int)))) fun found_1 => bnd (ret (a_number)) fun rest_3 => bnd (ret ((2 : Int))) fun low_4 => bnd (whileW (m_primes_in_l1c) (m_primes_in_l1) ((found_1, rest_3, low_4))) fun (s17 : ((List Int) × Int × Int)) => bnd (bnd (ret (decide (((1 : Int)) < s17.2.1))) fun c => if c = true then catL s17.1 ([s17.2.1]) else ret (s17.1)) fun z => ret z
theorem ok_primes_in (T : Txt P K mg ad) : FnOk P w K mg base CX0 1 ad.f_primes_in ad.d_primes_in ["number"] (spW (fun i : Int × Unit => [sv rInt i.1]) (fun _ => []) (fun i => m_primes_in i.1) (rLst rInt)) := by
  refine okW T.F_primes_in sc_primes_in (fun _ => rfl) fun cdv A outer s0 H0 E0 B i hr => ?_
  obtain ⟨a_number, _⟩ := i
  have hu := hr.units
  have hu2 := room100 hr
  have hu8 := Nat.lt_of_le_of_lt (Nat.add_le_add_left (show 8 ≤ 100 by decide) _) hu2
  show BG _ _ _ _ _ _ (m_primes_in a_number)
  unfold m_primes_in
  refine b_own 1 (n_conv (n_list (r := rInt) al_nil) (by walk_at "wn")) (fun p2 found_1 => ?_) sc_primes_in.nd
  first | refine b_par2 (ps_par (i := 2) (j := 3) rfl sc_primes_in.nd rfl rfl (by decide) rfl rfl (pa2 (e_conv (e_name 0) (by walk_at "wn")) (fun _ => e_conv e_int rfl)) rfl) (fun rest_3 low_4 => ?_) | refine b_par2T (ps_asg (pe_tup (pa2 (e_conv (e_name 0) (by walk_at "wn")) (fun _ => e_conv e_int rfl))) (pg_tup rfl (pgs_cons (pg_name (i := 2) sc_primes_in.nd rfl (by walk_at "loc")) (pgs_cons (pg_name (i := 3) sc_primes_in.nd rfl (by walk_at "loc")) pgs_nil)))) (fun rest_3 low_4 => ?_)
  refine b_while (S := ((List Int) × Int × Int)) (fun s => [sv rInt a_number, sv (rAdr p2) (), sv rInt s.2.1, sv rInt s.2.2]) (fun s => [(p2, oLst rInt s.1)]) ((found_1, rest_3, low_4) : ((List Int) × Int × Int)) PassesOwn.never (fun s5 => t_conv (t_le (e_mul (e_name 3) fun _ => (e_name 3)) fun _ => (e_name 2)) rfl) (fun s5 => ?_) (fun s17 => ?_) ⟨.inl rfl, .inl rfl, .inl rfl, .inl rfl, trivial⟩ rfl
  · unfold m_primes_in_l1
    refine b_ifJ (S := ((List Int) × Int)) (fun s => [sv rInt a_number, sv (rAdr p2) (), sv rInt s.2, sv rInt s5.2.2]) (fun s => [(p2, oLst rInt s.1)]) (t_conv (t_eqI (e_mod (e_name 2) fun _ => (e_name 3)) fun _ => e_int) (by walk_at "wn")) ?_ ?_ (fun s15 => ?_)
    · refine b_append 1 0 rfl rfl (e_conv (e_name 3) (by walk_at "wn")) (fun y9 => ?_)
      refine b_while (S := Int) (fun s => [sv rInt a_number, sv (rAdr p2) (), sv rInt s, sv rInt s5.2.2]) (fun s => [(p2, oLst rInt ((s5.1 ++ [y9])))]) (s5.2.1 : Int) PassesOwn.never (fun s10 => t_conv (t_eqI (e_mod (e_name 2) fun _ => (e_name 3)) fun _ => e_int) rfl) (fun s10 => ?_) (fun s14 => ?_) ⟨.inl rfl, .inl rfl, .inl rfl, .inl rfl, trivial⟩ rfl
      · unfold m_primes_in_l2
        refine b_set 2 (e_conv (e_div (e_name 2) fun _ => (e_name 3)) (by walk_at "wn")) (fun rest_12 => ?_) sc_primes_in.nd
        exact b_end (NxOk.nxS (s := (rest_12 : Int)) ⟨.inl rfl, .inl rfl, .inl rfl, .inl rfl, trivial⟩ (.cons_cons _ .slnil))
      · exact b_end (NxOk.nxS (s := (((s5.1 ++ [y9]), s14) : ((List Int) × Int))) ⟨.inl rfl, .inl rfl, .inl rfl, .inl rfl, trivial⟩ (.cons_cons _ .slnil))
    · exact b_end (NxOk.nxS (s := ((s5.1, s5.2.1) : ((List Int) × Int))) ⟨.inl rfl, .inl rfl, .inl rfl, .inl rfl, trivial⟩ (.cons_cons _ .slnil))
    · refine b_set 3 (e_conv (e_add (e_name 3) fun _ => e_int) (by walk_at "wn")) (fun low_16 => ?_) sc_primes_in.nd
      exact b_end (NxOk.nxS (s := ((s15.1, s15.2, low_16) : ((List Int) × Int × Int))) ⟨.inl rfl, .inl rfl, .inl rfl, .inl rfl, trivial⟩ (.cons_cons _ .slnil))
  · refine b_freeze 1 0 rfl rfl ?_
    exact b_ret RtOk.fn OsW.nil (e_conv (e_if (t_gt (e_name 2) fun _ => e_int) (e_new (n_cat (e_name 1) fun _ => (e_new (n_list (al_cons (e_name 2) al_nil))))) (e_name 1)) (by walk_at "wn"))
def m_all_divisors_l2c (x4 : Int) (s8 : (Int × (List Int))) : W Bool :=
  bnd (modI s8.1 x4) fun t9 => ret (decide (t9 = (0 : Int)))
def m_all_divisors_l2 (x4 : Int) (s8 : (Int × (List Int))) : W (Int × (List Int)) :=
  bnd (divI s8.1 x4) fun rest_10 => bnd (bnd (idx s8.2 (-((1 : Int)))) fun t12 => mulI t12 x4) fun y14 => chk (s8.2.length < sizeLine) (ret ((rest_10, (s8.2 ++ [y14]))))
def m_all_divisors_l1 (s5 : ((List Int) × Int)) (x4 : Int) : W ((List Int) × Int) :=
  bnd (ret ([(1 : Int)])) fun powers_6 => bnd (whileW (m_all_divisors_l2c x4) (m_all_divisors_l2 x4) ((s5.2, powers_6))) fun (s15 : (Int × (List Int))) => bnd (fl2 (fun (x20 : Int) => ret (s15.2)) (fun (x20 : Int) (x21 : Int) => mulI x20 x21) s5.1 []) fun found_19 => ret ((found_19, s15.1))
def m_all_divisors (a_number : Int) : W (List Int) :=
  bnd (ret ([(1 : Int)])) fun found_1 => bnd (ret (a_number)) fun rest_2 => bnd (noX (m_primes_in a_number)) fun xs24 => bnd (forW m_all_divisors_l1 ((found_1, rest_2)) xs24) fun (s25 : ((List Int) × Int)) => bnd (sortJ s25.1) fun z => ret z
theorem ok_all_divisors (T : Txt P K mg ad) : FnOk P w K mg base CX0 2 ad.f_all_divisors ad.d_all_divisors ["number"] (spW (fun i : Int × Unit => [sv rInt i.1]) (fun _ => []) (fun i => m_all_divisors i.1) (rLst rInt)) := by
  refine okW T.F_all_divisors sc_all_divisors (fun _ => rfl) fun cdv A outer s0 H0 E0 B i hr => ?_
  obtain ⟨a_number, _⟩ := i
  have hu := hr.units
  have hu2 := room100 hr
  have hu8 := Nat.lt_of_le_of_lt (Nat.add_le_add_left (show 8 ≤ 100 by decide) _) hu2
  show BG _ _ _ _ _ _ (m_all_divisors a_number)
  unfold m_all_divisors
  first | refine b_par2 (ps_par (i := 1) (j := 2) rfl sc_all_divisors.nd rfl rfl (by decide) rfl rfl (pa2 (e_conv (e_new (n_list (al_cons e_int al_nil))) (by walk_at "wn")) (fun _ => e_conv (e_name 0) rfl)) rfl) (fun found_1 rest_2 => ?_) | refine b_par2T (ps_asg (pe_tup (pa2 (e_conv (e_new (n_list (al_cons e_int al_nil))) (by walk_at "wn")) (fun _ => e_conv (e_name 0) rfl))) (pg_tup rfl (pgs_cons (pg_name (i := 1) sc_all_divisors.nd rfl (by walk_at "loc")) (pgs_cons (pg_name (i := 2) sc_all_divisors.nd rfl (by walk_at "loc")) pgs_nil)))) (fun found_1 rest_2 => ?_)
  refine b_for (S := ((List Int) × Int)) (fun s => [sv rInt a_number, sv (rLst rInt) s.1, sv rInt s.2, sa, sa, sa, sa]) (fun s => []) ((found_1, rest_2) : ((List Int) × Int)) rfl PassesOwn.never (s_conv (s_list (e_call (ok_primes_in T) (hr.mono (by walk_at "lev")) T.m_primes_in T.F_primes_in.kp T.bd_primes_in (aa_cons (e_name 0) fun _ => aa_nil) (fun _ => OsLe.none) (fun _ => List.nodup_nil))) (by walk_at "wn")) (tg_name (i := 3)) (pg_name (i := 3) sc_all_divisors.nd rfl (by walk_at "loc")) (fun M s5 x4 => ?_) (fun s25 => ?_) ⟨.inl rfl, .inl rfl, .inl rfl, .inr rfl, .inr rfl, .inr rfl, .inr rfl, trivial⟩ rfl
  · unfold m_all_divisors_l1
    refine b_own 4 (n_conv (n_list (al_cons e_int al_nil)) (by walk_at "wn")) (fun p7 powers_6 => ?_) sc_all_divisors.nd
    refine b_while (S := (Int × (List Int))) (fun s => [sv rInt a_number, sv (rLst rInt) s5.1, sv rInt s.1, sv rInt x4, sv (rAdr p7) (), sa, sa]) (fun s => [(p7, oLst rInt s.2)]) ((s5.2, powers_6) : (Int × (List Int))) PassesOwn.never (fun s8 => t_conv (t_eqI (e_mod (e_name 2) fun _ => (e_name 3)) fun _ => e_int) rfl) (fun s8 => ?_) (fun s15 => ?_) ⟨.inl rfl, .inl rfl, .inl rfl, .inl rfl, .inl rfl, .inr rfl, .inr rfl, trivial⟩ rfl
    · unfold m_all_divisors_l2
      refine b_set 2 (e_conv (e_div (e_name 2) fun _ => (e_name 3)) (by walk_at "wn")) (fun rest_10 => ?_) sc_all_divisors.nd
      refine b_append 4 0 rfl rfl (e_conv (e_mul (e_idxO 4 0 rfl rfl (e_neg e_int)) fun _ => (e_name 3)) (by walk_at "wn")) (fun y14 => ?_)
      exact b_end (NxOk.nxS (s := ((rest_10, (s8.2 ++ [y14])) : (Int × (List Int)))) ⟨.inl rfl, .inl rfl, .inl rfl, .inl rfl, .inl rfl, .inr rfl, .inr rfl, trivial⟩ (.cons_cons _ .slnil))
    · refine b_freeze 4 0 rfl rfl ?_
      first | refine b_setC 1 (c_conv (c_comp2 (s := rInt) (vs1 := [6]) rfl sc_all_divisors.nd (s_list (e_name 1)) (blkOk_by (own := [("low", 5), ("high", 6)]) rfl) (tg_name (i := 5)) (fun _ _ _ _ _ => (pg_name (i := 5) sc_all_divisors.nd rfl (by walk_at "loc"))) (by decide) (tg_name (i := 6)) (fun _ _ _ _ _ => (pg_name (i := 6) sc_all_divisors.nd rfl (by walk_at "loc"))) (by decide) (by decide) (fun _ _ _ _ _ _ _ _ _ => (s_list (e_name 4))) (fun _ _ _ _ _ _ _ _ _ _ => (e_mul (e_name 5) fun _ => (e_name 6))) rfl rfl (sw_true rfl rfl rfl (by decide +kernel))) (by walk_at "wn")) (fun found_19 => ?_) | refine b_set 1 (e_conv (e_new (n_comp2 (s := rInt) (vs1 := [6]) rfl sc_all_divisors.nd (s_list (e_name 1)) (blkOk_by (own := [("low", 5), ("high", 6)]) rfl) (tg_name (i := 5)) (fun _ _ _ _ _ => (pg_name (i := 5) sc_all_divisors.nd rfl (by walk_at "loc"))) (by decide) (tg_name (i := 6)) (fun _ _ _ _ _ => (pg_name (i := 6) sc_all_divisors.nd rfl (by walk_at "loc"))) (by decide) (by decide) (fun _ _ _ _ _ _ _ _ _ => (s_list (e_name 4))) (fun _ _ _ _ _ _ _ _ _ _ => (e_mul (e_name 5) fun _ => (e_name 6))))) (by walk_at "wn")) (fun found_19 => ?_) sc_all_divisors.nd
      exact b_end (NxOk.nxS (s := ((found_19, s15.1) : ((List Int) × Int))) ⟨.inl rfl, .inl rfl, .inl rfl, .inr rfl, .inr rfl, .inr rfl, .inr rfl, trivial⟩ .slnil)
  · exact b_ret RtOk.fn OsW.nil (e_conv (e_new (n_sortedJ (e_name 1) T.b_sorted)) (by walk_at "wn"))
def m_common (a_one : Int) (a_other : Int) : W Int :=
  bnd (ret (((Nat.gcd a_one.natAbs a_other.natAbs : Nat) : Int))) fun z => ret z
theorem ok_common (T : Txt P K mg ad) : FnOk P w K mg base CX0 1 ad.f_common ad.d_common ["one", "other"] (spW (fun i : Int × Int × Unit => [sv rInt i.1, sv rInt i.2.1]) (fun _ => []) (fun i => m_common i.1 i.2.1) rInt) := by
  refine okW T.F_common sc_common (fun _ => rfl) fun cdv A outer s0 H0 E0 B i hr => ?_
  obtain ⟨a_one, a_other, _⟩ := i
  have hu := hr.units
  have hu2 := room100 hr
  have hu8 := Nat.lt_of_le_of_lt (Nat.add_le_add_left (show 8 ≤ 100 by decide) _) hu2
  show BG _ _ _ _ _ _ (m_common a_one a_other)
  unfold m_common
  exact b_ret RtOk.fn OsW.nil (e_conv (e_gcd (e_name 0) (fun _ => (e_name 1)) T.bf_gcd) (by walk_at "wn"))
def m_Poly_init_l2c (s9 : (List Int)) : W Bool :=
  bnd (ret (!s9.isEmpty)) fun c11 => if c11 = true then (bnd (idx s9 (-((1 : Int)))) fun t10 => ret (decide (t10 = (0 : Int)))) else ret false
def m_Poly_init_l2 (s9 : (List Int)) : W (List Int) :=
  chk (s9 ≠ []) (ret (s9.dropLast))
def m_Poly_init_l1 (s2 : Unit) (x1 : (Int × Int)) : W Unit :=
  bnd (bnd (noX (m_is_whole_v0 x1.2)) fun r3 => ret (!r3)) fun b4 => if b4 = true then (fail) else (ret (()))
def m_Poly_init (a_coefs : (List Int)) : W Poly_ :=
  bnd (ret ((rangeI 0 a_coefs.length).zip a_coefs)) fun xs5 => bnd (forW m_Poly_init_l1 (()) xs5) fun (s6 : Unit) => bnd (ret (a_coefs)) fun row_7 => bnd (whileW (m_Poly_init_l2c) (m_Poly_init_l2) (row_7)) fun (s13 : (List Int)) => bnd (ret (s13)) fun own_coefs_14 => ret (⟨own_coefs_14⟩ : Poly_)
theorem ok_Poly_init (T : Txt P K mg ad) : FnR P w K mg base CX0 2 ad.f_Poly_init (spIS ad.c_Poly rInt m_Poly_init (fl_Poly K ad)) := by
  refine initS T.F_Poly_init sc_Poly_init T.bs_Poly_init fun cdv A outer s0 H0 E0 B self0 a_coefs hr => ?_
  have hu := hr.units
  have hu2 := room100 hr
  have hu8 := Nat.lt_of_le_of_lt (Nat.add_le_add_left (show 8 ≤ 100 by decide) _) hu2
  show BG _ _ _ _ _ _ (m_Poly_init a_coefs)
  unfold m_Poly_init
  refine b_for (S := Unit) (fun s => [sv (rAdr self0) (), sv (rTup K rInt) a_coefs, sa, sa, sa]) (fun s => [(self0, oObj ad.c_Poly [])]) (() : Unit) rfl PassesOwn.never (s_conv (s_enumT (e_name 1) T.b_enumerate) (by walk_at "wn")) (tg_pair (i := 2) (j := 3)) (pg_tup rfl (pgs_cons (pg_name (i := 2) sc_Poly_init.nd rfl (by walk_at "loc")) (pgs_cons (pg_name (i := 3) sc_Poly_init.nd rfl (by walk_at "loc")) pgs_nil))) (fun M s2 x1 => ?_) (fun s6 => ?_) ⟨.inl rfl, .inl rfl, .inr rfl, .inr rfl, .inr rfl, trivial⟩ rfl
  · unfold m_Poly_init_l1
    refine b_ifA (t_conv (t_not (t_val (e_call (ok_is_whole_v0 T) (hr.mono (by walk_at "lev")) T.m_is_whole T.F_is_whole.kp T.bd_is_whole (aa_cons (e_name 3) fun _ => aa_nil) (fun _ => OsLe.none) (fun _ => List.nodup_nil)))) (by walk_at "wn")) ?_ ?_
    · exact b_never
    · exact b_end (NxOk.nxS (s := (() : Unit)) ⟨.inl rfl, .inl rfl, .inr rfl, .inr rfl, .inr rfl, trivial⟩ (.cons_cons _ .slnil))
  · refine b_own 4 (n_conv (n_listT (e_name 1) T.b_list) (by walk_at "wn")) (fun p8 row_7 => ?_) sc_Poly_init.nd
    refine b_while (S := (List Int)) (fun s => [sv (rAdr self0) (), sv (rTup K rInt) a_coefs, sa, sa, sv (rAdr p8) ()]) (fun s => [(p8, oLst rInt s), (self0, oObj ad.c_Poly [])]) (row_7 : (List Int)) PassesOwn.never (fun s9 => t_conv (t_pw (w_and (t_neNilO 4 0 hu dd_int rfl rfl) (w_and1 (t_eqI (e_idxO 4 0 rfl rfl (e_neg e_int)) fun _ => e_int)))) rfl) (fun s9 => ?_) (fun s13 => ?_) ⟨.inl rfl, .inl rfl, .inr rfl, .inr rfl, .inl rfl, trivial⟩ rfl
    · unfold m_Poly_init_l2
      refine b_pop 4 0 rfl rfl ?_
      exact b_end (NxOk.nxS (s := (s9.dropLast : (List Int))) ⟨.inl rfl, .inl rfl, .inr rfl, .inr rfl, .inl rfl, trivial⟩ (.cons_cons _ (.cons_cons _ .slnil)))
    · refine b_freeze 4 0 rfl rfl ?_
      refine b_fldO 0 0 T.cl_Poly T.na_Poly_own_coefs rfl rfl (e_conv (e_name 4) (by walk_at "wn")) (fun own_coefs_14 => ?_)
      exact b_end (NxOk.init (r := (⟨own_coefs_14⟩ : Poly_)) (OsW.one fun _ _ h => h))
def m_poly_of (a_row : (List Int)) : W Poly_ :=
  bnd (noX (m_Poly_init a_row)) fun z => ret z
theorem ok_poly_of (T : Txt P K mg ad) : FnOk P w K mg base CX0 4 ad.f_poly_of ad.d_poly_of ["row"] (spW (fun i : (List Int) × Unit => [sv (rLst rInt) i.1]) (fun _ => []) (fun i => m_poly_of i.1) (rObj ad.c_Poly (fl_Poly K ad))) := by
  refine okW T.F_poly_of sc_poly_of (fun _ => rfl) fun cdv A outer s0 H0 E0 B i hr => ?_
  obtain ⟨a_row, _⟩ := i
  have hu := hr.units
  have hu2 := room100 hr
  have hu8 := Nat.lt_of_le_of_lt (Nat.add_le_add_left (show 8 ≤ 100 by decide) _) hu2
  show BG _ _ _ _ _ _ (m_poly_of a_row)
  unfold m_poly_of
  exact b_ret RtOk.fn OsW.nil (e_conv (e_makeS1 T.mk_Poly (ok_Poly_init T) (hr.mono (by walk_at "lev")) T.n_Poly (e_name 0)) (by walk_at "wn"))
def m_Poly_eq (a_self : Poly_) (a_other : Poly_) : W Bool :=
  bnd (bnd (ret (true)) fun c1 => if c1 = true then (ret (PyData.eqv ((fun xs => PyData.list (xs.map .int)) a_self.own_coefs) ((fun xs => PyData.list (xs.map .int)) a_other.own_coefs))) else ret false) fun z => ret z
theorem ok_Poly_eq (T : Txt P K mg ad) : FnOk P w K mg base CX0 1 ad.f_Poly_eq ad.d_Poly_eq ["self", "other"] (spW (fun i : Poly_ × Poly_ × Unit => [sv (rObj ad.c_Poly (fl_Poly K ad)) i.1, sv (rObj ad.c_Poly (fl_Poly K ad)) i.2.1]) (fun _ => []) (fun i => m_Poly_eq i.1 i.2.1) rBool) := by
  refine okW T.F_Poly_eq sc_Poly_eq (fun _ => rfl) fun cdv A outer s0 H0 E0 B i hr => ?_
  obtain ⟨a_self, a_other, _⟩ := i
  have hu := hr.units
  have hu2 := room100 hr
  have hu8 := Nat.lt_of_le_of_lt (Nat.add_le_add_left (show 8 ≤ 100 by decide) _) hu2
  show BG _ _ _ _ _ _ (m_Poly_eq a_self a_other)
  unfold m_Poly_eq
  exact b_ret RtOk.fn OsW.nil (e_conv (e_and (e_isC (k := true) (ty_obj T.ic_Poly) T.k_Poly_Poly (e_name 1) T.b_isinstance T.n_Poly) (e_one (e_eqD hu (dd_lst dd_int) (dd_lst dd_int) (e_fld (g := fun q : Poly_ => q.own_coefs) T.cl_Poly T.na_Poly_own_coefs (e_name 0)) fun _ => (e_fld (g := fun q : Poly_ => q.own_coefs) T.cl_Poly T.na_Poly_own_coefs (e_name 1))))) (by walk_at "wn"))
def m_worth_of_l1 (a_n : Int) (s3 : Int) (x2 : Int) : W Int :=
  bnd (bnd (mulI s3 a_n) fun t5 => ret (t5 + x2)) fun found_4 => ret (found_4)
def m_worth_of (a_poly : Poly_) (a_n : Int) : W Int :=
  bnd (ret ((0 : Int))) fun found_1 => bnd (ret (a_poly.own_coefs.reverse)) fun xs6 => bnd (forW (m_worth_of_l1 a_n) (found_1) xs6) fun (s7 : Int) => bnd (ret (s7)) fun z => ret z
theorem ok_worth_of (T : Txt P K mg ad) : FnOk P w K mg base CX0 1 ad.f_worth_of ad.d_worth_of ["poly", "n"] (spW (fun i : Poly_ × Int × Unit => [sv (rObj ad.c_Poly (fl_Poly K ad)) i.1, sv rInt i.2.1]) (fun _ => []) (fun i => m_worth_of i.1 i.2.1) rInt) := by
  refine okW T.F_worth_of sc_worth_of (fun _ => rfl) fun cdv A outer s0 H0 E0 B i hr => ?_
  obtain ⟨a_poly, a_n, _⟩ := i
  have hu := hr.units
  have hu2 := room100 hr
  have hu8 := Nat.lt_of_le_of_lt (Nat.add_le_add_left (show 8 ≤ 100 by decide) _) hu2
  show BG _ _ _ _ _ _ (m_worth_of a_poly a_n)
  unfold m_worth_of
  refine b_set 2 (e_conv e_int (by walk_at "wn")) (fun found_1 => ?_) sc_worth_of.nd
  refine b_for (S := Int) (fun s => [sv (rObj ad.c_Poly (fl_Poly K ad)) a_poly, sv rInt a_n, sv rInt s, sa]) (fun s => []) (found_1 : Int) rfl PassesOwn.never (s_conv (s_list (e_new (n_rev (e_fld (g := fun q : Poly_ => q.own_coefs) T.cl_Poly T.na_Poly_own_coefs (e_name 0))))) (by walk_at "wn")) (tg_name (i := 3)) (pg_name (i := 3) sc_worth_of.nd rfl (by walk_at "loc")) (fun M s3 x2 => ?_) (fun s7 => ?_) ⟨.inl rfl, .inl rfl, .inl rfl, .inr rfl, trivial⟩ rfl
  · unfold m_worth_of_l1
    refine b_set 2 (e_conv (e_add (e_mul (e_name 2) fun _ => (e_name 1)) fun _ => (e_name 3)) (by walk_at "wn")) (fun found_4 => ?_) sc_worth_of.nd
    exact b_end (NxOk.nxS (s := (found_4 : Int)) ⟨.inl rfl, .inl rfl, .inl rfl, .inr rfl, trivial⟩ .slnil)
  · exact b_ret RtOk.fn OsW.nil (e_conv (e_name 2) (by walk_at "wn"))
def m_is_spare (a_polys : (List (Int × Poly_))) (a_modulus : Int) (a_prime : Int) : W Bool :=
  bnd (divI a_modulus a_prime) fun less_1 => bnd (bnd (noX (m_all_divisors a_modulus)) fun r3 => bnd (mapW (fun (x4 : Int) => bnd (optW (dget a_polys x4)) fun t5 => bnd (noX (m_common x4 less_1)) fun r6 => bnd (optW (dget a_polys r6)) fun t7 => noX (m_Poly_eq t5 t7)) r3) fun ys9 => ret (ys9.all id)) fun z => ret z
theorem ok_is_spare (T : Txt P K mg ad) : FnOk P w K mg base CX0 3 ad.f_is_spare ad.d_is_spare ["polys", "modulus", "prime"] (spW (fun i : (List (Int × Poly_)) × Int × Int × Unit => [sv (rDct rInt Sum.inl (rObj ad.c_Poly (fl_Poly K ad))) i.1, sv rInt i.2.1, sv rInt i.2.2.1]) (fun _ => []) (fun i => m_is_spare i.1 i.2.1 i.2.2.1) rBool) := by
  refine okW T.F_is_spare sc_is_spare (fun _ => rfl) fun cdv A outer s0 H0 E0 B i hr => ?_
  obtain ⟨a_polys, a_modulus, a_prime, _⟩ := i
  have hu := hr.units
  have hu2 := room100 hr
  have hu8 := Nat.lt_of_le_of_lt (Nat.add_le_add_left (show 8 ≤ 100 by decide) _) hu2
  show BG _ _ _ _ _ _ (m_is_spare a_polys a_modulus a_prime)
  unfold m_is_spare
  refine b_set 3 (e_conv (e_div (e_name 1) fun _ => (e_name 2)) (by walk_at "wn")) (fun less_1 => ?_) sc_is_spare.nd
  exact b_ret RtOk.fn OsW.nil (e_conv (e_all rfl (e_new (n_comp (s := rBool) rfl sc_is_spare.nd (s_list (e_call (ok_all_divisors T) (hr.mono (by walk_at "lev")) T.m_all_divisors T.F_all_divisors.kp T.bd_all_divisors (aa_cons (e_name 1) fun _ => aa_nil) (fun _ => OsLe.none) (fun _ => List.nodup_nil))) (blkOk_by (own := [("low", 4)]) rfl) (tg_name (i := 4)) (fun _ _ _ _ _ => (pg_name (i := 4) sc_is_spare.nd rfl (by walk_at "loc"))) (by decide) (fun _ _ _ _ _ _ _ _ _ => (e_eqO hu2 (ok_Poly_eq T) (hr.mono (by walk_at "lev")) T.bd_Poly_eq T.eq_Poly T.fe_Poly (ty_obj T.ic_Poly) T.nf_Poly_Poly (e_dget key_int hu2 (e_name 0) fun _ => (e_name 4)) fun _ => (e_dget key_int hu2 (e_name 0) fun _ => (e_call (ok_common T) (hr.mono (by walk_at "lev")) T.m_common T.F_common.kp T.bd_common (aa_cons (e_name 4) fun _ => (aa_cons (e_name 3) fun _ => aa_nil)) (fun _ => OsLe.none) (fun _ => List.nodup_nil))))))) T.b_all) (by walk_at "wn"))
def m_least_modulus_l2c (a_polys : (List (Int × Poly_))) (x3 : Int) (s5 : Int) : W Bool :=
  bnd (bnd (modI s5 x3) fun t6 => ret (decide (t6 = (0 : Int)))) fun c8 => if c8 = true then (noX (m_is_spare a_polys s5 x3)) else ret false
def m_least_modulus_l2 (x3 : Int) (s5 : Int) : W Int :=
  bnd (divI s5 x3) fun least_10 => ret (least_10)
def m_least_modulus_l1 (a_polys : (List (Int × Poly_))) (s4 : Int) (x3 : Int) : W Int :=
  bnd (whileW (m_least_modulus_l2c a_polys x3) (m_least_modulus_l2 x3) (s4)) fun (s12 : Int) => ret (s12)
def m_least_modulus (a_modulus : Int) (a_polys : (List (Int × Poly_))) : W Int :=
  bnd (ret (a_modulus)) fun least_1 => bnd (noX (m_primes_in a_modulus)) fun xs13 => bnd (forW (m_least_modulus_l1 a_polys) (least_1) xs13) fun (s14 : Int) => bnd (ret (s14)) fun z => ret z
theorem ok_least_modulus (T : Txt P K mg ad) : FnOk P w K mg base CX0 4 ad.f_least_modulus ad.d_least_modulus ["modulus", "polys"] (spW (fun i : Int × (List (Int × Poly_)) × Unit => [sv rInt i.1, sv (rDct rInt Sum.inl (rObj ad.c_Poly (fl_Poly K ad))) i.2.1]) (fun _ => []) (fun i => m_least_modulus i.1 i.2.1) rInt) := by
  refine okW T.F_least_modulus sc_least_modulus (fun _ => rfl) fun cdv A outer s0 H0 E0 B i hr => ?_
  obtain ⟨a_modulus, a_polys, _⟩ := i
  have hu := hr.units
  have hu2 := room100 hr
  have hu8 := Nat.lt_of_le_of_lt (Nat.add_le_add_left (show 8 ≤ 100 by decide) _) hu2
  show BG _ _ _ _ _ _ (m_least_modulus a_modulus a_polys)
  unfold m_least_modulus
  refine b_set 2 (e_conv (e_name 0) (by walk_at "wn")) (fun least_1 => ?_) sc_least_modulus.nd
  refine b_for (S := Int) (fun s => [sv rInt a_modulus, sv (rDct rInt Sum.inl (rObj ad.c_Poly (fl_Poly K ad))) a_polys, sv rInt s, sa]) (fun s => []) (least_1 : Int) rfl PassesOwn.never (s_conv (s_list (e_call (ok_primes_in T) (hr.mono (by walk_at "lev")) T.m_primes_in T.F_primes_in.kp T.bd_primes_in (aa_cons (e_name 0) fun _ => aa_nil) (fun _ => OsLe.none) (fun _ => List.nodup_nil))) (by walk_at "wn")) (tg_name (i := 3)) (pg_name (i := 3) sc_least_modulus.nd rfl (by walk_at "loc")) (fun M s4 x3 => ?_) (fun s14 => ?_) ⟨.inl rfl, .inl rfl, .inl rfl, .inr rfl, trivial⟩ rfl
  · unfold m_least_modulus_l1
    refine b_while (S := Int) (fun s => [sv rInt a_modulus, sv (rDct rInt Sum.inl (rObj ad.c_Poly (fl_Poly K ad))) a_polys, sv rInt s, sv rInt x3]) (fun s => []) (s4 : Int) PassesOwn.never (fun s5 => t_conv (t_pw (w_and (t_eqI (e_mod (e_name 2) fun _ => (e_name 3)) fun _ => e_int) (w_and1 (t_val (e_call (ok_is_spare T) (hr.mono (by walk_at "lev")) T.m_is_spare T.F_is_spare.kp T.bd_is_spare (aa_cons (e_name 1) fun _ => (aa_cons (e_name 2) fun _ => (aa_cons (e_name 3) fun _ => aa_nil))) (fun _ => OsLe.none) (fun _ => List.nodup_nil)))))) rfl) (fun s5 => ?_) (fun s12 => ?_) ⟨.inl rfl, .inl rfl, .inl rfl, .inl rfl, trivial⟩ rfl
    · unfold m_least_modulus_l2
      refine b_set 2 (e_conv (e_div (e_name 2) fun _ => (e_name 3)) (by walk_at "wn")) (fun least_10 => ?_) sc_least_modulus.nd
      exact b_end (NxOk.nxS (s := (least_10 : Int)) ⟨.inl rfl, .inl rfl, .inl rfl, .inl rfl, trivial⟩ .slnil)
    · exact b_end (NxOk.nxS (s := (s12 : Int)) ⟨.inl rfl, .inl rfl, .inl rfl, .inr rfl, trivial⟩ .slnil)
  · exact b_ret RtOk.fn OsW.nil (e_conv (e_name 2) (by walk_at "wn"))
def m_need_polys_v0_l1 (s7 : Unit) (x6 : (Int × Poly_)) : W Unit :=
  bnd (ret (!true)) fun b8 => if b8 = true then (fail) else (ret (()))
def m_need_polys_v0 (a_modulus : Int) (a_polys : (List Poly_)) : W Unit :=
  bnd (noX (m_need_number_v0 a_modulus ((1 : Int)) ((1000000000 : Int)))) fun _ => bnd (bnd (ret (!true)) fun c3 => if c3 = true then ret true else (bnd (noX (m_all_divisors a_modulus)) fun r2 => ret (!decide ((a_polys.length : Int) = (r2.length : Int))))) fun b5 => if b5 = true then (fail) else (bnd (ret ((rangeI 0 a_polys.length).zip a_polys)) fun xs9 => bnd (forW m_need_polys_v0_l1 (()) xs9) fun (s10 : Unit) => ret ())
theorem ok_need_polys_v0 (T : Txt P K mg ad) : FnOk P w K mg base CX0 4 ad.f_need_polys ad.d_need_polys ["modulus", "polys"] (spW (fun i : Int × (List Poly_) × Unit => [sv rInt i.1, sv (rLst (rObj ad.c_Poly (fl_Poly K ad))) i.2.1]) (fun _ => []) (fun i => m_need_polys_v0 i.1 i.2.1) rNon) := by
  refine okW T.F_need_polys sc_need_polys (fun _ => rfl) fun cdv A outer s0 H0 E0 B i hr => ?_
  obtain ⟨a_modulus, a_polys, _⟩ := i
  have hu := hr.units
  have hu2 := room100 hr
  have hu8 := Nat.lt_of_le_of_lt (Nat.add_le_add_left (show 8 ≤ 100 by decide) _) hu2
  show BG _ _ _ _ _ _ (m_need_polys_v0 a_modulus a_polys)
  unfold m_need_polys_v0
  refine b_expr (e_conv (e_call (ok_need_number_v0 T) (hr.mono (by walk_at "lev")) T.m_need_number T.F_need_number.kp T.bd_need_number (aa_cons (e_name 0) fun _ => (aa_cons e_int fun _ => (aa_cons (e_gIntE T.gc_MOST_MODULUS) fun _ => aa_nil))) (fun _ => OsLe.none) (fun _ => List.nodup_nil)) (by walk_at "wn")) ?_
  refine b_ifA (t_conv (t_pw (w_or (t_not (t_val (e_isLT_lst (e_name 1) T.b_isinstance T.b_list T.b_tuple))) (w_or1 (t_neI (e_len (e_name 1) T.b_len) fun _ => (e_len (e_call (ok_all_divisors T) (hr.mono (by walk_at "lev")) T.m_all_divisors T.F_all_divisors.kp T.bd_all_divisors (aa_cons (e_name 0) fun _ => aa_nil) (fun _ => OsLe.none) (fun _ => List.nodup_nil)) T.b_len))))) (by walk_at "wn")) ?_ ?_
  · exact b_never
  · refine b_for (S := Unit) (fun s => [sv rInt a_modulus, sv (rLst (rObj ad.c_Poly (fl_Poly K ad))) a_polys, sa, sa]) (fun s => []) (() : Unit) rfl PassesOwn.never (s_conv (s_enum (e_name 1) T.b_enumerate) (by walk_at "wn")) (tg_pair (i := 2) (j := 3)) (pg_tup rfl (pgs_cons (pg_name (i := 2) sc_need_polys.nd rfl (by walk_at "loc")) (pgs_cons (pg_name (i := 3) sc_need_polys.nd rfl (by walk_at "loc")) pgs_nil))) (fun M s7 x6 => ?_) (fun s10 => ?_) ⟨.inl rfl, .inl rfl, .inr rfl, .inr rfl, trivial⟩ rfl
    · unfold m_need_polys_v0_l1
      refine b_ifA (t_conv (t_not (t_val (e_isC (k := true) (ty_obj T.ic_Poly) T.k_Poly_Poly (e_name 3) T.b_isinstance T.n_Poly))) (by walk_at "wn")) ?_ ?_
      · exact b_never
      · exact b_end (NxOk.nxS (s := (() : Unit)) ⟨.inl rfl, .inl rfl, .inr rfl, .inr rfl, trivial⟩ .slnil)
    · exact b_end (NxOk.fn OsW.nil)
def m_need_polys_v1_l1 (s7 : Unit) (x6 : (Int × Poly_)) : W Unit :=
  bnd (ret (!true)) fun b8 => if b8 = true then (fail) else (ret (()))
def m_need_polys_v1 (a_modulus : Int) (a_polys : (List Poly_)) : W Unit :=
  bnd (noX (m_need_number_v0 a_modulus ((1 : Int)) ((1000000000 : Int)))) fun _ => bnd (bnd (ret (!true)) fun c3 => if c3 = true then ret true else (bnd (noX (m_all_divisors a_modulus)) fun r2 => ret (!decide ((a_polys.length : Int) = (r2.length : Int))))) fun b5 => if b5 = true then (fail) else (bnd (ret ((rangeI 0 a_polys.length).zip a_polys)) fun xs9 => bnd (forW m_need_polys_v1_l1 (()) xs9) fun (s10 : Unit) => ret ())
theorem ok_need_polys_v1 (T : Txt P K mg ad) : FnOk P w K mg base CX0 4 ad.f_need_polys ad.d_need_polys ["modulus", "polys"] (spW (fun i : Int × (List Poly_) × Unit => [sv rInt i.1, sv (rTup K (rObj ad.c_Poly (fl_Poly K ad))) i.2.1]) (fun _ => []) (fun i => m_need_polys_v1 i.1 i.2.1) rNon) := by
  refine okW T.F_need_polys sc_need_polys (fun _ => rfl) fun cdv A outer s0 H0 E0 B i hr => ?_
  obtain ⟨a_modulus, a_polys, _⟩ := i
  have hu := hr.units
  have hu2 := room100 hr
  have hu8 := Nat.lt_of_le_of_lt (Nat.add_le_add_left (show 8 ≤ 100 by decide) _) hu2
  show BG _ _ _ _ _ _ (m_need_polys_v1 a_modulus a_polys)
  unfold m_need_polys_v1
  refine b_expr (e_conv (e_call (ok_need_number_v0 T) (hr.mono (by walk_at "lev")) T.m_need_number T.F_need_number.kp T.bd_need_number (aa_cons (e_name 0) fun _ => (aa_cons e_int fun _ => (aa_cons (e_gIntE T.gc_MOST_MODULUS) fun _ => aa_nil))) (fun _ => OsLe.none) (fun _ => List.nodup_nil)) (by walk_at "wn")) ?_
  refine b_ifA (t_conv (t_pw (w_or (t_not (t_val (e_isLT_tup (e_name 1) T.b_isinstance T.b_list T.b_tuple))) (w_or1 (t_neI (e_lenT (e_name 1) T.b_len) fun _ => (e_len (e_call (ok_all_divisors T) (hr.mono (by walk_at "lev")) T.m_all_divisors T.F_all_divisors.kp T.bd_all_divisors (aa_cons (e_name 0) fun _ => aa_nil) (fun _ => OsLe.none) (fun _ => List.nodup_nil)) T.b_len))))) (by walk_at "wn")) ?_ ?_
  · exact b_never
  · refine b_for (S := Unit) (fun s => [sv rInt a_modulus, sv (rTup K (rObj ad.c_Poly (fl_Poly K ad))) a_polys, sa, sa]) (fun s => []) (() : Unit) rfl PassesOwn.never (s_conv (s_enumT (e_name 1) T.b_enumerate) (by walk_at "wn")) (tg_pair (i := 2) (j := 3)) (pg_tup rfl (pgs_cons (pg_name (i := 2) sc_need_polys.nd rfl (by walk_at "loc")) (pgs_cons (pg_name (i := 3) sc_need_polys.nd rfl (by walk_at "loc")) pgs_nil))) (fun M s7 x6 => ?_) (fun s10 => ?_) ⟨.inl rfl, .inl rfl, .inr rfl, .inr rfl, trivial⟩ rfl
    · unfold m_need_polys_v1_l1
      refine b_ifA (t_conv (t_not (t_val (e_isC (k := true) (ty_obj T.ic_Poly) T.k_Poly_Poly (e_name 3) T.b_isinstance T.n_Poly))) (by walk_at "wn")) ?_ ?_
      · exact b_never
      · exact b_end (NxOk.nxS (s := (() : Unit)) ⟨.inl rfl, .inl rfl, .inr rfl, .inr rfl, trivial⟩ .slnil)
    · exact b_end (NxOk.fn OsW.nil)
def m_need_polys_v2 (a_modulus : PyData) (a_polys : (Mx Poly_)) : W Unit :=
  bnd (m_need_number_v2 a_modulus ((1 : Int)) ((1000000000 : Int))) fun _ => fail
theorem ok_need_polys_v2 (T : Txt P K mg ad) : FnOk P w K mg base (L2.CX P w) 4 ad.f_need_polys ad.d_need_polys ["modulus", "polys"] (spX K (tbl ad) (fun i : PyData × (Mx Poly_) × Unit => [sv (rD K) i.1, sv (rMx K ad.c_Poly (fl_Poly K ad)) i.2.1]) (fun _ => []) (fun i => m_need_polys_v2 i.1 i.2.1) rNon) := by
  refine okX T.F_need_polys sc_need_polys (fun _ => rfl) fun cdv A outer s0 H0 E0 B i hr tk hpo => ?_
  obtain ⟨a_modulus, a_polys, _⟩ := i
  have hu := hr.units
  have hu2 := room100 hr
  have hu8 := Nat.lt_of_le_of_lt (Nat.add_le_add_left (show 8 ≤ 100 by decide) _) hu2
  show BG _ _ _ _ _ _ (m_need_polys_v2 a_modulus a_polys)
  unfold m_need_polys_v2
  refine b_expr (e_conv (er_V (e_callZ (conv := fun q : PyData × Int × Int × Unit => (q.1, q.2.1, q.2.2.1, ())) (dfl := []) (dvs := []) (ok_need_number_v2 T) (passB tk) spf_X0 (hr.mono (by walk_at "lev")) T.m_need_number T.F_need_number.kp T.cb_need_number_3 (fun _ => .nil) (hh_pos (aa_cons (e_name 0) fun _ => (aa_cons e_int fun _ => (aa_cons (e_gIntE T.gc_MOST_MODULUS) fun _ => aa_nil))) (fun _ => rfl)) (fun _ => rfl))) (by walk_at "wn")) ?_
  exact b_never
def m_need_polys_v3 (a_modulus : Int) (a_polys : (Mx Poly_)) : W Unit :=
  bnd (noX (m_need_number_v0 a_modulus ((1 : Int)) ((1000000000 : Int)))) fun _ => bnd (bnd (ret (!a_polys.isSeq)) fun c4 => if c4 = true then ret true else (bnd (lenM a_polys) fun t2 => bnd (noX (m_all_divisors a_modulus)) fun r3 => ret (!decide (t2 = (r3.length : Int))))) fun b6 => if b6 = true then (bnd (ret (-((1 : Int)))) fun v => thr ⟨"InvalidTable", [.int v]⟩) else (fail)
theorem ok_need_polys_v3 (T : Txt P K mg ad) : FnOk P w K mg base (L2.CX P w) 4 ad.f_need_polys ad.d_need_polys ["modulus", "polys"] (spX K (tbl ad) (fun i : Int × (Mx Poly_) × Unit => [sv rInt i.1, sv (rMx K ad.c_Poly (fl_Poly K ad)) i.2.1]) (fun _ => []) (fun i => m_need_polys_v3 i.1 i.2.1) rNon) := by
  refine okX T.F_need_polys sc_need_polys (fun _ => rfl) fun cdv A outer s0 H0 E0 B i hr tk hpo => ?_
  obtain ⟨a_modulus, a_polys, _⟩ := i
  have hu := hr.units
  have hu2 := room100 hr
  have hu8 := Nat.lt_of_le_of_lt (Nat.add_le_add_left (show 8 ≤ 100 by decide) _) hu2
  show BG _ _ _ _ _ _ (m_need_polys_v3 a_modulus a_polys)
  unfold m_need_polys_v3
  refine b_expr (e_conv (e_call (ok_need_number_v0 T) (hr.mono (by walk_at "lev")) T.m_need_number T.F_need_number.kp T.bd_need_number (aa_cons (e_name 0) fun _ => (aa_cons e_int fun _ => (aa_cons (e_gIntE T.gc_MOST_MODULUS) fun _ => aa_nil))) (fun _ => OsLe.none) (fun _ => List.nodup_nil)) (by walk_at "wn")) ?_
  refine b_ifA (t_conv (t_pw (w_or (t_not (t_val (e_isTF (k := Mx.isSeq) (tyf_mx T.ic_Poly) (km_seq (kit_any2f T.k_Poly_list T.k_Poly_tuple)) (e_name 1) T.b_isinstance T.b_list T.b_tuple))) (w_or1 (t_neI (e_lenM (e_name 1) T.b_len) fun _ => (e_len (e_call (ok_all_divisors T) (hr.mono (by walk_at "lev")) T.m_all_divisors T.F_all_divisors.kp T.bd_all_divisors (aa_cons (e_name 0) fun _ => aa_nil) (fun _ => OsLe.none) (fun _ => List.nodup_nil)) T.b_len))))) (by walk_at "wn")) ?_ ?_
  · exact b_conv (b_raise1G foot_value tk rfl (List.Mem.tail _ (List.Mem.head _)) (by decide) T.ox_InvalidTable T.ai_InvalidTable T.ti_InvalidTable (ex_InvalidTable T) (hr.mono (by walk_at "lev")) T.xb_InvalidTable T.n_InvalidTable dd_int (by decide) (e_conv (e_neg e_int) (by walk_at "wn"))) rfl
  · exact b_never
def m_need_polys_v4_l1 (s7 : Unit) (x6 : (Int × (Mx Poly_))) : W Unit :=
  bnd (ret (!x6.2.isObj)) fun b8 => if b8 = true then (bnd (ret (x6.1)) fun v => thr ⟨"InvalidTable", [.int v]⟩) else (ret (()))
def m_need_polys_v4 (a_modulus : Int) (a_polys : (List (Mx Poly_))) : W Unit :=
  bnd (noX (m_need_number_v0 a_modulus ((1 : Int)) ((1000000000 : Int)))) fun _ => bnd (bnd (ret (!true)) fun c3 => if c3 = true then ret true else (bnd (noX (m_all_divisors a_modulus)) fun r2 => ret (!decide ((a_polys.length : Int) = (r2.length : Int))))) fun b5 => if b5 = true then (bnd (ret (-((1 : Int)))) fun v => thr ⟨"InvalidTable", [.int v]⟩) else (bnd (ret ((rangeI 0 a_polys.length).zip a_polys)) fun xs9 => bnd (forW m_need_polys_v4_l1 (()) xs9) fun (s10 : Unit) => ret ())
theorem ok_need_polys_v4 (T : Txt P K mg ad) : FnOk P w K mg base (L2.CX P w) 4 ad.f_need_polys ad.d_need_polys ["modulus", "polys"] (spX K (tbl ad) (fun i : Int × (List (Mx Poly_)) × Unit => [sv rInt i.1, sv (rLst (rMx K ad.c_Poly (fl_Poly K ad))) i.2.1]) (fun _ => []) (fun i => m_need_polys_v4 i.1 i.2.1) rNon) := by
  refine okX T.F_need_polys sc_need_polys (fun _ => rfl) fun cdv A outer s0 H0 E0 B i hr tk hpo => ?_
  obtain ⟨a_modulus, a_polys, _⟩ := i
  have hu := hr.units
  have hu2 := room100 hr
  have hu8 := Nat.lt_of_le_of_lt (Nat.add_le_add_left (show 8 ≤ 100 by decide) _) hu2
  show BG _ _ _ _ _ _ (m_need_polys_v4 a_modulus a_polys)
  unfold m_need_polys_v4
  refine b_expr (e_conv (e_call (ok_need_number_v0 T) (hr.mono (by walk_at "lev")) T.m_need_number T.F_need_number.kp T.bd_need_number (aa_cons (e_name 0) fun _ => (aa_cons e_int fun _ => (aa_cons (e_gIntE T.gc_MOST_MODULUS) fun _ => aa_nil))) (fun _ => OsLe.none) (fun _ => List.nodup_nil)) (by walk_at "wn")) ?_
  refine b_ifA (t_conv (t_pw (w_or (t_not (t_val (e_isLT_lst (e_name 1) T.b_isinstance T.b_list T.b_tuple))) (w_or1 (t_neI (e_len (e_name 1) T.b_len) fun _ => (e_len (e_call (ok_all_divisors T) (hr.mono (by walk_at "lev")) T.m_all_divisors T.F_all_divisors.kp T.bd_all_divisors (aa_cons (e_name 0) fun _ => aa_nil) (fun _ => OsLe.none) (fun _ => List.nodup_nil)) T.b_len))))) (by walk_at "wn")) ?_ ?_
  · exact b_conv (b_raise1G foot_value tk rfl (List.Mem.tail _ (List.Mem.head _)) (by decide) T.ox_InvalidTable T.ai_InvalidTable T.ti_InvalidTable (ex_InvalidTable T) (hr.mono (by walk_at "lev")) T.xb_InvalidTable T.n_InvalidTable dd_int (by decide) (e_conv (e_neg e_int) (by walk_at "wn"))) rfl
  · refine b_for (S := Unit) (fun s => [sv rInt a_modulus, sv (rLst (rMx K ad.c_Poly (fl_Poly K ad))) a_polys, sa, sa]) (fun s => []) (() : Unit) rfl (passes_of rfl) (s_conv (s_enum (e_name 1) T.b_enumerate) (by walk_at "wn")) (tg_pair (i := 2) (j := 3)) (pg_tup rfl (pgs_cons (pg_name (i := 2) sc_need_polys.nd rfl (by walk_at "loc")) (pgs_cons (pg_name (i := 3) sc_need_polys.nd rfl (by walk_at "loc")) pgs_nil))) (fun M s7 x6 => ?_) (fun s10 => ?_) ⟨.inl rfl, .inl rfl, .inr rfl, .inr rfl, trivial⟩ rfl
    · unfold m_need_polys_v4_l1
      refine b_ifA (t_conv (t_not (t_val (e_isCF (k := Mx.isObj) (tyf_mx T.ic_Poly) (km_obj T.kd_Poly) (e_name 3) T.b_isinstance T.n_Poly))) (by walk_at "wn")) ?_ ?_
      · exact b_conv (b_raise1G foot_value tk rfl (List.Mem.tail _ (List.Mem.head _)) (by decide) T.ox_InvalidTable T.ai_InvalidTable T.ti_InvalidTable (ex_InvalidTable T) (hr.mono (by walk_at "lev")) T.xb_InvalidTable T.n_InvalidTable dd_int (by decide) (e_conv (e_name 2) (by walk_at "wn"))) rfl
      · exact b_end (NxOk.nxS (s := (() : Unit)) ⟨.inl rfl, .inl rfl, .inr rfl, .inr rfl, trivial⟩ .slnil)
    · exact b_end (NxOk.fn OsW.nil)
def m_need_singles_v1_l1 (s5 : (List (Int × Bool))) (x4 : (Int × (Int × Int))) : W (List (Int × Bool)) :=
  bnd (bnd (ret (!true)) fun c10 => if c10 = true then ret true else (bnd (ret (!decide ((2 : Int) = (2 : Int)))) fun c9 => if c9 = true then ret true else (bnd (bnd (noX (m_is_number_v1 x4.2.1 ((1 : Int)) (()))) fun r6 => ret (!r6)) fun c8 => if c8 = true then ret true else (bnd (noX (m_is_whole_v0 x4.2.2)) fun r7 => ret (!r7))))) fun b12 => if b12 = true then (fail) else (bnd (ret ((dget s5 x4.2.1).isSome)) fun b13 => if b13 = true then (fail) else (bnd (ret (true)) fun y15 => bnd (ret (x4.2.1)) fun k16 => chk (s5.length < sizeLine) (bnd (ret (dput s5 k16 y15)) fun known_14 => ret (known_14))))
def m_need_singles_v1 (a_singles : (List (Int × Int))) : W Unit :=
  bnd (ret (!true)) fun b1 => if b1 = true then (fail) else (bnd (ret ((rangeI 0 a_singles.length).zip a_singles)) fun xs17 => bnd (forW m_need_singles_v1_l1 (([] : (List (Int × Bool)))) xs17) fun (s18 : (List (Int × Bool))) => ret ())
theorem ok_need_singles_v1 (T : Txt P K mg ad) : FnOk P w K mg base CX0 3 ad.f_need_singles ad.d_need_singles ["singles"] (spW (fun i : (List (Int × Int)) × Unit => [sv (rTup K (rT2 K rInt rInt)) i.1]) (fun _ => []) (fun i => m_need_singles_v1 i.1) rNon) := by
  refine okW T.F_need_singles sc_need_singles (fun _ => rfl) fun cdv A outer s0 H0 E0 B i hr => ?_
  obtain ⟨a_singles, _⟩ := i
  have hu := hr.units
  have hu2 := room100 hr
  have hu8 := Nat.lt_of_le_of_lt (Nat.add_le_add_left (show 8 ≤ 100 by decide) _) hu2
  show BG _ _ _ _ _ _ (m_need_singles_v1 a_singles)
  unfold m_need_singles_v1
  refine b_ifA (t_conv (t_not (t_val (e_isLT_tup (e_name 0) T.b_isinstance T.b_list T.b_tuple))) (by walk_at "wn")) ?_ ?_
  · exact b_never
  · refine b_dnew 1 rInt Sum.inl rBool (fun p3 => ?_) sc_need_singles.nd
    refine b_for (S := (List (Int × Bool))) (fun s => [sv (rTup K (rT2 K rInt rInt)) a_singles, sv (rAdr p3) (), sa, sa]) (fun s => [(p3, oDct rInt Sum.inl rBool s)]) (([] : (List (Int × Bool))) : (List (Int × Bool))) rfl PassesOwn.never (s_conv (s_enumT (e_name 0) T.b_enumerate) (by walk_at "wn")) (tg_pair (i := 2) (j := 3)) (pg_tup rfl (pgs_cons (pg_name (i := 2) sc_need_singles.nd rfl (by walk_at "loc")) (pgs_cons (pg_name (i := 3) sc_need_singles.nd rfl (by walk_at "loc")) pgs_nil))) (fun M s5 x4 => ?_) (fun s18 => ?_) ⟨.inl rfl, .inl rfl, .inr rfl, .inr rfl, trivial⟩ rfl
    · unfold m_need_singles_v1_l1
      refine b_ifA (t_conv (t_pw (w_or (t_not (t_val (e_isB (T := "tuple") (k := true) ty_t2 (kit_ty (by decide +kernel)) (e_name 3) T.b_isinstance T.b_tuple))) (w_or (t_neI (e_lenTn (n := 2) (c := (2 : Int)) rfl len_t2 (e_name 3) T.b_len) fun _ => e_int) (w_or (t_not (t_val (e_call (ok_is_number_v1 T) (hr.mono (by walk_at "lev")) T.m_is_number T.F_is_number.kp T.bd_is_number (aa_cons (e_fst (e_name 3)) fun _ => (aa_cons e_int fun _ => (aa_cons e_non fun _ => aa_nil))) (fun _ => OsLe.none) (fun _ => List.nodup_nil)))) (w_or1 (t_not (t_val (e_call (ok_is_whole_v0 T) (hr.mono (by walk_at "lev")) T.m_is_whole T.F_is_whole.kp T.bd_is_whole (aa_cons (e_snd (e_name 3)) fun _ => aa_nil) (fun _ => OsLe.none) (fun _ => List.nodup_nil))))))))) (by walk_at "wn")) ?_ ?_
      · exact b_never
      · refine b_ifA (t_conv (t_dinO 1 0 key_int hu2 rfl rfl (e_fst (e_name 3))) (by walk_at "wn")) ?_ ?_
        · exact b_never
        · refine b_dputB 1 0 key_int hu2 rfl rfl (e_conv e_bl (by walk_at "wn")) (fun _ => e_conv (e_fst (e_name 3)) (by walk_at "wn")) (fun known_14 => ?_)
          exact b_end (NxOk.nxS (s := (known_14 : (List (Int × Bool)))) ⟨.inl rfl, .inl rfl, .inr rfl, .inr rfl, trivial⟩ (.cons_cons _ .slnil))
    · exact b_end (NxOk.fn OsW.nil)
def m_need_singles_v2 (a_singles : PyData) : W Unit :=
  bnd (ret (!((tyD a_singles == "list" || tyD a_singles == "tuple")))) fun b1 => if b1 = true then (bnd (ret (-((1 : Int)))) fun v => thr ⟨"InvalidSingles", [.int v]⟩) else (fail)
theorem ok_need_singles_v2 (T : Txt P K mg ad) : FnOk P w K mg base (L2.CX P w) 3 ad.f_need_singles ad.d_need_singles ["singles"] (spX K (tbl ad) (fun i : PyData × Unit => [sv (rD K) i.1]) (fun _ => []) (fun i => m_need_singles_v2 i.1) rNon) := by
  refine okX T.F_need_singles sc_need_singles (fun _ => rfl) fun cdv A outer s0 H0 E0 B i hr tk hpo => ?_
  obtain ⟨a_singles, _⟩ := i
  have hu := hr.units
  have hu2 := room100 hr
  have hu8 := Nat.lt_of_le_of_lt (Nat.add_le_add_left (show 8 ≤ 100 by decide) _) hu2
  show BG _ _ _ _ _ _ (m_need_singles_v2 a_singles)
  unfold m_need_singles_v2
  refine b_ifA (t_conv (t_not (t_val (e_isTD (k := fun t => t == "list" || t == "tuple") kt_lt (e_name 0) T.b_isinstance T.b_list T.b_tuple))) (by walk_at "wn")) ?_ ?_
  · exact b_conv (b_raise1G foot_value tk rfl (List.Mem.tail _ (List.Mem.tail _ (List.Mem.head _))) (by decide) T.ox_InvalidSingles T.ai_InvalidSingles T.ti_InvalidSingles (ex_InvalidSingles T) (hr.mono (by walk_at "lev")) T.xb_InvalidSingles T.n_InvalidSingles dd_int (by decide) (e_conv (e_neg e_int) (by walk_at "wn"))) rfl
  · exact b_never
def m_need_singles_v3_l1 (s5 : (List (Int × Bool))) (x4 : (Int × PyData)) : W (List (Int × Bool)) :=
  bnd (bnd (ret (!(tyD x4.2 == "tuple"))) fun c15 => if c15 = true then ret true else (bnd (bnd (lenD x4.2) fun t6 => ret (!decide (t6 = (2 : Int)))) fun c14 => if c14 = true then ret true else (bnd (bnd (idxD x4.2 ((0 : Int))) fun t8 => bnd (noX (m_is_number_v3 t8 ((1 : Int)) (()))) fun r9 => ret (!r9)) fun c13 => if c13 = true then ret true else (bnd (idxD x4.2 ((1 : Int))) fun t11 => bnd (noX (m_is_whole_v1 t11)) fun r12 => ret (!r12))))) fun b17 => if b17 = true then (bnd (ret (x4.1)) fun v => thr ⟨"InvalidSingles", [.int v]⟩) else (bnd (bnd (idxD x4.2 ((0 : Int))) fun t18 => bnd (asInt t18) fun t19 => ret ((dget s5 t19).isSome)) fun b20 => if b20 = true then (bnd (ret (x4.1)) fun v => thr ⟨"InvalidSingles", [.int v]⟩) else (bnd (ret (true)) fun y24 => bnd (bnd (idxD x4.2 ((0 : Int))) fun t21 => asInt t21) fun k25 => chk (s5.length < sizeLine) (bnd (ret (dput s5 k25 y24)) fun known_23 => ret (known_23))))
def m_need_singles_v3 (a_singles : (List PyData)) : W Unit :=
  bnd (ret (!true)) fun b1 => if b1 = true then (fail) else (bnd (ret ((rangeI 0 a_singles.length).zip a_singles)) fun xs26 => bnd (forW m_need_singles_v3_l1 (([] : (List (Int × Bool)))) xs26) fun (s27 : (List (Int × Bool))) => ret ())
theorem ok_need_singles_v3 (T : Txt P K mg ad) : FnOk P w K mg base (L2.CX P w) 3 ad.f_need_singles ad.d_need_singles ["singles"] (spX K (tbl ad) (fun i : (List PyData) × Unit => [sv (rLst (rDk K 12)) i.1]) (fun _ => []) (fun i => m_need_singles_v3 i.1) rNon) := by
  refine okX T.F_need_singles sc_need_singles (fun _ => rfl) fun cdv A outer s0 H0 E0 B i hr tk hpo => ?_
  obtain ⟨a_singles, _⟩ := i
  have hu := hr.units
  have hu2 := room100 hr
  have hu8 := Nat.lt_of_le_of_lt (Nat.add_le_add_left (show 8 ≤ 100 by decide) _) hu2
  show BG _ _ _ _ _ _ (m_need_singles_v3 a_singles)
  unfold m_need_singles_v3
  refine b_ifA (t_conv (t_not (t_val (e_isLT_lst (e_name 0) T.b_isinstance T.b_list T.b_tuple))) (by walk_at "wn")) ?_ ?_
  · exact b_never
  · refine b_dnew 1 rInt Sum.inl rBool (fun p3 => ?_) sc_need_singles.nd
    refine b_for (S := (List (Int × Bool))) (fun s => [sv (rLst (rDk K 12)) a_singles, sv (rAdr p3) (), sa, sa]) (fun s => [(p3, oDct rInt Sum.inl rBool s)]) (([] : (List (Int × Bool))) : (List (Int × Bool))) rfl (passes_of rfl) (s_conv (s_enum (e_name 0) T.b_enumerate) (by walk_at "wn")) (tg_pair (i := 2) (j := 3)) (pg_tup rfl (pgs_cons (pg_name (i := 2) sc_need_singles.nd rfl (by walk_at "loc")) (pgs_cons (pg_name (i := 3) sc_need_singles.nd rfl (by walk_at "loc")) pgs_nil))) (fun M s5 x4 => ?_) (fun s27 => ?_) ⟨.inl rfl, .inl rfl, .inr rfl, .inr rfl, trivial⟩ rfl
    · unfold m_need_singles_v3_l1
      refine b_ifA (t_conv (t_pw (w_or (t_not (t_val (e_isBD (T := "tuple") (k := fun t => t == "tuple") kd_tuple (e_upD (e_name 3)) T.b_isinstance T.b_tuple))) (w_or (t_neI (e_lenD (e_upD (e_name 3)) T.b_len) fun _ => e_int) (w_or (t_not (t_val (e_call (ok_is_number_v3 T) (hr.mono (by walk_at "lev")) T.m_is_number T.F_is_number.kp T.bd_is_number (aa_cons (e_idxD (e_upD (e_name 3)) fun _ => e_int) fun _ => (aa_cons e_int fun _ => (aa_cons e_non fun _ => aa_nil))) (fun _ => OsLe.none) (fun _ => List.nodup_nil)))) (w_or1 (t_not (t_val (e_call (ok_is_whole_v1 T) (hr.mono (by walk_at "lev")) T.m_is_whole T.F_is_whole.kp T.bd_is_whole (aa_cons (e_idxD (e_upD (e_name 3)) fun _ => e_int) fun _ => aa_nil) (fun _ => OsLe.none) (fun _ => List.nodup_nil))))))))) (by walk_at "wn")) ?_ ?_
      · exact b_conv (b_raise1G foot_value tk rfl (List.Mem.tail _ (List.Mem.tail _ (List.Mem.head _))) (by decide) T.ox_InvalidSingles T.ai_InvalidSingles T.ti_InvalidSingles (ex_InvalidSingles T) (hr.mono (by walk_at "lev")) T.xb_InvalidSingles T.n_InvalidSingles dd_int (by decide) (e_conv (e_name 2) (by walk_at "wn"))) rfl
      · refine b_ifA (t_conv (t_dinO 1 0 key_int hu2 rfl rfl (e_asInt (e_idxD (e_upD (e_name 3)) fun _ => e_int))) (by walk_at "wn")) ?_ ?_
        · exact b_conv (b_raise1G foot_value tk rfl (List.Mem.tail _ (List.Mem.tail _ (List.Mem.head _))) (by decide) T.ox_InvalidSingles T.ai_InvalidSingles T.ti_InvalidSingles (ex_InvalidSingles T) (hr.mono (by walk_at "lev")) T.xb_InvalidSingles T.n_InvalidSingles dd_int (by decide) (e_conv (e_name 2) (by walk_at "wn"))) rfl
        · refine b_dputB 1 0 key_int hu2 rfl rfl (e_conv e_bl (by walk_at "wn")) (fun _ => e_conv (e_asInt (e_idxD (e_upD (e_name 3)) fun _ => e_int)) (by walk_at "wn")) (fun known_23 => ?_)
          exact b_end (NxOk.nxS (s := (known_23 : (List (Int × Bool)))) ⟨.inl rfl, .inl rfl, .inr rfl, .inr rfl, trivial⟩ (.cons_cons _ .slnil))
    · exact b_end (NxOk.fn OsW.nil)
def m_Table_init_v0 (a_modulus : Int) (a_polys : (List Poly_)) (a_singles : (List (Int × Int))) : W Table_ :=
  bnd (ret (a_polys)) fun known_1 => bnd (ret (a_singles)) fun late_2 => bnd (ret (!false)) fun b3 => bnd (if b3 = true then (bnd (noX (m_need_polys_v0 a_modulus a_polys)) fun _ => bnd (noX (m_need_singles_v1 a_singles)) fun _ => bnd (bnd (noX (m_all_divisors a_modulus)) fun r9 => ret (mergeD [] (r9.zip a_polys))) fun known_6 => bnd (ret (mergeD [] a_singles)) fun late_7 => ret ((known_6, late_7))) else (fail)) fun (s10 : ((List (Int × Poly_)) × (List (Int × Int)))) => bnd (noX (m_least_modulus a_modulus s10.1)) fun least_11 => bnd (ret (least_11)) fun own_modulus_13 => bnd (bnd (noX (m_all_divisors least_11)) fun r14 => dcW (fun (x15 : Int) => ret true) (fun (x15 : Int) => ret (x15)) (fun (x15 : Int) => optW (dget s10.1 x15)) r14 []) fun own_polys_18 => bnd (bnd (sortJ (s10.2.map (·.1))) fun t20 => filtW (fun (x21 : Int) => bnd (optW (dget s10.2 x21)) fun t23 => bnd (noX (m_common x21 least_11)) fun r24 => bnd (optW (dget s10.1 r24)) fun t25 => bnd (noX (m_worth_of t25 x21)) fun r26 => ret (!decide (t23 = r26))) (fun (x21 : Int) => ret (x21)) t20) fun rows_19 => bnd (dcW (fun (x27 : Int) => ret true) (fun (x27 : Int) => ret (x27)) (fun (x27 : Int) => optW (dget s10.2 x27)) rows_19 []) fun own_singles_30 => ret (⟨own_modulus_13, own_polys_18, own_singles_30⟩ : Table_)
theorem ok_Table_init_v0 (T : Txt P K mg ad) : FnOk P w K mg base CX0 5 ad.f_Table_init ad.d_Table_init ["self", "modulus", "polys", "singles"] (spI ad.c_Table (fun i : Int × (List Poly_) × (List (Int × Int)) × Unit => [sv rInt i.1, sv (rLst (rObj ad.c_Poly (fl_Poly K ad))) i.2.1, sv (rTup K (rT2 K rInt rInt)) i.2.2.1]) (fun i => m_Table_init_v0 i.1 i.2.1 i.2.2.1) (fl_Table K ad)) := by
  refine initWE T.F_Table_init sc_Table_init (fun _ => rfl) fun cdv A outer s0 H0 E0 B self0 i hr => ?_
  obtain ⟨a_modulus, a_polys, a_singles, _⟩ := i
  have hu := hr.units
  have hu2 := room100 hr
  have hu8 := Nat.lt_of_le_of_lt (Nat.add_le_add_left (show 8 ≤ 100 by decide) _) hu2
  show BG _ _ _ _ _ _ (m_Table_init_v0 a_modulus a_polys a_singles)
  unfold m_Table_init_v0
  first | refine b_par2 (ps_par (i := 4) (j := 5) rfl sc_Table_init.nd rfl rfl (by decide) rfl rfl (pa2 (e_conv (e_name 2) (by walk_at "wn")) (fun _ => e_conv (e_name 3) rfl)) rfl) (fun known_1 late_2 => ?_) | refine b_par2T (ps_asg (pe_tup (pa2 (e_conv (e_name 2) (by walk_at "wn")) (fun _ => e_conv (e_name 3) rfl))) (pg_tup rfl (pgs_cons (pg_name (i := 4) sc_Table_init.nd rfl (by walk_at "loc")) (pgs_cons (pg_name (i := 5) sc_Table_init.nd rfl (by walk_at "loc")) pgs_nil)))) (fun known_1 late_2 => ?_)
  refine b_ifJ (S := ((List (Int × Poly_)) × (List (Int × Int)))) (fun s => [sv (rAdr self0) (), sv rInt a_modulus, sv (rLst (rObj ad.c_Poly (fl_Poly K ad))) a_polys, sv (rTup K (rT2 K rInt rInt)) a_singles, sv (rDct rInt Sum.inl (rObj ad.c_Poly (fl_Poly K ad))) s.1, sv (rDct rInt Sum.inl rInt) s.2, sa, sa, sa, sa]) (fun s => [(self0, oObj ad.c_Table [])]) (t_conv (t_not (t_val (e_isB (T := "dict") (k := false) ty_lst (kit_ty (by decide +kernel)) (e_name 2) T.b_isinstance T.b_dict))) (by walk_at "wn")) ?_ ?_ (fun s10 => ?_)
  · refine b_expr (e_conv (e_call (ok_need_polys_v0 T) (hr.mono (by walk_at "lev")) T.m_need_polys T.F_need_polys.kp T.bd_need_polys (aa_cons (e_name 1) fun _ => (aa_cons (e_name 2) fun _ => aa_nil)) (fun _ => OsLe.none) (fun _ => List.nodup_nil)) (by walk_at "wn")) ?_
    refine b_expr (e_conv (e_call (ok_need_singles_v1 T) (hr.mono (by walk_at "lev")) T.m_need_singles T.F_need_singles.kp T.bd_need_singles (aa_cons (e_name 3) fun _ => aa_nil) (fun _ => OsLe.none) (fun _ => List.nodup_nil)) (by walk_at "wn")) ?_
    first | refine b_par2 (ps_par (i := 4) (j := 5) rfl sc_Table_init.nd rfl rfl (by decide) rfl rfl (pa2 (e_conv (e_newD (d_zip key_int rfl (e_call (ok_all_divisors T) (hr.mono (by walk_at "lev")) T.m_all_divisors T.F_all_divisors.kp T.bd_all_divisors (aa_cons (e_name 1) fun _ => aa_nil) (fun _ => OsLe.none) (fun _ => List.nodup_nil)) (fun _ => (e_name 2)) T.b_dict T.b_zip)) (by walk_at "wn")) (fun _ => e_conv (e_newD (d_pairs key_int rfl (e_new (n_listT (e_name 3) T.b_list)) T.b_dict)) rfl)) rfl) (fun known_6 late_7 => ?_) | refine b_par2T (ps_asg (pe_tup (pa2 (e_conv (e_newD (d_zip key_int rfl (e_call (ok_all_divisors T) (hr.mono (by walk_at "lev")) T.m_all_divisors T.F_all_divisors.kp T.bd_all_divisors (aa_cons (e_name 1) fun _ => aa_nil) (fun _ => OsLe.none) (fun _ => List.nodup_nil)) (fun _ => (e_name 2)) T.b_dict T.b_zip)) (by walk_at "wn")) (fun _ => e_conv (e_newD (d_pairs key_int rfl (e_new (n_listT (e_name 3) T.b_list)) T.b_dict)) rfl))) (pg_tup rfl (pgs_cons (pg_name (i := 4) sc_Table_init.nd rfl (by walk_at "loc")) (pgs_cons (pg_name (i := 5) sc_Table_init.nd rfl (by walk_at "loc")) pgs_nil)))) (fun known_6 late_7 => ?_)
    exact b_end (NxOk.nxS (s := ((known_6, late_7) : ((List (Int × Poly_)) × (List (Int × Int))))) ⟨.inl rfl, .inl rfl, .inl rfl, .inl rfl, .inl rfl, .inl rfl, .inr rfl, .inr rfl, .inr rfl, .inr rfl, trivial⟩ (.cons_cons _ .slnil))
  · exact b_never
  · refine b_set 6 (e_conv (e_call (ok_least_modulus T) (hr.mono (by walk_at "lev")) T.m_least_modulus T.F_least_modulus.kp T.bd_least_modulus (aa_cons (e_name 1) fun _ => (aa_cons (e_name 4) fun _ => aa_nil)) (fun _ => OsLe.none) (fun _ => List.nodup_nil)) (by walk_at "wn")) (fun least_11 => ?_) sc_Table_init.nd
    refine b_fldO 0 0 T.cl_Table T.na_Table_own_modulus rfl rfl (e_conv (e_name 6) (by walk_at "wn")) (fun own_modulus_13 => ?_)
    refine b_fldO 0 0 T.cl_Table T.na_Table_own_polys rfl rfl (e_conv (e_newD (d_comp key_int rfl sc_Table_init.nd (s_list (e_call (ok_all_divisors T) (hr.mono (by walk_at "lev")) T.m_all_divisors T.F_all_divisors.kp T.bd_all_divisors (aa_cons (e_name 6) fun _ => aa_nil) (fun _ => OsLe.none) (fun _ => List.nodup_nil))) (blkOk_by (own := [("low", 7)]) rfl) (tg_name (i := 7)) (fun _ _ _ _ _ => (pg_name (i := 7) sc_Table_init.nd rfl (by walk_at "loc"))) (by decide) (fun _ _ _ _ _ _ _ _ _ => (e_name 7)) (fun _ _ _ _ _ _ _ _ _ => (e_dget key_int hu2 (e_name 4) fun _ => (e_name 7))))) (by walk_at "wn")) (fun own_polys_18 => ?_)
    first | refine b_setC 8 (c_conv (c_compF (s := rInt) rfl sc_Table_init.nd (s_list (e_new (n_sortedJ (e_new (n_listD rfl (e_name 5) T.b_list)) T.b_sorted))) (blkOk_by (own := [("n", 9)]) rfl) (tg_name (i := 9)) (fun _ _ _ _ _ => (pg_name (i := 9) sc_Table_init.nd rfl (by walk_at "loc"))) (by decide) (fun _ _ _ _ _ _ _ _ _ => (t_neI (e_dget key_int hu2 (e_name 5) fun _ => (e_name 9)) fun _ => (e_call (ok_worth_of T) (hr.mono (by walk_at "lev")) T.m_worth_of T.F_worth_of.kp T.bd_worth_of (aa_cons (e_dget key_int hu2 (e_name 4) fun _ => (e_call (ok_common T) (hr.mono (by walk_at "lev")) T.m_common T.F_common.kp T.bd_common (aa_cons (e_name 9) fun _ => (aa_cons (e_name 6) fun _ => aa_nil)) (fun _ => OsLe.none) (fun _ => List.nodup_nil))) fun _ => (aa_cons (e_name 9) fun _ => aa_nil)) (fun _ => OsLe.none) (fun _ => List.nodup_nil)))) (fun _ _ _ _ _ _ _ _ _ => (e_name 9)) rfl rfl (sw_true rfl rfl rfl (by decide +kernel))) (by walk_at "wn")) (fun rows_19 => ?_) | refine b_set 8 (e_conv (e_new (n_compF (s := rInt) rfl sc_Table_init.nd (s_list (e_new (n_sortedJ (e_new (n_listD rfl (e_name 5) T.b_list)) T.b_sorted))) (blkOk_by (own := [("n", 9)]) rfl) (tg_name (i := 9)) (fun _ _ _ _ _ => (pg_name (i := 9) sc_Table_init.nd rfl (by walk_at "loc"))) (by decide) (fun _ _ _ _ _ _ _ _ _ => (t_neI (e_dget key_int hu2 (e_name 5) fun _ => (e_name 9)) fun _ => (e_call (ok_worth_of T) (hr.mono (by walk_at "lev")) T.m_worth_of T.F_worth_of.kp T.bd_worth_of (aa_cons (e_dget key_int hu2 (e_name 4) fun _ => (e_call (ok_common T) (hr.mono (by walk_at "lev")) T.m_common T.F_common.kp T.bd_common (aa_cons (e_name 9) fun _ => (aa_cons (e_name 6) fun _ => aa_nil)) (fun _ => OsLe.none) (fun _ => List.nodup_nil))) fun _ => (aa_cons (e_name 9) fun _ => aa_nil)) (fun _ => OsLe.none) (fun _ => List.nodup_nil)))) (fun _ _ _ _ _ _ _ _ _ => (e_name 9)))) (by walk_at "wn")) (fun rows_19 => ?_) sc_Table_init.nd
    refine b_fldO 0 0 T.cl_Table T.na_Table_own_singles rfl rfl (e_conv (e_newD (d_comp key_int rfl sc_Table_init.nd (s_list (e_name 8)) (blkOk_by (own := [("n", 9)]) rfl) (tg_name (i := 9)) (fun _ _ _ _ _ => (pg_name (i := 9) sc_Table_init.nd rfl (by walk_at "loc"))) (by decide) (fun _ _ _ _ _ _ _ _ _ => (e_name 9)) (fun _ _ _ _ _ _ _ _ _ => (e_dget key_int hu2 (e_name 5) fun _ => (e_name 9))))) (by walk_at "wn")) (fun own_singles_30 => ?_)
    exact b_end (NxOk.init (r := (⟨own_modulus_13, own_polys_18, own_singles_30⟩ : Table_)) (OsW.one fun _ _ h => h))
def m_Table_init_v1 (a_modulus : Int) (a_polys : (List Poly_)) (a_singles : (List (Int × Int))) : W Table_ :=
  bnd (ret (a_polys)) fun known_1 => bnd (ret (a_singles)) fun late_2 => bnd (ret (!false)) fun b3 => bnd (if b3 = true then (bnd (noX (m_need_polys_v1 a_modulus a_polys)) fun _ => bnd (noX (m_need_singles_v1 a_singles)) fun _ => bnd (bnd (noX (m_all_divisors a_modulus)) fun r9 => ret (mergeD [] (r9.zip a_polys))) fun known_6 => bnd (ret (mergeD [] a_singles)) fun late_7 => ret ((known_6, late_7))) else (fail)) fun (s10 : ((List (Int × Poly_)) × (List (Int × Int)))) => bnd (noX (m_least_modulus a_modulus s10.1)) fun least_11 => bnd (ret (least_11)) fun own_modulus_13 => bnd (bnd (noX (m_all_divisors least_11)) fun r14 => dcW (fun (x15 : Int) => ret true) (fun (x15 : Int) => ret (x15)) (fun (x15 : Int) => optW (dget s10.1 x15)) r14 []) fun own_polys_18 => bnd (bnd (sortJ (s10.2.map (·.1))) fun t20 => filtW (fun (x21 : Int) => bnd (optW (dget s10.2 x21)) fun t23 => bnd (noX (m_common x21 least_11)) fun r24 => bnd (optW (dget s10.1 r24)) fun t25 => bnd (noX (m_worth_of t25 x21)) fun r26 => ret (!decide (t23 = r26))) (fun (x21 : Int) => ret (x21)) t20) fun rows_19 => bnd (dcW (fun (x27 : Int) => ret true) (fun (x27 : Int) => ret (x27)) (fun (x27 : Int) => optW (dget s10.2 x27)) rows_19 []) fun own_singles_30 => ret (⟨own_modulus_13, own_polys_18, own_singles_30⟩ : Table_)
theorem ok_Table_init_v1 (T : Txt P K mg ad) : FnOk P w K mg base CX0 5 ad.f_Table_init ad.d_Table_init ["self", "modulus", "polys", "singles"] (spI ad.c_Table (fun i : Int × (List Poly_) × (List (Int × Int)) × Unit => [sv rInt i.1, sv (rTup K (rObj ad.c_Poly (fl_Poly K ad))) i.2.1, sv (rTup K (rT2 K rInt rInt)) i.2.2.1]) (fun i => m_Table_init_v1 i.1 i.2.1 i.2.2.1) (fl_Table K ad)) := by
  refine initWE T.F_Table_init sc_Table_init (fun _ => rfl) fun cdv A outer s0 H0 E0 B self0 i hr => ?_
  obtain ⟨a_modulus, a_polys, a_singles, _⟩ := i
  have hu := hr.units
  have hu2 := room100 hr
  have hu8 := Nat.lt_of_le_of_lt (Nat.add_le_add_left (show 8 ≤ 100 by decide) _) hu2
  show BG _ _ _ _ _ _ (m_Table_init_v1 a_modulus a_polys a_singles)
  unfold m_Table_init_v1
  first | refine b_par2 (ps_par (i := 4) (j := 5) rfl sc_Table_init.nd rfl rfl (by decide) rfl rfl (pa2 (e_conv (e_name 2) (by walk_at "wn")) (fun _ => e_conv (e_name 3) rfl)) rfl) (fun known_1 late_2 => ?_) | refine b_par2T (ps_asg (pe_tup (pa2 (e_conv (e_name 2) (by walk_at "wn")) (fun _ => e_conv (e_name 3) rfl))) (pg_tup rfl (pgs_cons (pg_name (i := 4) sc_Table_init.nd rfl (by walk_at "loc")) (pgs_cons (pg_name (i := 5) sc_Table_init.nd rfl (by walk_at "loc")) pgs_nil)))) (fun known_1 late_2 => ?_)
  refine b_ifJ (S := ((List (Int × Poly_)) × (List (Int × Int)))) (fun s => [sv (rAdr self0) (), sv rInt a_modulus, sv (rTup K (rObj ad.c_Poly (fl_Poly K ad))) a_polys, sv (rTup K (rT2 K rInt rInt)) a_singles, sv (rDct rInt Sum.inl (rObj ad.c_Poly (fl_Poly K ad))) s.1, sv (rDct rInt Sum.inl rInt) s.2, sa, sa, sa, sa]) (fun s => [(self0, oObj ad.c_Table [])]) (t_conv (t_not (t_val (e_isB (T := "dict") (k := false) ty_tup (kit_ty (by decide +kernel)) (e_name 2) T.b_isinstance T.b_dict))) (by walk_at "wn")) ?_ ?_ (fun s10 => ?_)
  · refine b_expr (e_conv (e_call (ok_need_polys_v1 T) (hr.mono (by walk_at "lev")) T.m_need_polys T.F_need_polys.kp T.bd_need_polys (aa_cons (e_name 1) fun _ => (aa_cons (e_name 2) fun _ => aa_nil)) (fun _ => OsLe.none) (fun _ => List.nodup_nil)) (by walk_at "wn")) ?_
    refine b_expr (e_conv (e_call (ok_need_singles_v1 T) (hr.mono (by walk_at "lev")) T.m_need_singles T.F_need_singles.kp T.bd_need_singles (aa_cons (e_name 3) fun _ => aa_nil) (fun _ => OsLe.none) (fun _ => List.nodup_nil)) (by walk_at "wn")) ?_
    first | refine b_par2 (ps_par (i := 4) (j := 5) rfl sc_Table_init.nd rfl rfl (by decide) rfl rfl (pa2 (e_conv (e_newD (d_zipT key_int rfl (e_call (ok_all_divisors T) (hr.mono (by walk_at "lev")) T.m_all_divisors T.F_all_divisors.kp T.bd_all_divisors (aa_cons (e_name 1) fun _ => aa_nil) (fun _ => OsLe.none) (fun _ => List.nodup_nil)) (fun _ => (e_name 2)) T.b_dict T.b_zip)) (by walk_at "wn")) (fun _ => e_conv (e_newD (d_pairs key_int rfl (e_new (n_listT (e_name 3) T.b_list)) T.b_dict)) rfl)) rfl) (fun known_6 late_7 => ?_) | refine b_par2T (ps_asg (pe_tup (pa2 (e_conv (e_newD (d_zipT key_int rfl (e_call (ok_all_divisors T) (hr.mono (by walk_at "lev")) T.m_all_divisors T.F_all_divisors.kp T.bd_all_divisors (aa_cons (e_name 1) fun _ => aa_nil) (fun _ => OsLe.none) (fun _ => List.nodup_nil)) (fun _ => (e_name 2)) T.b_dict T.b_zip)) (by walk_at "wn")) (fun _ => e_conv (e_newD (d_pairs key_int rfl (e_new (n_listT (e_name 3) T.b_list)) T.b_dict)) rfl))) (pg_tup rfl (pgs_cons (pg_name (i := 4) sc_Table_init.nd rfl (by walk_at "loc")) (pgs_cons (pg_name (i := 5) sc_Table_init.nd rfl (by walk_at "loc")) pgs_nil)))) (fun known_6 late_7 => ?_)
    exact b_end (NxOk.nxS (s := ((known_6, late_7) : ((List (Int × Poly_)) × (List (Int × Int))))) ⟨.inl rfl, .inl rfl, .inl rfl, .inl rfl, .inl rfl, .inl rfl, .inr rfl, .inr rfl, .inr rfl, .inr rfl, trivial⟩ (.cons_cons _ .slnil))
  · exact b_never
  · refine b_set 6 (e_conv (e_call (ok_least_modulus T) (hr.mono (by walk_at "lev")) T.m_least_modulus T.F_least_modulus.kp T.bd_least_modulus (aa_cons (e_name 1) fun _ => (aa_cons (e_name 4) fun _ => aa_nil)) (fun _ => OsLe.none) (fun _ => List.nodup_nil)) (by walk_at "wn")) (fun least_11 => ?_) sc_Table_init.nd
    refine b_fldO 0 0 T.cl_Table T.na_Table_own_modulus rfl rfl (e_conv (e_name 6) (by walk_at "wn")) (fun own_modulus_13 => ?_)
    refine b_fldO 0 0 T.cl_Table T.na_Table_own_polys rfl rfl (e_conv (e_newD (d_comp key_int rfl sc_Table_init.nd (s_list (e_call (ok_all_divisors T) (hr.mono (by walk_at "lev")) T.m_all_divisors T.F_all_divisors.kp T.bd_all_divisors (aa_cons (e_name 6) fun _ => aa_nil) (fun _ => OsLe.none) (fun _ => List.nodup_nil))) (blkOk_by (own := [("low", 7)]) rfl) (tg_name (i := 7)) (fun _ _ _ _ _ => (pg_name (i := 7) sc_Table_init.nd rfl (by walk_at "loc"))) (by decide) (fun _ _ _ _ _ _ _ _ _ => (e_name 7)) (fun _ _ _ _ _ _ _ _ _ => (e_dget key_int hu2 (e_name 4) fun _ => (e_name 7))))) (by walk_at "wn")) (fun own_polys_18 => ?_)
    first | refine b_setC 8 (c_conv (c_compF (s := rInt) rfl sc_Table_init.nd (s_list (e_new (n_sortedJ (e_new (n_listD rfl (e_name 5) T.b_list)) T.b_sorted))) (blkOk_by (own := [("n", 9)]) rfl) (tg_name (i := 9)) (fun _ _ _ _ _ => (pg_name (i := 9) sc_Table_init.nd rfl (by walk_at "loc"))) (by decide) (fun _ _ _ _ _ _ _ _ _ => (t_neI (e_dget key_int hu2 (e_name 5) fun _ => (e_name 9)) fun _ => (e_call (ok_worth_of T) (hr.mono (by walk_at "lev")) T.m_worth_of T.F_worth_of.kp T.bd_worth_of (aa_cons (e_dget key_int hu2 (e_name 4) fun _ => (e_call (ok_common T) (hr.mono (by walk_at "lev")) T.m_common T.F_common.kp T.bd_common (aa_cons (e_name 9) fun _ => (aa_cons (e_name 6) fun _ => aa_nil)) (fun _ => OsLe.none) (fun _ => List.nodup_nil))) fun _ => (aa_cons (e_name 9) fun _ => aa_nil)) (fun _ => OsLe.none) (fun _ => List.nodup_nil)))) (fun _ _ _ _ _ _ _ _ _ => (e_name 9)) rfl rfl (sw_true rfl rfl rfl (by decide +kernel))) (by walk_at "wn")) (fun rows_19 => ?_) | refine b_set 8 (e_conv (e_new (n_compF (s := rInt) rfl sc_Table_init.nd (s_list (e_new (n_sortedJ (e_new (n_listD rfl (e_name 5) T.b_list)) T.b_sorted))) (blkOk_by (own := [("n", 9)]) rfl) (tg_name (i := 9)) (fun _ _ _ _ _ => (pg_name (i := 9) sc_Table_init.nd rfl (by walk_at "loc"))) (by decide) (fun _ _ _ _ _ _ _ _ _ => (t_neI (e_dget key_int hu2 (e_name 5) fun _ => (e_name 9)) fun _ => (e_call (ok_worth_of T) (hr.mono (by walk_at "lev")) T.m_worth_of T.F_worth_of.kp T.bd_worth_of (aa_cons (e_dget key_int hu2 (e_name 4) fun _ => (e_call (ok_common T) (hr.mono (by walk_at "lev")) T.m_common T.F_common.kp T.bd_common (aa_cons (e_name 9) fun _ => (aa_cons (e_name 6) fun _ => aa_nil)) (fun _ => OsLe.none) (fun _ => List.nodup_nil))) fun _ => (aa_cons (e_name 9) fun _ => aa_nil)) (fun _ => OsLe.none) (fun _ => List.nodup_nil)))) (fun _ _ _ _ _ _ _ _ _ => (e_name 9)))) (by walk_at "wn")) (fun rows_19 => ?_) sc_Table_init.nd
    refine b_fldO 0 0 T.cl_Table T.na_Table_own_singles rfl rfl (e_conv (e_newD (d_comp key_int rfl sc_Table_init.nd (s_list (e_name 8)) (blkOk_by (own := [("n", 9)]) rfl) (tg_name (i := 9)) (fun _ _ _ _ _ => (pg_name (i := 9) sc_Table_init.nd rfl (by walk_at "loc"))) (by decide) (fun _ _ _ _ _ _ _ _ _ => (e_name 9)) (fun _ _ _ _ _ _ _ _ _ => (e_dget key_int hu2 (e_name 5) fun _ => (e_name 9))))) (by walk_at "wn")) (fun own_singles_30 => ?_)
    exact b_end (NxOk.init (r := (⟨own_modulus_13, own_polys_18, own_singles_30⟩ : Table_)) (OsW.one fun _ _ h => h))
def m_Table_init_v2 (a_modulus : PyData) (a_polys : (Mx Poly_)) (a_singles : Unit) : W Table_ :=
  bnd (ret (a_polys)) fun known_1 => bnd (ret (a_singles)) fun late_2 => bnd (ret (!false)) fun b3 => if b3 = true then (bnd (m_need_polys_v2 a_modulus a_polys) fun _ => fail) else (fail)
theorem ok_Table_init_v2 (T : Txt P K mg ad) : FnOk P w K mg base (L2.CX P w) 5 ad.f_Table_init ad.d_Table_init ["self", "modulus", "polys", "singles"] (spIX K (tbl ad) ad.c_Table (fun i : PyData × (Mx Poly_) × Unit × Unit => [sv (rD K) i.1, sv (rMx K ad.c_Poly (fl_Poly K ad)) i.2.1, sv rNon i.2.2.1]) (fun i => m_Table_init_v2 i.1 i.2.1 i.2.2.1) (fl_Table K ad)) := by
  refine initXE T.F_Table_init sc_Table_init (fun _ => rfl) fun cdv A outer s0 H0 E0 B self0 i hr tk => ?_
  obtain ⟨a_modulus, a_polys, a_singles, _⟩ := i
  have hu := hr.units
  have hu2 := room100 hr
  have hu8 := Nat.lt_of_le_of_lt (Nat.add_le_add_left (show 8 ≤ 100 by decide) _) hu2
  show BG _ _ _ _ _ _ (m_Table_init_v2 a_modulus a_polys a_singles)
  unfold m_Table_init_v2
  first | refine b_par2 (ps_par (i := 4) (j := 5) rfl sc_Table_init.nd rfl rfl (by decide) rfl rfl (pa2 (e_conv (e_name 2) (by walk_at "wn")) (fun _ => e_conv (e_name 3) rfl)) rfl) (fun known_1 late_2 => ?_) | refine b_par2T (ps_asg (pe_tup (pa2 (e_conv (e_name 2) (by walk_at "wn")) (fun _ => e_conv (e_name 3) rfl))) (pg_tup rfl (pgs_cons (pg_name (i := 4) sc_Table_init.nd rfl (by walk_at "loc")) (pgs_cons (pg_name (i := 5) sc_Table_init.nd rfl (by walk_at "loc")) pgs_nil)))) (fun known_1 late_2 => ?_)
  refine b_ifA (t_conv (t_not (t_val (e_noDictM T.ic_Poly T.k_Poly_dict (e_name 2) T.b_isinstance T.b_dict))) (by walk_at "wn")) ?_ ?_
  · refine b_expr (e_conv (er_V (e_callZ (conv := fun q : PyData × (Mx Poly_) × Unit => (q.1, q.2.1, ())) (dfl := []) (dvs := []) (ok_need_polys_v2 T) (passB tk) spf_X0 (hr.mono (by walk_at "lev")) T.m_need_polys T.F_need_polys.kp T.cb_need_polys_2 (fun _ => .nil) (hh_pos (aa_cons (e_name 1) fun _ => (aa_cons (e_name 2) fun _ => aa_nil)) (fun _ => rfl)) (fun _ => rfl))) (by walk_at "wn")) ?_
    exact b_never
  · exact b_never
def m_Table_init_v3 (a_modulus : Int) (a_polys : (Mx Poly_)) (a_singles : Unit) : W Table_ :=
  bnd (ret (a_polys)) fun known_1 => bnd (ret (a_singles)) fun late_2 => bnd (ret (!false)) fun b3 => if b3 = true then (bnd (m_need_polys_v3 a_modulus a_polys) fun _ => fail) else (fail)
theorem ok_Table_init_v3 (T : Txt P K mg ad) : FnOk P w K mg base (L2.CX P w) 5 ad.f_Table_init ad.d_Table_init ["self", "modulus", "polys", "singles"] (spIX K (tbl ad) ad.c_Table (fun i : Int × (Mx Poly_) × Unit × Unit => [sv rInt i.1, sv (rMx K ad.c_Poly (fl_Poly K ad)) i.2.1, sv rNon i.2.2.1]) (fun i => m_Table_init_v3 i.1 i.2.1 i.2.2.1) (fl_Table K ad)) := by
  refine initXE T.F_Table_init sc_Table_init (fun _ => rfl) fun cdv A outer s0 H0 E0 B self0 i hr tk => ?_
  obtain ⟨a_modulus, a_polys, a_singles, _⟩ := i
  have hu := hr.units
  have hu2 := room100 hr
  have hu8 := Nat.lt_of_le_of_lt (Nat.add_le_add_left (show 8 ≤ 100 by decide) _) hu2
  show BG _ _ _ _ _ _ (m_Table_init_v3 a_modulus a_polys a_singles)
  unfold m_Table_init_v3
  first | refine b_par2 (ps_par (i := 4) (j := 5) rfl sc_Table_init.nd rfl rfl (by decide) rfl rfl (pa2 (e_conv (e_name 2) (by walk_at "wn")) (fun _ => e_conv (e_name 3) rfl)) rfl) (fun known_1 late_2 => ?_) | refine b_par2T (ps_asg (pe_tup (pa2 (e_conv (e_name 2) (by walk_at "wn")) (fun _ => e_conv (e_name 3) rfl))) (pg_tup rfl (pgs_cons (pg_name (i := 4) sc_Table_init.nd rfl (by walk_at "loc")) (pgs_cons (pg_name (i := 5) sc_Table_init.nd rfl (by walk_at "loc")) pgs_nil)))) (fun known_1 late_2 => ?_)
  refine b_ifA (t_conv (t_not (t_val (e_noDictM T.ic_Poly T.k_Poly_dict (e_name 2) T.b_isinstance T.b_dict))) (by walk_at "wn")) ?_ ?_
  · refine b_expr (e_conv (er_V (e_callZ (conv := fun q : Int × (Mx Poly_) × Unit => (q.1, q.2.1, ())) (dfl := []) (dvs := []) (ok_need_polys_v3 T) (passB tk) spf_X0 (hr.mono (by walk_at "lev")) T.m_need_polys T.F_need_polys.kp T.cb_need_polys_2 (fun _ => .nil) (hh_pos (aa_cons (e_name 1) fun _ => (aa_cons (e_name 2) fun _ => aa_nil)) (fun _ => rfl)) (fun _ => rfl))) (by walk_at "wn")) ?_
    exact b_never
  · exact b_never
def m_Table_init_v4 (a_modulus : Int) (a_polys : (List (Mx Poly_))) (a_singles : Unit) : W Table_ :=
  bnd (ret (a_polys)) fun known_1 => bnd (ret (a_singles)) fun late_2 => bnd (ret (!false)) fun b3 => if b3 = true then (bnd (m_need_polys_v4 a_modulus a_polys) fun _ => fail) else (fail)
theorem ok_Table_init_v4 (T : Txt P K mg ad) : FnOk P w K mg base (L2.CX P w) 5 ad.f_Table_init ad.d_Table_init ["self", "modulus", "polys", "singles"] (spIX K (tbl ad) ad.c_Table (fun i : Int × (List (Mx Poly_)) × Unit × Unit => [sv rInt i.1, sv (rLst (rMx K ad.c_Poly (fl_Poly K ad))) i.2.1, sv rNon i.2.2.1]) (fun i => m_Table_init_v4 i.1 i.2.1 i.2.2.1) (fl_Table K ad)) := by
  refine initXE T.F_Table_init sc_Table_init (fun _ => rfl) fun cdv A outer s0 H0 E0 B self0 i hr tk => ?_
  obtain ⟨a_modulus, a_polys, a_singles, _⟩ := i
  have hu := hr.units
  have hu2 := room100 hr
  have hu8 := Nat.lt_of_le_of_lt (Nat.add_le_add_left (show 8 ≤ 100 by decide) _) hu2
  show BG _ _ _ _ _ _ (m_Table_init_v4 a_modulus a_polys a_singles)
  unfold m_Table_init_v4
  first | refine b_par2 (ps_par (i := 4) (j := 5) rfl sc_Table_init.nd rfl rfl (by decide) rfl rfl (pa2 (e_conv (e_name 2) (by walk_at "wn")) (fun _ => e_conv (e_name 3) rfl)) rfl) (fun known_1 late_2 => ?_) | refine b_par2T (ps_asg (pe_tup (pa2 (e_conv (e_name 2) (by walk_at "wn")) (fun _ => e_conv (e_name 3) rfl))) (pg_tup rfl (pgs_cons (pg_name (i := 4) sc_Table_init.nd rfl (by walk_at "loc")) (pgs_cons (pg_name (i := 5) sc_Table_init.nd rfl (by walk_at "loc")) pgs_nil)))) (fun known_1 late_2 => ?_)
  refine b_ifA (t_conv (t_not (t_val (e_isB (T := "dict") (k := false) ty_lst (kit_ty (by decide +kernel)) (e_name 2) T.b_isinstance T.b_dict))) (by walk_at "wn")) ?_ ?_
  · refine b_expr (e_conv (er_V (e_callZ (conv := fun q : Int × (List (Mx Poly_)) × Unit => (q.1, q.2.1, ())) (dfl := []) (dvs := []) (ok_need_polys_v4 T) (passB tk) spf_X0 (hr.mono (by walk_at "lev")) T.m_need_polys T.F_need_polys.kp T.cb_need_polys_2 (fun _ => .nil) (hh_pos (aa_cons (e_name 1) fun _ => (aa_cons (e_name 2) fun _ => aa_nil)) (fun _ => rfl)) (fun _ => rfl))) (by walk_at "wn")) ?_
    exact b_never
  · exact b_never
def m_Table_init_v5 (a_modulus : Int) (a_polys : (List Poly_)) (a_singles : (List PyData)) : W Table_ :=
  bnd (ret (a_polys)) fun known_1 => bnd (ret (a_singles)) fun late_2 => bnd (ret (!false)) fun b3 => if b3 = true then (bnd (noX (m_need_polys_v0 a_modulus a_polys)) fun _ => bnd (m_need_singles_v3 a_singles) fun _ => fail) else (fail)
theorem ok_Table_init_v5 (T : Txt P K mg ad) : FnOk P w K mg base (L2.CX P w) 5 ad.f_Table_init ad.d_Table_init ["self", "modulus", "polys", "singles"] (spIX K (tbl ad) ad.c_Table (fun i : Int × (List Poly_) × (List PyData) × Unit => [sv rInt i.1, sv (rLst (rObj ad.c_Poly (fl_Poly K ad))) i.2.1, sv (rLst (rDk K 12)) i.2.2.1]) (fun i => m_Table_init_v5 i.1 i.2.1 i.2.2.1) (fl_Table K ad)) := by
  refine initXE T.F_Table_init sc_Table_init (fun _ => rfl) fun cdv A outer s0 H0 E0 B self0 i hr tk => ?_
  obtain ⟨a_modulus, a_polys, a_singles, _⟩ := i
  have hu := hr.units
  have hu2 := room100 hr
  have hu8 := Nat.lt_of_le_of_lt (Nat.add_le_add_left (show 8 ≤ 100 by decide) _) hu2
  show BG _ _ _ _ _ _ (m_Table_init_v5 a_modulus a_polys a_singles)
  unfold m_Table_init_v5
  first | refine b_par2 (ps_par (i := 4) (j := 5) rfl sc_Table_init.nd rfl rfl (by decide) rfl rfl (pa2 (e_conv (e_name 2) (by walk_at "wn")) (fun _ => e_conv (e_name 3) rfl)) rfl) (fun known_1 late_2 => ?_) | refine b_par2T (ps_asg (pe_tup (pa2 (e_conv (e_name 2) (by walk_at "wn")) (fun _ => e_conv (e_name 3) rfl))) (pg_tup rfl (pgs_cons (pg_name (i := 4) sc_Table_init.nd rfl (by walk_at "loc")) (pgs_cons (pg_name (i := 5) sc_Table_init.nd rfl (by walk_at "loc")) pgs_nil)))) (fun known_1 late_2 => ?_)
  refine b_ifA (t_conv (t_not (t_val (e_isB (T := "dict") (k := false) ty_lst (kit_ty (by decide +kernel)) (e_name 2) T.b_isinstance T.b_dict))) (by walk_at "wn")) ?_ ?_
  · refine b_expr (e_conv (e_call (ok_need_polys_v0 T) (hr.mono (by walk_at "lev")) T.m_need_polys T.F_need_polys.kp T.bd_need_polys (aa_cons (e_name 1) fun _ => (aa_cons (e_name 2) fun _ => aa_nil)) (fun _ => OsLe.none) (fun _ => List.nodup_nil)) (by walk_at "wn")) ?_
    refine b_expr (e_conv (er_V (e_callZ (conv := fun q : (List PyData) × Unit => (q.1, ())) (dfl := []) (dvs := []) (ok_need_singles_v3 T) (passB tk) spf_X0 (hr.mono (by walk_at "lev")) T.m_need_singles T.F_need_singles.kp T.cb_need_singles_1 (fun _ => .nil) (hh_pos (aa_cons (e_name 3) fun _ => aa_nil) (fun _ => rfl)) (fun _ => rfl))) (by walk_at "wn")) ?_
    exact b_never
  · exact b_never
def m_Table_init_v6 (a_modulus : Int) (a_polys : (List Poly_)) (a_singles : PyData) : W Table_ :=
  bnd (ret (a_polys)) fun known_1 => bnd (ret (a_singles)) fun late_2 => bnd (ret (!false)) fun b3 => if b3 = true then (bnd (noX (m_need_polys_v0 a_modulus a_polys)) fun _ => bnd (m_need_singles_v2 a_singles) fun _ => fail) else (fail)
theorem ok_Table_init_v6 (T : Txt P K mg ad) : FnOk P w K mg base (L2.CX P w) 5 ad.f_Table_init ad.d_Table_init ["self", "modulus", "polys", "singles"] (spIX K (tbl ad) ad.c_Table (fun i : Int × (List Poly_) × PyData × Unit => [sv rInt i.1, sv (rLst (rObj ad.c_Poly (fl_Poly K ad))) i.2.1, sv (rD K) i.2.2.1]) (fun i => m_Table_init_v6 i.1 i.2.1 i.2.2.1) (fl_Table K ad)) := by
  refine initXE T.F_Table_init sc_Table_init (fun _ => rfl) fun cdv A outer s0 H0 E0 B self0 i hr tk => ?_
  obtain ⟨a_modulus, a_polys, a_singles, _⟩ := i
  have hu := hr.units
  have hu2 := room100 hr
  have hu8 := Nat.lt_of_le_of_lt (Nat.add_le_add_left (show 8 ≤ 100 by decide) _) hu2
  show BG _ _ _ _ _ _ (m_Table_init_v6 a_modulus a_polys a_singles)
  unfold m_Table_init_v6
  first | refine b_par2 (ps_par (i := 4) (j := 5) rfl sc_Table_init.nd rfl rfl (by decide) rfl rfl (pa2 (e_conv (e_name 2) (by walk_at "wn")) (fun _ => e_conv (e_name 3) rfl)) rfl) (fun known_1 late_2 => ?_) | refine b_par2T (ps_asg (pe_tup (pa2 (e_conv (e_name 2) (by walk_at "wn")) (fun _ => e_conv (e_name 3) rfl))) (pg_tup rfl (pgs_cons (pg_name (i := 4) sc_Table_init.nd rfl (by walk_at "loc")) (pgs_cons (pg_name (i := 5) sc_Table_init.nd rfl (by walk_at "loc")) pgs_nil)))) (fun known_1 late_2 => ?_)
  refine b_ifA (t_conv (t_not (t_val (e_isB (T := "dict") (k := false) ty_lst (kit_ty (by decide +kernel)) (e_name 2) T.b_isinstance T.b_dict))) (by walk_at "wn")) ?_ ?_
  · refine b_expr (e_conv (e_call (ok_need_polys_v0 T) (hr.mono (by walk_at "lev")) T.m_need_polys T.F_need_polys.kp T.bd_need_polys (aa_cons (e_name 1) fun _ => (aa_cons (e_name 2) fun _ => aa_nil)) (fun _ => OsLe.none) (fun _ => List.nodup_nil)) (by walk_at "wn")) ?_
    refine b_expr (e_conv (er_V (e_callZ (conv := fun q : PyData × Unit => (q.1, ())) (dfl := []) (dvs := []) (ok_need_singles_v2 T) (passB tk) spf_X0 (hr.mono (by walk_at "lev")) T.m_need_singles T.F_need_singles.kp T.cb_need_singles_1 (fun _ => .nil) (hh_pos (aa_cons (e_name 3) fun _ => aa_nil) (fun _ => rfl)) (fun _ => rfl))) (by walk_at "wn")) ?_
    exact b_never
  · exact b_never
def m_Table_always_v0 (a_number : Int) : W Table_ :=
  bnd (bnd (noX (m_is_whole_v0 a_number)) fun r1 => ret (!r1)) fun b2 => if b2 = true then (fail) else (bnd (bnd (noX (m_poly_of ([a_number]))) fun r4 => noX (m_Table_init_v0 ((1 : Int)) ([r4]) (([] : (List (Int × Int)))))) fun z => ret z)
theorem ok_Table_always_v0 (T : Txt P K mg ad) : FnOk P w K mg base CX0 7 ad.f_Table_always ad.d_Table_always ["number"] (spW (fun i : Int × Unit => [sv rInt i.1]) (fun _ => []) (fun i => m_Table_always_v0 i.1) (rObj ad.c_Table (fl_Table K ad))) := by
  refine okW T.F_Table_always sc_Table_always (fun _ => rfl) fun cdv A outer s0 H0 E0 B i hr => ?_
  obtain ⟨a_number, _⟩ := i
  have hu := hr.units
  have hu2 := room100 hr
  have hu8 := Nat.lt_of_le_of_lt (Nat.add_le_add_left (show 8 ≤ 100 by decide) _) hu2
  show BG _ _ _ _ _ _ (m_Table_always_v0 a_number)
  unfold m_Table_always_v0
  refine b_ifA (t_conv (t_not (t_val (e_call (ok_is_whole_v0 T) (hr.mono (by walk_at "lev")) T.m_is_whole T.F_is_whole.kp T.bd_is_whole (aa_cons (e_name 0) fun _ => aa_nil) (fun _ => OsLe.none) (fun _ => List.nodup_nil)))) (by walk_at "wn")) ?_ ?_
  · exact b_never
  · exact b_ret RtOk.fn OsW.nil (e_conv (e_makeZ (conv := fun q : Int × (List Poly_) × Unit => (q.1, q.2.1, ([] : (List (Int × Int))), ())) (dfl := [sv (rTup K (rT2 K rInt rInt)) (([] : (List (Int × Int))))]) (dvs := [.ref ad.e_Table_init_0]) T.mk_Table (ok_Table_init_v0 T) pass0 spm_W (hr.mono (by walk_at "lev")) T.n_Table T.cb_Table_init_2 (fun _ => (.cons ⟨_, rfl, _, [], rfl, .inr T.et_Table_init_0, Nat.zero_le _, .nil⟩ .nil)) (hh_pos (aa_cons e_int fun _ => (aa_cons (e_new (n_list (al_cons (e_call (ok_poly_of T) (hr.mono (by walk_at "lev")) T.m_poly_of T.F_poly_of.kp T.bd_poly_of (aa_cons (e_new (n_list (al_cons (e_name 0) al_nil))) fun _ => aa_nil) (fun _ => OsLe.none) (fun _ => List.nodup_nil)) al_nil))) fun _ => aa_nil)) (fun _ => rfl)) (fun _ => rfl)) (by walk_at "wn"))
def m_Table_always_v1 (a_number : PyData) : W Table_ :=
  bnd (bnd (noX (m_is_whole_v1 a_number)) fun r1 => ret (!r1)) fun b2 => if b2 = true then (bnd (ret (a_number)) fun v => thr ⟨"InvalidNumber", [id v]⟩) else (fail)
theorem ok_Table_always_v1 (T : Txt P K mg ad) : FnOk P w K mg base (L2.CX P w) 3 ad.f_Table_always ad.d_Table_always ["number"] (spX K (tbl ad) (fun i : PyData × Unit => [sv (rD K) i.1]) (fun _ => []) (fun i => m_Table_always_v1 i.1) (rObj ad.c_Table (fl_Table K ad))) := by
  refine okX T.F_Table_always sc_Table_always (fun _ => rfl) fun cdv A outer s0 H0 E0 B i hr tk hpo => ?_
  obtain ⟨a_number, _⟩ := i
  have hu := hr.units
  have hu2 := room100 hr
  have hu8 := Nat.lt_of_le_of_lt (Nat.add_le_add_left (show 8 ≤ 100 by decide) _) hu2
  show BG _ _ _ _ _ _ (m_Table_always_v1 a_number)
  unfold m_Table_always_v1
  refine b_ifA (t_conv (t_not (t_val (e_call (ok_is_whole_v1 T) (hr.mono (by walk_at "lev")) T.m_is_whole T.F_is_whole.kp T.bd_is_whole (aa_cons (e_name 0) fun _ => aa_nil) (fun _ => OsLe.none) (fun _ => List.nodup_nil)))) (by walk_at "wn")) ?_ ?_
  · exact b_conv (b_raise1G foot_value tk rfl (List.Mem.head _) (by decide) T.ox_InvalidNumber T.ai_InvalidNumber T.ti_InvalidNumber (ex_InvalidNumber T) (hr.mono (by walk_at "lev")) T.xb_InvalidNumber T.n_InvalidNumber dd_D (by decide) (e_conv (e_name 0) (by walk_at "wn"))) rfl
  · exact b_never
def m_Table_modulus (a_self : Table_) : W Int :=
  bnd (ret (a_self.own_modulus)) fun z => ret z
theorem ok_Table_modulus (T : Txt P K mg ad) : FnOk P w K mg base CX0 1 ad.f_Table_modulus ad.d_Table_modulus ["self"] (spW (fun i : Table_ × Unit => [sv (rObj ad.c_Table (fl_Table K ad)) i.1]) (fun _ => []) (fun i => m_Table_modulus i.1) rInt) := by
  refine okW T.F_Table_modulus sc_Table_modulus (fun _ => rfl) fun cdv A outer s0 H0 E0 B i hr => ?_
  obtain ⟨a_self, _⟩ := i
  have hu := hr.units
  have hu2 := room100 hr
  have hu8 := Nat.lt_of_le_of_lt (Nat.add_le_add_left (show 8 ≤ 100 by decide) _) hu2
  show BG _ _ _ _ _ _ (m_Table_modulus a_self)
  unfold m_Table_modulus
  exact b_ret RtOk.fn OsW.nil (e_conv (e_fld (g := fun q : Table_ => q.own_modulus) T.cl_Table T.na_Table_own_modulus (e_name 0)) (by walk_at "wn"))
def m_Table_polys (a_self : Table_) : W (List (Int × Poly_)) :=
  bnd (mapW (fun (x1 : Int) => bnd (optW (dget a_self.own_polys x1)) fun t2 => ret ((x1, t2))) (a_self.own_polys.map (·.1))) fun z => ret z
theorem ok_Table_polys (T : Txt P K mg ad) : FnOk P w K mg base CX0 1 ad.f_Table_polys ad.d_Table_polys ["self"] (spW (fun i : Table_ × Unit => [sv (rObj ad.c_Table (fl_Table K ad)) i.1]) (fun _ => []) (fun i => m_Table_polys i.1) (rLst (rT2 K rInt (rObj ad.c_Poly (fl_Poly K ad))))) := by
  refine okW T.F_Table_polys sc_Table_polys (fun _ => rfl) fun cdv A outer s0 H0 E0 B i hr => ?_
  obtain ⟨a_self, _⟩ := i
  have hu := hr.units
  have hu2 := room100 hr
  have hu8 := Nat.lt_of_le_of_lt (Nat.add_le_add_left (show 8 ≤ 100 by decide) _) hu2
  show BG _ _ _ _ _ _ (m_Table_polys a_self)
  unfold m_Table_polys
  exact b_ret RtOk.fn OsW.nil (e_conv (e_new (n_comp (s := (rT2 K rInt (rObj ad.c_Poly (fl_Poly K ad)))) rfl sc_Table_polys.nd (s_keys (e_fld (g := fun q : Table_ => q.own_polys) T.cl_Table T.na_Table_own_polys (e_name 0))) (blkOk_by (own := [("low", 1)]) rfl) (tg_name (i := 1)) (fun _ _ _ _ _ => (pg_name (i := 1) sc_Table_polys.nd rfl (by walk_at "loc"))) (by decide) (fun _ _ _ _ _ _ _ _ _ => (e_tup2 (e_name 1) fun _ => (e_dget key_int hu2 (e_fld (g := fun q : Table_ => q.own_polys) T.cl_Table T.na_Table_own_polys (e_name 0)) fun _ => (e_name 1)))))) (by walk_at "wn"))
def m_Table_singles (a_self : Table_) : W (List (Int × Int)) :=
  bnd (mapW (fun (x1 : Int) => bnd (optW (dget a_self.own_singles x1)) fun t2 => ret ((x1, t2))) (a_self.own_singles.map (·.1))) fun z => ret z
theorem ok_Table_singles (T : Txt P K mg ad) : FnOk P w K mg base CX0 1 ad.f_Table_singles ad.d_Table_singles ["self"] (spW (fun i : Table_ × Unit => [sv (rObj ad.c_Table (fl_Table K ad)) i.1]) (fun _ => []) (fun i => m_Table_singles i.1) (rLst (rT2 K rInt rInt))) := by
  refine okW T.F_Table_singles sc_Table_singles (fun _ => rfl) fun cdv A outer s0 H0 E0 B i hr => ?_
  obtain ⟨a_self, _⟩ := i
  have hu := hr.units
  have hu2 := room100 hr
  have hu8 := Nat.lt_of_le_of_lt (Nat.add_le_add_left (show 8 ≤ 100 by decide) _) hu2
  show BG _ _ _ _ _ _ (m_Table_singles a_self)
  unfold m_Table_singles
  exact b_ret RtOk.fn OsW.nil (e_conv (e_new (n_comp (s := (rT2 K rInt rInt)) rfl sc_Table_singles.nd (s_keys (e_fld (g := fun q : Table_ => q.own_singles) T.cl_Table T.na_Table_own_singles (e_name 0))) (blkOk_by (own := [("n", 1)]) rfl) (tg_name (i := 1)) (fun _ _ _ _ _ => (pg_name (i := 1) sc_Table_singles.nd rfl (by walk_at "loc"))) (by decide) (fun _ _ _ _ _ _ _ _ _ => (e_tup2 (e_name 1) fun _ => (e_dget key_int hu2 (e_fld (g := fun q : Table_ => q.own_singles) T.cl_Table T.na_Table_own_singles (e_name 0)) fun _ => (e_name 1)))))) (by walk_at "wn"))
def m_Table_poly_at (a_self : Table_) (a_n : Int) : W Poly_ :=
  bnd (bnd (noX (m_common a_n a_self.own_modulus)) fun r1 => optW (dget a_self.own_polys r1)) fun z => ret z
theorem ok_Table_poly_at (T : Txt P K mg ad) : FnOk P w K mg base CX0 2 ad.f_Table_poly_at ad.d_Table_poly_at ["self", "n"] (spW (fun i : Table_ × Int × Unit => [sv (rObj ad.c_Table (fl_Table K ad)) i.1, sv rInt i.2.1]) (fun _ => []) (fun i => m_Table_poly_at i.1 i.2.1) (rObj ad.c_Poly (fl_Poly K ad))) := by
  refine okW T.F_Table_poly_at sc_Table_poly_at (fun _ => rfl) fun cdv A outer s0 H0 E0 B i hr => ?_
  obtain ⟨a_self, a_n, _⟩ := i
  have hu := hr.units
  have hu2 := room100 hr
  have hu8 := Nat.lt_of_le_of_lt (Nat.add_le_add_left (show 8 ≤ 100 by decide) _) hu2
  show BG _ _ _ _ _ _ (m_Table_poly_at a_self a_n)
  unfold m_Table_poly_at
  exact b_ret RtOk.fn OsW.nil (e_conv (e_dget key_int hu2 (e_fld (g := fun q : Table_ => q.own_polys) T.cl_Table T.na_Table_own_polys (e_name 0)) fun _ => (e_call (ok_common T) (hr.mono (by walk_at "lev")) T.m_common T.F_common.kp T.bd_common (aa_cons (e_name 1) fun _ => (aa_cons (e_fld (g := fun q : Table_ => q.own_modulus) T.cl_Table T.na_Table_own_modulus (e_name 0)) fun _ => aa_nil)) (fun _ => OsLe.none) (fun _ => List.nodup_nil))) (by walk_at "wn"))
def m_Table_number_at (a_self : Table_) (a_n : Int) : W Int :=
  bnd (bnd (ret ((dget a_self.own_singles a_n).isSome)) fun c => if c = true then optW (dget a_self.own_singles a_n) else bnd (noX (m_Table_poly_at a_self a_n)) fun r2 => noX (m_worth_of r2 a_n)) fun z => ret z
theorem ok_Table_number_at (T : Txt P K mg ad) : FnOk P w K mg base CX0 3 ad.f_Table_number_at ad.d_Table_number_at ["self", "n"] (spW (fun i : Table_ × Int × Unit => [sv (rObj ad.c_Table (fl_Table K ad)) i.1, sv rInt i.2.1]) (fun _ => []) (fun i => m_Table_number_at i.1 i.2.1) rInt) := by
  refine okW T.F_Table_number_at sc_Table_number_at (fun _ => rfl) fun cdv A outer s0 H0 E0 B i hr => ?_
  obtain ⟨a_self, a_n, _⟩ := i
  have hu := hr.units
  have hu2 := room100 hr
  have hu8 := Nat.lt_of_le_of_lt (Nat.add_le_add_left (show 8 ≤ 100 by decide) _) hu2
  show BG _ _ _ _ _ _ (m_Table_number_at a_self a_n)
  unfold m_Table_number_at
  exact b_ret RtOk.fn OsW.nil (e_conv (e_if (t_din key_int hu2 (e_name 1) fun _ => (e_fld (g := fun q : Table_ => q.own_singles) T.cl_Table T.na_Table_own_singles (e_name 0))) (e_dget key_int hu2 (e_fld (g := fun q : Table_ => q.own_singles) T.cl_Table T.na_Table_own_singles (e_name 0)) fun _ => (e_name 1)) (e_call (ok_worth_of T) (hr.mono (by walk_at "lev")) T.m_worth_of T.F_worth_of.kp T.bd_worth_of (aa_cons (er_V (e_methZ (conv := fun q : Int × Unit => (q.1, ())) (dfl := []) (dvs := []) (fl := fl_Table K ad) (ok_Table_poly_at T) pass0 spf_W0 (hr.mono (by walk_at "lev")) T.cl_Table T.mt_Table_poly_at T.cb_Table_poly_at_1 (fun _ => .nil) (e_name 0) (fun _ => (hh_pos (aa_cons (e_name 1) fun _ => aa_nil) (fun _ => rfl))) (fun _ _ => rfl))) fun _ => (aa_cons (e_name 1) fun _ => aa_nil)) (fun _ => OsLe.none) (fun _ => List.nodup_nil))) (by walk_at "wn"))
def m_Table_call_v0 (a_self : Table_) (a_n : Int) : W Int :=
  bnd (noX (m_need_number_v1 a_n ((1 : Int)) (()))) fun _ => bnd (noX (m_Table_number_at a_self a_n)) fun z => ret z
theorem ok_Table_call_v0 (T : Txt P K mg ad) : FnOk P w K mg base CX0 4 ad.f_Table_call ad.d_Table_call ["self", "n"] (spW (fun i : Table_ × Int × Unit => [sv (rObj ad.c_Table (fl_Table K ad)) i.1, sv rInt i.2.1]) (fun _ => []) (fun i => m_Table_call_v0 i.1 i.2.1) rInt) := by
  refine okW T.F_Table_call sc_Table_call (fun _ => rfl) fun cdv A outer s0 H0 E0 B i hr => ?_
  obtain ⟨a_self, a_n, _⟩ := i
  have hu := hr.units
  have hu2 := room100 hr
  have hu8 := Nat.lt_of_le_of_lt (Nat.add_le_add_left (show 8 ≤ 100 by decide) _) hu2
  show BG _ _ _ _ _ _ (m_Table_call_v0 a_self a_n)
  unfold m_Table_call_v0
  refine b_expr (e_conv (e_call (ok_need_number_v1 T) (hr.mono (by walk_at "lev")) T.m_need_number T.F_need_number.kp T.bd_need_number (aa_cons (e_name 1) fun _ => (aa_cons e_int fun _ => (aa_cons e_non fun _ => aa_nil))) (fun _ => OsLe.none) (fun _ => List.nodup_nil)) (by walk_at "wn")) ?_
  exact b_ret RtOk.fn OsW.nil (e_conv (er_V (e_methZ (conv := fun q : Int × Unit => (q.1, ())) (dfl := []) (dvs := []) (fl := fl_Table K ad) (ok_Table_number_at T) pass0 spf_W0 (hr.mono (by walk_at "lev")) T.cl_Table T.mt_Table_number_at T.cb_Table_number_at_1 (fun _ => .nil) (e_name 0) (fun _ => (hh_pos (aa_cons (e_name 1) fun _ => aa_nil) (fun _ => rfl))) (fun _ _ => rfl))) (by walk_at "wn"))
def m_Table_call_v1 (a_self : Table_) (a_n : PyData) : W Int :=
  bnd (m_need_number_v3 a_n ((1 : Int)) (())) fun _ => fail
theorem ok_Table_call_v1 (T : Txt P K mg ad) : FnOk P w K mg base (L2.CX P w) 4 ad.f_Table_call ad.d_Table_call ["self", "n"] (spX K (tbl ad) (fun i : Table_ × PyData × Unit => [sv (rObj ad.c_Table (fl_Table K ad)) i.1, sv (rD K) i.2.1]) (fun _ => []) (fun i => m_Table_call_v1 i.1 i.2.1) rInt) := by
  refine okX T.F_Table_call sc_Table_call (fun _ => rfl) fun cdv A outer s0 H0 E0 B i hr tk hpo => ?_
  obtain ⟨a_self, a_n, _⟩ := i
  have hu := hr.units
  have hu2 := room100 hr
  have hu8 := Nat.lt_of_le_of_lt (Nat.add_le_add_left (show 8 ≤ 100 by decide) _) hu2
  show BG _ _ _ _ _ _ (m_Table_call_v1 a_self a_n)
  unfold m_Table_call_v1
  refine b_expr (e_conv (er_V (e_callZ (conv := fun q : PyData × Int × Unit × Unit => (q.1, q.2.1, q.2.2.1, ())) (dfl := []) (dvs := []) (ok_need_number_v3 T) (passB tk) spf_X0 (hr.mono (by walk_at "lev")) T.m_need_number T.F_need_number.kp T.cb_need_number_3 (fun _ => .nil) (hh_pos (aa_cons (e_name 1) fun _ => (aa_cons e_int fun _ => (aa_cons e_non fun _ => aa_nil))) (fun _ => rfl)) (fun _ => rfl))) (by walk_at "wn")) ?_
  exact b_never
def m_Table_eq (a_self : Table_) (a_other : Table_) : W Bool :=
  bnd (ret (!true)) fun b1 => if b1 = true then (fail) else (bnd (bnd (bnd (noX (m_Table_polys a_self)) fun r2 => bnd (noX (m_Table_polys a_other)) fun r3 => ret (eqL (eqP2 (fun x y : Int => decide (x = y)) (fun x y : Poly_ => PyData.eqv (PyData.list (x.own_coefs.map .int)) (PyData.list (y.own_coefs.map .int)))) r2 r3)) fun c4 => if c4 = true then (ret (deqI a_self.own_singles a_other.own_singles)) else ret false) fun z => ret z)
theorem ok_Table_eq (T : Txt P K mg ad) : FnOk P w K mg base CX0 5 ad.f_Table_eq ad.d_Table_eq ["self", "other"] (spW (fun i : Table_ × Table_ × Unit => [sv (rObj ad.c_Table (fl_Table K ad)) i.1, sv (rObj ad.c_Table (fl_Table K ad)) i.2.1]) (fun _ => []) (fun i => m_Table_eq i.1 i.2.1) rBool) := by
  refine okW T.F_Table_eq sc_Table_eq (fun _ => rfl) fun cdv A outer s0 H0 E0 B i hr => ?_
  obtain ⟨a_self, a_other, _⟩ := i
  have hu := hr.units
  have hu2 := room100 hr
  have hu8 := Nat.lt_of_le_of_lt (Nat.add_le_add_left (show 8 ≤ 100 by decide) _) hu2
  show BG _ _ _ _ _ _ (m_Table_eq a_self a_other)
  unfold m_Table_eq
  refine b_ifA (t_conv (t_not (t_val (e_isC (k := true) (ty_obj T.ic_Table) T.k_Table_Table (e_name 1) T.b_isinstance T.n_Table))) (by walk_at "wn")) ?_ ?_
  · exact b_never
  · exact b_ret RtOk.fn OsW.nil (e_conv (e_and (e_eqLO (rcs_lst ((rcs_t2 (EqS.mono (m := 1) eqs_int (by decide)) ((rcs_obj (wf := fun q : Poly_ × Poly_ × Unit => m_Poly_eq q.1 q.2.1) (g := (fun x y : Poly_ => PyData.eqv (PyData.list (x.own_coefs.map .int)) (PyData.list (y.own_coefs.map .int)))) (ok_Poly_eq T) T.bd_Poly_eq T.eq_Poly T.fe_Poly (fun _ _ => rfl)).eqS (self_fld (f := "own_coefs") (get := fun x : Poly_ => x.own_coefs) (fun _ => rfl) (inj_lst inj_int) (fun x y h => by have h : x.own_coefs = y.own_coefs := h; show PyData.eqv _ _ = true; rw [h]; exact eqv_selfI _)) ref_obj)).eqS (self_t2 self_int (self_fld (f := "own_coefs") (get := fun x : Poly_ => x.own_coefs) (fun _ => rfl) (inj_lst inj_int) (fun x y h => by have h : x.own_coefs = y.own_coefs := h; show PyData.eqv _ _ = true; rw [h]; exact eqv_selfI _))) ref_t2)) (hr.mono (by walk_at "lev")) (er_V (e_methZ (conv := fun q : Unit => (())) (dfl := []) (dvs := []) (fl := fl_Table K ad) (ok_Table_polys T) pass0 spf_W0 (hr.mono (by walk_at "lev")) T.cl_Table T.mt_Table_polys T.cb_Table_polys_0 (fun _ => .nil) (e_name 0) (fun _ => hh_none) (fun _ _ => rfl))) fun _ => (er_V (e_methZ (conv := fun q : Unit => (())) (dfl := []) (dvs := []) (fl := fl_Table K ad) (ok_Table_polys T) pass0 spf_W0 (hr.mono (by walk_at "lev")) T.cl_Table T.mt_Table_polys T.cb_Table_polys_0 (fun _ => .nil) (e_name 1) (fun _ => hh_none) (fun _ _ => rfl)))) (e_one (e_eqDI key_int (Nat.lt_of_le_of_lt (Nat.le_add_right _ 64) hu) (e_fld (g := fun q : Table_ => q.own_singles) T.cl_Table T.na_Table_own_singles (e_name 0)) fun _ => (e_fld (g := fun q : Table_ => q.own_singles) T.cl_Table T.na_Table_own_singles (e_name 1))))) (by walk_at "wn"))
def m_Table_bool (a_self : Table_) : W Bool :=
  bnd (bnd (bnd (mapW (fun (x1 : Int) => bnd (optW (dget a_self.own_polys x1)) fun t2 => ret (t2.own_coefs)) (a_self.own_polys.map (·.1))) fun ys3 => ret (ys3.any (fun y => !y.isEmpty))) fun c4 => if c4 = true then ret true else (ret (!a_self.own_singles.isEmpty))) fun z => ret z
theorem ok_Table_bool (T : Txt P K mg ad) : FnOk P w K mg base CX0 1 ad.f_Table_bool ad.d_Table_bool ["self"] (spW (fun i : Table_ × Unit => [sv (rObj ad.c_Table (fl_Table K ad)) i.1]) (fun _ => []) (fun i => m_Table_bool i.1) rBool) := by
  refine okW T.F_Table_bool sc_Table_bool (fun _ => rfl) fun cdv A outer s0 H0 E0 B i hr => ?_
  obtain ⟨a_self, _⟩ := i
  have hu := hr.units
  have hu2 := room100 hr
  have hu8 := Nat.lt_of_le_of_lt (Nat.add_le_add_left (show 8 ≤ 100 by decide) _) hu2
  show BG _ _ _ _ _ _ (m_Table_bool a_self)
  unfold m_Table_bool
  exact b_ret RtOk.fn OsW.nil (e_conv (e_or (e_anyLI rfl (e_new (n_comp (s := (rLst rInt)) rfl sc_Table_bool.nd (s_keys (e_fld (g := fun q : Table_ => q.own_polys) T.cl_Table T.na_Table_own_polys (e_name 0))) (blkOk_by (own := [("low", 1)]) rfl) (tg_name (i := 1)) (fun _ _ _ _ _ => (pg_name (i := 1) sc_Table_bool.nd rfl (by walk_at "loc"))) (by decide) (fun _ _ _ _ _ _ _ _ _ => (e_fld (g := fun q : Poly_ => q.own_coefs) T.cl_Poly T.na_Poly_own_coefs (e_dget key_int hu2 (e_fld (g := fun q : Table_ => q.own_polys) T.cl_Table T.na_Table_own_polys (e_name 0)) fun _ => (e_name 1)))))) T.b_any) (e_one (e_boolD (e_fld (g := fun q : Table_ => q.own_singles) T.cl_Table T.na_Table_own_singles (e_name 0)) T.b_bool))) (by walk_at "wn"))
def m_law_bag_l1 (s : Int) (x : Int) : W Int :=
  bnd (bnd (mulI s 50147) fun t1 => bnd (modI x 2147483543) fun t2 => bnd (modI (t1 + t2 + 31) 2147483563) fun t3 => ret t3) fun m => ret m
def m_law_bag (ns : List Int) : W (List Int × Int) :=
  bnd (ret 12021) fun m => bnd (ret (cutL ns none (some 63))) fun xs => bnd (forW m_law_bag_l1 m xs) fun s : Int => bnd (ret (cutL ns none (some 63))) fun c => bnd (ret s) fun y => ret (c, y)
theorem ok_law_bag (T : Txt P K mg ad) : FnOk P w K mg base CX0 1 ad.f_law_bag ad.d_law_bag ["_law_script"] (spBag K) := by
  refine T.F_law_bag.ok sc_law_bag (fun vs H Q E ⟨a, ns, e, _⟩ => by rw [e]; rfl) fun cdv A outer s H vs Q E hr hsp => ?_
  obtain ⟨a, ns, rfl, hsq, hlen, hk⟩ := hsp
  refine ⟨_, (?_ : BG _ (bs0 H H []) [sv (rScr K) ns, sa, sa] [] _ (pBag (bs0 H H [])) (m_law_bag ns)), H, fun _ => True, ⟨bs0_start (Ex.refl H) (fun p hp => nomatch hp), .cons ⟨_, rfl, a, rfl, hsq, hlen⟩ (.cons trivial (.cons trivial .nil)), (fun p hp => nomatch hp), List.nodup_nil⟩, ?_, fun y hy b c H' h1 h2 h3 h4 h5 h6 h7 => hk b c _ _ H' h1 h2 h3 h4 h5 h6 h7⟩
  · unfold m_law_bag
    refine b_set 1 e_int (fun m => ?_) sc_law_bag.nd
    refine b_for (S := Int) (fun s => [sv (rScr K) ns, sv rInt s, sa]) (fun _ => []) (m : Int) rfl PassesOwn.never (s_conv (s_list (e_new (n_sliceScr (e_name 0) o_none (o_some e_int)))) (by walk_at "wn")) (tg_name (i := 2)) (pg_name (i := 2) sc_law_bag.nd rfl (by walk_at "loc")) (fun M s x => ?_) (fun s => ?_) ⟨.inl rfl, .inl rfl, .inr rfl, trivial⟩ rfl
    · unfold m_law_bag_l1
      refine b_set 1 (e_conv (e_mod (e_intI (e_add (e_add (e_mul (e_name 1) fun _ => e_int) fun _ => e_mod (e_intI (e_name 2) T.b_int) fun _ => e_int) fun _ => e_int) T.b_int) fun _ => e_int) (by walk_at "wn")) (fun m => ?_) sc_law_bag.nd
      exact b_end (NxOk.nxS (s := m) ⟨.inl rfl, .inl rfl, .inr rfl, trivial⟩ .slnil)
    · exact b_bagR (w1 := ret (cutL ns none (some 63))) (w2 := fun _ => ret s) (fun _ h => nomatch h) (n_conv (n_listL (e_new (n_sliceScr (e_name 0) o_none (o_some e_int))) T.b_list) (by walk_at "wn")) (fun _ _ => e_name 1)
  · unfold m_law_bag
    show forW m_law_bag_l1 12021 _ (fun _ => True) (fun _ => False)
    refine forW_of (I := fun _ => True) (fun s x Q _ h => ?_) trivial (fun _ _ => trivial)
    unfold m_law_bag_l1
    refine mulI_of (mul_small (by decide)) ?_
    refine modI_of (by decide) fun _ _ _ => ?_
    exact modI_of (by decide) fun _ _ _ => h _ trivial
theorem ok_law_draw (T : Txt P K mg ad) (b : Addr) (cells : List Int) : FnOk P w K mg base CX0 1 ad.f_law_draw ad.d_law_draw ["_law_bag_here", "_law_most"] (spW (fun i : Unit × Int × Unit => [sv (rAdr b) i.1, sv rInt i.2.1]) (fun _ => [(b, oBag cells)]) (fun i => drawW i.2.1) rInt) := by
  refine okW T.F_law_draw sc_law_draw (fun _ => rfl) fun cdv A outer s H E B i hr => ?_
  obtain ⟨_, most, _⟩ := i
  refine b_open 0 rfl bag_in fun p => ?_
  obtain ⟨n, d, m, k⟩ := p
  refine BG.imp (w := bnd (drC cells n d most) fun b => bnd (if b = true then drA cells n m else ret ()) fun _ : Unit => drawW most) ?_ ?_
  · unfold drC
    refine b_ifJ (S := Unit) (fun _ => [sv (rAdr b) (), sv rInt most, sa, sa, sa, sa]) (fun _ => [(b, oBag cells)])
      (t_conv (t_pw (w_and (t_lt (e_hidx 0 0 2 rfl rfl rfl) fun _ => e_name 1) (w_and1 (t_lt (e_hidx 0 0 1 rfl rfl rfl) fun _ => e_len (e_hidx 0 0 0 rfl rfl rfl) T.b_len)))) (by walk_at "wn")) ?_ ?_ (fun _ => ?_)
    · unfold drA
      refine b_set 2 (e_conv (e_idx (e_hidx 0 0 0 rfl rfl rfl) fun _ => e_hidx 0 0 1 rfl rfl rfl) (by walk_at "wn")) (fun cell => ?_) sc_law_draw.nd
      refine b_hput 0 0 1 rfl rfl (by show (1 : Nat) < 5; decide) (e_conv (e_add (e_hidx 0 0 1 rfl rfl rfl) fun _ => e_int) (by walk_at "wn")) (fun i1 => ?_)
      refine b_chk fun hi1 => ?_
      refine b_hput 0 0 3 rfl rfl (by show (3 : Nat) < 5; decide) (e_conv (e_mod (e_intI (e_add (e_add (e_mul (e_hidx 0 0 3 rfl rfl rfl) fun _ => e_int) fun _ => e_mod (e_intI (e_name 2) T.b_int) fun _ => e_int) fun _ => e_int) T.b_int) fun _ => e_int) (by walk_at "wn")) (fun m1 => ?_)
      refine b_hput 0 0 2 rfl rfl (by show (2 : Nat) < 5; decide) (e_conv (e_if (t_ge (e_name 2) fun _ => e_pow e_int fun _ => e_int) (e_name 2) e_int) (by walk_at "wn")) (fun d1 => ?_)
      exact b_end (NxOk.one rfl ⟨.inl rfl, .inl rfl, .inr rfl, .inr rfl, .inr rfl, .inr rfl, trivial⟩ (bag_out (n := n + 1) (by omega)))
    · exact b_end (NxOk.one rfl ⟨.inl rfl, .inl rfl, .inr rfl, .inr rfl, .inr rfl, .inr rfl, trivial⟩ (bag_out rfl))
    · refine b_open 0 rfl bag_in fun p => ?_
      obtain ⟨n, d, m, k⟩ := p
      refine BG.imp (w := bnd (ret (decide (most ≤ d))) fun b => if b = true then drB d most else drR m k most) ?_ ?_
      · refine b_ifA (t_conv (t_ge (e_hidx 0 0 2 rfl rfl rfl) fun _ => e_name 1) (by walk_at "wn")) ?_ ?_
        · unfold drB
          refine b_set 3 (e_conv (e_mod (e_intI (e_hidx 0 0 2 rfl rfl rfl) T.b_int) fun _ => e_name 1) (by walk_at "wn")) (fun digit => ?_) sc_law_draw.nd
          refine b_hput 0 0 2 rfl rfl (by show (2 : Nat) < 5; decide) (e_conv (e_div (e_hidx 0 0 2 rfl rfl rfl) fun _ => e_name 1) (by walk_at "wn")) (fun d1 => ?_)
          exact b_ret (RtOk.x RtOk.fn) (OsW.one (bag_out rfl)) (e_name 3)
        · unfold drR
          refine b_hput 0 0 4 rfl rfl (by show (4 : Nat) < 5; decide) (e_conv (e_add (e_hidx 0 0 4 rfl rfl rfl) fun _ => e_int) (by walk_at "wn")) (fun k1 => ?_)
          refine b_set 4 (e_conv (e_mod (e_intI (e_add (e_hidx 0 0 3 rfl rfl rfl) fun _ => e_mul (e_hidx 0 0 4 rfl rfl rfl) fun _ => e_int) T.b_int) fun _ => e_int) (by walk_at "wn")) (fun base => ?_) sc_law_draw.nd
          refine b_set 5 (e_conv (e_mul (e_mod (e_intI (e_mul (e_name 4) fun _ => e_name 4) T.b_int) fun _ => e_int) fun _ => e_add (e_mod (e_intI (e_name 4) T.b_int) fun _ => e_int) fun _ => e_int) (by walk_at "wn")) (fun late => ?_) sc_law_draw.nd
          refine b_hput 0 0 3 rfl rfl (by show (3 : Nat) < 5; decide) (e_conv (e_mod (e_intI (e_add (e_add (e_name 5) fun _ => e_mul e_int fun _ => e_name 4) fun _ => e_int) T.b_int) fun _ => e_int) (by walk_at "wn")) (fun m1 => ?_)
          exact b_ret RtOk.fn (OsW.one (bag_out rfl)) (e_conv (e_mod (e_intI (e_add (e_div (e_hidx 0 0 3 rfl rfl rfl) fun _ => e_int) fun _ => e_mul (e_mod (e_intI (e_hidx 0 0 3 rfl rfl rfl) T.b_int) fun _ => e_int) fun _ => e_int) T.b_int) fun _ => e_name 1) (by walk_at "wn"))
      · rintro P E ⟨h1, h2, h3⟩
        show (if decide (most ≤ d) = true then drB d most else drR m k most) P E
        split
        · exact drB_of h1 h2 h3
        · exact drR_of h1 h2 h3
  · intro P E h
    refine drC_of (fun hn => drA_of hn ?_) ?_
    · exact h
    · exact h
theorem ok_law_any {α : Type} (T : Txt P K mg ad) (b : Addr) (cells : List Int) (r : Rp α) : FnOk P w K mg base CX0 2 ad.f_law_any ad.d_law_any ["_law_bag_here", "_law_some"] (spW (fun i : Unit × List α × Unit => [sv (rAdr b) i.1, sv (rLst r) i.2.1]) (fun _ => [(b, oBag cells)]) (fun i => anyW i.2.1) r) := by
  refine okW T.F_law_any sc_law_any (fun _ => rfl) fun cdv A outer s H E B i hr => ?_
  obtain ⟨_, xs, _⟩ := i
  show BG _ _ _ _ _ _ (anyW xs)
  refine b_conv (b_ret RtOk.fn (OsW.of (OsLe.mem (List.Mem.head _))) (e_idx (e_name 1) fun _ => e_call (ok_law_draw T b cells) (hr.mono (by walk_at "lev")) T.m_law_draw T.F_law_draw.kp T.bd_law_draw (aa_cons (e_name 0) fun _ => aa_cons (e_len (e_name 1) T.b_len) fun _ => aa_nil) (fun _ => OsLe.mem (List.Mem.head _)) (fun _ => by simp))) ?_
  unfold anyW
  simp only [Mi.wn_bb, Mi.wn_br, Mi.wn_rb]
theorem ok_law_same {α β : Type} {r : Rp α} {s : Rp β} {f : α → PyData} {g : β → PyData} {n m : Nat} (T : Txt P K mg ad) (d : DD K r f n) (e : DD K s g m) (hn : n ≤ 64 := by decide) (hm : m ≤ 64 := by decide) :
    FnG P w K mg base CX0 1 ad.f_law_same ad.d_law_same ["_law_found", "_law_due"] (spW (fun i : α × β × Unit => [sv r i.1, sv s i.2.1]) (fun _ => []) (fun i => sameW f g i.1 i.2.1) rBool) := by
  refine fnW T.F_law_same sc_law_same (fun _ => rfl) fun cdv A outer s0 H E B i hr hgu0 => ?_
  obtain ⟨x, y, _⟩ := i
  have hu2 := room100 hr
  have hgu := guards_deeper (q := "_law_same") (sc := defScope s_law_same) (n := s0.heap.objs.size) (f := ad.f_law_same) (c := cdv) hgu0
  show BG _ _ _ _ _ _ (sameW f g x y)
  refine b_conv (b_ret RtOk.fn OsW.nil (e_eqS (e_repr hu2 hgu d (e_name 0) T.b_repr hn) fun _ => e_repr hu2 hgu e (e_name 1) T.b_repr hm)) ?_
  unfold sameW
  simp only [Mi.wn_bb, Mi.wn_br, Mi.wn_rb]
def m_law_field (a_law_e : Er) : W PyData :=
  bnd (ret (decide (Str.ofString a_law_e.cls ∈ ([("InvalidForm" : Str), ("InvalidRows" : Str), ("InvalidPoly" : Str), ("InvalidTable" : Str), ("InvalidSingles" : Str), ("InvalidDeed" : Str)])))) fun b1 => if b1 = true then (bnd (excF ftb a_law_e "at") fun z => ret z) else (bnd (ret (decide (Str.ofString a_law_e.cls ∈ ([("DuplicateName" : Str), ("UnknownName" : Str), ("TooMany" : Str), ("TooDeep" : Str)])))) fun b3 => if b3 = true then (bnd (bnd (ret (decide (Str.ofString a_law_e.cls ∈ ([("DuplicateName" : Str), ("UnknownName" : Str)])))) fun c => if c = true then excF ftb a_law_e "name" else excF ftb a_law_e "most") fun z => ret z) else (bnd (ret (decide (Str.ofString a_law_e.cls ∈ ([("InvalidText" : Str), ("OtherParameters" : Str), ("NothingLeft" : Str)])))) fun b7 => if b7 = true then (bnd (ret ((fun _ => .none) (()))) fun z => ret z) else (bnd (ret (decide (Str.ofString a_law_e.cls ∈ ([("InvalidPage" : Str), ("InUse" : Str)])))) fun b8 => if b8 = true then (bnd (bnd (ret (decide (Str.ofString a_law_e.cls = ("InvalidPage" : Str)))) fun c => if c = true then excF ftb a_law_e "line" else excF ftb a_law_e "user") fun z => ret z) else (bnd (ret (decide (Str.ofString a_law_e.cls ∈ ([("Full" : Str), ("NotEnough" : Str)])))) fun b12 => if b12 = true then (bnd (bnd (ret (decide (Str.ofString a_law_e.cls = ("Full" : Str)))) fun c => if c = true then excF ftb a_law_e "limit" else excF ftb a_law_e "number") fun z => ret z) else (bnd (excF ftb a_law_e "given") fun z => ret z)))))
theorem ok_law_field (T : Txt P K mg ad) : FnS P w K mg base 1 ad.f_law_field ad.d_law_field ["_law_e"] (fun p => spW (fun i : Er × Unit => [sv (rExc K (tbl ad) p) i.1]) (fun _ => []) (fun i => m_law_field i.1) (rD K)) := by
  refine okS T.F_law_field sc_law_field (fun _ _ => rfl) fun cdv A outer s0 H0 B p i => ?_
  obtain ⟨a_law_e, _⟩ := i
  show BG _ _ _ _ _ _ (m_law_field a_law_e)
  unfold m_law_field
  refine b_ifA (t_conv (t_inST (e_excCode 0 (List.Mem.head _) T.tbok) fun _ => (e_tupL (al_cons e_str (al_cons e_str (al_cons e_str (al_cons e_str (al_cons e_str (al_cons e_str al_nil)))))))) (by walk_at "wn")) ?_ ?_
  · exact b_ret (RtOk.x RtOk.fn) OsW.nil (e_conv (e_excFld 0 (List.Mem.head _) T.tbok) (by walk_at "wn"))
  · refine b_ifA (t_conv (t_inST (e_excCode 0 (List.Mem.head _) T.tbok) fun _ => (e_tupL (al_cons e_str (al_cons e_str (al_cons e_str (al_cons e_str al_nil)))))) (by walk_at "wn")) ?_ ?_
    · exact b_ret (RtOk.x RtOk.fn) OsW.nil (e_conv (e_if (t_inST (e_excCode 0 (List.Mem.head _) T.tbok) fun _ => (e_tupL (al_cons e_str (al_cons e_str al_nil)))) (e_excFld 0 (List.Mem.head _) T.tbok) (e_excFld 0 (List.Mem.head _) T.tbok)) (by walk_at "wn"))
    · refine b_ifA (t_conv (t_inST (e_excCode 0 (List.Mem.head _) T.tbok) fun _ => (e_tupL (al_cons e_str (al_cons e_str (al_cons e_str al_nil))))) (by walk_at "wn")) ?_ ?_
      · exact b_ret (RtOk.x RtOk.fn) OsW.nil (e_conv (e_toD dd_non e_non) (by walk_at "wn"))
      · refine b_ifA (t_conv (t_inST (e_excCode 0 (List.Mem.head _) T.tbok) fun _ => (e_tupL (al_cons e_str (al_cons e_str al_nil)))) (by walk_at "wn")) ?_ ?_
        · exact b_ret (RtOk.x RtOk.fn) OsW.nil (e_conv (e_if (t_eqS (e_excCode 0 (List.Mem.head _) T.tbok) fun _ => e_str) (e_excFld 0 (List.Mem.head _) T.tbok) (e_excFld 0 (List.Mem.head _) T.tbok)) (by walk_at "wn"))
        · refine b_ifA (t_conv (t_inST (e_excCode 0 (List.Mem.head _) T.tbok) fun _ => (e_tupL (al_cons e_str (al_cons e_str al_nil)))) (by walk_at "wn")) ?_ ?_
          · exact b_ret (RtOk.x RtOk.fn) OsW.nil (e_conv (e_if (t_eqS (e_excCode 0 (List.Mem.head _) T.tbok) fun _ => e_str) (e_excFld 0 (List.Mem.head _) T.tbok) (e_excFld 0 (List.Mem.head _) T.tbok)) (by walk_at "wn"))
          · exact b_ret RtOk.fn OsW.nil (e_conv (e_excFld 0 (List.Mem.head _) T.tbok) (by walk_at "wn"))
def m_law_got (ask : W PyData) : W (Str × PyData) := tryW (bnd ask fun x => ret (("" : Str), x)) fun e => bnd (noX (m_law_field e)) fun x => ret (Str.ofString e.cls, x)
theorem ok_law_got (T : Txt P K mg ad) (b : Addr) (cells : List Int) : FnOk P w K mg base CX0 13 ad.f_law_got ad.d_law_got ["_law_ask"] (spW (fun i : (W PyData) × Unit => [sv (rCloB P w K mg base (tbl ad) 12 [(b, oBag cells)] (rD K)) i.1]) (fun _ => [(b, oBag cells)]) (fun i => m_law_got i.1) (rT2 K rStr (rD K))) := by
  refine tryFnB (osT := [(b, oBag cells)]) (x1 := "DialError") (x2 := "Missing") (n := "_law_e") (i := 1) (w1 := fun i : (W PyData) × Unit => bnd i.1 fun x => ret (("" : Str), x)) (w2 := fun e => bnd (noX (m_law_field e)) fun x => ret (Str.ofString e.cls, x)) T.F_law_got sc_law_got (fun _ => rfl) rfl rfl rfl rfl rfl (by decide) (by decide) T.n_DialError T.n_Missing T.xall ?_ ?_
  · intro cdv A outer s0 H0 E0 pn xe B i0 hr tk
    obtain ⟨ask, _⟩ := i0
    exact (b_conv (b_ret RtOk.fn (OsW.of (OsLe.mem (List.Mem.head _))) (e_tup2 e_str fun _ => e_callCloB 0 tk (OsLe.mem (List.Mem.head _)) (by simp) (hr.mono (by walk_at "lev")))) (by walk_at "wn"))
  · intro cdv A outer s0 H0 E0 a oe pn B e hr
    exact (b_conv (b_ret RtOk.fn (OsW.of (OsLe.mem (List.Mem.head _))) (e_tup2 (e_excCode 1 (List.Mem.head _) T.tbok) fun _ => e_callS (ok_law_field T) (List.Mem.head _) (L2H.RoomH.mono (k := 12) ⟨hr.dp, hr.un⟩ (by walk_at "lev")) T.m_law_field T.F_law_field.kp T.bd_law_field (aa_cons (e_name 1) fun _ => aa_nil))) (by walk_at "wn"))
def m_law_all_got (a_law_asks : (List (W PyData))) : W (List (Str × PyData)) :=
  bnd (mapW (fun (x1 : (W PyData)) => noX (m_law_got x1)) a_law_asks) fun z => ret z
theorem ok_law_all_got (T : Txt P K mg ad) (b : Addr) (cells : List Int) : FnOk P w K mg base CX0 14 ad.f_law_all_got ad.d_law_all_got ["_law_asks"] (spW (fun i : (List (W PyData)) × Unit => [sv (rLst (rCloB P w K mg base (tbl ad) 12 [(b, oBag cells)] (rD K))) i.1]) (fun _ => [(b, oBag cells)]) (fun i => m_law_all_got i.1) (rLst (rT2 K rStr (rD K)))) := by
  refine okW T.F_law_all_got sc_law_all_got (fun _ => rfl) fun cdv A outer s0 H0 E0 B i hr => ?_
  obtain ⟨a_law_asks, _⟩ := i
  have hu := hr.units
  have hu2 := room100 hr
  have hu8 := Nat.lt_of_le_of_lt (Nat.add_le_add_left (show 8 ≤ 100 by decide) _) hu2
  show BG _ _ _ _ _ _ (m_law_all_got a_law_asks)
  unfold m_law_all_got
  exact b_ret RtOk.fn (OsW.of (OsLe.mem (List.Mem.head _))) (e_conv (e_new (n_comp (s := (rT2 K rStr (rD K))) rfl sc_law_all_got.nd (s_list (e_name 0)) (blkOk_by (own := [("_law_ask", 1)]) rfl) (tg_name (i := 1)) (fun _ _ _ _ _ => (pg_name (i := 1) sc_law_all_got.nd rfl (by walk_at "loc"))) (by decide) (fun _ _ _ _ _ _ _ _ _ => (e_call (ok_law_got T b cells) (hr.mono (by walk_at "lev")) T.m_law_got T.F_law_got.kp T.bd_law_got (aa_cons (e_name 1) fun _ => aa_nil) (fun _ => OsLe.mem (List.Mem.tail _ (List.Mem.head _))) (fun _ => by simp))))) (by walk_at "wn"))
def m_law_odd (a_law_more : (List PyData)) : W PyData :=
  bnd (bnd (catL (([(fun _ => .none) (()), .bool true, .bool false, .str (("" : Str)), .str (("1" : Str)), .str (("A b" : Str)), (fun xs => PyData.tuple (xs.map .int)) (([] : List Int)), (fun xs => PyData.list (xs.map .int)) (([] : (List Int))), (fun xs => PyData.list (xs.map .int)) ([(1 : Int)]), (fun x => PyData.tuple [.int x.1, .str x.2]) (((2 : Int), ("A" : Str))), (fun xs => PyData.tuple (xs.map .str)) ([("x" : Str)])]).map id) a_law_more) fun t1 => noX (anyW t1)) fun z => ret z
theorem ok_law_odd (T : Txt P K mg ad) (b : Addr) (cells : List Int) : FnOk P w K mg base CX0 3 ad.f_law_odd ad.d_law_odd ["_law_bag_here", "_law_more"] (spW (fun i : Unit × (List PyData) × Unit => [sv (rAdr b) i.1, sv (rLst (rD K)) i.2.1]) (fun _ => [(b, oBag cells)]) (fun i => m_law_odd i.2.1) (rD K)) := by
  refine okW T.F_law_odd sc_law_odd (fun _ => rfl) fun cdv A outer s0 H0 E0 B i hr => ?_
  obtain ⟨_, a_law_more, _⟩ := i
  have hu := hr.units
  have hu2 := room100 hr
  have hu8 := Nat.lt_of_le_of_lt (Nat.add_le_add_left (show 8 ≤ 100 by decide) _) hu2
  show BG _ _ _ _ _ _ (m_law_odd a_law_more)
  unfold m_law_odd
  exact b_ret RtOk.fn (OsW.of (OsLe.mem (List.Mem.head _))) (e_conv (e_call (ok_law_any T b cells (rD K)) (hr.mono (by walk_at "lev")) T.m_law_any T.F_law_any.kp T.bd_law_any (aa_cons (e_name 0) fun _ => (aa_cons (e_new (n_cat (e_lstD (dd_Dk (n := 12)) (e_new (n_list (al_cons (e_toDk (m := 12) dd_non e_non) (al_cons (e_toDk (m := 12) dd_bool e_bl) (al_cons (e_toDk (m := 12) dd_bool e_bl) (al_cons (e_toDk (m := 12) dd_str e_str) (al_cons (e_toDk (m := 12) dd_str e_str) (al_cons (e_toDk (m := 12) dd_str e_str) (al_cons (e_toDk (m := 12) (dd_tup dd_int) (e_tupL (r := rInt) al_nil)) (al_cons (e_toDk (m := 12) (dd_lst dd_int) (e_new (n_list (r := rInt) al_nil))) (al_cons (e_toDk (m := 12) (dd_lst dd_int) (e_new (n_list (al_cons e_int al_nil)))) (al_cons (e_toDk (m := 12) (dd_t2 dd_int dd_str) (e_tup2 e_int fun _ => e_str)) (al_cons (e_toDk (m := 12) (dd_tup dd_str) (e_tupL (al_cons e_str al_nil))) al_nil)))))))))))))) fun _ => (e_name 1))) fun _ => aa_nil)) (fun _ => OsLe.mem (List.Mem.head _)) (fun _ => by simp)) (by walk_at "wn"))
def m_law_lows (a_law_number : Int) : W (List Int) :=
  bnd (bnd (rng2 ((1 : Int)) (a_law_number + ((1 : Int)))) fun l1 => filtW (fun (x2 : Int) => bnd (modI a_law_number x2) fun t4 => ret (decide (t4 = (0 : Int)))) (fun (x2 : Int) => ret (x2)) l1) fun z => ret z
theorem ok_law_lows (T : Txt P K mg ad) : FnOk P w K mg base CX0 1 ad.f_law_lows ad.d_law_lows ["_law_number"] (spW (fun i : Int × Unit => [sv rInt i.1]) (fun _ => []) (fun i => m_law_lows i.1) (rLst rInt)) := by
  refine okW T.F_law_lows sc_law_lows (fun _ => rfl) fun cdv A outer s0 H0 E0 B i hr => ?_
  obtain ⟨a_law_number, _⟩ := i
  have hu := hr.units
  have hu2 := room100 hr
  have hu8 := Nat.lt_of_le_of_lt (Nat.add_le_add_left (show 8 ≤ 100 by decide) _) hu2
  show BG _ _ _ _ _ _ (m_law_lows a_law_number)
  unfold m_law_lows
  exact b_ret RtOk.fn OsW.nil (e_conv (e_new (n_compF (s := rInt) rfl sc_law_lows.nd (s_rng2 e_int (fun _ => (e_add (e_name 0) fun _ => e_int)) T.b_range) (blkOk_by (own := [("_law_low", 1)]) rfl) (tg_name (i := 1)) (fun _ _ _ _ _ => (pg_name (i := 1) sc_law_lows.nd rfl (by walk_at "loc"))) (by decide) (fun _ _ _ _ _ _ _ _ _ => (t_eqI (e_mod (e_intI (e_name 0) T.b_int) fun _ => (e_name 1)) fun _ => e_int)) (fun _ _ _ _ _ _ _ _ _ => (e_name 1)))) (by walk_at "wn"))
end
end K19
namespace K19
open PySem L2 Evl Mi
section
variable {P : Program} {w : World} {K : PySem.W.Frag} {mg : Str → Option Value} {base : Heap} {ad : Ad}
def m_law_l1 (s4 : Unit) (x3 : Int) : W (Fl Unit Bool) :=
  bnd (noX (anyW ([(1 : Int), (2 : Int), (6 : Int), (12 : Int)]))) fun modulus_5 => bnd (bnd (noX (m_law_lows modulus_5)) fun r8 => ret ((r8.length : Int))) fun many_7 => bnd (bnd (rng1 many_7) fun l15 => mapW (fun (x16 : Int) => noX (m_Poly_init [x16])) l15) fun polys_9 => bnd (bnd (noX (drawW ((4 : Int)))) fun r19 => bnd (rng1 r19) fun l20 => mapW (fun (x21 : Int) => bnd (mulI ((2 : Int)) x21) fun t22 => bnd (noX (drawW ((9 : Int)))) fun r23 => ret ((((1 : Int)) + t22, r23))) l20) fun singles_10 => bnd (bnd (powI ((10 : Int)) ((9 : Int))) fun t30 => noX (m_law_odd ([.int ((0 : Int)), .int (-((2 : Int))), .int (t30 + ((1 : Int)))]))) fun odd_here_25 => bnd (noX (drawW many_7)) fun spot_26 => bnd (noX (drawW (((singles_10.length : Int)) + ((1 : Int))))) fun at_27 => bnd (bnd (noX (m_Poly_init [])) fun r35 => bnd (catL polys_9 ([r35])) fun t36 => noX (anyW ([(Mx.dat ((fun _ => .none) (())) : Mx Poly_), (Mx.dat (.int ((3 : Int))) : Mx Poly_), (Mx.dat (.str (("x" : Str))) : Mx Poly_), (Mx.lst t36 : Mx Poly_), (Mx.lst (cutL polys_9 none (some (-((1 : Int))))) : Mx Poly_)]))) fun none_34 => bnd (catL ([.int ((3 : Int)), (fun _ => .none) (()), (fun xs => PyData.tuple (xs.map .int)) ([(1 : Int)]), (fun x => PyData.tuple [.int x.1, .int x.2.1, .int x.2.2]) (((1 : Int), (2 : Int), (3 : Int))), (fun xs => PyData.list (xs.map .int)) ([(1 : Int), (2 : Int)]), (fun x => PyData.tuple [.int x.1, .int x.2]) (((0 : Int), (1 : Int))), (fun x => PyData.tuple [.bool x.1, .int x.2]) ((true, (1 : Int))), (fun x => PyData.tuple [.str x.1, .int x.2]) ((("1" : Str), (1 : Int))), (fun x => PyData.tuple [.int x.1, (fun _ => .none) x.2]) (((2 : Int), ())), (fun x => PyData.tuple [.int x.1, .bool x.2]) (((2 : Int), true))]) ((cutL singles_10 none (some at_27)).map (fun x => PyData.tuple [.int x.1, .int x.2]))) fun wrong_38 => bnd (noX (anyW wrong_38)) fun bad_40 => bnd (bnd (noX (anyW ([(fun _ => .none) (()), .int ((3 : Int)), (fun xs => PyData.list (xs.map .int)) ([(1 : Int)]), (fun x => PyData.tuple [.int x.1, .int x.2]) (((1 : Int), (2 : Int)))]))) fun r43 => bnd (catL (((cutL polys_9 none (some spot_26)).map Mx.obj : List (Mx Poly_))) (((([r43]).map id).map Mx.dat : List (Mx Poly_)))) fun t44 => catL t44 (((cutL polys_9 (some (spot_26 + ((1 : Int)))) none).map Mx.obj : List (Mx Poly_)))) fun bent_42 => bnd (bnd (catL ((cutL singles_10 none (some at_27)).map (fun x => PyData.tuple [.int x.1, .int x.2])) ([bad_40])) fun t47 => bnd (catL t47 ((cutL singles_10 (some at_27) none).map (fun x => PyData.tuple [.int x.1, .int x.2]))) fun t48 => catL t48 ([(fun _ => .none) (())])) fun late_46 => bnd (ret (())) fun asks_50 => bnd (ret (())) fun asks_51 => bnd (ret (PyData.list [(fun x => PyData.tuple [.str x.1, id x.2]) ((("InvalidNumber" : Str), odd_here_25)), (fun x => PyData.tuple [.str x.1, .int x.2]) ((("InvalidTable" : Str), -((1 : Int)))), (fun x => PyData.tuple [.str x.1, .int x.2]) ((("InvalidTable" : Str), spot_26)), (fun x => PyData.tuple [.str x.1, .int x.2]) ((("InvalidSingles" : Str), -((1 : Int)))), (fun x => PyData.tuple [.str x.1, .int x.2]) ((("InvalidSingles" : Str), at_27))])) fun due_52 => bnd (bnd (noX (m_law_all_got [bnd (m_Table_init_v2 odd_here_25 none_34 (())) fun _ => fail, bnd (m_Table_init_v3 modulus_5 none_34 (())) fun _ => fail, bnd (m_Table_init_v4 modulus_5 bent_42 (())) fun _ => fail, bnd (bnd (noX (anyW ([(fun _ => .none) (()), .int ((3 : Int)), .str (("x" : Str))]))) fun r60 => m_Table_init_v6 modulus_5 polys_9 r60) fun _ => fail, bnd (m_Table_init_v5 modulus_5 polys_9 late_46) fun _ => fail])) fun r65 => bnd (noX (sameW (fun xs => PyData.list (xs.map (fun x => PyData.tuple [.str x.1, id x.2]))) id r65 due_52)) fun r66 => ret (!r66)) fun b67 => if b67 = true then (bnd (ret (false)) fun z => ret (.rt z)) else (bnd (noX (m_Table_init_v1 modulus_5 polys_9 singles_10)) fun made_68 => bnd (bnd (powI ((10 : Int)) ((20 : Int))) fun t71 => bnd (noX (drawW t71)) fun r72 => noX (anyW ([(0 : Int), (7 : Int), ((0 : Int)) - r72]))) fun number_70 => bnd (noX (m_Table_always_v0 number_70)) fun told_74 => bnd (bnd (noX (m_Table_call_v0 told_74 ((1 : Int)))) fun r76 => bnd (powI ((10 : Int)) ((30 : Int))) fun t78 => bnd (noX (m_Table_call_v0 told_74 t78)) fun r79 => bnd (noX (m_Table_modulus told_74)) fun r80 => bnd (noX (m_Table_singles told_74)) fun r81 => bnd (noX (m_Table_bool told_74)) fun r82 => bnd (noX (sameW (fun xs => PyData.list (xs.map id)) (fun xs => PyData.list (xs.map id)) ([.int r76, .int r79, .int r80, (fun xs => PyData.list (xs.map (fun x => PyData.tuple [.int x.1, .int x.2]))) r81, .bool r82]) ([.int number_70, .int number_70, .int ((1 : Int)), (fun xs => PyData.list (xs.map .int)) (([] : (List Int))), .bool (!decide (number_70 = (0 : Int)))]))) fun r83 => ret (!r83)) fun b84 => if b84 = true then (bnd (ret (false)) fun z => ret (.rt z)) else (bnd (noX (m_law_odd ([.int ((0 : Int)), .int (-((5 : Int)))]))) fun wrong_n_85 => bnd (noX (m_law_all_got [bnd (m_Table_call_v1 made_68 wrong_n_85) fun r88 => ret (.int r88), bnd (bnd (noX (m_law_odd ([(fun xs => PyData.list (xs.map .int)) ([(2 : Int)])]))) fun r90 => m_Table_always_v1 r90) fun _ => fail, bnd (noX (m_Table_call_v0 made_68 modulus_5)) fun r93 => ret (.int r93)])) fun found_87 => bnd (bnd (idx found_87 ((0 : Int))) fun t95 => bnd (idx found_87 ((1 : Int))) fun t96 => bnd (idx found_87 ((2 : Int))) fun t97 => bnd (noX (sameW id id (PyData.list [(fun x => PyData.tuple [.str x.1, id x.2]) t95, .str t96.1, .str t97.1]) (PyData.list [(fun x => PyData.tuple [.str x.1, id x.2]) ((("InvalidNumber" : Str), wrong_n_85)), .str (("InvalidNumber" : Str)), .str (("" : Str))]))) fun r98 => ret (!r98)) fun b99 => if b99 = true then (bnd (ret (false)) fun z => ret (.rt z)) else (ret (.nx (())))))
def m_law (a_law_script : (List Int)) : W Bool :=
  bnd (rng1 ((5 : Int))) fun xs100 => bnd (forF m_law_l1 (()) xs100) (flEnd (fun z => z) fun (s101 : Unit) => bnd (bnd (powI ((10 : Int)) ((9 : Int))) fun t109 => bnd (rng1 ((100 : Int))) fun l110 => bnd (mapW (fun (x111 : Int) => bnd (divI x111 ((50 : Int))) fun t113 => noX (m_Poly_init [t113])) l110) fun ys114 => noX (m_Table_init_v0 t109 ys114 (([] : (List (Int × Int)))))) fun far_102 => bnd (bnd (powI ((10 : Int)) ((9 : Int))) fun t118 => bnd (noX (m_Table_call_v0 far_102 t118)) fun r119 => bnd (powI ((10 : Int)) ((40 : Int))) fun t121 => bnd (noX (m_Table_call_v0 far_102 t121)) fun r122 => bnd (noX (m_Table_call_v0 far_102 ((3 : Int)))) fun r123 => bnd (powI ((2 : Int)) ((9 : Int))) fun t127 => bnd (powI ((5 : Int)) ((9 : Int))) fun t128 => bnd (mulI t127 t128) fun t129 => bnd (noX (m_Table_call_v0 far_102 t129)) fun r130 => bnd (powI ((10 : Int)) ((9 : Int))) fun t134 => bnd (noX (m_Poly_init [(4 : Int)])) fun r135 => bnd (repL ([r135]) ((100 : Int))) fun t136 => bnd (noX (m_Table_init_v0 t134 t136 (([] : (List (Int × Int)))))) fun r137 => bnd (noX (m_Table_modulus r137)) fun r138 => ret ([r119, r122, r123, r130, r138])) fun wide_116 => bnd (bnd (bnd (noX (m_Poly_init [])) fun r140 => bnd (noX (m_Table_init_v0 ((1 : Int)) ([r140]) (([] : (List (Int × Int)))))) fun r141 => bnd (noX (m_Table_always_v0 ((0 : Int)))) fun r142 => noX (m_Table_eq r141 r142)) fun c145 => if c145 = true then (noX (sameW (fun xs => PyData.list (xs.map .int)) (fun xs => PyData.list (xs.map .int)) wide_116 ([(1 : Int), (1 : Int), (0 : Int), (1 : Int), (1 : Int)]))) else ret false) fun z => ret z)
theorem ok_law (T : Txt P K mg ad) {cL Tb : Addr} (hfd : ad.d_law.code = .ref cL) (hTB : LamX.TabB base mg cL Tb) : FnG P w K mg base CX0 15 ad.f_law ad.d_law ["_law_script"] (spW (fun i : (List Int) × Unit => [sv (rScr K) i.1]) (fun _ => [(Tb, oTab (("law" : Str) ++ (".<locals>." : Str) ++ ("<lambda>" : Str)))]) (fun i => m_law i.1) rBool) := by
  refine fnWc T.F_law hfd sc_law (fun _ => rfl) fun A outer s0 H0 E0 B i hr hgu0 => ?_
  obtain ⟨a_law_script, _⟩ := i
  have hu := hr.units
  have hu2 := room100 hr
  have hu8 := Nat.lt_of_le_of_lt (Nat.add_le_add_left (show 8 ≤ 100 by decide) _) hu2
  have hgu := guards_deeper (q := "law") (sc := defScope s_law) (n := s0.heap.objs.size) (f := ad.f_law) (c := .ref cL) hgu0
  show BG _ _ _ _ _ _ (m_law a_law_script)
  unfold m_law
  refine b_bag 1 (ok_law_bag T) (hr.mono (by walk_at "lev")) T.m_law_bag T.F_law_bag.kp T.bd_law_bag (e_name 0) (fun b cells => ?_) sc_law.nd
  refine b_forG (S := Unit) (osR := [(Tb, oTab (("law" : Str) ++ (".<locals>." : Str) ++ ("<lambda>" : Str)))]) (ro := rBool) (fun z => z) (fun s => [sv (rScr K) a_law_script, sv (rAdr b) (()), sa, sa, sa, sa, sa, sa, sa, sa, sa, sa, sa, sa, sa, sa, sa, sa, sa, sa, sa, sa, sa, sa, sa]) (fun s => [(b, oBag cells), (Tb, oTab (("law" : Str) ++ (".<locals>." : Str) ++ ("<lambda>" : Str)))]) (() : Unit) rfl PassesOwn.never (s_conv (s_rng1 e_int T.b_range) (by walk_at "wn")) (tg_name (i := 2)) (pg_name (i := 2) sc_law.nd rfl (by walk_at "loc")) (fun M s4 x3 => ?_) (fun s101 => ?_) (fun _ => rfl) RtOk.fn ⟨.inl rfl, .inl rfl, .inr rfl, .inr rfl, .inr rfl, .inr rfl, .inr rfl, .inr rfl, .inr rfl, .inr rfl, .inr rfl, .inr rfl, .inr rfl, .inr rfl, .inr rfl, .inr rfl, .inr rfl, .inr rfl, .inr rfl, .inr rfl, .inr rfl, .inr rfl, .inr rfl, .inr rfl, .inr rfl, trivial⟩ rfl
  · unfold m_law_l1
    refine b_set 3 (e_conv (e_call (ok_law_any T b cells rInt) (hr.mono (by walk_at "lev")) T.m_law_any T.F_law_any.kp T.bd_law_any (aa_cons (e_name 1) fun _ => (aa_cons (e_new (n_list (al_cons e_int (al_cons e_int (al_cons e_int (al_cons e_int al_nil)))))) fun _ => aa_nil)) (fun _ => OsLe.mem (List.Mem.head _)) (fun _ => by simp)) (by walk_at "wn")) (fun modulus_5 => ?_) sc_law.nd
    refine b_set 4 (e_conv (e_len (e_call (ok_law_lows T) (hr.mono (by walk_at "lev")) T.m_law_lows T.F_law_lows.kp T.bd_law_lows (aa_cons (e_name 3) fun _ => aa_nil) (fun _ => OsLe.none) (fun _ => List.nodup_nil)) T.b_len) (by walk_at "wn")) (fun many_7 => ?_) sc_law.nd
    first | refine b_par2 (ps_par (i := 5) (j := 6) rfl sc_law.nd rfl rfl (by decide) rfl rfl (pa2 (e_conv (e_new (n_comp (s := (rObj ad.c_Poly (fl_Poly K ad))) rfl sc_law.nd (s_rng1 (e_name 4) T.b_range) (blkOk_by (own := [("_law_k", 7)]) rfl) (tg_name (i := 7)) (fun _ _ _ _ _ => (pg_name (i := 7) sc_law.nd rfl (by walk_at "loc"))) (by decide) (fun _ _ _ _ _ _ _ _ _ => (e_makeS T.mk_Poly (ok_Poly_init T) (hr.mono (by walk_at "lev")) T.n_Poly (al_cons (e_name 7) al_nil) (by decide))))) (by walk_at "wn")) (fun _ => e_conv (e_new (n_comp (s := (rT2 K rInt rInt)) rfl sc_law.nd (s_rng1 (e_call (ok_law_draw T b cells) (hr.mono (by walk_at "lev")) T.m_law_draw T.F_law_draw.kp T.bd_law_draw (aa_cons (e_name 1) fun _ => (aa_cons e_int fun _ => aa_nil)) (fun _ => OsLe.mem (List.Mem.head _)) (fun _ => by simp)) T.b_range) (blkOk_by (own := [("_law_k", 7)]) rfl) (tg_name (i := 7)) (fun _ _ _ _ _ => (pg_name (i := 7) sc_law.nd rfl (by walk_at "loc"))) (by decide) (fun _ _ _ _ _ _ _ _ _ => (e_tup2 (e_add e_int fun _ => (e_mul e_int fun _ => (e_name 7))) fun _ => (e_call (ok_law_draw T b cells) (hr.mono (by walk_at "lev")) T.m_law_draw T.F_law_draw.kp T.bd_law_draw (aa_cons (e_name 1) fun _ => (aa_cons e_int fun _ => aa_nil)) (fun _ => OsLe.mem (List.Mem.tail _ (List.Mem.head _))) (fun _ => by simp)))))) rfl)) rfl) (fun polys_9 singles_10 => ?_) | refine b_par2T (ps_asg (pe_tup (pa2 (e_conv (e_new (n_comp (s := (rObj ad.c_Poly (fl_Poly K ad))) rfl sc_law.nd (s_rng1 (e_name 4) T.b_range) (blkOk_by (own := [("_law_k", 7)]) rfl) (tg_name (i := 7)) (fun _ _ _ _ _ => (pg_name (i := 7) sc_law.nd rfl (by walk_at "loc"))) (by decide) (fun _ _ _ _ _ _ _ _ _ => (e_makeS T.mk_Poly (ok_Poly_init T) (hr.mono (by walk_at "lev")) T.n_Poly (al_cons (e_name 7) al_nil) (by decide))))) (by walk_at "wn")) (fun _ => e_conv (e_new (n_comp (s := (rT2 K rInt rInt)) rfl sc_law.nd (s_rng1 (e_call (ok_law_draw T b cells) (hr.mono (by walk_at "lev")) T.m_law_draw T.F_law_draw.kp T.bd_law_draw (aa_cons (e_name 1) fun _ => (aa_cons e_int fun _ => aa_nil)) (fun _ => OsLe.mem (List.Mem.head _)) (fun _ => by simp)) T.b_range) (blkOk_by (own := [("_law_k", 7)]) rfl) (tg_name (i := 7)) (fun _ _ _ _ _ => (pg_name (i := 7) sc_law.nd rfl (by walk_at "loc"))) (by decide) (fun _ _ _ _ _ _ _ _ _ => (e_tup2 (e_add e_int fun _ => (e_mul e_int fun _ => (e_name 7))) fun _ => (e_call (ok_law_draw T b cells) (hr.mono (by walk_at "lev")) T.m_law_draw T.F_law_draw.kp T.bd_law_draw (aa_cons (e_name 1) fun _ => (aa_cons e_int fun _ => aa_nil)) (fun _ => OsLe.mem (List.Mem.tail _ (List.Mem.head _))) (fun _ => by simp)))))) rfl))) (pg_tup rfl (pgs_cons (pg_name (i := 5) sc_law.nd rfl (by walk_at "loc")) (pgs_cons (pg_name (i := 6) sc_law.nd rfl (by walk_at "loc")) pgs_nil)))) (fun polys_9 singles_10 => ?_)
    refine bg_env (env' := [sv (rScr K) a_law_script, sv (rAdr b) (()), sv rInt x3, sv rInt modulus_5, sv rInt many_7, sv (rLst (rObj ad.c_Poly (fl_Poly K ad))) polys_9, sv (rLst (rT2 K rInt rInt)) singles_10, sa, sa, sa, sa, sa, sa, sa, sa, sa, sa, sa, sa, sa, sa, sa, sa, sa, sa]) rfl ?_
    first | refine b_par3 (ps_par3 (i := 8) (j := 9) (l := 10) rfl sc_law.nd rfl rfl rfl (by decide) (by decide) (by decide) rfl rfl rfl (pa3 (e_conv (e_call (ok_law_odd T b cells) (hr.mono (by walk_at "lev")) T.m_law_odd T.F_law_odd.kp T.bd_law_odd (aa_cons (e_name 1) fun _ => (aa_cons (e_new (n_list (al_cons (e_toD dd_int e_int) (al_cons (e_toD dd_int (e_neg e_int)) (al_cons (e_toD dd_int (e_add (e_pow e_int fun _ => e_int) fun _ => e_int)) al_nil))))) fun _ => aa_nil)) (fun _ => OsLe.mem (List.Mem.head _)) (fun _ => by simp)) (by walk_at "wn")) (fun _ => e_conv (e_call (ok_law_draw T b cells) (hr.mono (by walk_at "lev")) T.m_law_draw T.F_law_draw.kp T.bd_law_draw (aa_cons (e_name 1) fun _ => (aa_cons (e_name 4) fun _ => aa_nil)) (fun _ => OsLe.mem (List.Mem.head _)) (fun _ => by simp)) rfl) (fun _ _ => e_conv (e_call (ok_law_draw T b cells) (hr.mono (by walk_at "lev")) T.m_law_draw T.F_law_draw.kp T.bd_law_draw (aa_cons (e_name 1) fun _ => (aa_cons (e_add (e_len (e_name 6) T.b_len) fun _ => e_int) fun _ => aa_nil)) (fun _ => OsLe.mem (List.Mem.head _)) (fun _ => by simp)) rfl)) rfl) (fun odd_here_25 spot_26 at_27 => ?_) | refine b_par3T (ps_asg (pe_tup (pa3 (e_conv (e_call (ok_law_odd T b cells) (hr.mono (by walk_at "lev")) T.m_law_odd T.F_law_odd.kp T.bd_law_odd (aa_cons (e_name 1) fun _ => (aa_cons (e_new (n_list (al_cons (e_toD dd_int e_int) (al_cons (e_toD dd_int (e_neg e_int)) (al_cons (e_toD dd_int (e_add (e_pow e_int fun _ => e_int) fun _ => e_int)) al_nil))))) fun _ => aa_nil)) (fun _ => OsLe.mem (List.Mem.head _)) (fun _ => by simp)) (by walk_at "wn")) (fun _ => e_conv (e_call (ok_law_draw T b cells) (hr.mono (by walk_at "lev")) T.m_law_draw T.F_law_draw.kp T.bd_law_draw (aa_cons (e_name 1) fun _ => (aa_cons (e_name 4) fun _ => aa_nil)) (fun _ => OsLe.mem (List.Mem.head _)) (fun _ => by simp)) rfl) (fun _ _ => e_conv (e_call (ok_law_draw T b cells) (hr.mono (by walk_at "lev")) T.m_law_draw T.F_law_draw.kp T.bd_law_draw (aa_cons (e_name 1) fun _ => (aa_cons (e_add (e_len (e_name 6) T.b_len) fun _ => e_int) fun _ => aa_nil)) (fun _ => OsLe.mem (List.Mem.head _)) (fun _ => by simp)) rfl))) (pg_tup rfl (pgs_cons (pg_name (i := 8) sc_law.nd rfl (by walk_at "loc")) (pgs_cons (pg_name (i := 9) sc_law.nd rfl (by walk_at "loc")) (pgs_cons (pg_name (i := 10) sc_law.nd rfl (by walk_at "loc")) pgs_nil))))) (fun odd_here_25 spot_26 at_27 => ?_)
    refine b_set 11 (e_conv (e_call (ok_law_any T b cells (rMx K ad.c_Poly (fl_Poly K ad))) (hr.mono (by walk_at "lev")) T.m_law_any T.F_law_any.kp T.bd_law_any (aa_cons (e_name 1) fun _ => (aa_cons (e_new (n_list (al_cons (e_mxD (C := ad.c_Poly) (fl := fl_Poly K ad) (e_toD dd_non e_non)) (al_cons (e_mxD (C := ad.c_Poly) (fl := fl_Poly K ad) (e_toD dd_int e_int)) (al_cons (e_mxD (C := ad.c_Poly) (fl := fl_Poly K ad) (e_toD dd_str e_str)) (al_cons (e_mxL (e_new (n_cat (e_name 5) fun _ => (e_new (n_list (al_cons (e_makeS0 T.mk_Poly (ok_Poly_init T) (hr.mono (by walk_at "lev")) T.n_Poly) al_nil)))))) (al_cons (e_mxL (e_new (n_slice (e_name 5) o_none (o_some (e_neg e_int))))) al_nil))))))) fun _ => aa_nil)) (fun _ => OsLe.mem (List.Mem.head _)) (fun _ => by simp)) (by walk_at "wn")) (fun none_34 => ?_) sc_law.nd
    refine b_set 12 (e_conv (e_new (n_cat (e_new (n_list (al_cons (e_toDk (m := 12) dd_int e_int) (al_cons (e_toDk (m := 12) dd_non e_non) (al_cons (e_toDk (m := 12) (dd_tup dd_int) (e_tupL (al_cons e_int al_nil))) (al_cons (e_toDk (m := 12) (dd_t3 dd_int dd_int dd_int) (e_tup3 e_int (fun _ => e_int) fun _ _ => e_int)) (al_cons (e_toDk (m := 12) (dd_lst dd_int) (e_new (n_list (al_cons e_int (al_cons e_int al_nil))))) (al_cons (e_toDk (m := 12) (dd_t2 dd_int dd_int) (e_tup2 e_int fun _ => e_int)) (al_cons (e_toDk (m := 12) (dd_t2 dd_bool dd_int) (e_tup2 e_bl fun _ => e_int)) (al_cons (e_toDk (m := 12) (dd_t2 dd_str dd_int) (e_tup2 e_str fun _ => e_int)) (al_cons (e_toDk (m := 12) (dd_t2 dd_int dd_non) (e_tup2 e_int fun _ => e_non)) (al_cons (e_toDk (m := 12) (dd_t2 dd_int dd_bool) (e_tup2 e_int fun _ => e_bl)) al_nil)))))))))))) fun _ => (e_lstDk (m := 12) (dd_t2 dd_int dd_int) (e_new (n_slice (e_name 6) o_none (o_some (e_name 10))))))) (by walk_at "wn")) (fun wrong_38 => ?_) sc_law.nd
    refine b_set 13 (e_conv (e_call (ok_law_any T b cells (rDk K 12)) (hr.mono (by walk_at "lev")) T.m_law_any T.F_law_any.kp T.bd_law_any (aa_cons (e_name 1) fun _ => (aa_cons (e_name 12) fun _ => aa_nil)) (fun _ => OsLe.mem (List.Mem.head _)) (fun _ => by simp)) (by walk_at "wn")) (fun bad_40 => ?_) sc_law.nd
    refine b_set 14 (e_conv (e_new (n_cat (e_new (n_cat (e_lstW (g := (Mx.obj : Poly_ → Mx Poly_)) mx_O (e_new (n_slice (e_name 5) o_none (o_some (e_name 9))))) fun _ => (e_lstW (g := (Mx.dat : PyData → Mx Poly_)) (mx_D (C := ad.c_Poly) (fl := fl_Poly K ad)) (e_lstD (dd_Dk (n := 12)) (e_new (n_list (al_cons (e_call (ok_law_any T b cells (rDk K 12)) (hr.mono (by walk_at "lev")) T.m_law_any T.F_law_any.kp T.bd_law_any (aa_cons (e_name 1) fun _ => (aa_cons (e_new (n_list (al_cons (e_toDk (m := 12) dd_non e_non) (al_cons (e_toDk (m := 12) dd_int e_int) (al_cons (e_toDk (m := 12) (dd_lst dd_int) (e_new (n_list (al_cons e_int al_nil)))) (al_cons (e_toDk (m := 12) (dd_t2 dd_int dd_int) (e_tup2 e_int fun _ => e_int)) al_nil)))))) fun _ => aa_nil)) (fun _ => OsLe.mem (List.Mem.head _)) (fun _ => by simp)) al_nil))))))) fun _ => (e_lstW (g := (Mx.obj : Poly_ → Mx Poly_)) mx_O (e_new (n_slice (e_name 5) (o_some (e_add (e_name 9) fun _ => e_int)) o_none))))) (by walk_at "wn")) (fun bent_42 => ?_) sc_law.nd
    refine bg_env (env' := [sv (rScr K) a_law_script, sv (rAdr b) (()), sv rInt x3, sv rInt modulus_5, sv rInt many_7, sv (rLst (rObj ad.c_Poly (fl_Poly K ad))) polys_9, sv (rLst (rT2 K rInt rInt)) singles_10, sa, sv (rD K) odd_here_25, sv rInt spot_26, sv rInt at_27, sv (rMx K ad.c_Poly (fl_Poly K ad)) none_34, sv (rLst (rDk K 12)) wrong_38, sv (rDk K 12) bad_40, sv (rLst (rMx K ad.c_Poly (fl_Poly K ad))) bent_42, sa, sa, sa, sa, sa, sa, sa, sa, sa, sa]) rfl ?_
    refine b_set 15 (e_conv (e_new (n_cat (e_new (n_cat (e_new (n_cat (e_lstDk (m := 12) (dd_t2 dd_int dd_int) (e_new (n_slice (e_name 6) o_none (o_some (e_name 10))))) fun _ => (e_new (n_list (al_cons (e_name 13) al_nil))))) fun _ => (e_lstDk (m := 12) (dd_t2 dd_int dd_int) (e_new (n_slice (e_name 6) (o_some (e_name 10)) o_none))))) fun _ => (e_new (n_list (al_cons (e_toDk (m := 12) dd_non e_non) al_nil))))) (by walk_at "wn")) (fun late_46 => ?_) sc_law.nd
    refine b_set 16 (e_conv (e_lams (ll_cons (e_la0 1 hTB rfl rfl (lamS2_by (sc := defScope s_law) (ps := []) (by decide +kernel)).free) (ll_cons (e_la1 1 hTB rfl rfl (lamS2_by (sc := defScope s_law) (ps := ["_law_a"]) (by decide +kernel)).free) (ll_cons (e_la1 1 hTB rfl rfl (lamS2_by (sc := defScope s_law) (ps := ["_law_b"]) (by decide +kernel)).free) ll_nil))) (by show 3 ≤ sizeLine; decide)) (by walk_at "wn")) (fun asks_50 => ?_) sc_law.nd
    refine b_set 16 (e_conv (e_catLam3 (e_name 16) (e_lams (ll_cons (e_la0 1 hTB rfl rfl (lamS2_by (sc := defScope s_law) (ps := []) (by decide +kernel)).free) (ll_cons (e_la1 1 hTB rfl rfl (lamS2_by (sc := defScope s_law) (ps := ["_law_a"]) (by decide +kernel)).free) ll_nil)) (by show 2 ≤ sizeLine; decide)) (by show 5 ≤ sizeLine; decide)) (by walk_at "wn")) (fun asks_51 => ?_) sc_law.nd
    refine b_set 17 (e_conv (e_listW (dlw_cons (m := 31) (dd_t2 dd_str dd_D) (e_tup2 e_str fun _ => (e_name 8)) (dlw_cons (m := 31) (dd_t2 dd_str dd_int) (e_tup2 e_str fun _ => (e_neg e_int)) (dlw_cons (m := 31) (dd_t2 dd_str dd_int) (e_tup2 e_str fun _ => (e_name 9)) (dlw_cons (m := 31) (dd_t2 dd_str dd_int) (e_tup2 e_str fun _ => (e_neg e_int)) (dlw_cons (m := 31) (dd_t2 dd_str dd_int) (e_tup2 e_str fun _ => (e_name 10)) dlw_nil)))))) (by walk_at "wn")) (fun due_52 => ?_) sc_law.nd
    refine b_ifA (t_conv (t_not (t_val (e_callG (ok_law_same T (dd_lst (dd_t2 dd_str dd_D)) (dd_Dw (n := 32))) hgu (hr.mono (by walk_at "lev")) T.m_law_same T.F_law_same.kp T.bd_law_same (aa_cons (e_callLB (X := (cxOf CX0 P w K mg base N_law "law" (defScope s_law) ad.f_law (Value.ref cL) A outer s0 H0 E0).nox) 16 [bnd (m_Table_init_v2 odd_here_25 none_34 (())) fun _ => fail, bnd (m_Table_init_v3 modulus_5 none_34 (())) fun _ => fail, bnd (m_Table_init_v4 modulus_5 bent_42 (())) fun _ => fail, bnd (bnd (noX (anyW ([(fun _ => .none) (()), .int ((3 : Int)), .str (("x" : Str))]))) fun r60 => m_Table_init_v6 modulus_5 polys_9 r60) fun _ => fail, bnd (m_Table_init_v5 modulus_5 polys_9 late_46) fun _ => fail] rfl (ok_law_all_got T b cells) (OsLe.cons (List.Mem.head _) OsLe.none) (by simp) (fun p hp => by rw [List.mem_singleton.mp hp]; exact ownz_bag) (hr.mono (by walk_at "lev")) T.m_law_all_got T.F_law_all_got.kp T.bd_law_all_got rfl rfl (fun _ => rfl) (pl_lst (pl_t2 pl_str pl_D)) (fun pins σ F H s I S => (.cons (fun v hv => clo_ofB (osT := [(b, oBag cells)]) (vs := []) I S hv (lamS2_by (sc := defScope s_law) (ps := []) (by decide +kernel)) (lamBind0 rfl fun _ _ _ => rfl) (hvs_by (N := N_law) (by decide +kernel)) (fun p hp => by rw [List.mem_singleton.mp hp]; exact ownz_bag) (fun A1 outer1 s1 H1 E1 f1 c1 B1 hr tk => by have hu := hr.units; have hu2 := room100 hr; exact e_conv (e_never (e_makeZ (conv := fun q : PyData × (Mx Poly_) × Unit × Unit => (q.1, q.2.1, q.2.2.1, ())) (dfl := [sa]) (dvs := [.ref ad.e_Table_init_0]) T.mk_Table (ok_Table_init_v2 T) (passBT tk) (spm_XT (OsLe.cons (List.Mem.head _) OsLe.none)) (hr.mono (by walk_at "lev")) T.n_Table T.cb_Table_init_3 (fun _ => (.cons trivial .nil)) (hh_pos (aa_cons (e_name 8) fun _ => (aa_cons (e_name 11) fun _ => (aa_cons e_non fun _ => aa_nil))) (fun _ => rfl)) (fun _ => rfl))) (by walk_at "wn"))) (.cons (fun v hv => clo_ofB (osT := [(b, oBag cells)]) (vs := []) I S hv (lamS2_by (sc := defScope s_law) (ps := ["_law_a"]) (by decide +kernel)) (lamBind1 rfl fun _ _ _ _ => ⟨_, rfl, fun _ => rfl⟩) (hvs_by (N := N_law) (by decide +kernel)) (fun p hp => by rw [List.mem_singleton.mp hp]; exact ownz_bag) (fun A1 outer1 s1 H1 E1 f1 c1 B1 hr tk => by have hu := hr.units; have hu2 := room100 hr; exact e_conv (e_never (e_makeZ (conv := fun q : Int × (Mx Poly_) × Unit × Unit => (q.1, q.2.1, q.2.2.1, ())) (dfl := [sa]) (dvs := [.ref ad.e_Table_init_0]) T.mk_Table (ok_Table_init_v3 T) (passBT tk) (spm_XT (OsLe.cons (List.Mem.head _) OsLe.none)) (hr.mono (by walk_at "lev")) T.n_Table T.cb_Table_init_3 (fun _ => (.cons trivial .nil)) (hh_pos (aa_cons (e_name 3) fun _ => (aa_cons (e_name 11) fun _ => (aa_cons e_non fun _ => aa_nil))) (fun _ => rfl)) (fun _ => rfl))) (by walk_at "wn"))) (.cons (fun v hv => clo_ofB (osT := [(b, oBag cells)]) (vs := []) I S hv (lamS2_by (sc := defScope s_law) (ps := ["_law_b"]) (by decide +kernel)) (lamBind1 rfl fun _ _ _ _ => ⟨_, rfl, fun _ => rfl⟩) (hvs_by (N := N_law) (by decide +kernel)) (fun p hp => by rw [List.mem_singleton.mp hp]; exact ownz_bag) (fun A1 outer1 s1 H1 E1 f1 c1 B1 hr tk => by have hu := hr.units; have hu2 := room100 hr; exact e_conv (e_never (e_makeZ (conv := fun q : Int × (List (Mx Poly_)) × Unit × Unit => (q.1, q.2.1, q.2.2.1, ())) (dfl := [sa]) (dvs := [.ref ad.e_Table_init_0]) T.mk_Table (ok_Table_init_v4 T) (passBT tk) (spm_XT (OsLe.cons (List.Mem.head _) OsLe.none)) (hr.mono (by walk_at "lev")) T.n_Table T.cb_Table_init_3 (fun _ => (.cons trivial .nil)) (hh_pos (aa_cons (e_name 3) fun _ => (aa_cons (e_name 14) fun _ => (aa_cons e_non fun _ => aa_nil))) (fun _ => rfl)) (fun _ => rfl))) (by walk_at "wn"))) (.cons (fun v hv => clo_ofB (osT := [(b, oBag cells)]) (vs := []) I S hv (lamS2_by (sc := defScope s_law) (ps := []) (by decide +kernel)) (lamBind0 rfl fun _ _ _ => rfl) (hvs_by (N := N_law) (by decide +kernel)) (fun p hp => by rw [List.mem_singleton.mp hp]; exact ownz_bag) (fun A1 outer1 s1 H1 E1 f1 c1 B1 hr tk => by have hu := hr.units; have hu2 := room100 hr; exact e_conv (e_never (e_makeZ (conv := fun q : Int × (List Poly_) × PyData × Unit => (q.1, q.2.1, q.2.2.1, ())) (dfl := [sa]) (dvs := [.ref ad.e_Table_init_0]) T.mk_Table (ok_Table_init_v6 T) (passBT tk) (spm_XT (OsLe.cons (List.Mem.head _) OsLe.none)) (hr.mono (by walk_at "lev")) T.n_Table T.cb_Table_init_3 (fun _ => (.cons trivial .nil)) (hh_pos (aa_cons (e_name 3) fun _ => (aa_cons (e_name 5) fun _ => (aa_cons (e_upD (e_call (ok_law_any T b cells (rDk K 12)) (hr.mono (by walk_at "lev")) T.m_law_any T.F_law_any.kp T.bd_law_any (aa_cons (e_name 1) fun _ => (aa_cons (e_new (n_list (al_cons (e_toDk (m := 12) dd_non e_non) (al_cons (e_toDk (m := 12) dd_int e_int) (al_cons (e_toDk (m := 12) dd_str e_str) al_nil))))) fun _ => aa_nil)) (fun _ => OsLe.mem (List.Mem.head _)) (fun _ => by simp))) fun _ => aa_nil))) (fun _ => rfl)) (fun _ => rfl))) (by walk_at "wn"))) (.cons (fun v hv => clo_ofB (osT := [(b, oBag cells)]) (vs := []) I S hv (lamS2_by (sc := defScope s_law) (ps := ["_law_a"]) (by decide +kernel)) (lamBind1 rfl fun _ _ _ _ => ⟨_, rfl, fun _ => rfl⟩) (hvs_by (N := N_law) (by decide +kernel)) (fun p hp => by rw [List.mem_singleton.mp hp]; exact ownz_bag) (fun A1 outer1 s1 H1 E1 f1 c1 B1 hr tk => by have hu := hr.units; have hu2 := room100 hr; exact e_conv (e_never (e_makeZ (conv := fun q : Int × (List Poly_) × (List PyData) × Unit => (q.1, q.2.1, q.2.2.1, ())) (dfl := [sa]) (dvs := [.ref ad.e_Table_init_0]) T.mk_Table (ok_Table_init_v5 T) (passBT tk) (spm_XT (OsLe.cons (List.Mem.head _) OsLe.none)) (hr.mono (by walk_at "lev")) T.n_Table T.cb_Table_init_3 (fun _ => (.cons trivial .nil)) (hh_pos (aa_cons (e_name 3) fun _ => (aa_cons (e_name 5) fun _ => (aa_cons (e_name 15) fun _ => aa_nil))) (fun _ => rfl)) (fun _ => rfl))) (by walk_at "wn"))) .nil))))))) fun _ => (aa_cons (e_name 17) fun _ => aa_nil)) (fun _ => OsLe.none) (fun _ => List.nodup_nil)))) (by walk_at "wn")) ?_ ?_
    · exact b_ret (RtOk.x RtOk.fl) (OsW.of (OsLe.mem (List.Mem.tail _ (List.Mem.head _)))) (e_conv e_bl (by walk_at "wn"))
    · refine b_set 18 (e_conv (e_makeZ (conv := fun q : Int × (List Poly_) × (List (Int × Int)) × Unit => (q.1, q.2.1, q.2.2.1, ())) (dfl := [sa]) (dvs := [.ref ad.e_Table_init_0]) T.mk_Table (ok_Table_init_v1 T) pass0 spm_W (hr.mono (by walk_at "lev")) T.n_Table T.cb_Table_init_3 (fun _ => (.cons trivial .nil)) (hh_pos (aa_cons (e_name 3) fun _ => (aa_cons (e_tupleL (e_name 5) T.b_tuple) fun _ => (aa_cons (e_tupleL (e_name 6) T.b_tuple) fun _ => aa_nil))) (fun _ => rfl)) (fun _ => rfl)) (by walk_at "wn")) (fun made_68 => ?_) sc_law.nd
      refine b_set 19 (e_conv (e_call (ok_law_any T b cells rInt) (hr.mono (by walk_at "lev")) T.m_law_any T.F_law_any.kp T.bd_law_any (aa_cons (e_name 1) fun _ => (aa_cons (e_new (n_list (al_cons e_int (al_cons e_int (al_cons (e_sub e_int fun _ => (e_call (ok_law_draw T b cells) (hr.mono (by walk_at "lev")) T.m_law_draw T.F_law_draw.kp T.bd_law_draw (aa_cons (e_name 1) fun _ => (aa_cons (e_pow e_int fun _ => e_int) fun _ => aa_nil)) (fun _ => OsLe.mem (List.Mem.head _)) (fun _ => by simp))) al_nil))))) fun _ => aa_nil)) (fun _ => OsLe.mem (List.Mem.head _)) (fun _ => by simp)) (by walk_at "wn")) (fun number_70 => ?_) sc_law.nd
      refine b_set 20 (e_conv (er_V (e_smethZ (conv := fun q : Int × Unit => (q.1, ())) (dfl := []) (dvs := []) (ok_Table_always_v0 T) pass0 spf_W0 T.cr_Table T.sm_Table_always (hr.mono (by walk_at "lev")) T.n_Table T.F_Table_always.kp T.cb_Table_always_1 (fun _ => .nil) (hh_pos (aa_cons (e_name 19) fun _ => aa_nil) (fun _ => rfl)) (fun _ => rfl))) (by walk_at "wn")) (fun told_74 => ?_) sc_law.nd
      refine b_ifA (t_conv (t_not (t_val (e_callG (ok_law_same T (dd_lst (dd_Dk (n := 12))) (dd_lst (dd_Dk (n := 12)))) hgu (hr.mono (by walk_at "lev")) T.m_law_same T.F_law_same.kp T.bd_law_same (aa_cons (e_new (n_list (al_cons (e_toDk (m := 12) dd_int (e_callO (fl := fl_Table K ad) (ok_Table_call_v0 T) (hr.mono (by walk_at "lev")) T.bd_Table_call T.ca_Table T.fc_Table T.fi_Table (e_name 20) (fun _ => (aa_cons e_int fun _ => aa_nil)) (fun _ _ => rfl))) (al_cons (e_toDk (m := 12) dd_int (e_callO (fl := fl_Table K ad) (ok_Table_call_v0 T) (hr.mono (by walk_at "lev")) T.bd_Table_call T.ca_Table T.fc_Table T.fi_Table (e_name 20) (fun _ => (aa_cons (e_pow e_int fun _ => e_int) fun _ => aa_nil)) (fun _ _ => rfl))) (al_cons (e_toDk (m := 12) dd_int (e_prop (ok_Table_modulus T) (hr.mono (by walk_at "lev")) T.cl_Table T.pr_Table_modulus T.bd_Table_modulus (e_name 20))) (al_cons (e_toDk (m := 12) (dd_lst (dd_t2 dd_int dd_int)) (er_V (e_methZ (conv := fun q : Unit => (())) (dfl := []) (dvs := []) (fl := fl_Table K ad) (ok_Table_singles T) pass0 spf_W0 (hr.mono (by walk_at "lev")) T.cl_Table T.mt_Table_singles T.cb_Table_singles_0 (fun _ => .nil) (e_name 20) (fun _ => hh_none) (fun _ _ => rfl)))) (al_cons (e_toDk (m := 12) dd_bool (e_boolO (ok_Table_bool T) (hr.mono (by walk_at "lev")) T.bd_Table_bool T.bl_Table T.fb_Table (e_name 20) T.b_bool)) al_nil))))))) fun _ => (aa_cons (e_new (n_list (al_cons (e_toDk (m := 12) dd_int (e_name 19)) (al_cons (e_toDk (m := 12) dd_int (e_name 19)) (al_cons (e_toDk (m := 12) dd_int e_int) (al_cons (e_toDk (m := 12) (dd_lst dd_int) (e_new (n_list (r := rInt) al_nil))) (al_cons (e_toDk (m := 12) dd_bool (e_neI (e_name 19) fun _ => e_int)) al_nil))))))) fun _ => aa_nil)) (fun _ => OsLe.none) (fun _ => List.nodup_nil)))) (by walk_at "wn")) ?_ ?_
      · exact b_ret (RtOk.x RtOk.fl) (OsW.of (OsLe.mem (List.Mem.tail _ (List.Mem.head _)))) (e_conv e_bl (by walk_at "wn"))
      · refine b_set 21 (e_conv (e_call (ok_law_odd T b cells) (hr.mono (by walk_at "lev")) T.m_law_odd T.F_law_odd.kp T.bd_law_odd (aa_cons (e_name 1) fun _ => (aa_cons (e_new (n_list (al_cons (e_toD dd_int e_int) (al_cons (e_toD dd_int (e_neg e_int)) al_nil)))) fun _ => aa_nil)) (fun _ => OsLe.mem (List.Mem.head _)) (fun _ => by simp)) (by walk_at "wn")) (fun wrong_n_85 => ?_) sc_law.nd
        refine b_set 22 (e_conv (e_conv (e_callCT (X := (cxOf CX0 P w K mg base N_law "law" (defScope s_law) ad.f_law (Value.ref cL) A outer s0 H0 E0).nox) ([bnd (m_Table_call_v1 made_68 wrong_n_85) fun r88 => ret (.int r88), bnd (bnd (noX (m_law_odd ([(fun xs => PyData.list (xs.map .int)) ([(2 : Int)])]))) fun r90 => m_Table_always_v1 r90) fun _ => fail, bnd (noX (m_Table_call_v0 made_68 modulus_5)) fun r93 => ret (.int r93)], ()) (ok_law_all_got T b cells) (OsLe.cons (List.Mem.head _) OsLe.none) (by simp) (fun p hp => by rw [List.mem_singleton.mp hp]; exact ownz_bag) (hr.mono (by walk_at "lev")) T.m_law_all_got T.F_law_all_got.kp T.bd_law_all_got (e_lams (ll_cons (e_la0 1 hTB rfl rfl (lamS2_by (sc := defScope s_law) (ps := []) (by decide +kernel)).free) (ll_cons (e_la1 1 hTB rfl rfl (lamS2_by (sc := defScope s_law) (ps := ["_law_a"]) (by decide +kernel)).free) (ll_cons (e_la1 1 hTB rfl rfl (lamS2_by (sc := defScope s_law) (ps := ["_law_b"]) (by decide +kernel)).free) ll_nil))) (by show 3 ≤ sizeLine; decide)) rfl rfl (fun _ => rfl) (pl_lst (pl_t2 pl_str pl_D)) (fun pins σ F H s v y I S ok => clos_okB I S ok (.cons (fun v hv => clo_ofB (osT := [(b, oBag cells)]) (vs := []) I S hv (lamS2_by (sc := defScope s_law) (ps := []) (by decide +kernel)) (lamBind0 rfl fun _ _ _ => rfl) (hvs_by (N := N_law) (by decide +kernel)) (fun p hp => by rw [List.mem_singleton.mp hp]; exact ownz_bag) (fun A1 outer1 s1 H1 E1 f1 c1 B1 hr tk => by have hu := hr.units; have hu2 := room100 hr; exact e_conv (e_toD dd_int (e_callOX (fl := fl_Table K ad) (ok_Table_call_v1 T) (passBT tk) (spf_XT0 (OsLe.cons (List.Mem.head _) OsLe.none)) (hr.mono (by walk_at "lev")) T.bd_Table_call T.ca_Table T.fc_Table T.fi_Table (e_name 18) (fun _ => (aa_cons (e_name 21) fun _ => aa_nil)) (fun _ _ => rfl))) (by walk_at "wn"))) (.cons (fun v hv => clo_ofB (osT := [(b, oBag cells)]) (vs := []) I S hv (lamS2_by (sc := defScope s_law) (ps := ["_law_a"]) (by decide +kernel)) (lamBind1 rfl fun _ _ _ _ => ⟨_, rfl, fun _ => rfl⟩) (hvs_by (N := N_law) (by decide +kernel)) (fun p hp => by rw [List.mem_singleton.mp hp]; exact ownz_bag) (fun A1 outer1 s1 H1 E1 f1 c1 B1 hr tk => by have hu := hr.units; have hu2 := room100 hr; exact e_conv (e_never (er_V (e_smethZ (conv := fun q : PyData × Unit => (q.1, ())) (dfl := []) (dvs := []) (ok_Table_always_v1 T) (passBT tk) (spf_XT0 (OsLe.cons (List.Mem.head _) OsLe.none)) T.cr_Table T.sm_Table_always (hr.mono (by walk_at "lev")) T.n_Table T.F_Table_always.kp T.cb_Table_always_1 (fun _ => .nil) (hh_pos (aa_cons (e_call (ok_law_odd T b cells) (hr.mono (by walk_at "lev")) T.m_law_odd T.F_law_odd.kp T.bd_law_odd (aa_cons (e_name 1) fun _ => (aa_cons (e_new (n_list (al_cons (e_toD (dd_lst dd_int) (e_new (n_list (al_cons e_int al_nil)))) al_nil))) fun _ => aa_nil)) (fun _ => OsLe.mem (List.Mem.head _)) (fun _ => by simp)) fun _ => aa_nil) (fun _ => rfl)) (fun _ => rfl)))) (by walk_at "wn"))) (.cons (fun v hv => clo_ofB (osT := [(b, oBag cells)]) (vs := []) I S hv (lamS2_by (sc := defScope s_law) (ps := ["_law_b"]) (by decide +kernel)) (lamBind1 rfl fun _ _ _ _ => ⟨_, rfl, fun _ => rfl⟩) (hvs_by (N := N_law) (by decide +kernel)) (fun p hp => by rw [List.mem_singleton.mp hp]; exact ownz_bag) (fun A1 outer1 s1 H1 E1 f1 c1 B1 hr tk => by have hu := hr.units; have hu2 := room100 hr; exact e_conv (e_toD dd_int (e_callO (fl := fl_Table K ad) (ok_Table_call_v0 T) (hr.mono (by walk_at "lev")) T.bd_Table_call T.ca_Table T.fc_Table T.fi_Table (e_name 18) (fun _ => (aa_cons (e_name 3) fun _ => aa_nil)) (fun _ _ => rfl))) (by walk_at "wn"))) .nil))))) rfl) (by walk_at "wn")) (fun found_87 => ?_) sc_law.nd
        refine b_ifA (t_conv (t_not (t_val (e_callG (ok_law_same T (dd_Dw (n := 32)) (dd_Dw (n := 32))) hgu (hr.mono (by walk_at "lev")) T.m_law_same T.F_law_same.kp T.bd_law_same (aa_cons (e_listW (dlw_cons (m := 31) (dd_t2 dd_str dd_D) (e_idx (e_name 22) fun _ => e_int) (dlw_cons (m := 31) dd_str (e_fst (e_idx (e_name 22) fun _ => e_int)) (dlw_cons (m := 31) dd_str (e_fst (e_idx (e_name 22) fun _ => e_int)) dlw_nil)))) fun _ => (aa_cons (e_listW (dlw_cons (m := 31) (dd_t2 dd_str dd_D) (e_tup2 e_str fun _ => (e_name 21)) (dlw_cons (m := 31) dd_str e_str (dlw_cons (m := 31) dd_str e_str dlw_nil)))) fun _ => aa_nil)) (fun _ => OsLe.none) (fun _ => List.nodup_nil)))) (by walk_at "wn")) ?_ ?_
        · exact b_ret (RtOk.x RtOk.fl) (OsW.of (OsLe.mem (List.Mem.tail _ (List.Mem.head _)))) (e_conv e_bl (by walk_at "wn"))
        · exact b_end (NxOk.flS (s := (() : Unit)) ⟨.inl rfl, .inl rfl, .inr rfl, .inr rfl, .inr rfl, .inr rfl, .inr rfl, .inr rfl, .inr rfl, .inr rfl, .inr rfl, .inr rfl, .inr rfl, .inr rfl, .inr rfl, .inr rfl, .inr rfl, .inr rfl, .inr rfl, .inr rfl, .inr rfl, .inr rfl, .inr rfl, .inr rfl, .inr rfl, trivial⟩ (.cons_cons _ (.cons_cons _ .slnil)))
  · refine bg_nx ?_
    refine b_set 23 (e_conv (e_makeZ (conv := fun q : Int × (List Poly_) × Unit => (q.1, q.2.1, ([] : (List (Int × Int))), ())) (dfl := [sv (rTup K (rT2 K rInt rInt)) (([] : (List (Int × Int))))]) (dvs := [.ref ad.e_Table_init_0]) T.mk_Table (ok_Table_init_v0 T) pass0 spm_W (hr.mono (by walk_at "lev")) T.n_Table T.cb_Table_init_2 (fun _ => (.cons ⟨_, rfl, _, [], rfl, .inr T.et_Table_init_0, Nat.zero_le _, .nil⟩ .nil)) (hh_pos (aa_cons (e_pow e_int fun _ => e_int) fun _ => (aa_cons (e_new (n_comp (s := (rObj ad.c_Poly (fl_Poly K ad))) rfl sc_law.nd (s_rng1 e_int T.b_range) (blkOk_by (own := [("_law_k", 7)]) rfl) (tg_name (i := 7)) (fun _ _ _ _ _ => (pg_name (i := 7) sc_law.nd rfl (by walk_at "loc"))) (by decide) (fun _ _ _ _ _ _ _ _ _ => (e_makeS T.mk_Poly (ok_Poly_init T) (hr.mono (by walk_at "lev")) T.n_Poly (al_cons (e_div (e_name 7) fun _ => e_int) al_nil) (by decide))))) fun _ => aa_nil)) (fun _ => rfl)) (fun _ => rfl)) (by walk_at "wn")) (fun far_102 => ?_) sc_law.nd
    refine b_set 24 (e_conv (e_new (n_list (al_cons (e_callO (fl := fl_Table K ad) (ok_Table_call_v0 T) (hr.mono (by walk_at "lev")) T.bd_Table_call T.ca_Table T.fc_Table T.fi_Table (e_name 23) (fun _ => (aa_cons (e_pow e_int fun _ => e_int) fun _ => aa_nil)) (fun _ _ => rfl)) (al_cons (e_callO (fl := fl_Table K ad) (ok_Table_call_v0 T) (hr.mono (by walk_at "lev")) T.bd_Table_call T.ca_Table T.fc_Table T.fi_Table (e_name 23) (fun _ => (aa_cons (e_pow e_int fun _ => e_int) fun _ => aa_nil)) (fun _ _ => rfl)) (al_cons (e_callO (fl := fl_Table K ad) (ok_Table_call_v0 T) (hr.mono (by walk_at "lev")) T.bd_Table_call T.ca_Table T.fc_Table T.fi_Table (e_name 23) (fun _ => (aa_cons e_int fun _ => aa_nil)) (fun _ _ => rfl)) (al_cons (e_callO (fl := fl_Table K ad) (ok_Table_call_v0 T) (hr.mono (by walk_at "lev")) T.bd_Table_call T.ca_Table T.fc_Table T.fi_Table (e_name 23) (fun _ => (aa_cons (e_mul (e_pow e_int fun _ => e_int) fun _ => (e_pow e_int fun _ => e_int)) fun _ => aa_nil)) (fun _ _ => rfl)) (al_cons (e_prop (ok_Table_modulus T) (hr.mono (by walk_at "lev")) T.cl_Table T.pr_Table_modulus T.bd_Table_modulus (e_makeZ (conv := fun q : Int × (List Poly_) × Unit => (q.1, q.2.1, ([] : (List (Int × Int))), ())) (dfl := [sv (rTup K (rT2 K rInt rInt)) (([] : (List (Int × Int))))]) (dvs := [.ref ad.e_Table_init_0]) T.mk_Table (ok_Table_init_v0 T) pass0 spm_W (hr.mono (by walk_at "lev")) T.n_Table T.cb_Table_init_2 (fun _ => (.cons ⟨_, rfl, _, [], rfl, .inr T.et_Table_init_0, Nat.zero_le _, .nil⟩ .nil)) (hh_pos (aa_cons (e_pow e_int fun _ => e_int) fun _ => (aa_cons (e_new (n_rep (e_new (n_list (al_cons (e_makeS T.mk_Poly (ok_Poly_init T) (hr.mono (by walk_at "lev")) T.n_Poly (al_cons e_int al_nil) (by decide)) al_nil))) fun _ => e_int)) fun _ => aa_nil)) (fun _ => rfl)) (fun _ => rfl))) al_nil))))))) (by walk_at "wn")) (fun wide_116 => ?_) sc_law.nd
    exact b_ret RtOk.fn (OsW.of (OsLe.mem (List.Mem.tail _ (List.Mem.head _)))) (e_conv (e_and (e_eqO hu2 (ok_Table_eq T) (hr.mono (by walk_at "lev")) T.bd_Table_eq T.eq_Table T.fe_Table (ty_obj T.ic_Table) T.nf_Table_Table (e_makeZ (conv := fun q : Int × (List Poly_) × Unit => (q.1, q.2.1, ([] : (List (Int × Int))), ())) (dfl := [sv (rTup K (rT2 K rInt rInt)) (([] : (List (Int × Int))))]) (dvs := [.ref ad.e_Table_init_0]) T.mk_Table (ok_Table_init_v0 T) pass0 spm_W (hr.mono (by walk_at "lev")) T.n_Table T.cb_Table_init_2 (fun _ => (.cons ⟨_, rfl, _, [], rfl, .inr T.et_Table_init_0, Nat.zero_le _, .nil⟩ .nil)) (hh_pos (aa_cons e_int fun _ => (aa_cons (e_new (n_list (al_cons (e_makeS0 T.mk_Poly (ok_Poly_init T) (hr.mono (by walk_at "lev")) T.n_Poly) al_nil))) fun _ => aa_nil)) (fun _ => rfl)) (fun _ => rfl)) fun _ => (er_V (e_smethZ (conv := fun q : Int × Unit => (q.1, ())) (dfl := []) (dvs := []) (ok_Table_always_v0 T) pass0 spf_W0 T.cr_Table T.sm_Table_always (hr.mono (by walk_at "lev")) T.n_Table T.F_Table_always.kp T.cb_Table_always_1 (fun _ => .nil) (hh_pos (aa_cons e_int fun _ => aa_nil) (fun _ => rfl)) (fun _ => rfl)))) (e_one (e_callG (ok_law_same T (dd_lst dd_int) (dd_lst dd_int)) hgu (hr.mono (by walk_at "lev")) T.m_law_same T.F_law_same.kp T.bd_law_same (aa_cons (e_name 24) fun _ => (aa_cons (e_new (n_list (al_cons e_int (al_cons e_int (al_cons e_int (al_cons e_int (al_cons e_int al_nil))))))) fun _ => aa_nil)) (fun _ => OsLe.none) (fun _ => List.nodup_nil)))) (by walk_at "wn"))
end
end K19
namespace K19
open PySem L2 Evl Mi
def trim (xs : List Int) : List Int := (xs.reverse.dropWhile (· == 0)).reverse
theorem trim_snoc_zero (xs : List Int) : trim (xs ++ [0]) = trim xs := by
  unfold trim
  rw [List.reverse_append]
  rfl
theorem trim_snoc {xs : List Int} {x : Int} (h : x ≠ 0) : trim (xs ++ [x]) = xs ++ [x] := by
  unfold trim
  rw [List.reverse_append]
  show (List.dropWhile _ (x :: xs.reverse)).reverse = _
  rw [List.dropWhile_cons_of_neg (by simpa using h)]
  simp
theorem snoc_of {xs : List Int} (h : xs ≠ []) : ∃ ys y, xs = ys ++ [y] := ⟨xs.dropLast, xs.getLast h, (List.dropLast_concat_getLast h).symm⟩
theorem getD_app (xs ys : List Int) (k : Nat) : (xs ++ ys).getD k 0 = if k < xs.length then xs.getD k 0 else ys.getD (k - xs.length) 0 := by
  simp only [List.getD_eq_getElem?_getD, List.getElem?_append]
  split <;> rfl
theorem getD_out {xs : List Int} {k : Nat} (h : xs.length ≤ k) : xs.getD k 0 = 0 := by simp [List.getD_eq_getElem?_getD, List.getElem?_eq_none h]
theorem getD_trim : ∀ (n : Nat) (xs : List Int), xs.length = n → ∀ k, (trim xs).getD k 0 = xs.getD k 0
  | 0, xs, h, k => by
    rw [List.length_eq_zero_iff.mp h]
    rfl
  | n + 1, xs, h, k => by
    obtain ⟨ys, y, rfl⟩ := snoc_of (xs := xs) (fun e => by rw [e] at h; cases h)
    by_cases hy : y = 0
    · subst hy
      rw [trim_snoc_zero, getD_trim n ys (by simpa using h) k, getD_app]
      split
      · rfl
      · rename_i q
        rw [getD_out (by omega)]
        by_cases e : k - ys.length = 0
        · rw [e]
          rfl
        · exact (getD_out (xs := [0]) (by simp; omega)).symm
    · rw [trim_snoc hy]
theorem trim_len (xs : List Int) : (trim xs).length ≤ xs.length := by
  unfold trim
  rw [List.length_reverse]
  refine Nat.le_trans (List.dropWhile_sublist _).length_le ?_
  rw [List.length_reverse]
  exact Nat.le_refl _
theorem init_ok (xs : List Int) : Ok (m_Poly_init xs) (· = ⟨trim xs⟩) := by
  unfold m_Poly_init
  rw [bnd_ret]
  refine Ok.bnd (J := fun _ => True) (Ok.forW (fun _ _ => True) trivial (fun k hk s _ => Ok.ret trivial) fun _ _ => trivial) fun _ _ => ?_
  rw [bnd_ret]
  refine Ok.bnd (J := fun ys => ys = trim xs) (Ok.while (fun ys => trim ys = trim xs) List.length (fun ys hys => ?_) rfl) fun ys e => Ok.ret (by rw [e])
  by_cases he : ys = []
  · subst he
    exact ⟨false, Ok.eq, (fun h => absurd h (by decide)), fun _ => hys⟩
  · obtain ⟨zs, z, rfl⟩ := snoc_of he
    have i1 : idx (zs ++ [z]) (-1) = ret z := by
      have : atI (zs ++ [z]) (-1) = some z := by
        unfold atI ixN
        rw [if_neg (by decide), if_pos (by simp; omega)]
        simp
        rw [show ((-1 : Int) + ((zs.length : Int) + 1)).toNat = zs.length by omega]
        simp
      unfold idx
      rw [this]
    refine ⟨decide (z = 0), ?_, fun h => ?_, fun h => ?_⟩
    · unfold m_Poly_init_l2c
      have : (zs ++ [z]).isEmpty = false := by cases zs <;> rfl
      rw [this]
      show Ok (bnd (idx (zs ++ [z]) (-1)) _) _
      rw [i1]
      exact Ok.eq
    · have hz : z = 0 := of_decide_eq_true h
      subst hz
      refine Ok.chk he (Ok.ret ⟨?_, ?_⟩)
      · rw [List.dropLast_concat, ← trim_snoc_zero]
        exact hys
      · simp
    · rw [← hys, trim_snoc (of_decide_eq_false h)]
theorem poly_of_ok (xs : List Int) : Ok (m_poly_of xs) (· = ⟨trim xs⟩) := Ok.bndE (Ok.noX (init_ok xs)) Ok.eq
end K19
namespace K19
open PySem L2 Evl Mi
def ev (n : Int) : List Int → Int
  | [] => 0
  | c :: cs => c + n * ev n cs
/-- the same by coefficients -/
def evN (n : Int) (f : Nat → Int) : Nat → Int
  | 0 => 0
  | k + 1 => evN n f k + f k * n ^ k
theorem evN_shift {n : Int} {f : Nat → Int} : ∀ k, evN n f (k + 1) = f 0 + n * evN n (fun j => f (j + 1)) k
  | 0 => by simp [evN]
  | k + 1 => by
    show evN n f (k + 1) + f (k + 1) * n ^ (k + 1) = _
    rw [evN_shift k]
    show _ = f 0 + n * (evN n (fun j => f (j + 1)) k + f (k + 1) * n ^ k)
    rw [Int.mul_add, Int.pow_succ, Int.mul_comm (n ^ k) n, ← Int.mul_assoc, ← Int.mul_assoc, Int.mul_comm (f (k + 1)) n]
    omega
theorem ev_evN {n : Int} : ∀ (xs : List Int) (k : Nat), xs.length ≤ k → ev n xs = evN n (fun j => xs.getD j 0) k
  | [], k, _ => by
    have : ∀ k, evN n (fun j => ([] : List Int).getD j 0) k = 0 := fun k => by
      induction k with
      | zero => rfl
      | succ k ih =>
        show evN n _ k + ([] : List Int).getD k 0 * n ^ k = 0
        rw [ih]
        simp
    exact (this k).symm
  | c :: cs, 0, h => by simp at h
  | c :: cs, k + 1, h => by
    rw [evN_shift]
    show c + n * ev n cs = c + n * evN n (fun j => cs.getD j 0) k
    rw [ev_evN cs k (by simpa using h)]
theorem evN_ext {n : Int} {f g : Nat → Int} (h : ∀ j, f j = g j) (k : Nat) : evN n f k = evN n g k := by
  rw [show f = g from funext h]
theorem ev_ext {n : Int} {xs ys : List Int} (h : ∀ k, xs.getD k 0 = ys.getD k 0) : ev n xs = ev n ys := by
  rw [ev_evN xs (max xs.length ys.length) (by omega), ev_evN ys (max xs.length ys.length) (by omega)]
  exact evN_ext h _
theorem ev_trim {n : Int} (xs : List Int) : ev n (trim xs) = ev n xs := ev_ext (getD_trim _ xs rfl)
/-- found = found * n + coef, from the last -/
theorem ev_drop {n : Int} {cs : List Int} {i : Nat} (hi : i < cs.length) : ev n (cs.drop (cs.length - i)) * n + cs.reverse[i]'(by simpa using hi) = ev n (cs.drop (cs.length - (i + 1))) := by
  have e : cs.drop (cs.length - (i + 1)) = cs[cs.length - (i + 1)] :: cs.drop (cs.length - (i + 1) + 1) := List.drop_eq_getElem_cons (by omega)
  rw [e, show cs.length - (i + 1) + 1 = cs.length - i by omega, List.getElem_reverse]
  show _ = cs[cs.length - (i + 1)] + n * _
  have : cs.length - 1 - i = cs.length - (i + 1) := by omega
  simp only [this]
  rw [Int.mul_comm, Int.add_comm]
theorem horner_ok {n : Int} {f : Int → Int → W Int} {cs : List Int} (hn : n.natAbs < 2 ^ 64) (hf : ∀ s c, f s c = bnd (bnd (mulI s n) fun t => ret (t + c)) fun r => ret r) : Ok (forW f 0 cs.reverse) (· = ev n cs) := by
  refine Ok.forW (fun i s => s = ev n (cs.drop (cs.length - i))) (by simp [ev]) (fun i hi s hs => ?_) fun s hs => ?_
  · rw [List.length_reverse] at hi
    subst hs
    rw [hf, ← ev_drop hi]
    exact Ok.bndE (Ok.bndE (Ok.mulR hn) Ok.eq) Ok.eq
  · rw [List.length_reverse, Nat.sub_self] at hs
    exact hs
theorem worth_ok {cs : List Int} {n : Int} (hn : n.natAbs < 2 ^ 64) : Ok (m_worth_of ⟨cs⟩ n) (· = ev n cs) := by
  unfold m_worth_of
  rw [bnd_ret, bnd_ret]
  refine Ok.bndE (horner_ok hn fun s c => rfl) ?_
  rw [bnd_ret]
  exact Ok.eq
end K19
namespace K19
open PySem L2 Evl Mi
def Val (C : Nat → List Int) (L : Nat) : Prop := ∀ n, 0 < n → C n = C (Nat.gcd n L)
theorem gcd_sub {n L K : Nat} (h : L ∣ K) : Nat.gcd (Nat.gcd n K) L = Nat.gcd n L := by
  rw [Nat.gcd_assoc, Nat.gcd_eq_right h]
theorem Val.up {C : Nat → List Int} {L K : Nat} (h : Val C L) (hd : L ∣ K) : Val C K := fun n hn => by
  have h2 := h (Nat.gcd n K) (Nat.gcd_pos_of_pos_left _ hn)
  rw [gcd_sub hd] at h2
  rw [h2]
  exact h n hn
theorem Val.gcd {C : Nat → List Int} {L K : Nat} (h : Val C L) (k : Val C K) : Val C (Nat.gcd L K) := fun n hn => by
  rw [h n hn, k (Nat.gcd n L) (Nat.gcd_pos_of_pos_left _ hn), Nat.gcd_assoc]
def Least (C : Nat → List Int) (L : Nat) : Prop := 0 < L ∧ Val C L ∧ ∀ K, 0 < K → Val C K → L ∣ K
theorem Least.uniq {C : Nat → List Int} {L K : Nat} (h : Least C L) (k : Least C K) : L = K :=
  Nat.dvd_antisymm (h.2.2 K k.1 k.2.1) (k.2.2 L h.1 h.2.1)
theorem least_of {C : Nat → List Int} {m L : Nat} (hL : 0 < L) (hd : L ∣ m) (hv : Val C L) (hp : ∀ p, Prm p → p ∣ m → p ∣ L → ¬ Val C (L / p)) : Least C L := by
  refine ⟨hL, hv, fun K hK hk => ?_⟩
  have hg := hv.gcd hk
  obtain ⟨q, hq⟩ := Nat.gcd_dvd_left L K
  have hq0 : 0 < q := by
    rcases Nat.eq_zero_or_pos q with e | e
    · rw [e, Nat.mul_zero] at hq
      omega
    · exact e
  by_cases h1 : q = 1
  · rw [h1, Nat.mul_one] at hq
    rw [hq]
    exact Nat.gcd_dvd_right L K
  · obtain ⟨p, pp, r, hr⟩ := exists_prm (show 2 ≤ q by omega)
    have p0 : 0 < p := by have := pp.1; omega
    have e : L = p * (Nat.gcd L K * r) := by
      conv => lhs; rw [hq, hr]
      ac_rfl
    refine absurd (hg.up (K := L / p) ?_) (hp p pp (Nat.dvd_trans ⟨_, e⟩ hd) ⟨_, e⟩)
    conv => rhs; rw [e, Nat.mul_div_cancel_left _ p0]
    exact ⟨r, rfl⟩
theorem eqv_ints : ∀ xs ys : List Int, PyData.eqv (.list (xs.map .int)) (.list (ys.map .int)) = decide (xs = ys) := by
  have key : ∀ xs ys : List Int, PyData.eqvAll (xs.map .int) (ys.map .int) = decide (xs = ys) := by
    intro xs
    induction xs with
    | nil => intro ys; cases ys <;> simp [PyData.eqvAll]
    | cons x xs ih =>
      intro ys
      cases ys with
      | nil => simp [PyData.eqvAll]
      | cons y ys =>
        rw [List.map_cons, List.map_cons, PyData.eqvAll, ih, PyData.eqv, Bool.eq_iff_iff]
        simp
  intro xs ys
  rw [PyData.eqv]
  exact key xs ys
theorem dget_mapN {β : Type} {φ : Nat → β} {ks : List Nat} {n : Nat} : dget (ks.map fun k : Nat => ((k : Int), φ k)) (n : Int) = if n ∈ ks then some (φ n) else none := by
  induction ks with
  | nil => rfl
  | cons k ks ih =>
    unfold dget at ih ⊢
    rw [List.map_cons, List.find?_cons]
    by_cases e : k = n
    · subst e
      simp
    · have : decide (((k : Nat) : Int) = (n : Int)) = false := decide_eq_false (by omega)
      rw [this]
      simp only
      rw [ih]
      have : n ≠ k := fun h => e h.symm
      simp [this]
theorem keys_mapN {β : Type} {φ : Nat → β} {ks : List Nat} : (ks.map fun k : Nat => ((k : Int), φ k)).map (·.1) = ks.map fun k : Nat => (k : Int) := by
  rw [List.map_map]
  rfl
theorem asc_uniq {xs ys : List Nat} (h1 : xs.Pairwise (· < ·)) (h2 : ys.Pairwise (· < ·)) (h : ∀ x, x ∈ xs ↔ x ∈ ys) : xs = ys :=
  List.Perm.eq_of_pairwise (fun a b _ _ p q => Nat.le_antisymm p q) (h1.imp fun h => Nat.le_of_lt h) (h2.imp fun h => Nat.le_of_lt h) ((List.perm_ext_iff_of_nodup (h1.imp fun h => Nat.ne_of_lt h) (h2.imp fun h => Nat.ne_of_lt h)).mpr h)
theorem Ok.opt {α : Type} {o : Option α} {x : α} (h : o = some x) : Ok (optW o) (· = x) := by
  subst h
  exact Ok.eq
theorem common_ok (a b : Nat) : Ok (m_common (a : Int) (b : Int)) (· = ((Nat.gcd a b : Nat) : Int)) := by
  unfold m_common
  rw [Int.natAbs_natCast, Int.natAbs_natCast, bnd_ret]
  exact Ok.eq
theorem divs_ok {m : Nat} (hm : 0 < m) (hb : m < 2 ^ 40) : Ok (m_all_divisors (m : Int)) (· = dvs m) := divisW_ok hm hb
theorem primes_ok {m : Nat} (hm : 0 < m) (hb : m < 2 ^ 40) : Ok (m_primes_in (m : Int)) fun r => ∃ ps : List Nat, r = ps.map (fun p : Nat => (p : Int)) ∧ PrimesOf m ps := primesW_ok hm hb
theorem poly_eq_ok (a b : List Int) : Ok (m_Poly_eq ⟨a⟩ ⟨b⟩) (· = decide (a = b)) := by
  unfold m_Poly_eq
  refine Ok.bndE (x := decide (a = b)) ?_ Ok.eq
  rw [bnd_ret, if_pos rfl]
  refine Ok.ret ?_
  exact eqv_ints a b
theorem spare_ok {C : Nat → List Int} {polys : List (Int × Poly_)} {L p : Nat} (hL : 0 < L) (hb : L < 2 ^ 40) (hv : Val C L) (hp : ∀ d, d ∣ L → dget polys (d : Int) = some ⟨C d⟩) (hpL : p ∣ L) (hp0 : 0 < p) :
    Ok (m_is_spare polys (L : Int) (p : Int)) fun b => b = true ↔ Val C (L / p) := by
  unfold m_is_spare
  refine Ok.bndE (Ok.divN hp0 (small9000 (Nat.lt_of_le_of_lt (Nat.le_of_dvd hL hpL) (Nat.lt_trans hb (Nat.pow_lt_pow_right (by decide) (by decide)))))) ?_
  refine Ok.bnd (J := fun b => b = true ↔ Val C (L / p)) ?_ fun b hb => Ok.ret hb
  refine Ok.bndE (Ok.noX (divs_ok hL hb)) ?_
  have hd : L / p ∣ L := Nat.div_dvd_of_dvd hpL
  refine Ok.bndE (Ok.map (g := fun x : Int => decide (C x.toNat = C (Nat.gcd x.toNat (L / p)))) fun x hx => ?_) (Ok.ret ?_)
  · obtain ⟨d, hd', rfl⟩ := List.mem_map.mp hx
    have hd' := (mem_divsL hL).mp hd'
    refine Ok.bndE (Ok.opt (hp d hd')) ?_
    refine Ok.bndE (Ok.noX (common_ok d (L / p))) ?_
    refine Ok.bndE (Ok.opt (hp _ (Nat.dvd_trans (Nat.gcd_dvd_left d (L / p)) hd'))) ?_
    exact Ok.noX (poly_eq_ok _ _)
  · rw [List.all_eq_true]
    constructor
    · intro h n hn
      have e := h (decide (C (Nat.gcd n L) = C (Nat.gcd (Nat.gcd n L) (L / p)))) (List.mem_map.mpr ⟨((Nat.gcd n L : Nat) : Int), List.mem_map.mpr ⟨Nat.gcd n L, (mem_divsL hL).mpr (Nat.gcd_dvd_right n L), rfl⟩, by rw [Int.toNat_natCast]⟩)
      have e := of_decide_eq_true (show decide _ = true from e)
      rw [gcd_sub hd] at e
      rw [hv n hn]
      exact e
    · intro h b hb'
      obtain ⟨x, hx, rfl⟩ := List.mem_map.mp hb'
      obtain ⟨d, hd', rfl⟩ := List.mem_map.mp hx
      have hd' := (mem_divsL hL).mp hd'
      refine decide_eq_true ?_
      rw [Int.toNat_natCast]
      exact h d (Nat.pos_of_dvd_of_pos hd' hL)
theorem least_ok {C : Nat → List Int} {polys : List (Int × Poly_)} {m : Nat} (hm : 0 < m) (hb : m < 2 ^ 40) (hv : Val C m) (hp : ∀ d, d ∣ m → dget polys (d : Int) = some ⟨C d⟩) :
    Ok (m_least_modulus (m : Int) polys) fun r => ∃ L : Nat, r = (L : Int) ∧ L ∣ m ∧ Least C L := by
  unfold m_least_modulus
  rw [bnd_ret]
  refine Ok.bnd (Ok.noX (primes_ok hm hb)) fun xs ⟨ps, e, P⟩ => ?_
  subst e
  refine Ok.bnd (J := fun r => ∃ L : Nat, r = (L : Int) ∧ L ∣ m ∧ Least C L) (Ok.forW (fun i s => ∃ L : Nat, s = (L : Int) ∧ 0 < L ∧ L ∣ m ∧ Val C L ∧ ∀ p ∈ ps.take i, p ∣ L → ¬ Val C (L / p)) ⟨m, rfl, hm, Nat.dvd_refl m, hv, fun p hp' => by simp at hp'⟩ (fun i hi s hs => ?_) fun s hs => ?_) fun r hr => Ok.ret hr
  · rw [List.length_map] at hi
    rw [List.getElem_map]
    have hpr := P.prm ps[i] (List.getElem_mem hi)
    generalize hq : ps[i] = q at hpr ⊢
    have q2 := hpr.1.1
    unfold m_least_modulus_l1
    refine Ok.bnd (J := fun s => ∃ L : Nat, s = (L : Int) ∧ 0 < L ∧ L ∣ m ∧ Val C L ∧ ∀ p ∈ ps.take (i + 1), p ∣ L → ¬ Val C (L / p)) ?_ fun s hs => Ok.ret hs
    refine Ok.while (fun s => ∃ L : Nat, s = (L : Int) ∧ 0 < L ∧ L ∣ m ∧ Val C L ∧ ∀ p ∈ ps.take i, p ∣ L → ¬ Val C (L / p)) (fun s => s.natAbs) (fun s hs => ?_) hs
    obtain ⟨L, rfl, h0, h1, h2, h3⟩ := hs
    have hLb : L < 2 ^ 40 := Nat.lt_of_le_of_lt (Nat.le_of_dvd hm h1) hb
    have fin : (q ∣ L → ¬ Val C (L / q)) → ∃ L' : Nat, (L : Int) = (L' : Int) ∧ 0 < L' ∧ L' ∣ m ∧ Val C L' ∧ ∀ p ∈ ps.take (i + 1), p ∣ L' → ¬ Val C (L' / p) := fun hh => ⟨L, rfl, h0, h1, h2, fun p hp' hd => by
      rw [List.take_succ_eq_append_getElem hi, List.mem_append, hq] at hp'
      rcases hp' with z | z
      · exact h3 p z hd
      · rw [List.mem_singleton.mp z] at hd ⊢
        exact hh hd⟩
    by_cases hd : q ∣ L
    · by_cases hw : Val C (L / q)
      · refine ⟨true, ?_, fun _ => ?_, fun h => absurd h (by decide)⟩
        · unfold m_least_modulus_l2c
          refine Ok.bndE (x := true) (Ok.bndE (Ok.modN (by omega)) (Ok.ret ?_)) ?_
          · rw [Nat.mod_eq_zero_of_dvd hd]; rfl
          · rw [if_pos rfl]
            exact (Ok.noX (spare_ok h0 hLb h2 (fun d hd' => hp d (Nat.dvd_trans hd' h1)) hd (by omega))).mono fun b hb => hb.mpr hw
        · unfold m_least_modulus_l2
          refine Ok.bndE (Ok.divN (by omega) (small9000 (Nat.lt_of_le_of_lt (Nat.le_of_dvd h0 hd) (Nat.lt_trans hLb (Nat.pow_lt_pow_right (by decide) (by decide)))))) (Ok.ret ?_)
          have hdd : L / q ∣ L := Nat.div_dvd_of_dvd hd
          refine ⟨⟨L / q, rfl, Nat.div_pos (Nat.le_of_dvd h0 hd) (by omega), Nat.dvd_trans hdd h1, hw, fun p hp' hd' hv' => ?_⟩, ?_⟩
          · refine h3 p hp' (Nat.dvd_trans hd' hdd) (hv'.up ?_)
            obtain ⟨a, ha⟩ := hd
            have q0 : 0 < q := by omega
            rw [ha, Nat.mul_div_cancel_left _ q0] at hd' ⊢
            obtain ⟨b, hb'⟩ := hd'
            have p0 : 0 < p := by have := (P.prm p (List.mem_of_mem_take hp')).1.1; omega
            rw [hb', Nat.mul_div_cancel_left _ p0, Nat.mul_left_comm, Nat.mul_div_cancel_left _ p0]
            exact ⟨q, Nat.mul_comm _ _⟩
          · show (((L / q : Nat) : Int)).natAbs < ((L : Nat) : Int).natAbs
            rw [Int.natAbs_natCast, Int.natAbs_natCast]
            exact Nat.div_lt_self h0 (by omega)
      · refine ⟨false, ?_, fun h => absurd h (by decide), fun _ => fin fun _ => hw⟩
        unfold m_least_modulus_l2c
        refine Ok.bndE (x := true) (Ok.bndE (Ok.modN (by omega)) (Ok.ret ?_)) ?_
        · rw [Nat.mod_eq_zero_of_dvd hd]; rfl
        · rw [if_pos rfl]
          refine (Ok.noX (spare_ok h0 hLb h2 (fun d hd' => hp d (Nat.dvd_trans hd' h1)) hd (by omega))).mono fun b hb => ?_
          cases b with
          | true => exact absurd (hb.mp rfl) hw
          | false => rfl
    · refine ⟨false, ?_, fun h => absurd h (by decide), fun _ => fin fun h => absurd h hd⟩
      unfold m_least_modulus_l2c
      refine Ok.bndE (x := false) (Ok.bndE (Ok.modN (by omega)) (Ok.ret ?_)) ?_
      · have : L % q ≠ 0 := fun h => hd (Nat.dvd_of_mod_eq_zero h)
        exact decide_eq_false (by omega)
      · rw [if_neg (by decide)]
        exact Ok.eq
  · obtain ⟨L, rfl, h0, h1, h2, h3⟩ := hs
    rw [List.length_map, List.take_length] at h3
    exact ⟨L, rfl, h1, least_of h0 h1 h2 fun p pp hm' hL => h3 p (P.all p pp hm') hL⟩
end K19
namespace K19
open PySem L2 Evl Mi
structure IsT (B N : Nat) (C : Nat → List Int) (f : Nat → Option Int) (T : Table_) : Prop where
  lst : ∃ L : Nat, Least C L ∧ L ≤ B ∧ T.own_modulus = (L : Int) ∧ T.own_polys = (divsL L).map fun d : Nat => ((d : Int), (⟨C d⟩ : Poly_))
  len : ∀ n, 0 < n → (C n).length ≤ 1000
  sgl : ∃ ks : List Nat, ks.Pairwise (· < ·) ∧ ks.length ≤ N ∧ (∀ k ∈ ks, 0 < k ∧ k < 2 ^ 40) ∧ (∀ k, k ∈ ks ↔ ∃ v, f k = some v ∧ v ≠ ev k (C k)) ∧ T.own_singles = ks.map fun k : Nat => ((k : Int), (f k).getD 0)
theorem IsT.uniq {B N B' N' : Nat} {C : Nat → List Int} {f g : Nat → Option Int} {T S : Table_} (h : IsT B N C f T) (k : IsT B' N' C g S) (e : ∀ n v, (f n = some v ∧ v ≠ ev n (C n)) ↔ (g n = some v ∧ v ≠ ev n (C n))) : T = S := by
  obtain ⟨L, h1, _, h2, h3⟩ := h.lst
  obtain ⟨K, k1, _, k2, k3⟩ := k.lst
  obtain ⟨ks, h4, _, _, h5, h6⟩ := h.sgl
  obtain ⟨js, k4, _, _, k5, k6⟩ := k.sgl
  have eL := h1.uniq k1
  subst eL
  have ek : ks = js := asc_uniq h4 k4 fun n => by
    rw [h5, k5]
    constructor
    · rintro ⟨v, q⟩
      exact ⟨v, (e n v).mp q⟩
    · rintro ⟨v, q⟩
      exact ⟨v, (e n v).mpr q⟩
  subst ek
  cases T
  cases S
  simp only at h2 h3 h6 k2 k3 k6
  rw [h2, h3, h6, k2, k3, k6]
  congr 1
  refine List.map_congr_left fun n hn => ?_
  obtain ⟨v, q1, q2⟩ := (h5 n).mp hn
  rw [q1, ((e n v).mp ⟨q1, q2⟩).1]
def num (C : Nat → List Int) (f : Nat → Option Int) (n : Nat) : Int := (f n).getD (ev n (C n))
theorem poly_at_ok {B N : Nat} {C : Nat → List Int} {f : Nat → Option Int} {T : Table_} (h : IsT B N C f T) {n : Nat} (hn : 0 < n) : Ok (m_Table_poly_at T (n : Int)) (· = ⟨C n⟩) := by
  obtain ⟨L, h1, h0, h2, h3⟩ := h.lst
  unfold m_Table_poly_at
  rw [h2, h3]
  refine Ok.bndE (Ok.bndE (Ok.noX (common_ok n L)) (Ok.opt (x := ⟨C n⟩) ?_)) Ok.eq
  have := dget_mapN (φ := fun d => (⟨C d⟩ : Poly_)) (ks := divsL L) (n := Nat.gcd n L)
  rw [this, if_pos ((mem_divsL h1.1).mpr (Nat.gcd_dvd_right n L)), ← h1.2.1 n hn]
theorem number_ok {B N : Nat} {C : Nat → List Int} {f : Nat → Option Int} {T : Table_} (h : IsT B N C f T) {n : Nat} (hn : 0 < n) (hb : n < 2 ^ 64) : Ok (m_Table_number_at T (n : Int)) (· = num C f n) := by
  obtain ⟨ks, h4, _, _, h5, h6⟩ := h.sgl
  unfold m_Table_number_at
  have e := dget_mapN (φ := fun k => (f k).getD 0) (ks := ks) (n := n)
  rw [h6, e]
  refine Ok.bndE (x := num C f n) ?_ Ok.eq
  rw [bnd_ret]
  by_cases q : n ∈ ks
  · rw [if_pos q, if_pos (show (some _).isSome = true from rfl)]
    obtain ⟨v, q1, q2⟩ := (h5 n).mp q
    refine Ok.opt ?_
    unfold num
    rw [q1]
    rfl
  · rw [if_neg q, if_neg (by simp)]
    refine Ok.bndE (Ok.noX (poly_at_ok h hn)) ?_
    refine (Ok.noX (worth_ok (by simpa using hb))).mono fun z hz => ?_
    rw [hz]
    unfold num
    cases e' : f n with
    | none => rfl
    | some v =>
      refine Decidable.byContradiction fun hne => q ((h5 n).mpr ⟨v, e', fun z => hne ?_⟩)
      rw [z]
      rfl
theorem is_number_ok {n : Nat} (hn : 0 < n) : Ok (m_is_number_v1 (n : Int) 1 ()) (· = true) := by
  unfold m_is_number_v1
  refine Ok.bndE (x := true) ?_ Ok.eq
  refine Ok.bndE (x := true) (Ok.noX Ok.eq) ?_
  rw [if_pos rfl]
  refine Ok.bndE (x := true) (Ok.ret (decide_eq_true (by omega))) ?_
  rw [if_pos rfl]
  exact Ok.eq
theorem need_number_ok {n : Nat} (hn : 0 < n) : Ok (m_need_number_v1 (n : Int) 1 ()) (fun _ => True) := by
  unfold m_need_number_v1
  refine Ok.bndE (x := false) (Ok.bndE (Ok.noX (is_number_ok hn)) Ok.eq) ?_
  rw [if_neg (by decide)]
  exact Ok.ret trivial
theorem call_ok {B N : Nat} {C : Nat → List Int} {f : Nat → Option Int} {T : Table_} (h : IsT B N C f T) {n : Nat} (hn : 0 < n) (hb : n < 2 ^ 64) : Ok (m_Table_call_v0 T (n : Int)) (· = num C f n) := by
  unfold m_Table_call_v0
  refine Ok.bnd (Ok.noX (need_number_ok hn)) fun _ _ => ?_
  exact Ok.bndE (Ok.noX (number_ok h hn hb)) Ok.eq
theorem number_big {B N : Nat} {C : Nat → List Int} {f : Nat → Option Int} {T : Table_} (h : IsT B N C f T) {n : Nat} (hn : 0 < n) (hw : Ok (m_worth_of ⟨C n⟩ (n : Int)) (· = ev (n : Int) (C n))) : Ok (m_Table_number_at T (n : Int)) (· = num C f n) := by
  obtain ⟨ks, h4, _, _, h5, h6⟩ := h.sgl
  unfold m_Table_number_at
  have e := dget_mapN (φ := fun k => (f k).getD 0) (ks := ks) (n := n)
  rw [h6, e]
  refine Ok.bndE (x := num C f n) ?_ Ok.eq
  rw [bnd_ret]
  by_cases q : n ∈ ks
  · rw [if_pos q, if_pos (show (some _).isSome = true from rfl)]
    obtain ⟨v, q1, q2⟩ := (h5 n).mp q
    refine Ok.opt ?_
    unfold num
    rw [q1]
    rfl
  · rw [if_neg q, if_neg (by simp)]
    refine Ok.bndE (Ok.noX (poly_at_ok h hn)) ?_
    refine (Ok.noX hw).mono fun z hz => ?_
    rw [hz]
    unfold num
    cases e' : f n with
    | none => rfl
    | some v =>
      refine Decidable.byContradiction fun hne => q ((h5 n).mpr ⟨v, e', fun z => hne ?_⟩)
      rw [z]
      rfl
theorem call_big {B N : Nat} {C : Nat → List Int} {f : Nat → Option Int} {T : Table_} (h : IsT B N C f T) {n : Nat} (hn : 0 < n) (hw : Ok (m_worth_of ⟨C n⟩ (n : Int)) (· = ev (n : Int) (C n))) : Ok (m_Table_call_v0 T (n : Int)) (· = num C f n) := by
  unfold m_Table_call_v0
  refine Ok.bnd (Ok.noX (need_number_ok hn)) fun _ _ => ?_
  exact Ok.bndE (Ok.noX (number_big h hn hw)) Ok.eq
def coreW (a_modulus : Int) (s4 : (List (Int × Poly_)) × (List (Int × Int))) : W Table_ :=
  bnd (noX (m_least_modulus a_modulus s4.1)) fun least_5 => bnd (ret (least_5)) fun own_modulus_7 => bnd (bnd (noX (m_all_divisors least_5)) fun r8 => dcW (fun (x9 : Int) => ret true) (fun (x9 : Int) => ret (x9)) (fun (x9 : Int) => optW (dget s4.1 x9)) r8 []) fun own_polys_12 => bnd (bnd (sortJ (s4.2.map (·.1))) fun t14 => filtW (fun (x15 : Int) => bnd (optW (dget s4.2 x15)) fun t17 => bnd (noX (m_common x15 least_5)) fun r18 => bnd (optW (dget s4.1 r18)) fun t19 => bnd (noX (m_worth_of t19 x15)) fun r20 => ret (!decide (t17 = r20))) (fun (x15 : Int) => ret (x15)) t14) fun rows_13 => bnd (dcW (fun (x21 : Int) => ret true) (fun (x21 : Int) => ret (x21)) (fun (x21 : Int) => optW (dget s4.2 x21)) rows_13 []) fun own_singles_24 => ret (⟨own_modulus_7, own_polys_12, own_singles_24⟩ : Table_)
theorem Ok.sortJ {xs : List Int} {I : List Int → Prop} (k : ∀ ys : List Int, ys.Perm xs → ys.Pairwise (· ≤ ·) → I ys) : Ok (Mi.sortJ xs) I := fun P E hp ys h1 h2 => hp ys (k ys h1 h2)
theorem nat_list : ∀ {xs : List Int}, (∀ x ∈ xs, ∃ n : Nat, x = (n : Int) ∧ 0 < n ∧ n < 2 ^ 40) → ∃ ns : List Nat, xs = ns.map (fun n : Nat => (n : Int)) ∧ ∀ n ∈ ns, 0 < n ∧ n < 2 ^ 40
  | [], _ => ⟨[], rfl, fun _ h => by cases h⟩
  | x :: xs, h => by
    obtain ⟨ns, rfl, h2⟩ := nat_list fun y hy => h y (List.mem_cons_of_mem _ hy)
    obtain ⟨n, rfl, h3⟩ := h x List.mem_cons_self
    exact ⟨n :: ns, rfl, fun k hk => by
      rcases List.mem_cons.mp hk with e | e
      · exact e ▸ h3
      · exact h2 k e⟩
theorem core_ok {B N : Nat} {C : Nat → List Int} {f : Nat → Option Int} {polys : List (Int × Poly_)} {late : List (Int × Int)} {m : Nat} (hm : 0 < m) (hB : m ≤ B) (hB2 : B < 2 ^ 40) (hC : ∀ n, 0 < n → (C n).length ≤ 1000) (hv : Val C m) (hp : ∀ d, d ∣ m → dget polys (d : Int) = some ⟨C d⟩)
    (hl : (late.map (·.1)).Nodup) (hk : ∀ k ∈ late.map (·.1), ∃ n : Nat, k = (n : Int) ∧ 0 < n ∧ n < 2 ^ 40) (hn : late.length ≤ N) (hf : ∀ n : Nat, f n = dget late (n : Int)) : Ok (coreW (m : Int) (polys, late)) (IsT B N C f) := by
  have hb40 : m < 2 ^ 40 := Nat.lt_of_le_of_lt hB hB2
  unfold coreW
  refine Ok.bnd (Ok.noX (least_ok hm hb40 hv hp)) fun r ⟨L, e, hLm, hL⟩ => ?_
  subst e
  have hL40 : L < 2 ^ 40 := Nat.lt_of_le_of_lt (Nat.le_of_dvd hm hLm) hb40
  rw [bnd_ret]
  refine Ok.bndE (x := (divsL L).map fun d : Nat => ((d : Int), (⟨C d⟩ : Poly_))) ?_ ?_
  · refine Ok.bndE (Ok.noX (divs_ok hL.1 hL40)) ?_
    refine (Ok.dcW (p := fun _ => true) (g := fun x : Int => (⟨C x.toNat⟩ : Poly_)) ((dvs_sorted L).imp fun h => Int.ne_of_lt h) (fun _ _ => by simp) (fun _ _ => Ok.eq) fun x hx _ => ?_).mono fun z hz => ?_
    · obtain ⟨d, hd, rfl⟩ := List.mem_map.mp hx
      rw [Int.toNat_natCast]
      exact Ok.opt (hp d (Nat.dvd_trans ((mem_divsL hL.1).mp hd) hLm))
    · rw [hz, List.nil_append, List.filter_eq_self.mpr (fun _ _ => rfl), List.map_map]
      rfl
  · obtain ⟨ns0, en0, hns0⟩ := nat_list hk
    refine Ok.bnd (J := fun rows => ∃ ks : List Nat, rows = ks.map (fun k : Nat => (k : Int)) ∧ ks.Pairwise (· < ·) ∧ ks.length ≤ N ∧ (∀ k ∈ ks, 0 < k ∧ k < 2 ^ 40) ∧ (∀ k, k ∈ ks ↔ ∃ v, f k = some v ∧ v ≠ ev k (C k))) ?_ fun rows hr => ?_
    · refine Ok.bnd (Ok.sortJ (I := fun ys : List Int => ys.Perm (late.map (·.1)) ∧ ys.Pairwise (· ≤ ·)) fun ys h1 h2 => ⟨h1, h2⟩) fun ys ⟨h1, h2⟩ => ?_
      obtain ⟨ns, en, hns⟩ := nat_list fun x hx => hk x (h1.mem_iff.mp hx)
      have hnd : ys.Nodup := h1.nodup_iff.mpr hl
      subst en
      have asc : ns.Pairwise (· < ·) := by
        have a := List.pairwise_map.mp h2
        have b := List.pairwise_map.mp hnd
        exact (List.Pairwise.and a b).imp fun ⟨x, y⟩ => by omega
      have hmem : ∀ k : Nat, k ∈ ns ↔ (k : Int) ∈ late.map (·.1) := fun k => by
        rw [← h1.mem_iff, List.mem_map]
        constructor
        · exact fun h => ⟨k, h, rfl⟩
        · rintro ⟨j, hj, e⟩
          have : j = k := by omega
          exact this ▸ hj
      refine (Ok.filt (p := fun x : Int => !decide ((f x.toNat).getD 0 = ev x (C x.toNat))) (g := fun x => x) (fun x hx => ?_) fun x hx _ => Ok.eq).mono fun z hz => ?_
      · obtain ⟨k, hkk, rfl⟩ := List.mem_map.mp hx
        obtain ⟨v, hv1, _⟩ := dget_mem ((hmem k).mp hkk)
        have hk0 := hns k hkk
        refine Ok.bndE (Ok.opt hv1) ?_
        refine Ok.bndE (Ok.noX (common_ok k L)) ?_
        refine Ok.bndE (Ok.opt (hp _ (Nat.dvd_trans (Nat.gcd_dvd_right k L) hLm))) ?_
        refine Ok.bndE (Ok.noX (worth_ok (by rw [Int.natAbs_natCast]; exact Nat.lt_trans hk0.2 (by decide)))) (Ok.ret ?_)
        rw [Int.toNat_natCast, hf, hv1, ← hL.2.1 k hk0.1]
        rfl
      · rw [List.map_id'] at hz
        refine ⟨ns.filter fun k => !decide ((f k).getD 0 = ev k (C k)), ?_, asc.filter _, ?_, fun k hk' => hns k (List.mem_filter.mp hk').1, fun k => ?_⟩
        · rw [hz, List.filter_map]
          rfl
        · refine Nat.le_trans (List.length_filter_le _ _) ?_
          have := h1.length_eq
          rw [List.length_map, List.length_map] at this
          omega
        · rw [List.mem_filter, hmem]
          constructor
          · rintro ⟨q1, q2⟩
            obtain ⟨v, hv1, _⟩ := dget_mem q1
            rw [← hf] at hv1
            rw [hv1] at q2
            exact ⟨v, hv1, by simpa using q2⟩
          · rintro ⟨v, q1, q2⟩
            refine ⟨Decidable.byContradiction fun hn' => ?_, ?_⟩
            · rw [hf, dget_none hn'] at q1
              cases q1
            · rw [q1]
              simpa using q2
    · obtain ⟨ks, rfl, h1, h2, h3, h4⟩ := hr
      refine Ok.bndE (x := ks.map fun k : Nat => ((k : Int), (f k).getD 0)) ?_ (Ok.ret ⟨⟨L, hL, Nat.le_trans (Nat.le_of_dvd hm hLm) hB, rfl, rfl⟩, hC, ks, h1, h2, h3, h4, rfl⟩)
      refine (Ok.dcW (p := fun _ => true) (g := fun x : Int => (f x.toNat).getD 0) (List.pairwise_map.mpr (h1.imp fun h => by omega)) (fun _ _ => by simp) (fun _ _ => Ok.eq) fun x hx _ => ?_).mono fun z hz => ?_
      · obtain ⟨d, hd, rfl⟩ := List.mem_map.mp hx
        rw [Int.toNat_natCast]
        obtain ⟨v, q1, q2⟩ := (h4 d).mp hd
        refine Ok.opt ?_
        show dget late (d : Int) = _
        rw [← hf, q1]
        rfl
      · rw [hz, List.nil_append, List.filter_eq_self.mpr (fun _ _ => rfl), List.map_map]
        rfl
end K19
namespace K19
open PySem L2 Evl Mi
theorem mergeD_app {α : Type} : ∀ {more acc : List (Int × α)}, (more.map (·.1)).Nodup → (∀ k ∈ more.map (·.1), k ∉ acc.map (·.1)) → mergeD acc more = acc ++ more
  | [], acc, _, _ => by simp [mergeD]
  | p :: more, acc, nd, hn => by
    obtain ⟨n1, n2⟩ := List.nodup_cons.mp nd
    have h1 := mergeD_app (more := more) (acc := acc ++ [p]) n2 fun j hj hm => by
      rw [List.map_append] at hm
      rcases List.mem_append.mp hm with z | z
      · exact hn j (List.mem_cons_of_mem _ hj) z
      · have : j = p.1 := by simpa using z
        rw [this] at hj
        exact n1 hj
    show mergeD (dput acc p.1 p.2) more = _
    rw [dput_new (hn p.1 List.mem_cons_self), h1, List.append_assoc]
    rfl
theorem mergeD_self {α : Type} {xs : List (Int × α)} (nd : (xs.map (·.1)).Nodup) : mergeD [] xs = xs := by
  rw [mergeD_app nd (fun _ _ => by simp), List.nil_append]
theorem is_number0_ok {n : Nat} (hn : 0 < n) (hb : n ≤ 1000000000) : Ok (m_is_number_v0 (n : Int) 1 1000000000) (· = true) := by
  unfold m_is_number_v0
  refine Ok.bndE (x := true) ?_ Ok.eq
  refine Ok.bndE (x := true) (Ok.noX Ok.eq) ?_
  rw [if_pos rfl]
  refine Ok.bndE (x := true) (Ok.ret (decide_eq_true (by omega))) ?_
  rw [if_pos rfl, bnd_ret, if_neg (by decide)]
  exact Ok.ret (decide_eq_true (by omega))
theorem need_polys_ok {m : Nat} {polys : List Poly_} (hm : 0 < m) (hb : m ≤ 1000000000) (hl : polys.length = (divsL m).length) : Ok (m_need_polys_v0 (m : Int) polys) (fun _ => True) := by
  unfold m_need_polys_v0
  refine Ok.bnd (J := fun _ => True) (Ok.noX ?_) fun _ _ => ?_
  · unfold m_need_number_v0
    refine Ok.bndE (x := false) (Ok.bndE (Ok.noX (is_number0_ok hm (by omega))) Ok.eq) ?_
    rw [if_neg (by decide)]
    exact Ok.ret trivial
  · refine Ok.bndE (x := false) ?_ ?_
    · rw [bnd_ret, if_neg (by decide)]
      refine Ok.bndE (Ok.noX (divs_ok hm (by omega))) (Ok.ret ?_)
      have : ((polys.length : Int) = ((dvs m).length : Int)) := by rw [List.length_map, hl]
      rw [decide_eq_true this]
      rfl
    · rw [if_neg (by decide), bnd_ret]
      exact Ok.bnd (J := fun _ => True) (Ok.forW (fun _ _ => True) trivial (fun k hk s _ => Ok.ret trivial) fun _ _ => trivial) fun _ _ => Ok.ret trivial
theorem need_singles_ok {late : List (Int × Int)} (nd : (late.map (·.1)).Nodup) (hk : ∀ k ∈ late.map (·.1), ∃ n : Nat, k = (n : Int) ∧ 0 < n ∧ n < 2 ^ 40) (hn : late.length ≤ 100000) : Ok (m_need_singles_v1 late) (fun _ => True) := by
  unfold m_need_singles_v1
  rw [bnd_ret, if_neg (by decide), bnd_ret]
  refine Ok.bnd (J := fun _ => True) (Ok.enum (fun i (s : List (Int × Bool)) => s.map (·.1) = (late.take i).map (·.1)) (by simp) (fun i hi s hs => ?_) fun _ _ => trivial) fun _ _ => Ok.ret trivial
  unfold m_need_singles_v1_l1
  obtain ⟨n, en, h0, h1⟩ := hk late[i].1 (List.mem_map_of_mem (List.getElem_mem hi))
  refine Ok.bndE (x := false) ?_ ?_
  · rw [bnd_ret, if_neg (by decide), bnd_ret, if_neg (by decide)]
    refine Ok.bndE (x := false) ?_ ?_
    · refine Ok.bndE (x := true) ?_ Ok.eq
      show Ok (noX (m_is_number_v1 late[i].1 1 ())) _
      rw [en]
      exact Ok.noX (is_number_ok h0)
    · rw [if_neg (by decide)]
      exact Ok.bndE (x := true) (Ok.noX Ok.eq) Ok.eq
  · rw [if_neg (by decide), bnd_ret]
    have hnot : late[i].1 ∉ s.map (·.1) := by
      rw [hs]
      intro hm
      have := List.nodup_iff_pairwise_ne.mp nd
      rw [List.map_take, List.mem_take_iff_getElem] at hm
      obtain ⟨j, hj, e⟩ := hm
      rw [List.length_map] at hj
      rw [List.getElem_map] at e
      have := List.pairwise_iff_getElem.mp nd j i (by rw [List.length_map]; omega) (by rw [List.length_map]; omega) (by omega)
      rw [List.getElem_map, List.getElem_map] at this
      exact this e
    have hlen : s.length ≤ 100000 := by
      have h := congrArg List.length hs
      rw [List.length_map, List.length_map, List.length_take] at h
      omega
    show Ok (if (dget s late[i].1).isSome = true then _ else _) _
    rw [dget_none hnot, if_neg (by decide), bnd_ret, bnd_ret]
    refine Ok.chk (Nat.lt_of_le_of_lt hlen (by decide)) (Ok.retB (Ok.ret ?_))
    rw [dput_keys]
    show (if late[i].1 ∈ s.map (·.1) then _ else _) = _
    rw [if_neg hnot, hs, List.take_succ_eq_append_getElem hi, List.map_append]
    rfl
theorem init0_ok {B N : Nat} {C : Nat → List Int} {f : Nat → Option Int} {late : List (Int × Int)} {m : Nat} (hm : 0 < m) (hB : m ≤ B) (hB2 : B ≤ 1000000000) (hC : ∀ n, 0 < n → (C n).length ≤ 1000) (hv : Val C m)
    (hl : (late.map (·.1)).Nodup) (hk : ∀ k ∈ late.map (·.1), ∃ n : Nat, k = (n : Int) ∧ 0 < n ∧ n < 2 ^ 40) (hn : late.length ≤ N) (hN : N ≤ 100000) (hf : ∀ n : Nat, f n = dget late (n : Int)) : Ok (m_Table_init_v0 (m : Int) ((divsL m).map fun d : Nat => (⟨C d⟩ : Poly_)) late) (IsT B N C f) := by
  unfold m_Table_init_v0
  rw [bnd_ret, bnd_ret, bnd_ret, if_pos (by rfl)]
  have ez : (dvs m).zip ((divsL m).map fun d : Nat => (⟨C d⟩ : Poly_)) = (divsL m).map fun d : Nat => ((d : Int), (⟨C d⟩ : Poly_)) := by
    rw [List.zip_map']
  have ek : (((divsL m).map fun d : Nat => ((d : Int), (⟨C d⟩ : Poly_))).map (·.1)).Nodup := by
    rw [keys_mapN (φ := fun d => (⟨C d⟩ : Poly_))]
    exact (dvs_sorted m).imp fun h => Int.ne_of_lt h
  refine Ok.bndE (x := ((divsL m).map fun d : Nat => ((d : Int), (⟨C d⟩ : Poly_)), late)) ?_ ?_
  · refine Ok.bnd (Ok.noX (need_polys_ok hm (by omega) (by rw [List.length_map]))) fun _ _ => ?_
    refine Ok.bnd (Ok.noX (need_singles_ok hl hk (Nat.le_trans hn hN))) fun _ _ => ?_
    refine Ok.bndE (Ok.bndE (Ok.noX (divs_ok hm (by omega))) Ok.eq) ?_
    rw [bnd_ret, ez, mergeD_self ek, mergeD_self hl]
    exact Ok.eq
  · exact core_ok hm hB (Nat.lt_of_le_of_lt hB2 (by decide)) hC hv (fun d hd => by
      have := dget_mapN (φ := fun d => (⟨C d⟩ : Poly_)) (ks := divsL m) (n := d)
      rw [this, if_pos ((mem_divsL hm).mpr hd)]) hl hk hn hf
end K19
namespace K19
open PySem L2 Evl Mi
theorem num_dget {B N : Nat} {C : Nat → List Int} {f : Nat → Option Int} {T : Table_} (h : IsT B N C f T) (n : Nat) : num C f n = (dget T.own_singles (n : Int)).getD (ev n (C n)) := by
  obtain ⟨ks, h4, _, _, h5, h6⟩ := h.sgl
  rw [h6, dget_mapN (φ := fun k => (f k).getD 0)]
  unfold num
  by_cases q : n ∈ ks
  · rw [if_pos q]
    obtain ⟨v, q1, _⟩ := (h5 n).mp q
    rw [q1]
    rfl
  · rw [if_neg q]
    cases e' : f n with
    | none => rfl
    | some v => exact Decidable.byContradiction fun hne => q ((h5 n).mpr ⟨v, e', hne⟩)
theorem dget_self {xs : List (Int × α)} (nd : (xs.map (·.1)).Nodup) : ∀ p ∈ xs, dget xs p.1 = some p.2 := by
  induction xs with
  | nil => exact fun p h => by cases h
  | cons q xs ih =>
    intro p hp
    obtain ⟨n1, n2⟩ := List.nodup_cons.mp nd
    unfold dget at ih ⊢
    rw [List.find?_cons]
    rcases List.mem_cons.mp hp with e | e
    · rw [e, decide_eq_true rfl]
      rfl
    · have : q.1 ≠ p.1 := fun z => n1 (by
        show q.1 ∈ _
        rw [z]
        exact List.mem_map_of_mem (f := fun x : Int × α => x.1) e)
      rw [decide_eq_false this]
      exact ih n2 p e
theorem polys_ok {B N : Nat} {C : Nat → List Int} {f : Nat → Option Int} {T : Table_} (h : IsT B N C f T) : Ok (m_Table_polys T) (· = T.own_polys) := by
  obtain ⟨L, h1, _, h2, h3⟩ := h.lst
  unfold m_Table_polys
  refine Ok.bndE (x := T.own_polys) ?_ Ok.eq
  rw [h3, keys_mapN (φ := fun d => (⟨C d⟩ : Poly_))]
  refine (Ok.map (g := fun x : Int => (x, (⟨C x.toNat⟩ : Poly_))) fun x hx => ?_).mono fun z hz => ?_
  · obtain ⟨d, hd, rfl⟩ := List.mem_map.mp hx
    refine Ok.bndE (Ok.opt (x := (⟨C d⟩ : Poly_)) ?_) (Ok.ret (by rw [Int.toNat_natCast]))
    rw [dget_mapN (φ := fun d => (⟨C d⟩ : Poly_)), if_pos hd]
  · rw [hz, List.map_map]
    rfl
theorem poly_dec : ∀ p q : Poly_, PyData.eqv (PyData.list (p.own_coefs.map .int)) (PyData.list (q.own_coefs.map .int)) = true ↔ p = q := fun p q => by
  rw [eqv_ints]
  cases p
  cases q
  simp
theorem eqL_polys : ∀ xs ys : List (Int × Poly_), eqL (eqP2 (fun x y : Int => decide (x = y)) (fun x y : Poly_ => PyData.eqv (PyData.list (x.own_coefs.map .int)) (PyData.list (y.own_coefs.map .int)))) xs ys = true ↔ xs = ys
  | [], [] => by simp [eqL]
  | [], y :: ys => by simp [eqL]
  | x :: xs, [] => by simp [eqL]
  | x :: xs, y :: ys => by
    rw [eqL, Bool.and_eq_true, eqL_polys xs ys]
    unfold eqP2
    rw [Bool.and_eq_true, poly_dec, decide_eq_true_iff, List.cons.injEq]
    cases x
    cases y
    simp
theorem eq_ok {B N B' N' : Nat} {C C' : Nat → List Int} {f f' : Nat → Option Int} {T S : Table_} (h : IsT B N C f T) (k : IsT B' N' C' f' S) : Ok (m_Table_eq T S) (fun b => b = true ↔ T = S) := by
  unfold m_Table_eq
  rw [bnd_ret, if_neg (by decide)]
  refine Ok.bnd (J := fun b => b = true ↔ T = S) ?_ fun b hb => Ok.ret hb
  refine Ok.bndE (x := eqL (eqP2 (fun x y : Int => decide (x = y)) (fun x y : Poly_ => PyData.eqv (PyData.list (x.own_coefs.map .int)) (PyData.list (y.own_coefs.map .int)))) T.own_polys S.own_polys) ?_ ?_
  · refine Ok.bndE (Ok.noX (polys_ok h)) ?_
    exact Ok.bndE (Ok.noX (polys_ok k)) Ok.eq
  · by_cases e : T.own_polys = S.own_polys
    · rw [if_pos ((eqL_polys _ _).mpr e)]
      refine Ok.ret ?_
      obtain ⟨L, h1, _, h2, h3⟩ := h.lst
      obtain ⟨K, k1, _, k2, k3⟩ := k.lst
      obtain ⟨ks, h4, _, _, h5, h6⟩ := h.sgl
      obtain ⟨js, k4, _, _, k5, k6⟩ := k.sgl
      have nT : (T.own_singles.map (·.1)).Nodup := by
        rw [h6, keys_mapN (φ := fun k => (f k).getD 0), List.Nodup, List.pairwise_map]
        exact h4.imp fun h => by omega
      constructor
      · intro hd
        unfold deqI at hd
        rw [Bool.and_eq_true] at hd
        obtain ⟨d1, d2⟩ := hd
        have d1 : T.own_singles.length = S.own_singles.length := by simpa using d1
        have d2 := List.all_eq_true.mp d2
        have sub : ∀ n ∈ ks, n ∈ js ∧ (f n).getD 0 = (f' n).getD 0 := fun n hn => by
          have := of_decide_eq_true (d2 ((n : Int), (f n).getD 0) (by rw [h6]; exact List.mem_map.mpr ⟨n, hn, rfl⟩))
          rw [k6, dget_mapN (φ := fun k => (f' k).getD 0)] at this
          split at this
          · rename_i q
            exact ⟨q, (Option.some.inj this).symm⟩
          · cases this
        rw [h6, k6, List.length_map, List.length_map] at d1
        have ek : ks = js := asc_uniq h4 k4 fun n => ⟨fun hn => (sub n hn).1, fun hn => Decidable.byContradiction fun hn' => by
          have := len_nodup (xs := n :: ks) (ys := js) (List.nodup_cons.mpr ⟨hn', h4.imp fun h => Nat.ne_of_lt h⟩) fun x hx => by
            rcases List.mem_cons.mp hx with z | z
            · exact z ▸ hn
            · exact (sub x z).1
          rw [List.length_cons] at this
          omega⟩
        have eS : T.own_singles = S.own_singles := by
          rw [h6, k6, ← ek]
          exact List.map_congr_left fun n hn => by rw [(sub n hn).2]
        have eL : divsL L = divsL K := by
          have := congrArg (fun xs : List (Int × Poly_) => xs.map fun p => p.1.toNat) e
          rw [h3, k3] at this
          simp only [List.map_map] at this
          have id : ∀ (xs : List Nat) (D : Nat → List Int), xs.map ((fun p : Int × Poly_ => p.1.toNat) ∘ fun d : Nat => ((d : Int), (⟨D d⟩ : Poly_))) = xs := fun xs D => by
            conv => rhs; rw [← List.map_id' xs]
            exact List.map_congr_left fun x _ => Int.toNat_natCast x
          rwa [id, id] at this
        have eL := divsL_inj h1.1 k1.1 eL
        cases T
        cases S
        simp only at e eS h2 k2
        rw [e, eS, h2, k2, eL]
      · intro hTS
        subst hTS
        unfold deqI
        rw [Bool.and_eq_true]
        refine ⟨by simp, ?_⟩
        unfold dsubI
        rw [List.all_eq_true]
        exact fun p hp => decide_eq_true (dget_self nT p hp)
    · rw [if_neg (fun z => e ((eqL_polys _ _).mp z))]
      exact Ok.ret ⟨fun z => absurd z (by decide), fun z => absurd (congrArg Table_.own_polys z) e⟩
theorem bool_ok {B N : Nat} {C : Nat → List Int} {g : Nat → Option Int} {D : Table_} (h : IsT B N C g D) : Ok (m_Table_bool D) (fun b => ((∀ n, 0 < n → C n = []) → (∀ n v, g n = some v → v = 0) → b = false) ∧ (b = false → ∀ n, 0 < n → num C g n = 0)) := by
  obtain ⟨L, h1, _, h2, h3⟩ := h.lst
  obtain ⟨ks, h4, _, h8, h5, h6⟩ := h.sgl
  unfold m_Table_bool
  refine Ok.bnd (J := fun b => ((∀ n, 0 < n → C n = []) → (∀ n v, g n = some v → v = 0) → b = false) ∧ (b = false → ∀ n, 0 < n → num C g n = 0)) ?_ fun b hb => Ok.ret hb
  refine Ok.bndE (x := ((dvs L).map fun x : Int => C x.toNat).any fun y => !y.isEmpty) ?_ ?_
  · rw [h3, keys_mapN (φ := fun d => (⟨C d⟩ : Poly_))]
    refine Ok.bndE (Ok.map (g := fun x : Int => C x.toNat) fun x hx => ?_) Ok.eq
    obtain ⟨d, hd, rfl⟩ := List.mem_map.mp hx
    refine Ok.bndE (Ok.opt (x := (⟨C d⟩ : Poly_)) ?_) (Ok.ret (by rw [Int.toNat_natCast]))
    rw [dget_mapN (φ := fun d => (⟨C d⟩ : Poly_)), if_pos hd]
  · have all : ((dvs L).map fun x : Int => C x.toNat).any (fun y => !y.isEmpty) = false ↔ ∀ d, d ∣ L → C d = [] := by
      rw [List.any_eq_false]
      constructor
      · intro q d hd
        have := q (C d) (List.mem_map.mpr ⟨(d : Int), List.mem_map.mpr ⟨d, (mem_divsL h1.1).mpr hd, rfl⟩, by rw [Int.toNat_natCast]⟩)
        simpa using this
      · intro q y hy
        obtain ⟨x, hx, rfl⟩ := List.mem_map.mp hy
        obtain ⟨d, hd, rfl⟩ := List.mem_map.mp hx
        rw [Int.toNat_natCast, q d ((mem_divsL h1.1).mp hd)]
        decide
    by_cases q : ((dvs L).map fun x : Int => C x.toNat).any (fun y => !y.isEmpty) = true
    · rw [if_pos q]
      refine Ok.ret ⟨fun e _ => ?_, fun z => absurd z (by decide)⟩
      have := all.mpr fun d hd => e d (Nat.pos_of_dvd_of_pos hd h1.1)
      rw [this] at q
      exact q.symm
    · have q := all.mp (by simpa using q)
      rw [if_neg (by rw [all.mpr q]; decide)]
      have cz : ∀ n, 0 < n → C n = [] := fun n hn => by
        rw [h1.2.1 n hn]
        exact q _ (Nat.gcd_dvd_right n L)
      refine Ok.ret ⟨fun _ e => ?_, fun e n hn => ?_⟩
      · have : ks = [] := by
          refine List.eq_nil_iff_forall_not_mem.mpr fun n hn => ?_
          obtain ⟨v, q1, q2⟩ := (h5 n).mp hn
          rw [cz n (h8 n hn).1] at q2
          exact q2 (e n v q1)
        rw [h6, this]
        rfl
      · have e : D.own_singles = [] := by simpa using e
        rw [num_dget h, e, cz n hn]
        rfl
end K19
namespace K19
open Mi
open PySem L2 Evl
def nb2 (d : PyData) (lo hi : Int) : Bool := match d with
  | .int i => decide (lo ≤ i) && decide (i ≤ hi)
  | _ => false
def nb3 (d : PyData) (lo : Int) : Bool := match d with
  | .int i => decide (lo ≤ i)
  | _ => false
theorem whole1 (d : PyData) : Ok (m_is_whole_v1 d) (· = whole d) := whole_ok d
theorem whole_int {d : PyData} (h : whole d = true) : ∃ i, d = .int i := by
  cases d with
  | int i => exact ⟨i, rfl⟩
  | _ => exact absurd (show false = true from h) (by decide)
theorem nb2_ok (d : PyData) (lo hi : Int) : Ok (m_is_number_v2 d lo hi) (· = nb2 d lo hi) := by
  unfold m_is_number_v2
  refine Ok.bndE ?_ Ok.eq
  refine Ok.bndE (Ok.noX (whole1 d)) ?_
  cases hw : whole d with
  | false =>
    rw [if_neg (by decide)]
    refine Ok.ret ?_
    cases d with
    | int i => exact absurd (show true = false from hw) (by decide)
    | _ => rfl
  | true =>
    obtain ⟨i, e⟩ := whole_int hw
    subst e
    rw [if_pos rfl]
    refine Ok.bndE (x := decide (lo ≤ i)) (Ok.bndE (x := i) Ok.eq Ok.eq) ?_
    cases h : decide (lo ≤ i) with
    | false =>
      rw [if_neg (by decide)]
      exact Ok.ret (by show false = (decide (lo ≤ i) && _); rw [h]; rfl)
    | true =>
      rw [if_pos rfl]
      refine Ok.bndE (x := false) Ok.eq ?_
      rw [if_neg (by decide)]
      exact Ok.bndE (x := i) Ok.eq (Ok.ret (by show _ = (decide (lo ≤ i) && _); rw [h]; rfl))
theorem nb3_ok (d : PyData) (lo : Int) : Ok (m_is_number_v3 d lo ()) (· = nb3 d lo) := by
  unfold m_is_number_v3
  refine Ok.bndE ?_ Ok.eq
  refine Ok.bndE (Ok.noX (whole1 d)) ?_
  cases hw : whole d with
  | false =>
    rw [if_neg (by decide)]
    refine Ok.ret ?_
    cases d with
    | int i => exact absurd (show true = false from hw) (by decide)
    | _ => rfl
  | true =>
    obtain ⟨i, e⟩ := whole_int hw
    subst e
    rw [if_pos rfl]
    refine Ok.bndE (x := decide (lo ≤ i)) (Ok.bndE (x := i) Ok.eq Ok.eq) ?_
    cases h : decide (lo ≤ i) with
    | false =>
      rw [if_neg (by decide)]
      exact Ok.ret (by show false = decide (lo ≤ i); rw [h])
    | true =>
      rw [if_pos rfl]
      refine Ok.bndE (x := true) Ok.eq ?_
      rw [if_pos rfl]
      exact Ok.ret (by show true = decide (lo ≤ i); rw [h])
theorem need2_thr {d : PyData} {lo hi : Int} (h : nb2 d lo hi = false) : Thr (m_need_number_v2 d lo hi) ⟨"InvalidNumber", [d]⟩ := by
  unfold m_need_number_v2
  refine Thr.after (x := true) (Ok.bndE (Ok.noX (nb2_ok d lo hi)) (Ok.ret (by rw [h]; rfl))) ?_
  rw [if_pos rfl]
  exact Thr.retB Thr.thr
theorem need3_thr {d : PyData} {lo : Int} (h : nb3 d lo = false) : Thr (m_need_number_v3 d lo ()) ⟨"InvalidNumber", [d]⟩ := by
  unfold m_need_number_v3
  refine Thr.after (x := true) (Ok.bndE (Ok.noX (nb3_ok d lo)) (Ok.ret (by rw [h]; rfl))) ?_
  rw [if_pos rfl]
  exact Thr.retB Thr.thr
theorem fn : ftb.lookup "InvalidNumber" = some (some ("given" : Str)) := by decide +kernel
theorem gotT {w : W PyData} {e : Er} {x : PyData} (h : Thr w e) (hf : Ok (fieldW ftb e) (· = x)) : Ok (noX (m_law_got w)) (· = (Str.ofString e.cls, x)) := got_thr h hf
theorem gotR' {w : W PyData} (h : Ok w fun _ => True) : Ok (noX (m_law_got w)) (fun z => z.1 = ("" : Str)) := (got_ret h).mono fun z ⟨h1, _⟩ => h1
theorem cut_pre {α : Type} {xs : List α} {n : Nat} (h : n ≤ xs.length) : cutL xs none (some (n : Int)) = xs.take n := by
  have q : min n xs.length = n := by omega
  unfold cutL
  rw [HT.sIx_nat, q]
  simp [HT.sIx]
theorem cut_post {α : Type} {xs : List α} {n : Nat} (h : n ≤ xs.length) : cutL xs (some (n : Int)) none = xs.drop n := by
  have q : min n xs.length = n := by omega
  unfold cutL
  rw [HT.sIx_nat, q]
  simp [HT.sIx]
  exact List.take_of_length_le (by rw [List.length_drop]; exact Nat.le_refl _)
end K19
namespace K19
open Mi
open PySem L2 Evl
theorem ftt : ftb.lookup "InvalidTable" = some (some ("at" : Str)) := by decide +kernel
theorem fsg : ftb.lookup "InvalidSingles" = some (some ("at" : Str)) := by decide +kernel
def pairB (d : PyData) : Bool := match d with
  | .tuple [a, b] => nb3 a 1 && whole b
  | _ => false
def pairD (x : Int × Int) : PyData := .tuple [.int x.1, .int x.2]
def condS (d : PyData) : W Bool := bnd (ret (!(tyD d == "tuple"))) fun c15 => if c15 = true then ret true else (bnd (bnd (lenD d) fun t6 => ret (!decide (t6 = (2 : Int)))) fun c14 => if c14 = true then ret true else (bnd (bnd (idxD d ((0 : Int))) fun t8 => bnd (noX (m_is_number_v3 t8 ((1 : Int)) (()))) fun r9 => ret (!r9)) fun c13 => if c13 = true then ret true else (bnd (idxD d ((1 : Int))) fun t11 => bnd (noX (m_is_whole_v1 t11)) fun r12 => ret (!r12))))
theorem cond_ok (d : PyData) : Ok (condS d) (· = !pairB d) := by
  unfold condS
  cases d with
  | tuple ds =>
    refine Ok.bndE (x := false) Ok.eq ?_
    rw [if_neg (by decide)]
    match ds with
    | [a, b] =>
      have i0 : Ok (idxD (.tuple [a, b]) 0) (· = a) := Ok.idxN (xs := [a, b]) (n := 0) rfl
      have i1 : Ok (idxD (.tuple [a, b]) 1) (· = b) := Ok.idxN (xs := [a, b]) (n := 1) rfl
      refine Ok.bndE (x := false) (Ok.bndE (x := 2) Ok.eq Ok.eq) ?_
      rw [if_neg (by decide)]
      refine Ok.bndE (x := !nb3 a 1) (Ok.bndE i0 (Ok.bndE (Ok.noX (nb3_ok a 1)) Ok.eq)) ?_
      show Ok _ (· = !(nb3 a 1 && whole b))
      cases nb3 a 1 with
      | false =>
        rw [if_pos (by decide)]
        exact Ok.ret rfl
      | true =>
        rw [if_neg (by decide)]
        exact Ok.bndE i1 (Ok.bndE (Ok.noX (whole1 b)) (Ok.ret rfl))
    | [] =>
      refine Ok.bndE (x := true) (Ok.bndE (x := 0) Ok.eq Ok.eq) ?_
      rw [if_pos rfl]
      exact Ok.ret rfl
    | [_] =>
      refine Ok.bndE (x := true) (Ok.bndE (x := 1) Ok.eq Ok.eq) ?_
      rw [if_pos rfl]
      exact Ok.ret rfl
    | a :: b :: c :: ds =>
      refine Ok.bndE (x := true) (Ok.bndE (x := ((a :: b :: c :: ds).length : Int)) Ok.eq (Ok.ret ?_)) ?_
      · rw [decide_eq_false (by simp only [List.length_cons]; omega)]
        rfl
      · rw [if_pos rfl]
        exact Ok.ret rfl
  | _ => exact Ok.bndE (x := true) Ok.eq (by rw [if_pos rfl]; exact Ok.ret rfl)
theorem pair_good {x : Int × Int} (h : 1 ≤ x.1) : pairB (pairD x) = true := by
  show (decide (1 ≤ x.1) && true) = true
  rw [decide_eq_true h]
  rfl
theorem step_thr {s : List (Int × Bool)} {i : Int} {d : PyData} (h : pairB d = false) : Thr (m_need_singles_v3_l1 s (i, d)) ⟨"InvalidSingles", [.int i]⟩ := by
  unfold m_need_singles_v3_l1
  refine Thr.after (x := true) ((cond_ok d).mono fun b e => by rw [e, h]; rfl) ?_
  rw [if_pos rfl]
  exact Thr.retB Thr.thr
theorem i0D (x : Int × Int) : Ok (idxD (pairD x) ((0 : Int))) (· = PyData.int x.1) := (Ok.idxN (xs := [PyData.int x.1, PyData.int x.2]) (n := 0) rfl : Ok (idxD (PyData.tuple [PyData.int x.1, PyData.int x.2]) 0) (· = PyData.int x.1))
theorem key_at (x : Int × Int) : Ok (bnd (idxD (pairD x) ((0 : Int))) fun t21 => asInt t21) (· = x.1) := Ok.bndE (x := .int x.1) (i0D x) Ok.eq
theorem step_dup {s : List (Int × Bool)} {i : Int} {x : Int × Int} (h : 1 ≤ x.1) (hm : x.1 ∈ s.map (·.1)) : Thr (m_need_singles_v3_l1 s (i, pairD x)) ⟨"InvalidSingles", [.int i]⟩ := by
  unfold m_need_singles_v3_l1
  refine Thr.after (x := false) ((cond_ok _).mono fun b e => by rw [e, pair_good h]; rfl) ?_
  rw [if_neg (by decide)]
  refine Thr.after (x := true) (Ok.bndE (x := .int x.1) (i0D x) (Ok.bndE (x := x.1) Ok.eq (Ok.ret ?_))) ?_
  · obtain ⟨v, hv, _⟩ := dget_mem hm
    show (dget s x.1).isSome = true
    rw [hv]
    rfl
  · rw [if_pos rfl]
    exact Thr.retB Thr.thr
theorem step_ok {s : List (Int × Bool)} {i : Int} {x : Int × Int} (h : 1 ≤ x.1) (hm : x.1 ∉ s.map (·.1)) (hl : s.length < sizeLine) : Ok (m_need_singles_v3_l1 s (i, pairD x)) (· = dput s x.1 true) := by
  unfold m_need_singles_v3_l1
  refine Ok.bndE (x := false) ((cond_ok _).mono fun b e => by rw [e, pair_good h]; rfl) ?_
  rw [if_neg (by decide)]
  refine Ok.bndE (x := false) (Ok.bndE (x := .int x.1) (i0D x) (Ok.bndE (x := x.1) Ok.eq (Ok.ret ?_))) ?_
  · show (dget s x.1).isSome = false
    rw [dget_none hm]
    rfl
  · rw [if_neg (by decide)]
    exact Ok.bndE (x := true) Ok.eq (Ok.bndE (key_at x) (Ok.chk hl (Ok.bndE Ok.eq (Ok.ret rfl))))
theorem singles_thr {xs : List (Int × Int)} {late : List PyData} {i : Nat} (hx : ∀ x ∈ xs, 1 ≤ x.1) (nd : (xs.map (·.1)).Nodup) (hi : i ≤ xs.length) (hl : i < late.length) (hxl : xs.length ≤ 1000) (h1 : ∀ k (hk : k < i), late[k]'(by omega) = pairD (xs[k]'(by omega))) (h2 : pairB late[i] = false ∨ ∃ x ∈ xs.take i, late[i] = pairD x) : Thr (m_need_singles_v3 late) ⟨"InvalidSingles", [.int i]⟩ := by
  unfold m_need_singles_v3
  refine Thr.after (x := false) Ok.eq ?_
  rw [if_neg (by decide)]
  refine Thr.after Ok.eq (Thr.bnd (Thr.enum hl (fun k (s : List (Int × Bool)) => s.map (·.1) = (xs.take k).map (·.1)) (by simp) (fun k hk s hs => ?_) fun s hs => ?_))
  · have hk2 : k < xs.length := by omega
    have hlen : s.length ≤ 1000 := by
      have h := congrArg List.length hs
      rw [List.length_map, List.length_map, List.length_take] at h
      omega
    have hnot : xs[k].1 ∉ s.map (·.1) := by
      rw [hs]
      intro hm
      rw [List.map_take, List.mem_take_iff_getElem] at hm
      obtain ⟨j, hj, e⟩ := hm
      rw [List.length_map] at hj
      rw [List.getElem_map] at e
      have := List.pairwise_iff_getElem.mp nd j k (by rw [List.length_map]; omega) (by rw [List.length_map]; omega) (by omega)
      rw [List.getElem_map, List.getElem_map] at this
      exact this e
    rw [h1 k hk]
    refine (step_ok (hx _ (List.getElem_mem hk2)) hnot (Nat.lt_of_le_of_lt hlen (by decide))).mono fun s' e => ?_
    subst e
    rw [dput_keys]
    show (if xs[k].1 ∈ s.map (·.1) then _ else _) = _
    rw [if_neg hnot, hs, List.take_succ_eq_append_getElem hk2, List.map_append]
    rfl
  · rcases h2 with h2 | ⟨x, h2, h3⟩
    · exact step_thr h2
    · rw [h3]
      refine step_dup (hx x (List.mem_of_mem_take h2)) ?_
      rw [hs]
      exact List.mem_map_of_mem h2
theorem singles_none {d : PyData} (h : (tyD d == "list" || tyD d == "tuple") = false) : Thr (m_need_singles_v2 d) ⟨"InvalidSingles", [.int (-1)]⟩ := by
  unfold m_need_singles_v2
  refine Thr.after (x := true) (Ok.ret (by rw [h]; rfl)) ?_
  rw [if_pos rfl]
  exact Thr.retB Thr.thr
theorem need0_ok {m : Nat} (hm : 0 < m) (hb : m ≤ 1000000000) : Ok (m_need_number_v0 (m : Int) 1 1000000000) (fun _ => True) := by
  unfold m_need_number_v0
  refine Ok.bndE (x := false) (Ok.bndE (Ok.noX (is_number0_ok hm hb)) Ok.eq) ?_
  rw [if_neg (by decide)]
  exact Ok.ret trivial
theorem polys_num {d : PyData} {p : Mx Poly_} (h : nb2 d 1 1000000000 = false) : Thr (m_need_polys_v2 d p) ⟨"InvalidNumber", [d]⟩ := by
  unfold m_need_polys_v2
  exact Thr.bnd (need2_thr h)
theorem polys_none {m : Nat} {p : Mx Poly_} (hm : 0 < m) (hb : m ≤ 1000000000) (h : p.isSeq = false ∨ ∃ xs : List Poly_, p = .lst xs ∧ xs.length ≠ (divsL m).length) : Thr (m_need_polys_v3 (m : Int) p) ⟨"InvalidTable", [.int (-1)]⟩ := by
  unfold m_need_polys_v3
  refine Thr.afterP (Ok.noX (need0_ok hm hb)) fun _ _ => ?_
  refine Thr.after (x := true) ?_ (by rw [if_pos rfl]; exact Thr.retB Thr.thr)
  rcases h with h | ⟨xs, e, h⟩
  · refine Ok.bndE (x := true) (Ok.ret (by rw [h]; rfl)) ?_
    rw [if_pos rfl]
    exact Ok.eq
  · subst e
    refine Ok.bndE (x := false) Ok.eq ?_
    rw [if_neg (by decide)]
    refine Ok.bndE (x := (xs.length : Int)) Ok.eq (Ok.bndE (Ok.noX (divs_ok hm (by omega))) (Ok.ret ?_))
    have : ¬ ((xs.length : Int) = ((dvs m).length : Int)) := by
      rw [List.length_map]
      omega
    rw [decide_eq_false this]
    rfl
theorem polys_thr {m : Nat} {ps : List (Mx Poly_)} {i : Nat} (hm : 0 < m) (hb : m ≤ 1000000000) (hl : ps.length = (divsL m).length) (hi : i < ps.length) (h1 : ∀ k (hk : k < i), (ps[k]'(by omega)).isObj = true) (h2 : ps[i].isObj = false) : Thr (m_need_polys_v4 (m : Int) ps) ⟨"InvalidTable", [.int i]⟩ := by
  unfold m_need_polys_v4
  refine Thr.afterP (Ok.noX (need0_ok hm hb)) fun _ _ => ?_
  refine Thr.after (x := false) ?_ ?_
  · refine Ok.bndE (x := false) Ok.eq ?_
    rw [if_neg (by decide)]
    refine Ok.bndE (Ok.noX (divs_ok hm (by omega))) (Ok.ret ?_)
    have : ((ps.length : Int) = ((dvs m).length : Int)) := by rw [List.length_map, hl]
    rw [decide_eq_true this]
    rfl
  · rw [if_neg (by decide)]
    refine Thr.after Ok.eq (Thr.bnd (Thr.enum hi (fun _ _ => True) trivial (fun k hk s _ => ?_) fun s _ => ?_))
    · unfold m_need_polys_v4_l1
      refine Ok.bndE (x := false) (Ok.ret (by show (!(ps[k]'_).isObj) = false; rw [h1 k hk]; rfl)) ?_
      rw [if_neg (by decide)]
      exact Ok.ret trivial
    · unfold m_need_polys_v4_l1
      refine Thr.after (x := true) (Ok.ret (by show (!(ps[i]'_).isObj) = true; rw [h2]; rfl)) ?_
      rw [if_pos rfl]
      exact Thr.retB Thr.thr
theorem init2_thr {d : PyData} {p : Mx Poly_} {e : Er} (h : Thr (m_need_polys_v2 d p) e) : Thr (m_Table_init_v2 d p ()) e := by
  unfold m_Table_init_v2
  refine Thr.retB (Thr.retB (Thr.after (x := true) Ok.eq ?_))
  rw [if_pos rfl]
  exact Thr.bnd h
theorem init3_thr {m : Int} {p : Mx Poly_} {e : Er} (h : Thr (m_need_polys_v3 m p) e) : Thr (m_Table_init_v3 m p ()) e := by
  unfold m_Table_init_v3
  refine Thr.retB (Thr.retB (Thr.after (x := true) Ok.eq ?_))
  rw [if_pos rfl]
  exact Thr.bnd h
theorem init4_thr {m : Int} {p : List (Mx Poly_)} {e : Er} (h : Thr (m_need_polys_v4 m p) e) : Thr (m_Table_init_v4 m p ()) e := by
  unfold m_Table_init_v4
  refine Thr.retB (Thr.retB (Thr.after (x := true) Ok.eq ?_))
  rw [if_pos rfl]
  exact Thr.bnd h
theorem init5_thr {m : Int} {p : List Poly_} {s : List PyData} {e : Er} (hp : Ok (m_need_polys_v0 m p) fun _ => True) (h : Thr (m_need_singles_v3 s) e) : Thr (m_Table_init_v5 m p s) e := by
  unfold m_Table_init_v5
  refine Thr.retB (Thr.retB (Thr.after (x := true) Ok.eq ?_))
  rw [if_pos rfl]
  exact Thr.afterP (Ok.noX hp) fun _ _ => Thr.bnd h
theorem init6_thr {m : Int} {p : List Poly_} {s : PyData} {e : Er} (hp : Ok (m_need_polys_v0 m p) fun _ => True) (h : Thr (m_need_singles_v2 s) e) : Thr (m_Table_init_v6 m p s) e := by
  unfold m_Table_init_v6
  refine Thr.retB (Thr.retB (Thr.after (x := true) Ok.eq ?_))
  rw [if_pos rfl]
  exact Thr.afterP (Ok.noX hp) fun _ _ => Thr.bnd h
theorem call1_thr {T : Table_} {d : PyData} (h : nb3 d 1 = false) : Thr (m_Table_call_v1 T d) ⟨"InvalidNumber", [d]⟩ := by
  unfold m_Table_call_v1
  exact Thr.bnd (need3_thr h)
theorem always1_thr {d : PyData} (h : whole d = false) : Thr (m_Table_always_v1 d) ⟨"InvalidNumber", [d]⟩ := by
  unfold m_Table_always_v1
  refine Thr.after (x := true) (Ok.bndE (Ok.noX (whole1 d)) (Ok.ret (by rw [h]; rfl))) ?_
  rw [if_pos rfl]
  exact Thr.retB Thr.thr
def ThrJ {α : Type} (w : W α) (J : Er → Prop) : Prop := ∀ P E, (∀ e, J e → E e) → w P E
theorem got_thrJ {w : W PyData} (h : ThrJ w fun e => e.cls = "InvalidNumber" ∧ Ok (fieldW ftb e) fun _ => True) : Ok (noX (m_law_got w)) (fun z => z.1 = ("InvalidNumber" : Str)) := by
  refine Ok.noX fun P E hp => ?_
  show Mi.bnd w (fun x => ret (("" : Str), x)) P fun e => (bnd (noX (fieldW ftb e)) fun x => ret (Str.ofString e.cls, x)) P E
  refine h _ _ fun e ⟨h1, h2⟩ => ?_
  exact (Ok.bnd (Ok.noX h2) fun x _ => Ok.ret (by show Str.ofString e.cls = _; rw [h1]) : Ok (bnd (noX (fieldW ftb e)) fun x => ret (Str.ofString e.cls, x)) (fun z => z.1 = ("InvalidNumber" : Str))) P E hp
theorem all5 {w1 w2 w3 w4 w5 : W PyData} {r1 r2 r3 r4 r5 : Str × PyData} (h1 : Ok (noX (m_law_got w1)) (· = r1)) (h2 : Ok (noX (m_law_got w2)) (· = r2)) (h3 : Ok (noX (m_law_got w3)) (· = r3)) (h4 : Ok (noX (m_law_got w4)) (· = r4)) (h5 : Ok (noX (m_law_got w5)) (· = r5)) : Ok (m_law_all_got [w1, w2, w3, w4, w5]) (· = [r1, r2, r3, r4, r5]) := by
  unfold m_law_all_got
  exact Ok.bndE (Ok.bndE h1 (Ok.bndE (Ok.bndE h2 (Ok.bndE (Ok.bndE h3 (Ok.bndE (Ok.bndE h4 (Ok.bndE (Ok.bndE h5 (Ok.bndE Ok.eq Ok.eq)) Ok.eq)) Ok.eq)) Ok.eq)) Ok.eq)) Ok.eq
theorem all3 {w1 w2 w3 : W PyData} {r1 : Str × PyData} {J2 J3 : Str × PyData → Prop} (h1 : Ok (noX (m_law_got w1)) (· = r1)) (h2 : Ok (noX (m_law_got w2)) J2) (h3 : Ok (noX (m_law_got w3)) J3) : Ok (m_law_all_got [w1, w2, w3]) (fun r => ∃ r2 r3, J2 r2 ∧ J3 r3 ∧ r = [r1, r2, r3]) := by
  unfold m_law_all_got
  refine Ok.bnd (J := fun r => ∃ r2 r3, J2 r2 ∧ J3 r3 ∧ r = [r1, r2, r3]) (Ok.bndE h1 (Ok.bnd (J := fun r => ∃ r2 r3, J2 r2 ∧ J3 r3 ∧ r = [r2, r3]) (Ok.bnd h2 fun r2 q2 => Ok.bnd (J := fun r => ∃ r3, J3 r3 ∧ r = [r3]) (Ok.bnd h3 fun r3 q3 => Ok.bndE Ok.eq (Ok.ret ⟨r3, q3, rfl⟩)) fun r ⟨r3, q3, e⟩ => Ok.ret ⟨r2, r3, q2, q3, by rw [e]⟩) fun r ⟨r2, r3, q2, q3, e⟩ => Ok.ret ⟨r2, r3, q2, q3, by rw [e]⟩)) fun r hr => Ok.ret hr
end K19
namespace K19
open PySem L2 Evl Mi
theorem need_polysT_ok {m : Nat} {polys : List Poly_} (hm : 0 < m) (hb : m ≤ 1000000000) (hl : polys.length = (divsL m).length) : Ok (m_need_polys_v1 (m : Int) polys) (fun _ => True) := by
  unfold m_need_polys_v1
  refine Ok.bnd (J := fun _ => True) (Ok.noX ?_) fun _ _ => ?_
  · unfold m_need_number_v0
    refine Ok.bndE (x := false) (Ok.bndE (Ok.noX (is_number0_ok hm (by omega))) Ok.eq) ?_
    rw [if_neg (by decide)]
    exact Ok.ret trivial
  · refine Ok.bndE (x := false) ?_ ?_
    · rw [bnd_ret, if_neg (by decide)]
      refine Ok.bndE (Ok.noX (divs_ok hm (by omega))) (Ok.ret ?_)
      have : ((polys.length : Int) = ((dvs m).length : Int)) := by rw [List.length_map, hl]
      rw [decide_eq_true this]
      rfl
    · rw [if_neg (by decide), bnd_ret]
      exact Ok.bnd (J := fun _ => True) (Ok.forW (fun _ _ => True) trivial (fun k hk s _ => Ok.ret trivial) fun _ _ => trivial) fun _ _ => Ok.ret trivial
theorem init1_ok {B N : Nat} {C : Nat → List Int} {f : Nat → Option Int} {late : List (Int × Int)} {m : Nat} (hm : 0 < m) (hB : m ≤ B) (hB2 : B ≤ 1000000000) (hC : ∀ n, 0 < n → (C n).length ≤ 1000) (hv : Val C m)
    (hl : (late.map (·.1)).Nodup) (hk : ∀ k ∈ late.map (·.1), ∃ n : Nat, k = (n : Int) ∧ 0 < n ∧ n < 2 ^ 40) (hn : late.length ≤ N) (hN : N ≤ 100000) (hf : ∀ n : Nat, f n = dget late (n : Int)) : Ok (m_Table_init_v1 (m : Int) ((divsL m).map fun d : Nat => (⟨C d⟩ : Poly_)) late) (IsT B N C f) := by
  unfold m_Table_init_v1
  rw [bnd_ret, bnd_ret, bnd_ret, if_pos (by rfl)]
  have ez : (dvs m).zip ((divsL m).map fun d : Nat => (⟨C d⟩ : Poly_)) = (divsL m).map fun d : Nat => ((d : Int), (⟨C d⟩ : Poly_)) := by
    rw [List.zip_map']
  have ek : (((divsL m).map fun d : Nat => ((d : Int), (⟨C d⟩ : Poly_))).map (·.1)).Nodup := by
    rw [keys_mapN (φ := fun d => (⟨C d⟩ : Poly_))]
    exact (dvs_sorted m).imp fun h => Int.ne_of_lt h
  refine Ok.bndE (x := ((divsL m).map fun d : Nat => ((d : Int), (⟨C d⟩ : Poly_)), late)) ?_ ?_
  · refine Ok.bnd (Ok.noX (need_polysT_ok hm (by omega) (by rw [List.length_map]))) fun _ _ => ?_
    refine Ok.bnd (Ok.noX (need_singles_ok hl hk (Nat.le_trans hn hN))) fun _ _ => ?_
    refine Ok.bndE (Ok.bndE (Ok.noX (divs_ok hm (by omega))) Ok.eq) ?_
    rw [bnd_ret, ez, mergeD_self ek, mergeD_self hl]
    exact Ok.eq
  · exact core_ok hm hB (Nat.lt_of_le_of_lt hB2 (by decide)) hC hv (fun d hd => by
      have := dget_mapN (φ := fun d => (⟨C d⟩ : Poly_)) (ks := divsL m) (n := d)
      rw [this, if_pos ((mem_divsL hm).mpr hd)]) hl hk hn hf
end K19
set_option exponentiation.threshold 10000
namespace K19
open Mi
open PySem L2 Evl
theorem polyl_ok (N : Nat) (hN : N ≤ 1000) : Ok (bnd (rng1 (N : Int)) fun l15 => mapW (fun (x16 : Int) => noX (m_Poly_init [x16])) l15) (· = (List.range N).map fun k : Nat => (⟨trim [(k : Int)]⟩ : Poly_)) :=
  Ok.bndE (Ok.rng1 (by omega)) (Ok.mapR0 fun k _ => Ok.noX (init_ok [(k : Int)]))
def rowsC (m : Nat) (g : Nat → List Int) (n : Nat) : List Int := trim (g ((divsL m).idxOf (Nat.gcd n m)))
theorem rowsC_val (m : Nat) (g : Nat → List Int) : Val (rowsC m g) m := fun n hn => by
  unfold rowsC
  rw [Nat.gcd_eq_left (Nat.gcd_dvd_right n m)]
theorem rowsC_list {m N : Nat} {g : Nat → List Int} (hm : 0 < m) (hN : N = (divsL m).length) : ((List.range N).map fun k : Nat => (⟨trim (g k)⟩ : Poly_)) = (divsL m).map fun d : Nat => (⟨rowsC m g d⟩ : Poly_) := by
  refine List.ext_getElem (by simp [hN]) fun k h1 h2 => ?_
  have hk : k < (divsL m).length := by simpa using h2
  simp only [List.getElem_map, List.getElem_range]
  unfold rowsC
  rw [Nat.gcd_eq_left ((mem_divsL hm).mp (List.getElem_mem hk)), (divsL_nodup m).idxOf_getElem k hk]
theorem rowsC_len (m : Nat) {g : Nat → List Int} (hg : ∀ k, (g k).length ≤ 1) (n : Nat) : (rowsC m g n).length ≤ 1 := Nat.le_trans (trim_len _) (hg _)
structure Sgl (xs : List (Int × Int)) (n : Nat) : Prop where
  ks : xs.map (·.1) = (List.range n).map fun k : Nat => ((1 + 2 * k : Nat) : Int)
  few : n ≤ 3
theorem Ok.mapK {α β : Type} {f : α → W β} {g : α → Int} {p : β → Int} : ∀ {xs : List α}, (∀ x ∈ xs, Ok (f x) fun y => p y = g x) → Ok (mapW f xs) (fun ys => ys.map p = xs.map g)
  | [], _ => Ok.ret rfl
  | x :: xs, h => Ok.bnd (h x List.mem_cons_self) fun y hy => Ok.bnd (Ok.mapK fun z hz => h z (List.mem_cons_of_mem _ hz)) fun ys h1 => Ok.ret (by rw [List.map_cons, List.map_cons, hy, h1])
theorem singles_ok : Ok (bnd (noX (drawW ((4 : Int)))) fun r19 => bnd (rng1 r19) fun l20 => mapW (fun (x21 : Int) => bnd (mulI ((2 : Int)) x21) fun t22 => bnd (noX (drawW ((9 : Int)))) fun r23 => ret ((((1 : Int)) + t22, r23))) l20) (fun xs => ∃ n, Sgl xs n) := by
  refine Ok.bnd (Ok.noX (Ok.draw (by decide) (by decide +kernel))) fun r ⟨r0, r1⟩ => ?_
  obtain ⟨n, rfl⟩ := Int.eq_ofNat_of_zero_le r0
  refine Ok.bndE (Ok.rng1 (by omega)) ((Ok.mapK (p := fun x : Int × Int => x.1) (g := fun x : Int => 1 + 2 * x) fun x hx => ?_).mono fun xs e => ⟨n, ?_, by omega⟩)
  · exact Ok.bndE (Ok.mulL (by decide)) (Ok.bnd (Ok.noX (Ok.draw (by decide) (by decide +kernel))) fun _ _ => Ok.ret rfl)
  · rw [e, List.map_map]
    exact List.map_congr_left fun k _ => by
      show (1 : Int) + 2 * (k : Int) = _
      omega
theorem Sgl.len {xs : List (Int × Int)} {n : Nat} (h : Sgl xs n) : xs.length = n := by
  have := congrArg List.length h.ks
  simpa using this
theorem Sgl.nd {xs : List (Int × Int)} {n : Nat} (h : Sgl xs n) : (xs.map (·.1)).Nodup := by
  rw [h.ks]
  exact List.pairwise_map.mpr (List.nodup_range.imp fun q => by omega)
theorem Sgl.key {xs : List (Int × Int)} {n : Nat} (h : Sgl xs n) : ∀ k ∈ xs.map (·.1), ∃ n : Nat, k = (n : Int) ∧ 0 < n ∧ n < 2 ^ 40 := fun k hk => by
  rw [h.ks] at hk
  obtain ⟨j, hj, rfl⟩ := List.mem_map.mp hk
  have hj := List.mem_range.mp hj
  have := h.few
  exact ⟨1 + 2 * j, rfl, by omega, by omega⟩
theorem Sgl.one {xs : List (Int × Int)} {n : Nat} (h : Sgl xs n) : ∀ x ∈ xs, 1 ≤ x.1 := fun x hx => by
  obtain ⟨n, e, h0, _⟩ := h.key x.1 (List.mem_map_of_mem hx)
  omega
abbrev gk : Nat → List Int := fun k => [(k : Int)]
theorem gk_len : ∀ k, (gk k).length ≤ 1 := fun k => Nat.le_refl 1
theorem made_ok {m n : Nat} {xs : List (Int × Int)} (hm : 0 < m) (hb : m ≤ 12) (h : Sgl xs n) : Ok (m_Table_init_v1 (m : Int) ((List.range (divsL m).length).map fun k : Nat => (⟨trim [(k : Int)]⟩ : Poly_)) xs) (IsT 12 3 (rowsC m gk) (fun n => dget xs (n : Int))) := by
  rw [rowsC_list (g := gk) hm rfl]
  exact init1_ok hm hb (by decide) (fun n _ => Nat.le_trans (rowsC_len m gk_len n) (by decide)) (rowsC_val m gk) h.nd h.key (by rw [h.len]; exact h.few) (by decide) fun n => rfl
theorem call_made {T : Table_} {m : Nat} {xs : List (Int × Int)} (hm : 0 < m) (hb : m ≤ 12) (h : IsT 12 3 (rowsC m gk) (fun n => dget xs (n : Int)) T) : Ok (m_Table_call_v0 T (m : Int)) (fun _ => True) := (call_ok h hm (by omega)).mono fun _ _ => trivial
theorem ev_one (n v : Int) : ev n (trim [v]) = v := by
  rw [ev_trim]
  show v + n * 0 = v
  omega
theorem always_ok (v : Int) : Ok (m_Table_always_v0 v) (IsT 1 0 (fun _ => trim [v]) (fun _ => none)) := by
  unfold m_Table_always_v0
  refine Ok.bndE (x := false) (Ok.bndE (x := true) (Ok.noX Ok.eq) Ok.eq) ?_
  rw [if_neg (by decide)]
  refine Ok.bnd (J := IsT 1 0 (fun _ => trim [v]) (fun _ => none)) ?_ fun T hT => Ok.ret hT
  refine Ok.bndE (Ok.noX (poly_of_ok [v])) ?_
  have h := init0_ok (B := 1) (N := 0) (C := fun _ => trim [v]) (f := fun _ => none) (late := []) (m := 1) (by decide) (by decide) (by decide) (fun n hn => Nat.le_trans (trim_len [v]) (show 1 ≤ 1000 by decide)) (fun n hn => rfl) List.nodup_nil (fun k hk => by simp at hk) (Nat.zero_le _) (by decide) fun n => rfl
  exact Ok.noX h
theorem worth_one {cs : List Int} {n : Int} (h : cs.length ≤ 1) : Ok (m_worth_of ⟨cs⟩ n) (· = ev n cs) := by
  unfold m_worth_of
  rw [bnd_ret, bnd_ret]
  refine Ok.bndE (x := ev n cs) ?_ (by rw [bnd_ret]; exact Ok.eq)
  match cs, h with
  | [], _ => exact Ok.ret rfl
  | [c], _ =>
    refine Ok.bndE (x := ev n [c]) (Ok.bndE (x := 0 * n + c) (Ok.bndE (Ok.mulL (by decide)) Ok.eq) (Ok.ret ?_)) Ok.eq
    show 0 * n + c = c + n * 0
    omega
theorem call_one {B N : Nat} {C : Nat → List Int} {f : Nat → Option Int} {T : Table_} (h : IsT B N C f T) (hC : ∀ n, (C n).length ≤ 1) {n : Nat} (hn : 0 < n) : Ok (m_Table_call_v0 T (n : Int)) (· = num C f n) := call_big h hn (worth_one (hC n))
theorem mod_one {B N : Nat} {cs : List Int} {f : Nat → Option Int} {T : Table_} (h : IsT B N (fun _ => cs) f T) : T.own_modulus = 1 := by
  obtain ⟨L, h1, _, h2, _⟩ := h.lst
  have : L = 1 := Nat.dvd_one.mp (h1.2.2 1 (by decide) fun n hn => rfl)
  rw [h2, this]
  rfl
theorem no_singles {B N : Nat} {C : Nat → List Int} {T : Table_} (h : IsT B N C (fun _ => none) T) : T.own_singles = [] := by
  obtain ⟨ks, _, _, _, h5, h6⟩ := h.sgl
  cases ks with
  | nil => exact h6
  | cons k ks =>
    obtain ⟨v, q, _⟩ := (h5 k).mp List.mem_cons_self
    cases q
theorem singles0_ok {B N : Nat} {C : Nat → List Int} {T : Table_} (h : IsT B N C (fun _ => none) T) : Ok (m_Table_singles T) (· = []) := by
  unfold m_Table_singles
  rw [no_singles h]
  exact Ok.bndE (x := []) Ok.eq Ok.eq
theorem trim0 : trim [(0 : Int)] = [] := by decide +kernel
theorem bool_one {T : Table_} {v : Int} (h : IsT 1 0 (fun _ => trim [v]) (fun _ => none) T) : Ok (m_Table_bool T) (· = !decide (v = 0)) := (bool_ok h).mono fun b ⟨h1, h2⟩ => by
  by_cases hv : v = 0
  · subst hv
    exact h1 (fun _ _ => trim0) fun _ _ e => nomatch e
  · cases b with
    | true => rw [decide_eq_false hv]; rfl
    | false => exact absurd ((h2 rfl 1 (by decide)).symm.trans (ev_one 1 v)).symm hv
theorem dvd_pow_mul {p y : Nat} (hp : Prm p) : ∀ (k x : Nat), x ∣ p ^ k * y → ∃ j, j ≤ k ∧ ∃ z, z ∣ y ∧ x = p ^ j * z
  | 0, x, h => ⟨0, Nat.le_refl 0, x, by simpa using h, by simp⟩
  | k + 1, x, h => by
    have e : p ^ (k + 1) * y = p * (p ^ k * y) := by rw [Nat.pow_succ, Nat.mul_comm (p ^ k) p, Nat.mul_assoc]
    rw [e] at h
    rcases hp.2 (Nat.gcd p x) (Nat.gcd_dvd_left p x) with g | g
    · have g : Nat.Coprime x p := by
        show Nat.gcd x p = 1
        rw [Nat.gcd_comm]
        exact g
      obtain ⟨j, h1, z, h2, h3⟩ := dvd_pow_mul hp k x (g.dvd_of_dvd_mul_left h)
      exact ⟨j, by omega, z, h2, h3⟩
    · have hx : p ∣ x := g ▸ Nat.gcd_dvd_right p x
      obtain ⟨x', rfl⟩ := hx
      have hp0 : 0 < p := Nat.lt_of_lt_of_le (by decide) hp.1
      obtain ⟨j, h1, z, h2, h3⟩ := dvd_pow_mul hp k x' (Nat.dvd_of_mul_dvd_mul_left hp0 h)
      exact ⟨j + 1, by omega, z, h2, by rw [h3, Nat.pow_succ, Nat.mul_comm (p ^ j) p, Nat.mul_assoc]⟩
theorem prm2 : Prm 2 := ⟨by decide, fun d hd => (by decide : ∀ d, d < 3 → d ∣ 2 → d = 1 ∨ d = 2) d (Nat.lt_succ_of_le (Nat.le_of_dvd (by decide) hd)) hd⟩
theorem prm5 : Prm 5 := ⟨by decide, fun d hd => (by decide : ∀ d, d < 6 → d ∣ 5 → d = 1 ∨ d = 5) d (Nat.lt_succ_of_le (Nat.le_of_dvd (by decide) hd)) hd⟩
def L9 : List Nat := [1, 2, 4, 5, 8, 10, 16, 20, 25, 32, 40, 50, 64, 80, 100, 125, 128, 160, 200, 250, 256, 320, 400, 500, 512, 625, 640, 800, 1000, 1250, 1280, 1600, 2000, 2500, 2560, 3125, 3200, 4000, 5000, 6250, 6400, 8000, 10000, 12500, 12800, 15625, 16000, 20000, 25000, 31250, 32000, 40000, 50000, 62500, 64000, 78125, 80000, 100000, 125000, 156250, 160000, 200000, 250000, 312500, 320000, 390625, 400000, 500000, 625000, 781250, 800000, 1000000, 1250000, 1562500, 1600000, 1953125, 2000000, 2500000, 3125000, 3906250, 4000000, 5000000, 6250000, 7812500, 8000000, 10000000, 12500000, 15625000, 20000000, 25000000, 31250000, 40000000, 50000000, 62500000, 100000000, 125000000, 200000000, 250000000, 500000000, 1000000000]
theorem L9_asc : L9.Pairwise (· < ·) := by decide +kernel
theorem L9_dvd : ∀ x ∈ L9, x ∣ 1000000000 := by decide +kernel
theorem L9_all : ∀ i, i < 10 → ∀ j, j < 10 → 2 ^ i * 5 ^ j ∈ L9 := by decide +kernel
theorem divs9 {a : Nat} (ea : a = 1000000000) : divsL a = L9 := asc_uniq (divsL_sorted a) L9_asc fun x => by
  rw [mem_divsL (by omega)]
  subst ea
  constructor
  · intro h
    have h : x ∣ 2 ^ 9 * (5 ^ 9 * 1) := h
    obtain ⟨i, hi, z, hz, rfl⟩ := dvd_pow_mul prm2 9 x h
    obtain ⟨j, hj, w, hw, rfl⟩ := dvd_pow_mul prm5 9 z hz
    rw [Nat.dvd_one.mp hw, Nat.mul_one]
    exact L9_all i (by omega) j (by omega)
  · exact L9_dvd x
abbrev gf : Nat → List Int := fun k => [((k / 50 : Nat) : Int)]
theorem gf_len : ∀ k, (gf k).length ≤ 1 := fun k => Nat.le_refl 1
theorem far_gen {a : Nat} (ea : a = 1000000000) : Ok (bnd (rng1 ((100 : Int))) fun l110 => bnd (mapW (fun (x111 : Int) => bnd (divI x111 ((50 : Int))) fun t113 => noX (m_Poly_init [t113])) l110) fun ys114 => noX (m_Table_init_v0 (a : Int) ys114 (([] : (List (Int × Int)))))) (IsT 1000000000 0 (rowsC a gf) (fun _ => none)) := by
  have hl : 100 = (divsL a).length := by rw [divs9 ea]; rfl
  refine Ok.bndE (Ok.rng1 (n := 100) (by decide)) (Ok.bndE (x := (List.range 100).map fun k : Nat => (⟨trim (gf k)⟩ : Poly_)) (Ok.mapR0 fun k _ => Ok.bndE (Ok.divN (b := 50) (by decide) (by decide)) (Ok.noX (init_ok _))) ?_)
  rw [rowsC_list (g := gf) (by omega) hl]
  exact Ok.noX (init0_ok (late := []) (by omega) (by omega) (by decide) (fun n _ => Nat.le_trans (rowsC_len a gf_len n) (by decide)) (rowsC_val a gf) List.nodup_nil (fun k hk => by simp at hk) (Nat.zero_le _) (by decide) fun n => rfl)
theorem far_at {a n : Nat} {v : Int} (ea : a = 1000000000) (h : (((L9.idxOf (Nat.gcd n 1000000000)) / 50 : Nat) : Int) = v) : num (rowsC a gf) (fun _ => none) n = v := by
  show ev n (rowsC a gf n) = v
  unfold rowsC
  rw [divs9 ea, ea]
  exact (ev_one _ _).trans h
theorem far_call {a n : Nat} {T : Table_} {v : Int} (ea : a = 1000000000) (h : IsT 1000000000 0 (rowsC a gf) (fun _ => none) T) (hn : 0 < n) (hv : (((L9.idxOf (Nat.gcd n 1000000000)) / 50 : Nat) : Int) = v) : Ok (noX (m_Table_call_v0 T (n : Int))) (· = v) := Ok.noX ((call_one h (rowsC_len a gf_len) hn).mono fun z hz => hz.trans (far_at ea hv))
theorem same_gen {a : Nat} (ea : a = 1000000000) : Ok (m_Table_init_v0 (a : Int) (List.replicate 100 (⟨[4]⟩ : Poly_)) []) (fun T => T.own_modulus = 1) := by
  have hl : (divsL a).length = 100 := by rw [divs9 ea]; rfl
  have e : List.replicate 100 (⟨[4]⟩ : Poly_) = (divsL a).map fun d : Nat => (⟨(fun _ : Nat => [(4 : Int)]) d⟩ : Poly_) := by
    rw [← hl]
    exact (List.map_const' (l := divsL a) (b := (⟨[4]⟩ : Poly_))).symm
  rw [e]
  exact (init0_ok (B := 1000000000) (N := 0) (C := fun _ => [4]) (f := fun _ => none) (late := []) (by omega) (by omega) (by decide) (fun n _ => by decide) (fun n hn => rfl) List.nodup_nil (fun k hk => by simp at hk) (Nat.zero_le _) (by decide) fun n => rfl).mono fun T h => mod_one h
end K19
set_option exponentiation.threshold 10000
namespace K19
open Mi
open PySem L2 Evl
theorem pow9 : Ok (powI ((10 : Int)) ((9 : Int))) (· = ((1000000000 : Nat) : Int)) := Ok.chk ⟨by decide, by decide, by decide⟩ (Ok.ret (by decide))
theorem pow20 : Ok (powI ((10 : Int)) ((20 : Int))) (· = 100000000000000000000) := Ok.chk ⟨by decide, by decide, by decide⟩ (Ok.ret (by decide))
theorem pow30 : Ok (powI ((10 : Int)) ((30 : Int))) (· = ((10 ^ 30 : Nat) : Int)) := Ok.chk ⟨by decide, by decide, by decide⟩ (Ok.ret (by decide))
theorem pow40 : Ok (powI ((10 : Int)) ((40 : Int))) (· = ((10 ^ 40 : Nat) : Int)) := Ok.chk ⟨by decide, by decide, by decide⟩ (Ok.ret (by decide))
theorem line_ok {n : Nat} (h : n ≤ 1000) : n ≤ sizeLine := Nat.le_trans h (by decide)
theorem slog {k : Int} (h0 : 0 ≤ k) (h : k < 2 ^ 64) : k.natAbs.log2 < 9000 := Nat.lt_trans (log2_lt (m := 64) (by omega) (by decide)) (by decide)
theorem lows_ok {m : Nat} (hm : 0 < m) (hb : m ≤ 1000000) : Ok (m_law_lows (m : Int)) (· = dvs m) := lowsW_ok hm hb
theorem odd_any {I : PyData → Prop} (more : List PyData) (hm : more.length ≤ 100) (h0 : I .none) (h1 : I (.bool true)) (h2 : I (.bool false)) (h3 : I (.str "")) (h4 : I (.str "1")) (h5 : I (.str "A b")) (h6 : I (.tuple [])) (h7 : I (.list [])) (h8 : I (.list [.int 1])) (h9 : I (.tuple [.int 2, .str "A"])) (h10 : I (.tuple [.str "x"])) (h : ∀ d ∈ more, I d) :
    Ok (m_law_odd more) I := by
  unfold m_law_odd
  rw [List.map_id]
  refine Ok.bnd (J := I) ?_ fun d hd => Ok.ret hd
  refine Ok.bndE (Ok.chk (line_ok (by simp; omega)) Ok.eq) ?_
  refine Ok.noX (Ok.any (by simp) (by simp; omega) fun d hd => ?_)
  rcases List.mem_append.mp hd with q | q
  · simp only [List.map_cons, List.map_nil, List.mem_cons, List.not_mem_nil, or_false] at q
    rcases q with rfl | rfl | rfl | rfl | rfl | rfl | rfl | rfl | rfl | rfl | rfl <;> assumption
  · exact h d q
theorem cut_m1 {α : Type} (xs : List α) : (cutL xs none (some (-((1 : Int))))).length = xs.length - 1 := by
  unfold cutL
  simp [HT.sIx]
  omega
theorem shw5 {xs : List (Str × PyData)} (hl : xs.length ≤ 5) (h : ∀ x ∈ xs, (PyData.strOk x.1 = true ∧ x.1.length ≤ 20) ∧ Shw x.2 2000) : Shw (.list (xs.map fun x => PyData.tuple [.str x.1, id x.2])) 50000 := by
  refine (Shw.list (m := 2 * (2000 + 2) + 4) (n := 5) (fun d hd => ?_) (by rw [List.length_map]; exact hl)).mono (by decide)
  obtain ⟨x, hx, e⟩ := List.mem_map.mp hd
  rw [← e]
  obtain ⟨⟨h1, h2⟩, h3⟩ := h x hx
  exact Shw.pair ((Shw.str h1 h2).mono (by decide)) h3
theorem shwI {i : Int} (h : i.natAbs < 2 ^ 70) : Shw (.int i) 2000 := (Shw.int (Nat.lt_trans h (Nat.pow_lt_pow_right (by decide) (by decide)))).mono (by decide)
theorem sN : PyData.strOk ("InvalidNumber" : Str) = true ∧ ("InvalidNumber" : Str).length ≤ 20 := ⟨by decide +kernel, by decide +kernel⟩
theorem sT : PyData.strOk ("InvalidTable" : Str) = true ∧ ("InvalidTable" : Str).length ≤ 20 := ⟨by decide +kernel, by decide +kernel⟩
theorem sS : PyData.strOk ("InvalidSingles" : Str) = true ∧ ("InvalidSingles" : Str).length ≤ 20 := ⟨by decide +kernel, by decide +kernel⟩
theorem sE : PyData.strOk ("" : Str) = true ∧ ("" : Str).length ≤ 20 := ⟨by decide +kernel, by decide +kernel⟩
theorem l1_ok (x : Int) : Ok (m_law_l1 () x) (· = .nx ()) := by
  unfold m_law_l1
  refine Ok.bnd (J := fun i : Int => ∃ m : Nat, i = (m : Int) ∧ 0 < m ∧ m ≤ 12) (Ok.noX (Ok.any (by decide) (by decide) fun i hi => ?_)) fun i ⟨m, ei, m0, m1⟩ => ?_
  · simp only [List.mem_cons, List.not_mem_nil, or_false] at hi
    rcases hi with rfl | rfl | rfl | rfl
    · exact ⟨1, rfl, by decide, by decide⟩
    · exact ⟨2, rfl, by decide, by decide⟩
    · exact ⟨6, rfl, by decide, by decide⟩
    · exact ⟨12, rfl, by decide, by decide⟩
  subst ei
  obtain ⟨N, hN⟩ : ∃ N, N = (divsL m).length := ⟨_, rfl⟩
  have N0 : 0 < N := by rw [hN]; exact List.length_pos_of_mem (divsL_last m0)
  have N1 : N ≤ 12 := by have := divsL_len m; omega
  refine Ok.bndE (x := (N : Int)) (Ok.bndE (Ok.noX (lows_ok m0 (by omega))) (Ok.ret (by rw [List.length_map, hN]))) ?_
  refine Ok.bndE (polyl_ok N (by omega)) ?_
  obtain ⟨Ps, hPs⟩ : ∃ Ps, Ps = (List.range N).map fun k : Nat => (⟨trim [(k : Int)]⟩ : Poly_) := ⟨_, rfl⟩
  rw [← hPs]
  have Pl : Ps.length = N := by rw [hPs]; simp
  refine Ok.bnd singles_ok fun xs ⟨n, hx⟩ => ?_
  have xl := hx.len
  have xf := hx.few
  refine Ok.bnd (J := fun d => nb2 d 1 1000000000 = false ∧ Shw d 2000) (Ok.bndE pow9 (Ok.noX (odd_any _ (by simp) ?_ ?_ ?_ ?_ ?_ ?_ ?_ ?_ ?_ ?_ ?_ fun d hd => ?_))) fun odd ⟨o1, o2⟩ => ?_
  iterate 11 exact ⟨by decide +kernel, by decide +kernel, by decide +kernel, by decide +kernel⟩
  · simp only [List.mem_cons, List.not_mem_nil, or_false] at hd
    rcases hd with rfl | rfl | rfl <;> exact ⟨by decide +kernel, shwI (by decide)⟩
  refine Ok.bnd (Ok.noX (Ok.draw (by omega) (slog (by omega) (by omega)))) fun sp ⟨s0, s1⟩ => ?_
  obtain ⟨spot, rfl⟩ := Int.eq_ofNat_of_zero_le s0
  have s1 : spot < N := by omega
  refine Ok.bnd (Ok.noX (Ok.draw (by omega) (slog (by omega) (by omega)))) fun at_ ⟨a0, a1⟩ => ?_
  obtain ⟨i, rfl⟩ := Int.eq_ofNat_of_zero_le a0
  have hi : i ≤ xs.length := by omega
  refine Ok.bnd (J := fun p : Mx Poly_ => p.isSeq = false ∨ ∃ ys : List Poly_, p = .lst ys ∧ ys.length ≠ (divsL m).length) ?_ fun no hno => ?_
  · refine Ok.bndE (Ok.noX (init_ok [])) (Ok.bndE (Ok.chk (line_ok (by simp; omega)) Ok.eq) (Ok.noX (Ok.any (by simp) (by simp) fun p hp => ?_)))
    simp only [List.mem_cons, List.not_mem_nil, or_false] at hp
    rcases hp with rfl | rfl | rfl | rfl | rfl
    · exact .inl rfl
    · exact .inl rfl
    · exact .inl rfl
    · exact .inr ⟨_, rfl, by rw [List.length_append]; simp; omega⟩
    · exact .inr ⟨_, rfl, by rw [cut_m1]; omega⟩
  refine Ok.bndE (Ok.chk (line_ok (by rw [List.length_map, cut_pre hi, List.length_take]; simp; omega)) Ok.eq) ?_
  refine Ok.bnd (J := fun d => pairB d = false ∨ ∃ x ∈ xs.take i, d = pairD x) (Ok.noX (Ok.any (by simp) (by rw [List.length_append, List.length_map, cut_pre hi, List.length_take]; simp; omega) fun d hd => ?_)) fun bad hbad => ?_
  · rcases List.mem_append.mp hd with q | q
    · left
      simp only [List.mem_cons, List.not_mem_nil, or_false] at q
      rcases q with rfl | rfl | rfl | rfl | rfl | rfl | rfl | rfl | rfl | rfl <;> rfl
    · right
      rw [cut_pre hi] at q
      obtain ⟨x, hx, rfl⟩ := List.mem_map.mp q
      exact ⟨x, hx, rfl⟩
  have hsp : spot ≤ Ps.length := by omega
  have hsp1 : spot + 1 ≤ Ps.length := by omega
  refine Ok.bnd (J := fun ps : List (Mx Poly_) => ∃ d : PyData, ps = (Ps.take spot).map Mx.obj ++ [Mx.dat d] ++ (Ps.drop (spot + 1)).map Mx.obj) (Ok.bnd (J := fun ps : List (Mx Poly_) => ∃ d : PyData, ps = (Ps.take spot).map Mx.obj ++ [Mx.dat d]) (Ok.bnd (J := fun _ => True) (Ok.noX (Ok.any (by simp) (by simp) fun _ _ => trivial)) fun d _ => Ok.chk (line_ok ?_) (Ok.ret ⟨d, ?_⟩)) fun t ⟨d, e⟩ => ?_) fun bent ⟨bd, hb⟩ => ?_
  · rw [cut_pre hsp]
    simp
    omega
  · rw [cut_pre hsp]
    rfl
  · subst e
    rw [show ((spot : Int) + 1) = ((spot + 1 : Nat) : Int) by omega, cut_post hsp1]
    exact Ok.chk (line_ok (by simp; omega)) (Ok.ret ⟨d, rfl⟩)
  have bl : bent.length = N := by
    rw [hb]
    simp
    omega
  have b_pre : ∀ k (hk : k < spot), (bent[k]'(by omega)).isObj = true := fun k hk => by
    have hk2 : k < Ps.length := by omega
    have e : bent[k]? = some (Mx.obj (Ps[k]'hk2)) := by
      rw [hb, List.append_assoc, List.getElem?_append_left (by simp; omega), List.getElem?_map, List.getElem?_take, if_pos hk, List.getElem?_eq_getElem hk2]
      rfl
    rw [List.getElem?_eq_getElem (by omega)] at e
    rw [Option.some.inj e]
    rfl
  have b_at : (bent[spot]'(by omega)).isObj = false := by
    have e : bent[spot]? = some (Mx.dat bd) := by
      rw [hb, List.append_assoc, List.getElem?_append_right (by simp; omega)]
      have : spot - ((Ps.take spot).map Mx.obj).length = 0 := by simp; omega
      rw [this]
      rfl
    rw [List.getElem?_eq_getElem (by omega)] at e
    rw [Option.some.inj e]
    rfl
  refine Ok.bndE (x := (xs.take i).map pairD ++ [bad] ++ (xs.drop i).map pairD ++ [PyData.none]) (Ok.bndE (x := (xs.take i).map pairD ++ [bad]) ?_ (Ok.bndE (x := (xs.take i).map pairD ++ [bad] ++ (xs.drop i).map pairD) ?_ ?_)) ?_
  · rw [cut_pre hi]
    exact Ok.chk (line_ok (by simp; omega)) Ok.eq
  · rw [cut_post hi]
    exact Ok.chk (line_ok (by simp; omega)) Ok.eq
  · exact Ok.chk (line_ok (by simp; omega)) Ok.eq
  generalize hds : (xs.take i).map pairD ++ [bad] ++ (xs.drop i).map pairD ++ [PyData.none] = ds
  have dl : ds.length = xs.length + 2 := by
    rw [← hds]
    simp
    omega
  have at_pre : ∀ k (hk : k < i), ds[k]'(by omega) = pairD (xs[k]'(Nat.lt_of_lt_of_le hk hi)) := fun k hk => by
    have hk2 : k < xs.length := Nat.lt_of_lt_of_le hk hi
    have e : ds[k]? = some (pairD (xs[k]'hk2)) := by
      rw [← hds, List.append_assoc, List.append_assoc, List.getElem?_append_left (by simp; omega), List.getElem?_map, List.getElem?_take, if_pos hk, List.getElem?_eq_getElem hk2]
      rfl
    rw [List.getElem?_eq_getElem (by omega)] at e
    exact Option.some.inj e
  have at_sp : ds[i]'(by omega) = bad := by
    have e : ds[i]? = some bad := by
      rw [← hds, List.append_assoc, List.append_assoc, List.getElem?_append_right (by simp; omega)]
      have : i - ((xs.take i).map pairD).length = 0 := by simp; omega
      rw [this]
      rfl
    rw [List.getElem?_eq_getElem (by omega)] at e
    exact Option.some.inj e
  refine Ok.bndE (x := ()) Ok.eq (Ok.bndE (x := ()) Ok.eq (Ok.bndE Ok.eq ?_))
  have np : Ok (m_need_polys_v0 (m : Int) Ps) (fun _ => True) := need_polys_ok m0 (by omega) (by rw [Pl, hN])
  refine Ok.bndE (x := false) ?_ ?_
  · refine Ok.bndE (Ok.noX (all5 (r1 := (("InvalidNumber" : Str), odd)) (r2 := (("InvalidTable" : Str), .int (-1))) (r3 := (("InvalidTable" : Str), .int (spot : Int))) (r4 := (("InvalidSingles" : Str), .int (-1))) (r5 := (("InvalidSingles" : Str), .int (i : Int)))
      (gotT (Thr.bnd (init2_thr (polys_num o1))) (field_number fn)) (gotT (Thr.bnd (init3_thr (polys_none m0 (by omega) hno))) (field_table ftt)) (gotT (Thr.bnd (init4_thr (polys_thr m0 (by omega) (by rw [bl, hN]) (by omega) b_pre b_at))) (field_table ftt))
      (gotT (Thr.bnd (Thr.afterP (J := fun d : PyData => (tyD d == "list" || tyD d == "tuple") = false) (Ok.noX (Ok.any (by simp) (by simp) fun d hd => ?_)) fun d hd => init6_thr np (singles_none hd))) (field_singles fsg))
      (gotT (Thr.bnd (init5_thr np (singles_thr (xs := xs) hx.one hx.nd hi (by omega) (by omega) at_pre ?_))) (field_singles fsg)))) ?_
    · simp only [List.mem_cons, List.not_mem_nil, or_false] at hd
      rcases hd with rfl | rfl | rfl <;> rfl
    · rw [at_sp]
      exact hbad
    · refine Ok.bndE (x := true) (Ok.noX (Ok.same (m := 50000) (shw5 (by simp) fun x hx => ?_) (by decide) rfl)) Ok.eq
      simp only [List.mem_cons, List.not_mem_nil, or_false] at hx
      rcases hx with e | e | e | e | e <;> subst e
      · exact ⟨sN, o2⟩
      · exact ⟨sT, shwI (by decide)⟩
      · exact ⟨sT, shwI (by omega)⟩
      · exact ⟨sS, shwI (by decide)⟩
      · exact ⟨sS, shwI (by omega)⟩
  rw [if_neg (by decide)]
  refine Ok.bnd (Ok.noX (show Ok (m_Table_init_v1 (m : Int) Ps xs) (IsT 12 3 (rowsC m gk) (fun n => dget xs (n : Int))) by rw [hPs, hN]; exact made_ok m0 m1 hx)) fun T hT => ?_
  refine Ok.bnd (J := fun v : Int => v.natAbs < 2 ^ 70) (Ok.bndE pow20 (Ok.bnd (Ok.noX (Ok.draw (by decide) (by decide +kernel))) fun r ⟨r0, r1⟩ => Ok.noX (Ok.any (by simp) (by simp) fun v hv => ?_))) fun v hv => ?_
  · simp only [List.mem_cons, List.not_mem_nil, or_false] at hv
    rcases hv with rfl | rfl | rfl
    · decide
    · decide
    · omega
  refine Ok.bnd (Ok.noX (always_ok v)) fun U hU => ?_
  have cl : ∀ n : Nat, ((fun _ : Nat => trim [v]) n).length ≤ 1 := fun _ => trim_len [v]
  refine Ok.bndE (x := false) ?_ ?_
  · refine Ok.bndE (x := v) (Ok.noX ((call_one hU cl (n := 1) (by decide)).mono fun z hz => hz.trans (ev_one _ _))) ?_
    refine Ok.bndE pow30 ?_
    refine Ok.bndE (x := v) (Ok.noX ((call_one hU cl (n := 10 ^ 30) (by decide)).mono fun z hz => hz.trans (ev_one _ _))) ?_
    refine Ok.bndE (x := 1) (Ok.noX (Ok.retB (Ok.ret (mod_one hU)))) ?_
    refine Ok.bndE (Ok.noX (singles0_ok hU)) ?_
    refine Ok.bndE (Ok.noX (bool_one hU)) ?_
    refine Ok.bndE (x := true) (Ok.noX (Ok.same (m := 5 * (2000 + 2) + 2) (Shw.list (m := 2000) (n := 5) (fun d hd => ?_) (by simp)) (by decide) rfl)) Ok.eq
    simp only [List.map_cons, List.map_nil, id, List.mem_cons, List.not_mem_nil, or_false] at hd
    rcases hd with rfl | rfl | rfl | rfl | rfl
    · exact shwI hv
    · exact shwI hv
    · exact shwI (by decide)
    · exact ⟨by decide +kernel, by decide +kernel, by decide +kernel⟩
    · exact (Shw.bool _).mono (by decide)
  rw [if_neg (by decide)]
  refine Ok.bnd (J := fun d => nb3 d 1 = false ∧ Shw d 2000) (Ok.noX (odd_any _ (by simp) ?_ ?_ ?_ ?_ ?_ ?_ ?_ ?_ ?_ ?_ ?_ fun d hd => ?_)) fun wn ⟨w1, w2⟩ => ?_
  iterate 11 exact ⟨by decide +kernel, by decide +kernel, by decide +kernel, by decide +kernel⟩
  · simp only [List.mem_cons, List.not_mem_nil, or_false] at hd
    rcases hd with rfl | rfl <;> exact ⟨by decide +kernel, shwI (by decide)⟩
  refine Ok.bnd (Ok.noX (all3 (r1 := (("InvalidNumber" : Str), wn)) (gotT (Thr.bnd (call1_thr w1)) (field_number fn)) (got_thrJ fun P E he => ?_) (gotR' (Ok.bnd (Ok.noX (call_made m0 m1 hT)) fun _ _ => Ok.ret trivial)))) fun found ⟨r2, r3, q2, q3, ef⟩ => ?_
  · have ho : Ok (m_law_odd ([(fun xs => PyData.list (xs.map .int)) ([(2 : Int)])])) (fun d => whole d = false) := by
      refine odd_any _ (by simp) ?_ ?_ ?_ ?_ ?_ ?_ ?_ ?_ ?_ ?_ ?_ fun d hd => ?_
      iterate 11 decide +kernel
      simp only [List.mem_cons, List.not_mem_nil, or_false] at hd
      rcases hd with rfl
      decide +kernel
    exact (Ok.noX ho) _ E fun d hd => always1_thr hd _ _ (he _ ⟨rfl, (field_number fn).mono fun _ _ => trivial⟩)
  subst ef
  refine Ok.bndE (x := false) ?_ ?_
  · refine Ok.bndE (Ok.idxN (n := 0) rfl) (Ok.bndE (Ok.idxN (n := 1) rfl) (Ok.bndE (Ok.idxN (n := 2) rfl) ?_))
    refine Ok.bndE (x := true) (Ok.noX (Ok.same (m := 3 * (5000 + 2) + 2) (Shw.list (m := 5000) (n := 3) (fun d hd => ?_) (by simp)) (by decide) ?_)) Ok.eq
    · simp only [List.mem_cons, List.not_mem_nil, or_false] at hd
      rcases hd with rfl | rfl | rfl
      · exact (Shw.pair ((Shw.str sN.1 sN.2).mono (by decide)) w2 : Shw _ (2 * (2000 + 2) + 4)).mono (by decide)
      · rw [q2]
        exact (Shw.str sN.1 sN.2).mono (by decide)
      · rw [q3]
        exact (Shw.str sE.1 sE.2).mono (by decide)
    · rw [q2, q3]
  · rw [if_neg (by decide)]
    exact Ok.eq
theorem law_gen {a : Nat} (ea : a = 1000000000) (ns : List Int) : Ok (m_law ns) (· = true) := by
  have p9 : Ok (powI ((10 : Int)) ((9 : Int))) (· = (a : Int)) := by rw [ea]; exact pow9
  unfold m_law
  refine Ok.bndE (Ok.rng1 (n := 5) (by decide)) ?_
  refine Ok.bnd (J := fun r => r = .nx ()) (Ok.forF (fun _ _ => True) (fun _ => False) trivial (fun k hk s _ => ?_) (fun s _ => rfl) fun z hz => hz.elim) fun r hr => ?_
  · exact (l1_ok _).mono fun r hr => by
      subst hr
      trivial
  · subst hr
    rw [flEnd_nx]
    refine Ok.bnd (Ok.bndE p9 (far_gen ea)) fun T hT => ?_
    refine Ok.bndE (x := [1, 1, 0, 1, 1]) ?_ ?_
    · refine Ok.bndE p9 (Ok.bndE (x := 1) (far_call ea hT (by omega) (by rw [ea]; decide +kernel)) ?_)
      refine Ok.bndE pow40 (Ok.bndE (x := 1) (far_call (n := 10 ^ 40) ea hT (by decide) (by decide +kernel)) ?_)
      refine Ok.bndE (x := 0) (far_call (n := 3) ea hT (by decide) (by decide +kernel)) ?_
      refine Ok.bndE (x := 512) (Ok.chk ⟨by decide, by decide, by decide⟩ (Ok.ret (by decide))) ?_
      refine Ok.bndE (x := 1953125) (Ok.chk ⟨by decide, by decide, by decide⟩ (Ok.ret (by decide))) ?_
      refine Ok.bndE (x := ((1000000000 : Nat) : Int)) (Ok.chk (mul_smallL (by decide)) (Ok.ret (by decide))) ?_
      refine Ok.bndE (x := 1) (far_call (n := 1000000000) ea hT (by decide) (by decide +kernel)) ?_
      refine Ok.bndE p9 (Ok.bndE (Ok.noX (init_ok [4])) (Ok.bndE (x := List.replicate 100 (⟨[4]⟩ : Poly_)) (Ok.chk ⟨by decide, by decide, by decide⟩ (Ok.ret ?_)) ?_))
      · rw [show (⟨trim [4]⟩ : Poly_) = ⟨[4]⟩ from congrArg Poly_.mk (by decide +kernel)]
        rfl
      · exact Ok.bnd (Ok.noX (same_gen ea)) fun S hS => Ok.bndE (x := 1) (Ok.noX (Ok.retB (Ok.ret hS))) Ok.eq
    · refine Ok.bndE (x := true) (Ok.bndE (x := true) (Ok.bndE (Ok.noX (init_ok [])) (Ok.bnd (J := IsT 1 0 (fun _ => []) (fun _ => none)) (Ok.noX ?_) fun A hA => Ok.bnd (Ok.noX (always_ok 0)) fun Z hZ => ?_)) ?_) Ok.eq
      · exact init0_ok (B := 1) (N := 0) (C := fun _ => []) (f := fun _ => none) (late := []) (m := 1) (by decide) (by decide) (by decide) (fun n hn => by simp) (fun n hn => rfl) List.nodup_nil (fun k hk => by simp at hk) (Nat.zero_le _) (by decide) fun n => rfl
      · rw [trim0] at hZ
        exact Ok.noX ((eq_ok hA hZ).mono fun b hb => hb.mpr (hA.uniq hZ fun n v => Iff.rfl))
      · rw [if_pos rfl]
        exact Ok.noX (Ok.same (m := 5 * (2000 + 2) + 2) (Shw.list (m := 2000) (n := 5) (fun d hd => by
          simp only [List.map_cons, List.map_nil, List.mem_cons, List.not_mem_nil, or_false] at hd
          rcases hd with rfl | rfl | rfl | rfl | rfl <;> exact shwI (by decide)) (by simp)) (by decide) rfl)
theorem law_true (ns : List Int) : m_law ns (fun x => x = true) (fun _ => False) := (law_gen rfl ns).run
end K19
section
open PySem PySem.W PyProof.Rows HeadRun
def K19.looseN : List PySem.Str := (["_wall", "__name__", "DialError", "Missing", "InvalidNumber", "InvalidPoly", "InvalidTable", "InvalidSingles", "NothingLeft", "is_whole", "is_number", "need_number", "all_divisors", "primes_in", "common", "jointly", "Poly", "poly_of", "multiplied", "padded", "MOST_MODULUS", "Table", "need_polys", "need_singles", "worth_of", "is_spare", "least_modulus", "table_with", "of_two", "together"] : List PySem.Str) ++ (["_law_bag", "_law_draw", "_law_any", "_law_same", "_law_field", "_law_got", "_law_all_got", "_law_odd", "_law_lows"] : List PySem.Str)
abbrev K19.RR : OpenRow := OpenLaw.row PySem.Challenge.rw_anydial_k19_tables_refused
abbrev K19.qv : Program := PySem.W.view K19.RR.prog [0, 44]
local macro_rules | `(tactic| o_head ($f $K $a $e $ts)) => `(tactic| (assumption; exact ($K, $a, $ts)))
local macro_rules | `(tactic| o_head ($f $K $a $e)) => `(tactic| (assumption; exact ($K, $a, [])))
noncomputable def K19.KA : (Params → Frag) × List Addr × List Addr := by
  refine (fun (x : (Params → Frag) × List Addr × List Addr) (_ : OpenRow.Holds K19.RR → OpenRow.Holds K19.RR) => x) ?x (fun h9 => ?y)
  rotate_left
  k_head
theorem K19.run1 (w : World) : (wholeF (fun p => stepQ (denQ tabQ) p w) fenceQ 40000 K19.RR.prog).map (fun x => looksF K19.RR.prog x.1.heap x.2.abs) = some true := by kernel_rfl
theorem K19.run2 (w : World) : (wholeF (fun p => stepQ (denQ tabQ) p w) fenceQ 40000 K19.RR.prog).map (fun x => seenQ K19.qv K19.looseN (importedModules K19.RR.prog.main.body) (fun s => xlAt K19.qv [] s && recOk K19.RR.toRowW.records s) x.2.abs) = some (openGood K19.qv K19.looseN) := by kernel_rfl
theorem K19.run3 (w : World) : (wholeF (fun p => stepQ (denQ tabQ) p w) fenceQ 40000 K19.RR.prog).map (fun x => K19.KA.2.1.map (getT x.2)) = some ((K19.KA.heap_1 w.params).map fun p => some p.2) := by kernel_rfl
theorem K19.run4 (w : World) : (wholeF (fun p => stepQ (denQ tabQ) p w) fenceQ 40000 K19.RR.prog).map (fun x => K19.KA.2.2.map (getT x.2)) = some (K19.KA.2.2.map fun _ => some (tabObj #[])) := by kernel_rfl
theorem K19.run5 (P : Params) : K19.KA.2.1 = (K19.KA.heap_1 P).map (·.1) := by kernel_rfl
theorem K19.run6 : K19.RR.wellSaid = true := by decide +kernel
theorem K19.run7 : (chainsOk K19.qv && opensWell K19.RR.prog && (frees K19.RR.toRowW && K19.RR.within.isEmpty)) = true := by decide +kernel
end
namespace K19
open PySem L2 Evl Mi
abbrev spL (K : PySem.W.Frag) (Tb : Addr) : Sp := spW (fun i : List Int × Unit => [sv (rScr K) i.1]) (fun _ => [(Tb, oTab (("law" : Str) ++ (".<locals>." : Str) ++ ("<lambda>" : Str)))]) (fun i => m_law i.1) rBool
set_option maxHeartbeats 0 in
theorem all_mk {P : Program} {w : World} {K : PySem.W.Frag} {h : Heap} {mg : Str → Option Value} {fa f_is_whole f_is_number f_need_number f_primes_in f_all_divisors f_common f_Poly_init f_poly_of f_Poly_eq f_worth_of f_is_spare f_least_modulus f_need_polys f_need_singles f_Table_init f_Table_always f_Table_modulus f_Table_polys f_Table_singles f_Table_poly_at f_Table_number_at f_Table_call f_Table_eq f_Table_bool f_law_bag f_law_draw f_law_any f_law_same f_law_field f_law_got f_law_all_got f_law_odd f_law_lows f_law c_Poly c_Table p_Table_modulus c_DialError c_InvalidNumber c_InvalidSingles c_InvalidTable c_Missing fx_InvalidNumber cc_InvalidNumber kx_InvalidNumber fx_InvalidTable cc_InvalidTable kx_InvalidTable fx_InvalidSingles cc_InvalidSingles kx_InvalidSingles cL Tb dT_Table_init p_Table_always e_Table_init_0 : Addr} (X : K.In h) (G : h.Ns mainGlobals mg) (hfa : mg "law" = some (.ref fa))
    {od_is_whole an_is_whole od_is_number an_is_number od_need_number an_need_number od_primes_in an_primes_in od_all_divisors an_all_divisors od_common an_common od_Poly_init an_Poly_init od_poly_of an_poly_of od_Poly_eq an_Poly_eq od_worth_of an_worth_of od_is_spare an_is_spare od_least_modulus an_least_modulus od_need_polys an_need_polys od_need_singles an_need_singles od_Table_init an_Table_init od_Table_always an_Table_always od_Table_modulus an_Table_modulus od_Table_polys an_Table_polys od_Table_singles an_Table_singles od_Table_poly_at an_Table_poly_at od_Table_number_at an_Table_number_at od_Table_call an_Table_call od_Table_eq an_Table_eq od_Table_bool an_Table_bool od_law_bag an_law_bag od_law_draw an_law_draw od_law_any an_law_any od_law_same an_law_same od_law_field an_law_field od_law_got an_law_got od_law_all_got an_law_all_got od_law_odd an_law_odd od_law_lows an_law_lows od_law an_law : Option Addr} {sl_is_whole sl_is_number sl_need_number sl_primes_in sl_all_divisors sl_common sl_Poly_init sl_poly_of sl_Poly_eq sl_worth_of sl_is_spare sl_least_modulus sl_need_polys sl_need_singles sl_Table_init sl_Table_always sl_Table_modulus sl_Table_polys sl_Table_singles sl_Table_poly_at sl_Table_number_at sl_Table_call sl_Table_eq sl_Table_bool sl_law_bag sl_law_draw sl_law_any sl_law_same sl_law_field sl_law_got sl_law_all_got sl_law_odd sl_law_lows sl_law : Array (Option Value)} {oc_is_whole kV_is_whole dc_is_whole pm_is_whole cd_is_whole ct_is_whole oc_is_number kV_is_number dc_is_number pm_is_number cd_is_number ct_is_number oc_need_number kV_need_number dc_need_number pm_need_number cd_need_number ct_need_number oc_primes_in kV_primes_in dc_primes_in pm_primes_in cd_primes_in ct_primes_in oc_all_divisors kV_all_divisors dc_all_divisors pm_all_divisors cd_all_divisors ct_all_divisors oc_common kV_common dc_common pm_common cd_common ct_common oc_Poly_init kV_Poly_init dc_Poly_init pm_Poly_init cd_Poly_init ct_Poly_init oc_poly_of kV_poly_of dc_poly_of pm_poly_of cd_poly_of ct_poly_of oc_Poly_eq kV_Poly_eq dc_Poly_eq pm_Poly_eq cd_Poly_eq ct_Poly_eq oc_worth_of kV_worth_of dc_worth_of pm_worth_of cd_worth_of ct_worth_of oc_is_spare kV_is_spare dc_is_spare pm_is_spare cd_is_spare ct_is_spare oc_least_modulus kV_least_modulus dc_least_modulus pm_least_modulus cd_least_modulus ct_least_modulus oc_need_polys kV_need_polys dc_need_polys pm_need_polys cd_need_polys ct_need_polys oc_need_singles kV_need_singles dc_need_singles pm_need_singles cd_need_singles ct_need_singles oc_Table_init kV_Table_init dc_Table_init pm_Table_init cd_Table_init ct_Table_init oc_Table_always kV_Table_always dc_Table_always pm_Table_always cd_Table_always ct_Table_always oc_Table_modulus kV_Table_modulus dc_Table_modulus pm_Table_modulus cd_Table_modulus ct_Table_modulus oc_Table_polys kV_Table_polys dc_Table_polys pm_Table_polys cd_Table_polys ct_Table_polys oc_Table_singles kV_Table_singles dc_Table_singles pm_Table_singles cd_Table_singles ct_Table_singles oc_Table_poly_at kV_Table_poly_at dc_Table_poly_at pm_Table_poly_at cd_Table_poly_at ct_Table_poly_at oc_Table_number_at kV_Table_number_at dc_Table_number_at pm_Table_number_at cd_Table_number_at ct_Table_number_at oc_Table_call kV_Table_call dc_Table_call pm_Table_call cd_Table_call ct_Table_call oc_Table_eq kV_Table_eq dc_Table_eq pm_Table_eq cd_Table_eq ct_Table_eq oc_Table_bool kV_Table_bool dc_Table_bool pm_Table_bool cd_Table_bool ct_Table_bool oc_law_bag kV_law_bag dc_law_bag pm_law_bag cd_law_bag ct_law_bag oc_law_draw kV_law_draw dc_law_draw pm_law_draw cd_law_draw ct_law_draw oc_law_any kV_law_any dc_law_any pm_law_any cd_law_any ct_law_any oc_law_same kV_law_same dc_law_same pm_law_same cd_law_same ct_law_same oc_law_field kV_law_field dc_law_field pm_law_field cd_law_field ct_law_field oc_law_got kV_law_got dc_law_got pm_law_got cd_law_got ct_law_got oc_law_all_got kV_law_all_got dc_law_all_got pm_law_all_got cd_law_all_got ct_law_all_got oc_law_odd kV_law_odd dc_law_odd pm_law_odd cd_law_odd ct_law_odd oc_law_lows kV_law_lows dc_law_lows pm_law_lows cd_law_lows ct_law_lows oc_law kV_law dc_law pm_law cd_law ct_law : Value} {rs_Table_modulus : List Value} {oc_xInvalidNumber od_xInvalidNumber kV_xInvalidNumber dc_xInvalidNumber pm_xInvalidNumber an_xInvalidNumber ct_xInvalidNumber sl_xInvalidNumber q1_InvalidNumber q2_InvalidNumber q3_InvalidNumber q4_InvalidNumber q5_InvalidNumber qv_InvalidNumber q6_InvalidNumber q7_InvalidNumber q8_InvalidNumber oc_xInvalidTable od_xInvalidTable kV_xInvalidTable dc_xInvalidTable pm_xInvalidTable an_xInvalidTable ct_xInvalidTable sl_xInvalidTable q1_InvalidTable q2_InvalidTable q3_InvalidTable q4_InvalidTable q5_InvalidTable qv_InvalidTable q6_InvalidTable q7_InvalidTable q8_InvalidTable oc_xInvalidSingles od_xInvalidSingles kV_xInvalidSingles dc_xInvalidSingles pm_xInvalidSingles an_xInvalidSingles ct_xInvalidSingles sl_xInvalidSingles q1_InvalidSingles q2_InvalidSingles q3_InvalidSingles q4_InvalidSingles q5_InvalidSingles qv_InvalidSingles q6_InvalidSingles q7_InvalidSingles q8_InvalidSingles} {ts : List Addr}
    {tg_MOST_MODULUS : Tok}
    {dd_Table_init : Option Addr} {dn_Table_init : Nat} {ds_Table_init : Array (Option Value)}
    {tq_e_Table_init_0 : Option Addr} {tn_e_Table_init_0 : Nat} {ts_e_Table_init_0 : Array (Option Value)}
    {rs_Table_always : List Value}
    (a_Poly : PySem.W.nsIn K mainGlobals "Poly" = some (some (.ref c_Poly)))
    (a_Table : PySem.W.nsIn K mainGlobals "Table" = some (some (.ref c_Table)))
    (a_is_whole : PySem.W.nsIn K mainGlobals "is_whole" = some (some (.ref f_is_whole)))
    (l_is_whole : K.lookup f_is_whole = some ⟨oc_is_whole, od_is_whole, .func (PySem.W.fnOf "is_whole" "is_whole" (defArgs s_is_whole) (defBody s_is_whole) (defScope s_is_whole) .none kV_is_whole dc_is_whole pm_is_whole an_is_whole cd_is_whole ct_is_whole), sl_is_whole⟩)
    (c_is_whole : PySem.W.codeIn K cd_is_whole "is_whole" = true)
    (k_is_whole : PySem.W.keepIn K (.ref f_is_whole) = true)
    (a_is_number : PySem.W.nsIn K mainGlobals "is_number" = some (some (.ref f_is_number)))
    (l_is_number : K.lookup f_is_number = some ⟨oc_is_number, od_is_number, .func (PySem.W.fnOf "is_number" "is_number" (defArgs s_is_number) (defBody s_is_number) (defScope s_is_number) .none kV_is_number dc_is_number pm_is_number an_is_number cd_is_number ct_is_number), sl_is_number⟩)
    (c_is_number : PySem.W.codeIn K cd_is_number "is_number" = true)
    (k_is_number : PySem.W.keepIn K (.ref f_is_number) = true)
    (a_need_number : PySem.W.nsIn K mainGlobals "need_number" = some (some (.ref f_need_number)))
    (l_need_number : K.lookup f_need_number = some ⟨oc_need_number, od_need_number, .func (PySem.W.fnOf "need_number" "need_number" (defArgs s_need_number) (defBody s_need_number) (defScope s_need_number) .none kV_need_number dc_need_number pm_need_number an_need_number cd_need_number ct_need_number), sl_need_number⟩)
    (c_need_number : PySem.W.codeIn K cd_need_number "need_number" = true)
    (k_need_number : PySem.W.keepIn K (.ref f_need_number) = true)
    (a_primes_in : PySem.W.nsIn K mainGlobals "primes_in" = some (some (.ref f_primes_in)))
    (l_primes_in : K.lookup f_primes_in = some ⟨oc_primes_in, od_primes_in, .func (PySem.W.fnOf "primes_in" "primes_in" (defArgs s_primes_in) (defBody s_primes_in) (defScope s_primes_in) .none kV_primes_in dc_primes_in pm_primes_in an_primes_in cd_primes_in ct_primes_in), sl_primes_in⟩)
    (c_primes_in : PySem.W.codeIn K cd_primes_in "primes_in" = true)
    (k_primes_in : PySem.W.keepIn K (.ref f_primes_in) = true)
    (a_all_divisors : PySem.W.nsIn K mainGlobals "all_divisors" = some (some (.ref f_all_divisors)))
    (l_all_divisors : K.lookup f_all_divisors = some ⟨oc_all_divisors, od_all_divisors, .func (PySem.W.fnOf "all_divisors" "all_divisors" (defArgs s_all_divisors) (defBody s_all_divisors) (defScope s_all_divisors) .none kV_all_divisors dc_all_divisors pm_all_divisors an_all_divisors cd_all_divisors ct_all_divisors), sl_all_divisors⟩)
    (c_all_divisors : PySem.W.codeIn K cd_all_divisors "all_divisors" = true)
    (k_all_divisors : PySem.W.keepIn K (.ref f_all_divisors) = true)
    (a_common : PySem.W.nsIn K mainGlobals "common" = some (some (.ref f_common)))
    (l_common : K.lookup f_common = some ⟨oc_common, od_common, .func (PySem.W.fnOf "common" "common" (defArgs s_common) (defBody s_common) (defScope s_common) .none kV_common dc_common pm_common an_common cd_common ct_common), sl_common⟩)
    (c_common : PySem.W.codeIn K cd_common "common" = true)
    (k_common : PySem.W.keepIn K (.ref f_common) = true)
    (a_Poly_init : PySem.W.findIn K (.ref c_Poly) "__init__" = some (some (.ref f_Poly_init)))
    (i_Poly_init : PySem.W.isFn K (.ref f_Poly_init) = true)
    (l_Poly_init : K.lookup f_Poly_init = some ⟨oc_Poly_init, od_Poly_init, .func (PySem.W.fnOf "__init__" "Poly.__init__" (defArgs s_Poly_init) (defBody s_Poly_init) (defScope s_Poly_init) .none kV_Poly_init dc_Poly_init pm_Poly_init an_Poly_init cd_Poly_init ct_Poly_init), sl_Poly_init⟩)
    (c_Poly_init : PySem.W.codeIn K cd_Poly_init "Poly.__init__" = true)
    (k_Poly_init : PySem.W.keepIn K (.ref f_Poly_init) = true)
    (a_poly_of : PySem.W.nsIn K mainGlobals "poly_of" = some (some (.ref f_poly_of)))
    (l_poly_of : K.lookup f_poly_of = some ⟨oc_poly_of, od_poly_of, .func (PySem.W.fnOf "poly_of" "poly_of" (defArgs s_poly_of) (defBody s_poly_of) (defScope s_poly_of) .none kV_poly_of dc_poly_of pm_poly_of an_poly_of cd_poly_of ct_poly_of), sl_poly_of⟩)
    (c_poly_of : PySem.W.codeIn K cd_poly_of "poly_of" = true)
    (k_poly_of : PySem.W.keepIn K (.ref f_poly_of) = true)
    (a_Poly_eq : PySem.W.findIn K (.ref c_Poly) "__eq__" = some (some (.ref f_Poly_eq)))
    (i_Poly_eq : PySem.W.isFn K (.ref f_Poly_eq) = true)
    (l_Poly_eq : K.lookup f_Poly_eq = some ⟨oc_Poly_eq, od_Poly_eq, .func (PySem.W.fnOf "__eq__" "Poly.__eq__" (defArgs s_Poly_eq) (defBody s_Poly_eq) (defScope s_Poly_eq) .none kV_Poly_eq dc_Poly_eq pm_Poly_eq an_Poly_eq cd_Poly_eq ct_Poly_eq), sl_Poly_eq⟩)
    (c_Poly_eq : PySem.W.codeIn K cd_Poly_eq "Poly.__eq__" = true)
    (k_Poly_eq : PySem.W.keepIn K (.ref f_Poly_eq) = true)
    (a_worth_of : PySem.W.nsIn K mainGlobals "worth_of" = some (some (.ref f_worth_of)))
    (l_worth_of : K.lookup f_worth_of = some ⟨oc_worth_of, od_worth_of, .func (PySem.W.fnOf "worth_of" "worth_of" (defArgs s_worth_of) (defBody s_worth_of) (defScope s_worth_of) .none kV_worth_of dc_worth_of pm_worth_of an_worth_of cd_worth_of ct_worth_of), sl_worth_of⟩)
    (c_worth_of : PySem.W.codeIn K cd_worth_of "worth_of" = true)
    (k_worth_of : PySem.W.keepIn K (.ref f_worth_of) = true)
    (a_is_spare : PySem.W.nsIn K mainGlobals "is_spare" = some (some (.ref f_is_spare)))
    (l_is_spare : K.lookup f_is_spare = some ⟨oc_is_spare, od_is_spare, .func (PySem.W.fnOf "is_spare" "is_spare" (defArgs s_is_spare) (defBody s_is_spare) (defScope s_is_spare) .none kV_is_spare dc_is_spare pm_is_spare an_is_spare cd_is_spare ct_is_spare), sl_is_spare⟩)
    (c_is_spare : PySem.W.codeIn K cd_is_spare "is_spare" = true)
    (k_is_spare : PySem.W.keepIn K (.ref f_is_spare) = true)
    (a_least_modulus : PySem.W.nsIn K mainGlobals "least_modulus" = some (some (.ref f_least_modulus)))
    (l_least_modulus : K.lookup f_least_modulus = some ⟨oc_least_modulus, od_least_modulus, .func (PySem.W.fnOf "least_modulus" "least_modulus" (defArgs s_least_modulus) (defBody s_least_modulus) (defScope s_least_modulus) .none kV_least_modulus dc_least_modulus pm_least_modulus an_least_modulus cd_least_modulus ct_least_modulus), sl_least_modulus⟩)
    (c_least_modulus : PySem.W.codeIn K cd_least_modulus "least_modulus" = true)
    (k_least_modulus : PySem.W.keepIn K (.ref f_least_modulus) = true)
    (a_need_polys : PySem.W.nsIn K mainGlobals "need_polys" = some (some (.ref f_need_polys)))
    (l_need_polys : K.lookup f_need_polys = some ⟨oc_need_polys, od_need_polys, .func (PySem.W.fnOf "need_polys" "need_polys" (defArgs s_need_polys) (defBody s_need_polys) (defScope s_need_polys) .none kV_need_polys dc_need_polys pm_need_polys an_need_polys cd_need_polys ct_need_polys), sl_need_polys⟩)
    (c_need_polys : PySem.W.codeIn K cd_need_polys "need_polys" = true)
    (k_need_polys : PySem.W.keepIn K (.ref f_need_polys) = true)
    (a_need_singles : PySem.W.nsIn K mainGlobals "need_singles" = some (some (.ref f_need_singles)))
    (l_need_singles : K.lookup f_need_singles = some ⟨oc_need_singles, od_need_singles, .func (PySem.W.fnOf "need_singles" "need_singles" (defArgs s_need_singles) (defBody s_need_singles) (defScope s_need_singles) .none kV_need_singles dc_need_singles pm_need_singles an_need_singles cd_need_singles ct_need_singles), sl_need_singles⟩)
    (c_need_singles : PySem.W.codeIn K cd_need_singles "need_singles" = true)
    (k_need_singles : PySem.W.keepIn K (.ref f_need_singles) = true)
    (a_Table_init : PySem.W.findIn K (.ref c_Table) "__init__" = some (some (.ref f_Table_init)))
    (i_Table_init : PySem.W.isFn K (.ref f_Table_init) = true)
    (l_Table_init : K.lookup f_Table_init = some ⟨oc_Table_init, od_Table_init, .func (PySem.W.fnOf "__init__" "Table.__init__" (defArgs s_Table_init) (defBody s_Table_init) (defScope s_Table_init) (.ref dT_Table_init) kV_Table_init dc_Table_init pm_Table_init an_Table_init cd_Table_init ct_Table_init), sl_Table_init⟩)
    (c_Table_init : PySem.W.codeIn K cd_Table_init "Table.__init__" = true)
    (k_Table_init : PySem.W.keepIn K (.ref f_Table_init) = true)
    (ld_Table_init : K.lookup dT_Table_init = some ⟨.type "tuple", dd_Table_init, .seq #[.ref e_Table_init_0] dn_Table_init, ds_Table_init⟩)
    (sa_Table_always : PySem.W.findIn K (.ref c_Table) "always" = some (some (.ref p_Table_always)))
    (sr_Table_always : PySem.W.recIn K p_Table_always "staticmethod" = some (.ref f_Table_always :: rs_Table_always))
    (sq_Table_always : PySem.W.findCls K (.ref c_Table) (.type "type") "always" = some (.get (.builtin "staticmethod.__get__") (.ref p_Table_always) .none (.ref c_Table)))
    (sh_Table_always : PySem.W.handedIn (.ref f_Table_always) = true)
    (crd_Table : PySem.W.readsIn K c_Table (.type "type") = true)
    (crg_Table : PySem.W.specialIn K (.ref c_Table) "__getattribute__" = some (some (.builtin "type.__getattribute__")))
    (l_Table_always : K.lookup f_Table_always = some ⟨oc_Table_always, od_Table_always, .func (PySem.W.fnOf "always" "Table.always" (defArgs s_Table_always) (defBody s_Table_always) (defScope s_Table_always) .none kV_Table_always dc_Table_always pm_Table_always an_Table_always cd_Table_always ct_Table_always), sl_Table_always⟩)
    (c_Table_always : PySem.W.codeIn K cd_Table_always "Table.always" = true)
    (k_Table_always : PySem.W.keepIn K (.ref f_Table_always) = true)
    (pa_Table_modulus : PySem.W.findIn K (.ref c_Table) "modulus" = some (some (.ref p_Table_modulus)))
    (pg_Table_modulus : PySem.W.specialIn K (.ref p_Table_modulus) "__get__" = some (some (.builtin "property.__get__")))
    (pt_Table_modulus : PySem.W.takesIn K (.ref p_Table_modulus) = some true)
    (pr_Table_modulus : PySem.W.recIn K p_Table_modulus "property" = some (.ref f_Table_modulus :: rs_Table_modulus))
    (l_Table_modulus : K.lookup f_Table_modulus = some ⟨oc_Table_modulus, od_Table_modulus, .func (PySem.W.fnOf "modulus" "Table.modulus" (defArgs s_Table_modulus) (defBody s_Table_modulus) (defScope s_Table_modulus) .none kV_Table_modulus dc_Table_modulus pm_Table_modulus an_Table_modulus cd_Table_modulus ct_Table_modulus), sl_Table_modulus⟩)
    (c_Table_modulus : PySem.W.codeIn K cd_Table_modulus "Table.modulus" = true)
    (k_Table_modulus : PySem.W.keepIn K (.ref f_Table_modulus) = true)
    (a_Table_polys : PySem.W.findIn K (.ref c_Table) "polys" = some (some (.ref f_Table_polys)))
    (i_Table_polys : PySem.W.isFn K (.ref f_Table_polys) = true)
    (l_Table_polys : K.lookup f_Table_polys = some ⟨oc_Table_polys, od_Table_polys, .func (PySem.W.fnOf "polys" "Table.polys" (defArgs s_Table_polys) (defBody s_Table_polys) (defScope s_Table_polys) .none kV_Table_polys dc_Table_polys pm_Table_polys an_Table_polys cd_Table_polys ct_Table_polys), sl_Table_polys⟩)
    (c_Table_polys : PySem.W.codeIn K cd_Table_polys "Table.polys" = true)
    (k_Table_polys : PySem.W.keepIn K (.ref f_Table_polys) = true)
    (a_Table_singles : PySem.W.findIn K (.ref c_Table) "singles" = some (some (.ref f_Table_singles)))
    (i_Table_singles : PySem.W.isFn K (.ref f_Table_singles) = true)
    (l_Table_singles : K.lookup f_Table_singles = some ⟨oc_Table_singles, od_Table_singles, .func (PySem.W.fnOf "singles" "Table.singles" (defArgs s_Table_singles) (defBody s_Table_singles) (defScope s_Table_singles) .none kV_Table_singles dc_Table_singles pm_Table_singles an_Table_singles cd_Table_singles ct_Table_singles), sl_Table_singles⟩)
    (c_Table_singles : PySem.W.codeIn K cd_Table_singles "Table.singles" = true)
    (k_Table_singles : PySem.W.keepIn K (.ref f_Table_singles) = true)
    (a_Table_poly_at : PySem.W.findIn K (.ref c_Table) "poly_at" = some (some (.ref f_Table_poly_at)))
    (i_Table_poly_at : PySem.W.isFn K (.ref f_Table_poly_at) = true)
    (l_Table_poly_at : K.lookup f_Table_poly_at = some ⟨oc_Table_poly_at, od_Table_poly_at, .func (PySem.W.fnOf "poly_at" "Table.poly_at" (defArgs s_Table_poly_at) (defBody s_Table_poly_at) (defScope s_Table_poly_at) .none kV_Table_poly_at dc_Table_poly_at pm_Table_poly_at an_Table_poly_at cd_Table_poly_at ct_Table_poly_at), sl_Table_poly_at⟩)
    (c_Table_poly_at : PySem.W.codeIn K cd_Table_poly_at "Table.poly_at" = true)
    (k_Table_poly_at : PySem.W.keepIn K (.ref f_Table_poly_at) = true)
    (a_Table_number_at : PySem.W.findIn K (.ref c_Table) "number_at" = some (some (.ref f_Table_number_at)))
    (i_Table_number_at : PySem.W.isFn K (.ref f_Table_number_at) = true)
    (l_Table_number_at : K.lookup f_Table_number_at = some ⟨oc_Table_number_at, od_Table_number_at, .func (PySem.W.fnOf "number_at" "Table.number_at" (defArgs s_Table_number_at) (defBody s_Table_number_at) (defScope s_Table_number_at) .none kV_Table_number_at dc_Table_number_at pm_Table_number_at an_Table_number_at cd_Table_number_at ct_Table_number_at), sl_Table_number_at⟩)
    (c_Table_number_at : PySem.W.codeIn K cd_Table_number_at "Table.number_at" = true)
    (k_Table_number_at : PySem.W.keepIn K (.ref f_Table_number_at) = true)
    (a_Table_call : PySem.W.findIn K (.ref c_Table) "__call__" = some (some (.ref f_Table_call)))
    (i_Table_call : PySem.W.isFn K (.ref f_Table_call) = true)
    (l_Table_call : K.lookup f_Table_call = some ⟨oc_Table_call, od_Table_call, .func (PySem.W.fnOf "__call__" "Table.__call__" (defArgs s_Table_call) (defBody s_Table_call) (defScope s_Table_call) .none kV_Table_call dc_Table_call pm_Table_call an_Table_call cd_Table_call ct_Table_call), sl_Table_call⟩)
    (c_Table_call : PySem.W.codeIn K cd_Table_call "Table.__call__" = true)
    (k_Table_call : PySem.W.keepIn K (.ref f_Table_call) = true)
    (a_Table_eq : PySem.W.findIn K (.ref c_Table) "__eq__" = some (some (.ref f_Table_eq)))
    (i_Table_eq : PySem.W.isFn K (.ref f_Table_eq) = true)
    (l_Table_eq : K.lookup f_Table_eq = some ⟨oc_Table_eq, od_Table_eq, .func (PySem.W.fnOf "__eq__" "Table.__eq__" (defArgs s_Table_eq) (defBody s_Table_eq) (defScope s_Table_eq) .none kV_Table_eq dc_Table_eq pm_Table_eq an_Table_eq cd_Table_eq ct_Table_eq), sl_Table_eq⟩)
    (c_Table_eq : PySem.W.codeIn K cd_Table_eq "Table.__eq__" = true)
    (k_Table_eq : PySem.W.keepIn K (.ref f_Table_eq) = true)
    (a_Table_bool : PySem.W.findIn K (.ref c_Table) "__bool__" = some (some (.ref f_Table_bool)))
    (i_Table_bool : PySem.W.isFn K (.ref f_Table_bool) = true)
    (l_Table_bool : K.lookup f_Table_bool = some ⟨oc_Table_bool, od_Table_bool, .func (PySem.W.fnOf "__bool__" "Table.__bool__" (defArgs s_Table_bool) (defBody s_Table_bool) (defScope s_Table_bool) .none kV_Table_bool dc_Table_bool pm_Table_bool an_Table_bool cd_Table_bool ct_Table_bool), sl_Table_bool⟩)
    (c_Table_bool : PySem.W.codeIn K cd_Table_bool "Table.__bool__" = true)
    (k_Table_bool : PySem.W.keepIn K (.ref f_Table_bool) = true)
    (a_law_bag : PySem.W.nsIn K mainGlobals "_law_bag" = some (some (.ref f_law_bag)))
    (l_law_bag : K.lookup f_law_bag = some ⟨oc_law_bag, od_law_bag, .func (PySem.W.fnOf "_law_bag" "_law_bag" (defArgs s_law_bag) (defBody s_law_bag) (defScope s_law_bag) .none kV_law_bag dc_law_bag pm_law_bag an_law_bag cd_law_bag ct_law_bag), sl_law_bag⟩)
    (c_law_bag : PySem.W.codeIn K cd_law_bag "_law_bag" = true)
    (k_law_bag : PySem.W.keepIn K (.ref f_law_bag) = true)
    (a_law_draw : PySem.W.nsIn K mainGlobals "_law_draw" = some (some (.ref f_law_draw)))
    (l_law_draw : K.lookup f_law_draw = some ⟨oc_law_draw, od_law_draw, .func (PySem.W.fnOf "_law_draw" "_law_draw" (defArgs s_law_draw) (defBody s_law_draw) (defScope s_law_draw) .none kV_law_draw dc_law_draw pm_law_draw an_law_draw cd_law_draw ct_law_draw), sl_law_draw⟩)
    (c_law_draw : PySem.W.codeIn K cd_law_draw "_law_draw" = true)
    (k_law_draw : PySem.W.keepIn K (.ref f_law_draw) = true)
    (a_law_any : PySem.W.nsIn K mainGlobals "_law_any" = some (some (.ref f_law_any)))
    (l_law_any : K.lookup f_law_any = some ⟨oc_law_any, od_law_any, .func (PySem.W.fnOf "_law_any" "_law_any" (defArgs s_law_any) (defBody s_law_any) (defScope s_law_any) .none kV_law_any dc_law_any pm_law_any an_law_any cd_law_any ct_law_any), sl_law_any⟩)
    (c_law_any : PySem.W.codeIn K cd_law_any "_law_any" = true)
    (k_law_any : PySem.W.keepIn K (.ref f_law_any) = true)
    (a_law_same : PySem.W.nsIn K mainGlobals "_law_same" = some (some (.ref f_law_same)))
    (l_law_same : K.lookup f_law_same = some ⟨oc_law_same, od_law_same, .func (PySem.W.fnOf "_law_same" "_law_same" (defArgs s_law_same) (defBody s_law_same) (defScope s_law_same) .none kV_law_same dc_law_same pm_law_same an_law_same cd_law_same ct_law_same), sl_law_same⟩)
    (c_law_same : PySem.W.codeIn K cd_law_same "_law_same" = true)
    (k_law_same : PySem.W.keepIn K (.ref f_law_same) = true)
    (a_law_field : PySem.W.nsIn K mainGlobals "_law_field" = some (some (.ref f_law_field)))
    (l_law_field : K.lookup f_law_field = some ⟨oc_law_field, od_law_field, .func (PySem.W.fnOf "_law_field" "_law_field" (defArgs s_law_field) (defBody s_law_field) (defScope s_law_field) .none kV_law_field dc_law_field pm_law_field an_law_field cd_law_field ct_law_field), sl_law_field⟩)
    (c_law_field : PySem.W.codeIn K cd_law_field "_law_field" = true)
    (k_law_field : PySem.W.keepIn K (.ref f_law_field) = true)
    (a_law_got : PySem.W.nsIn K mainGlobals "_law_got" = some (some (.ref f_law_got)))
    (l_law_got : K.lookup f_law_got = some ⟨oc_law_got, od_law_got, .func (PySem.W.fnOf "_law_got" "_law_got" (defArgs s_law_got) (defBody s_law_got) (defScope s_law_got) .none kV_law_got dc_law_got pm_law_got an_law_got cd_law_got ct_law_got), sl_law_got⟩)
    (c_law_got : PySem.W.codeIn K cd_law_got "_law_got" = true)
    (k_law_got : PySem.W.keepIn K (.ref f_law_got) = true)
    (a_law_all_got : PySem.W.nsIn K mainGlobals "_law_all_got" = some (some (.ref f_law_all_got)))
    (l_law_all_got : K.lookup f_law_all_got = some ⟨oc_law_all_got, od_law_all_got, .func (PySem.W.fnOf "_law_all_got" "_law_all_got" (defArgs s_law_all_got) (defBody s_law_all_got) (defScope s_law_all_got) .none kV_law_all_got dc_law_all_got pm_law_all_got an_law_all_got cd_law_all_got ct_law_all_got), sl_law_all_got⟩)
    (c_law_all_got : PySem.W.codeIn K cd_law_all_got "_law_all_got" = true)
    (k_law_all_got : PySem.W.keepIn K (.ref f_law_all_got) = true)
    (a_law_odd : PySem.W.nsIn K mainGlobals "_law_odd" = some (some (.ref f_law_odd)))
    (l_law_odd : K.lookup f_law_odd = some ⟨oc_law_odd, od_law_odd, .func (PySem.W.fnOf "_law_odd" "_law_odd" (defArgs s_law_odd) (defBody s_law_odd) (defScope s_law_odd) .none kV_law_odd dc_law_odd pm_law_odd an_law_odd cd_law_odd ct_law_odd), sl_law_odd⟩)
    (c_law_odd : PySem.W.codeIn K cd_law_odd "_law_odd" = true)
    (k_law_odd : PySem.W.keepIn K (.ref f_law_odd) = true)
    (a_law_lows : PySem.W.nsIn K mainGlobals "_law_lows" = some (some (.ref f_law_lows)))
    (l_law_lows : K.lookup f_law_lows = some ⟨oc_law_lows, od_law_lows, .func (PySem.W.fnOf "_law_lows" "_law_lows" (defArgs s_law_lows) (defBody s_law_lows) (defScope s_law_lows) .none kV_law_lows dc_law_lows pm_law_lows an_law_lows cd_law_lows ct_law_lows), sl_law_lows⟩)
    (c_law_lows : PySem.W.codeIn K cd_law_lows "_law_lows" = true)
    (k_law_lows : PySem.W.keepIn K (.ref f_law_lows) = true)
    (a_law : PySem.W.nsIn K mainGlobals "law" = some (some (.ref f_law)))
    (l_law : K.lookup f_law = some ⟨oc_law, od_law, .func (PySem.W.fnOf "law" "law" (defArgs s_law) (defBody s_law) (defScope s_law) .none kV_law dc_law pm_law an_law cd_law ct_law), sl_law⟩)
    (c_law : PySem.W.codeIn K cd_law "law" = true)
    (k_law : PySem.W.keepIn K (.ref f_law) = true)
    (le_Table_init_0 : K.lookup e_Table_init_0 = some ⟨.type "tuple", tq_e_Table_init_0, .seq #[] tn_e_Table_init_0, ts_e_Table_init_0⟩)
    (ga_MOST_MODULUS : PySem.W.nsIn K mainGlobals "MOST_MODULUS" = some (some (.int (1000000000) tg_MOST_MODULUS)))
    (a_DialError : PySem.W.nsIn K mainGlobals "DialError" = some (some (.ref c_DialError)))
    (a_InvalidNumber : PySem.W.nsIn K mainGlobals "InvalidNumber" = some (some (.ref c_InvalidNumber)))
    (a_InvalidSingles : PySem.W.nsIn K mainGlobals "InvalidSingles" = some (some (.ref c_InvalidSingles)))
    (a_InvalidTable : PySem.W.nsIn K mainGlobals "InvalidTable" = some (some (.ref c_InvalidTable)))
    (a_Missing : PySem.W.nsIn K mainGlobals "Missing" = some (some (.ref c_Missing)))
    (xi_InvalidNumber : PySem.W.findIn K (.ref c_InvalidNumber) "__init__" = some (some (.ref fx_InvalidNumber)))
    (xl_InvalidNumber : K.lookup fx_InvalidNumber = some ⟨oc_xInvalidNumber, od_xInvalidNumber, .func (PySem.W.fnX "__init__" "InvalidNumber.__init__" (defArgs sx_InvalidNumber) (defBody sx_InvalidNumber) (defScope sx_InvalidNumber) [(("__class__" : Str), cc_InvalidNumber)] .none kV_xInvalidNumber dc_xInvalidNumber pm_xInvalidNumber an_xInvalidNumber (.ref kx_InvalidNumber) ct_xInvalidNumber), sl_xInvalidNumber⟩)
    (xd_InvalidNumber : PySem.W.codeIn K (.ref kx_InvalidNumber) "InvalidNumber.__init__" = true)
    (xe_InvalidNumber : K.lookup cc_InvalidNumber = some ⟨q1_InvalidNumber, q2_InvalidNumber, .cell (some (.ref c_InvalidNumber)), q3_InvalidNumber⟩)
    (xg_InvalidNumber : K.lookup kx_InvalidNumber = some ⟨q4_InvalidNumber, q5_InvalidNumber, .fields qv_InvalidNumber, q6_InvalidNumber⟩)
    (r4x_InvalidNumber : qv_InvalidNumber[2]? = some (.str q7_InvalidNumber q8_InvalidNumber))
    (r5x_InvalidNumber : ((P.main.file : Str) == q7_InvalidNumber) = true)
    (xk_InvalidNumber : ∃ nm q N bs bm sn sub ab col dd k0 k1 k2 k3 k5, K.lookup c_InvalidNumber = some (excClassObj nm q c_InvalidNumber N bs bm true sn sub ab col dd k0 k1 k2 k3 k5 "ValueError.__new__") ∧ refsB PySem.HandSPX.veTail bm = true)
    (xs_InvalidNumber : PySem.W.findIn K (.ref c_InvalidNumber) "__setattr__" = some (some (.builtin "object.__setattr__")))
    (xb_InvalidNumber : PySem.W.subIn K (.ref c_InvalidNumber) (.type "BaseException") = some true)
    (xt_InvalidNumber : PySem.W.typeIn K (.ref c_InvalidNumber) = some (.type "type"))
    (xq_InvalidNumber : PySem.W.keepIn K (.ref c_InvalidNumber) = true)
    (xf_InvalidNumber : xfB K c_InvalidNumber = true)
    (xa_InvalidNumber : PySem.W.ks_superIn K c_InvalidNumber c_InvalidNumber "__init__" = some (some (.builtin "ValueError.__init__")))
    (xv_InvalidNumber : PySem.W.subIn K (.ref c_InvalidNumber) (.type "ValueError") = some true)
    (xm_InvalidNumber : PySem.W.mroIn K c_InvalidNumber (.ref c_InvalidNumber) = some true)
    (xy_InvalidNumber : PySem.W.typeIn K (.ref fx_InvalidNumber) = some (.type "function"))
    (xc_InvalidNumber : PySem.W.findIn K (.ref c_InvalidNumber) "code" = some none)
    (xn_InvalidNumber : PySem.W.findIn K (.ref c_InvalidNumber) "given" = some none)
    (xx_InvalidNumber : PySem.W.exmAny K (.ref c_InvalidNumber) [.ref c_DialError, .ref c_Missing] = some true)
    (xi_InvalidTable : PySem.W.findIn K (.ref c_InvalidTable) "__init__" = some (some (.ref fx_InvalidTable)))
    (xl_InvalidTable : K.lookup fx_InvalidTable = some ⟨oc_xInvalidTable, od_xInvalidTable, .func (PySem.W.fnX "__init__" "InvalidTable.__init__" (defArgs sx_InvalidTable) (defBody sx_InvalidTable) (defScope sx_InvalidTable) [(("__class__" : Str), cc_InvalidTable)] .none kV_xInvalidTable dc_xInvalidTable pm_xInvalidTable an_xInvalidTable (.ref kx_InvalidTable) ct_xInvalidTable), sl_xInvalidTable⟩)
    (xd_InvalidTable : PySem.W.codeIn K (.ref kx_InvalidTable) "InvalidTable.__init__" = true)
    (xe_InvalidTable : K.lookup cc_InvalidTable = some ⟨q1_InvalidTable, q2_InvalidTable, .cell (some (.ref c_InvalidTable)), q3_InvalidTable⟩)
    (xg_InvalidTable : K.lookup kx_InvalidTable = some ⟨q4_InvalidTable, q5_InvalidTable, .fields qv_InvalidTable, q6_InvalidTable⟩)
    (r4x_InvalidTable : qv_InvalidTable[2]? = some (.str q7_InvalidTable q8_InvalidTable))
    (r5x_InvalidTable : ((P.main.file : Str) == q7_InvalidTable) = true)
    (xk_InvalidTable : ∃ nm q N bs bm sn sub ab col dd k0 k1 k2 k3 k5, K.lookup c_InvalidTable = some (excClassObj nm q c_InvalidTable N bs bm true sn sub ab col dd k0 k1 k2 k3 k5 "ValueError.__new__") ∧ refsB PySem.HandSPX.veTail bm = true)
    (xs_InvalidTable : PySem.W.findIn K (.ref c_InvalidTable) "__setattr__" = some (some (.builtin "object.__setattr__")))
    (xb_InvalidTable : PySem.W.subIn K (.ref c_InvalidTable) (.type "BaseException") = some true)
    (xt_InvalidTable : PySem.W.typeIn K (.ref c_InvalidTable) = some (.type "type"))
    (xq_InvalidTable : PySem.W.keepIn K (.ref c_InvalidTable) = true)
    (xf_InvalidTable : xfB K c_InvalidTable = true)
    (xa_InvalidTable : PySem.W.ks_superIn K c_InvalidTable c_InvalidTable "__init__" = some (some (.builtin "ValueError.__init__")))
    (xv_InvalidTable : PySem.W.subIn K (.ref c_InvalidTable) (.type "ValueError") = some true)
    (xm_InvalidTable : PySem.W.mroIn K c_InvalidTable (.ref c_InvalidTable) = some true)
    (xy_InvalidTable : PySem.W.typeIn K (.ref fx_InvalidTable) = some (.type "function"))
    (xc_InvalidTable : PySem.W.findIn K (.ref c_InvalidTable) "code" = some none)
    (xn_InvalidTable : PySem.W.findIn K (.ref c_InvalidTable) "at" = some none)
    (xx_InvalidTable : PySem.W.exmAny K (.ref c_InvalidTable) [.ref c_DialError, .ref c_Missing] = some true)
    (xi_InvalidSingles : PySem.W.findIn K (.ref c_InvalidSingles) "__init__" = some (some (.ref fx_InvalidSingles)))
    (xl_InvalidSingles : K.lookup fx_InvalidSingles = some ⟨oc_xInvalidSingles, od_xInvalidSingles, .func (PySem.W.fnX "__init__" "InvalidSingles.__init__" (defArgs sx_InvalidSingles) (defBody sx_InvalidSingles) (defScope sx_InvalidSingles) [(("__class__" : Str), cc_InvalidSingles)] .none kV_xInvalidSingles dc_xInvalidSingles pm_xInvalidSingles an_xInvalidSingles (.ref kx_InvalidSingles) ct_xInvalidSingles), sl_xInvalidSingles⟩)
    (xd_InvalidSingles : PySem.W.codeIn K (.ref kx_InvalidSingles) "InvalidSingles.__init__" = true)
    (xe_InvalidSingles : K.lookup cc_InvalidSingles = some ⟨q1_InvalidSingles, q2_InvalidSingles, .cell (some (.ref c_InvalidSingles)), q3_InvalidSingles⟩)
    (xg_InvalidSingles : K.lookup kx_InvalidSingles = some ⟨q4_InvalidSingles, q5_InvalidSingles, .fields qv_InvalidSingles, q6_InvalidSingles⟩)
    (r4x_InvalidSingles : qv_InvalidSingles[2]? = some (.str q7_InvalidSingles q8_InvalidSingles))
    (r5x_InvalidSingles : ((P.main.file : Str) == q7_InvalidSingles) = true)
    (xk_InvalidSingles : ∃ nm q N bs bm sn sub ab col dd k0 k1 k2 k3 k5, K.lookup c_InvalidSingles = some (excClassObj nm q c_InvalidSingles N bs bm true sn sub ab col dd k0 k1 k2 k3 k5 "ValueError.__new__") ∧ refsB PySem.HandSPX.veTail bm = true)
    (xs_InvalidSingles : PySem.W.findIn K (.ref c_InvalidSingles) "__setattr__" = some (some (.builtin "object.__setattr__")))
    (xb_InvalidSingles : PySem.W.subIn K (.ref c_InvalidSingles) (.type "BaseException") = some true)
    (xt_InvalidSingles : PySem.W.typeIn K (.ref c_InvalidSingles) = some (.type "type"))
    (xq_InvalidSingles : PySem.W.keepIn K (.ref c_InvalidSingles) = true)
    (xf_InvalidSingles : xfB K c_InvalidSingles = true)
    (xa_InvalidSingles : PySem.W.ks_superIn K c_InvalidSingles c_InvalidSingles "__init__" = some (some (.builtin "ValueError.__init__")))
    (xv_InvalidSingles : PySem.W.subIn K (.ref c_InvalidSingles) (.type "ValueError") = some true)
    (xm_InvalidSingles : PySem.W.mroIn K c_InvalidSingles (.ref c_InvalidSingles) = some true)
    (xy_InvalidSingles : PySem.W.typeIn K (.ref fx_InvalidSingles) = some (.type "function"))
    (xc_InvalidSingles : PySem.W.findIn K (.ref c_InvalidSingles) "code" = some none)
    (xn_InvalidSingles : PySem.W.findIn K (.ref c_InvalidSingles) "at" = some none)
    (xx_InvalidSingles : PySem.W.exmAny K (.ref c_InvalidSingles) [.ref c_DialError, .ref c_Missing] = some true)
    (opq : PySem.W.nsIn K cStatics "thirdparty.any" = some none)
    (r4x : (P.main.scope.names.lookup ("super" : Str)).isSome = false)
    (nf_Poly_Poly : PySem.W.notFirst K c_Poly (.ref c_Poly) = true)
    (nf_Table_Table : PySem.W.notFirst K c_Table (.ref c_Table) = true)
    (tb_cd : cd_law = .ref cL)
    (tb_ts : Tb ∈ ts)
    (tb_hd : PySem.W.codeHdIn K cL Tb = true)
    (tb_no : K.lookup Tb = none)
    (z_all : PySem.W.nsIn K mainGlobals "all" = some none)
    (z_any : PySem.W.nsIn K mainGlobals "any" = some none)
    (z_bool : PySem.W.nsIn K mainGlobals "bool" = some none)
    (z_dict : PySem.W.nsIn K mainGlobals "dict" = some none)
    (z_enumerate : PySem.W.nsIn K mainGlobals "enumerate" = some none)
    (z_int : PySem.W.nsIn K mainGlobals "int" = some none)
    (z_isinstance : PySem.W.nsIn K mainGlobals "isinstance" = some none)
    (z_len : PySem.W.nsIn K mainGlobals "len" = some none)
    (z_list : PySem.W.nsIn K mainGlobals "list" = some none)
    (z_range : PySem.W.nsIn K mainGlobals "range" = some none)
    (z_repr : PySem.W.nsIn K mainGlobals "repr" = some none)
    (z_sorted : PySem.W.nsIn K mainGlobals "sorted" = some none)
    (z_super : PySem.W.nsIn K mainGlobals "super" = some none)
    (z_tuple : PySem.W.nsIn K mainGlobals "tuple" = some none)
    (z_zip : PySem.W.nsIn K mainGlobals "zip" = some none)
    (zb_gcd : PySem.W.nsIn K mainGlobals "gcd" = some (some (.builtin "math.gcd")))
    (fi_Table : PySem.W.fnIn K f_Table_call = true)
    (g1_Poly : PySem.W.plainGet K c_Poly Str.empty = true)
    (g2_Poly : PySem.W.hasDictIn K c_Poly = true)
    (g3_Poly : PySem.W.plainOver K c_Poly = true)
    (g4_Poly : PySem.W.findIn K (.ref c_Poly) "__setattr__" = some (some (.builtin "object.__setattr__")))
    (g1_Table : PySem.W.plainGet K c_Table Str.empty = true)
    (g2_Table : PySem.W.hasDictIn K c_Table = true)
    (g3_Table : PySem.W.plainOver K c_Table = true)
    (g4_Table : PySem.W.findIn K (.ref c_Table) "__setattr__" = some (some (.builtin "object.__setattr__")))
    (g5_Poly : PySem.W.makesIn K c_Poly = true)
    (g6_Poly : PySem.W.keepIn K (.ref c_Poly) = true)
    (g5_Table : PySem.W.makesIn K c_Table = true)
    (g6_Table : PySem.W.keepIn K (.ref c_Table) = true)
    (na_Poly_own_coefs : PySem.W.findIn K (.ref c_Poly) "own_coefs" = some none)
    (na_Table_own_modulus : PySem.W.findIn K (.ref c_Table) "own_modulus" = some none)
    (na_Table_own_polys : PySem.W.findIn K (.ref c_Table) "own_polys" = some none)
    (na_Table_own_singles : PySem.W.findIn K (.ref c_Table) "own_singles" = some none)
    (j1_Poly : PySem.W.findIn K (.ref c_Poly) "__class__" = some (some (.builtin "object.__class__")))
    (j2 : PySem.W.specialIn K (.builtin "object.__class__") "__get__" = some (some (.builtin "getset_descriptor.__get__")))
    (j3 : PySem.W.takesIn K (.builtin "object.__class__") = some true)
    (j4_Poly : PySem.W.mroIn K c_Poly (.type "object") = some true)
    (j1_Table : PySem.W.findIn K (.ref c_Table) "__class__" = some (some (.builtin "object.__class__")))
    (j4_Table : PySem.W.mroIn K c_Table (.type "object") = some true)
    (kt_Poly : PySem.W.typeIn K (.ref c_Poly) = some (.type "type"))
    (kc_Poly : PySem.W.isClsIn K c_Poly = true)
    (ks_NoneType_Poly : PySem.W.subIn K (.type "NoneType") (.ref c_Poly) = some false)
    (ks_Poly_dict : PySem.W.subIn K (.ref c_Poly) (.type "dict") = some false)
    (ks_Poly_list : PySem.W.subIn K (.ref c_Poly) (.type "list") = some false)
    (ks_Poly_tuple : PySem.W.subIn K (.ref c_Poly) (.type "tuple") = some false)
    (ks_bool_Poly : PySem.W.subIn K (.type "bool") (.ref c_Poly) = some false)
    (ks_dict_Poly : PySem.W.subIn K (.type "dict") (.ref c_Poly) = some false)
    (ks_int_Poly : PySem.W.subIn K (.type "int") (.ref c_Poly) = some false)
    (ks_list_Poly : PySem.W.subIn K (.type "list") (.ref c_Poly) = some false)
    (ks_str_Poly : PySem.W.subIn K (.type "str") (.ref c_Poly) = some false)
    (ks_tuple_Poly : PySem.W.subIn K (.type "tuple") (.ref c_Poly) = some false)
    : ∃ (fd : FuncData) (c T : Addr), T ∈ ts ∧ PySem.W.codeHdIn K c T = true ∧ K.lookup T = none ∧ (∀ (s : Shared) (u : Value), BindsTo s fd ⟨[u], []⟩ [("_law_script", u)]) ∧ ∀ base : Heap, K.In base → base.Ns mainGlobals mg → LamX.TabB base mg c T → FnG P w K mg base CX0 15 fa fd ["_law_script"] (spL K T) := by
  have e := hfa.symm.trans (PySem.W.mg_of X G a_law)
  cases e
  have F_is_whole := fun_mk (st := s_is_whole) l_is_whole c_is_whole k_is_whole
  have F_is_number := fun_mk (st := s_is_number) l_is_number c_is_number k_is_number
  have F_need_number := fun_mk (st := s_need_number) l_need_number c_need_number k_need_number
  have F_primes_in := fun_mk (st := s_primes_in) l_primes_in c_primes_in k_primes_in
  have F_all_divisors := fun_mk (st := s_all_divisors) l_all_divisors c_all_divisors k_all_divisors
  have F_common := fun_mk (st := s_common) l_common c_common k_common
  have F_Poly_init := fun_mk (st := s_Poly_init) l_Poly_init c_Poly_init k_Poly_init
  have F_poly_of := fun_mk (st := s_poly_of) l_poly_of c_poly_of k_poly_of
  have F_Poly_eq := fun_mk (st := s_Poly_eq) l_Poly_eq c_Poly_eq k_Poly_eq
  have F_worth_of := fun_mk (st := s_worth_of) l_worth_of c_worth_of k_worth_of
  have F_is_spare := fun_mk (st := s_is_spare) l_is_spare c_is_spare k_is_spare
  have F_least_modulus := fun_mk (st := s_least_modulus) l_least_modulus c_least_modulus k_least_modulus
  have F_need_polys := fun_mk (st := s_need_polys) l_need_polys c_need_polys k_need_polys
  have F_need_singles := fun_mk (st := s_need_singles) l_need_singles c_need_singles k_need_singles
  have F_Table_init : FunE K "__init__" "Table.__init__" s_Table_init f_Table_init (PySem.W.fnOf "__init__" "Table.__init__" (defArgs s_Table_init) (defBody s_Table_init) (defScope s_Table_init) (.ref dT_Table_init) kV_Table_init dc_Table_init pm_Table_init an_Table_init cd_Table_init ct_Table_init) := ⟨⟨_, _, _, _, _, _, _, _, _, _, rfl, l_Table_init, c_Table_init⟩, k_Table_init⟩
  have F_Table_always := fun_mk (st := s_Table_always) l_Table_always c_Table_always k_Table_always
  have F_Table_modulus := fun_mk (st := s_Table_modulus) l_Table_modulus c_Table_modulus k_Table_modulus
  have F_Table_polys := fun_mk (st := s_Table_polys) l_Table_polys c_Table_polys k_Table_polys
  have F_Table_singles := fun_mk (st := s_Table_singles) l_Table_singles c_Table_singles k_Table_singles
  have F_Table_poly_at := fun_mk (st := s_Table_poly_at) l_Table_poly_at c_Table_poly_at k_Table_poly_at
  have F_Table_number_at := fun_mk (st := s_Table_number_at) l_Table_number_at c_Table_number_at k_Table_number_at
  have F_Table_call := fun_mk (st := s_Table_call) l_Table_call c_Table_call k_Table_call
  have F_Table_eq := fun_mk (st := s_Table_eq) l_Table_eq c_Table_eq k_Table_eq
  have F_Table_bool := fun_mk (st := s_Table_bool) l_Table_bool c_Table_bool k_Table_bool
  have F_law_bag := fun_mk (st := s_law_bag) l_law_bag c_law_bag k_law_bag
  have F_law_draw := fun_mk (st := s_law_draw) l_law_draw c_law_draw k_law_draw
  have F_law_any := fun_mk (st := s_law_any) l_law_any c_law_any k_law_any
  have F_law_same := fun_mk (st := s_law_same) l_law_same c_law_same k_law_same
  have F_law_field := fun_mk (st := s_law_field) l_law_field c_law_field k_law_field
  have F_law_got := fun_mk (st := s_law_got) l_law_got c_law_got k_law_got
  have F_law_all_got := fun_mk (st := s_law_all_got) l_law_all_got c_law_all_got k_law_all_got
  have F_law_odd := fun_mk (st := s_law_odd) l_law_odd c_law_odd k_law_odd
  have F_law_lows := fun_mk (st := s_law_lows) l_law_lows c_law_lows k_law_lows
  have F_law := fun_mk (st := s_law) l_law c_law k_law
  have cl_Poly : Cls K c_Poly := ⟨g1_Poly, g2_Poly, g3_Poly, g4_Poly⟩
  have cl_Table : Cls K c_Table := ⟨g1_Table, g2_Table, g3_Table, g4_Table⟩
  have ox_InvalidNumber : OexG K c_InvalidNumber "ValueError.__new__" PySem.HandSPX.veTail := ⟨(by obtain ⟨_, _, _, _, _, _, _, _, _, _, _, _, _, _, _, h1, h2⟩ := xk_InvalidNumber; exact ⟨_, _, _, _, _, _, _, _, _, _, _, _, _, _, _, h1, refs_by h2⟩), xs_InvalidNumber, xb_InvalidNumber, xt_InvalidNumber, xq_InvalidNumber⟩
  have ox_InvalidTable : OexG K c_InvalidTable "ValueError.__new__" PySem.HandSPX.veTail := ⟨(by obtain ⟨_, _, _, _, _, _, _, _, _, _, _, _, _, _, _, h1, h2⟩ := xk_InvalidTable; exact ⟨_, _, _, _, _, _, _, _, _, _, _, _, _, _, _, h1, refs_by h2⟩), xs_InvalidTable, xb_InvalidTable, xt_InvalidTable, xq_InvalidTable⟩
  have ox_InvalidSingles : OexG K c_InvalidSingles "ValueError.__new__" PySem.HandSPX.veTail := ⟨(by obtain ⟨_, _, _, _, _, _, _, _, _, _, _, _, _, _, _, h1, h2⟩ := xk_InvalidSingles; exact ⟨_, _, _, _, _, _, _, _, _, _, _, _, _, _, _, h1, refs_by h2⟩), xs_InvalidSingles, xb_InvalidSingles, xt_InvalidSingles, xq_InvalidSingles⟩
  subst tb_cd
  have T : Txt P K mg ⟨f_is_whole, PySem.W.fnOf "is_whole" "is_whole" (defArgs s_is_whole) (defBody s_is_whole) (defScope s_is_whole) .none kV_is_whole dc_is_whole pm_is_whole an_is_whole cd_is_whole ct_is_whole, f_is_number, PySem.W.fnOf "is_number" "is_number" (defArgs s_is_number) (defBody s_is_number) (defScope s_is_number) .none kV_is_number dc_is_number pm_is_number an_is_number cd_is_number ct_is_number, f_need_number, PySem.W.fnOf "need_number" "need_number" (defArgs s_need_number) (defBody s_need_number) (defScope s_need_number) .none kV_need_number dc_need_number pm_need_number an_need_number cd_need_number ct_need_number, f_primes_in, PySem.W.fnOf "primes_in" "primes_in" (defArgs s_primes_in) (defBody s_primes_in) (defScope s_primes_in) .none kV_primes_in dc_primes_in pm_primes_in an_primes_in cd_primes_in ct_primes_in, f_all_divisors, PySem.W.fnOf "all_divisors" "all_divisors" (defArgs s_all_divisors) (defBody s_all_divisors) (defScope s_all_divisors) .none kV_all_divisors dc_all_divisors pm_all_divisors an_all_divisors cd_all_divisors ct_all_divisors, f_common, PySem.W.fnOf "common" "common" (defArgs s_common) (defBody s_common) (defScope s_common) .none kV_common dc_common pm_common an_common cd_common ct_common, f_Poly_init, PySem.W.fnOf "__init__" "Poly.__init__" (defArgs s_Poly_init) (defBody s_Poly_init) (defScope s_Poly_init) .none kV_Poly_init dc_Poly_init pm_Poly_init an_Poly_init cd_Poly_init ct_Poly_init, f_poly_of, PySem.W.fnOf "poly_of" "poly_of" (defArgs s_poly_of) (defBody s_poly_of) (defScope s_poly_of) .none kV_poly_of dc_poly_of pm_poly_of an_poly_of cd_poly_of ct_poly_of, f_Poly_eq, PySem.W.fnOf "__eq__" "Poly.__eq__" (defArgs s_Poly_eq) (defBody s_Poly_eq) (defScope s_Poly_eq) .none kV_Poly_eq dc_Poly_eq pm_Poly_eq an_Poly_eq cd_Poly_eq ct_Poly_eq, f_worth_of, PySem.W.fnOf "worth_of" "worth_of" (defArgs s_worth_of) (defBody s_worth_of) (defScope s_worth_of) .none kV_worth_of dc_worth_of pm_worth_of an_worth_of cd_worth_of ct_worth_of, f_is_spare, PySem.W.fnOf "is_spare" "is_spare" (defArgs s_is_spare) (defBody s_is_spare) (defScope s_is_spare) .none kV_is_spare dc_is_spare pm_is_spare an_is_spare cd_is_spare ct_is_spare, f_least_modulus, PySem.W.fnOf "least_modulus" "least_modulus" (defArgs s_least_modulus) (defBody s_least_modulus) (defScope s_least_modulus) .none kV_least_modulus dc_least_modulus pm_least_modulus an_least_modulus cd_least_modulus ct_least_modulus, f_need_polys, PySem.W.fnOf "need_polys" "need_polys" (defArgs s_need_polys) (defBody s_need_polys) (defScope s_need_polys) .none kV_need_polys dc_need_polys pm_need_polys an_need_polys cd_need_polys ct_need_polys, f_need_singles, PySem.W.fnOf "need_singles" "need_singles" (defArgs s_need_singles) (defBody s_need_singles) (defScope s_need_singles) .none kV_need_singles dc_need_singles pm_need_singles an_need_singles cd_need_singles ct_need_singles, f_Table_init, PySem.W.fnOf "__init__" "Table.__init__" (defArgs s_Table_init) (defBody s_Table_init) (defScope s_Table_init) (.ref dT_Table_init) kV_Table_init dc_Table_init pm_Table_init an_Table_init cd_Table_init ct_Table_init, f_Table_always, PySem.W.fnOf "always" "Table.always" (defArgs s_Table_always) (defBody s_Table_always) (defScope s_Table_always) .none kV_Table_always dc_Table_always pm_Table_always an_Table_always cd_Table_always ct_Table_always, f_Table_modulus, PySem.W.fnOf "modulus" "Table.modulus" (defArgs s_Table_modulus) (defBody s_Table_modulus) (defScope s_Table_modulus) .none kV_Table_modulus dc_Table_modulus pm_Table_modulus an_Table_modulus cd_Table_modulus ct_Table_modulus, f_Table_polys, PySem.W.fnOf "polys" "Table.polys" (defArgs s_Table_polys) (defBody s_Table_polys) (defScope s_Table_polys) .none kV_Table_polys dc_Table_polys pm_Table_polys an_Table_polys cd_Table_polys ct_Table_polys, f_Table_singles, PySem.W.fnOf "singles" "Table.singles" (defArgs s_Table_singles) (defBody s_Table_singles) (defScope s_Table_singles) .none kV_Table_singles dc_Table_singles pm_Table_singles an_Table_singles cd_Table_singles ct_Table_singles, f_Table_poly_at, PySem.W.fnOf "poly_at" "Table.poly_at" (defArgs s_Table_poly_at) (defBody s_Table_poly_at) (defScope s_Table_poly_at) .none kV_Table_poly_at dc_Table_poly_at pm_Table_poly_at an_Table_poly_at cd_Table_poly_at ct_Table_poly_at, f_Table_number_at, PySem.W.fnOf "number_at" "Table.number_at" (defArgs s_Table_number_at) (defBody s_Table_number_at) (defScope s_Table_number_at) .none kV_Table_number_at dc_Table_number_at pm_Table_number_at an_Table_number_at cd_Table_number_at ct_Table_number_at, f_Table_call, PySem.W.fnOf "__call__" "Table.__call__" (defArgs s_Table_call) (defBody s_Table_call) (defScope s_Table_call) .none kV_Table_call dc_Table_call pm_Table_call an_Table_call cd_Table_call ct_Table_call, f_Table_eq, PySem.W.fnOf "__eq__" "Table.__eq__" (defArgs s_Table_eq) (defBody s_Table_eq) (defScope s_Table_eq) .none kV_Table_eq dc_Table_eq pm_Table_eq an_Table_eq cd_Table_eq ct_Table_eq, f_Table_bool, PySem.W.fnOf "__bool__" "Table.__bool__" (defArgs s_Table_bool) (defBody s_Table_bool) (defScope s_Table_bool) .none kV_Table_bool dc_Table_bool pm_Table_bool an_Table_bool cd_Table_bool ct_Table_bool, f_law_bag, PySem.W.fnOf "_law_bag" "_law_bag" (defArgs s_law_bag) (defBody s_law_bag) (defScope s_law_bag) .none kV_law_bag dc_law_bag pm_law_bag an_law_bag cd_law_bag ct_law_bag, f_law_draw, PySem.W.fnOf "_law_draw" "_law_draw" (defArgs s_law_draw) (defBody s_law_draw) (defScope s_law_draw) .none kV_law_draw dc_law_draw pm_law_draw an_law_draw cd_law_draw ct_law_draw, f_law_any, PySem.W.fnOf "_law_any" "_law_any" (defArgs s_law_any) (defBody s_law_any) (defScope s_law_any) .none kV_law_any dc_law_any pm_law_any an_law_any cd_law_any ct_law_any, f_law_same, PySem.W.fnOf "_law_same" "_law_same" (defArgs s_law_same) (defBody s_law_same) (defScope s_law_same) .none kV_law_same dc_law_same pm_law_same an_law_same cd_law_same ct_law_same, f_law_field, PySem.W.fnOf "_law_field" "_law_field" (defArgs s_law_field) (defBody s_law_field) (defScope s_law_field) .none kV_law_field dc_law_field pm_law_field an_law_field cd_law_field ct_law_field, f_law_got, PySem.W.fnOf "_law_got" "_law_got" (defArgs s_law_got) (defBody s_law_got) (defScope s_law_got) .none kV_law_got dc_law_got pm_law_got an_law_got cd_law_got ct_law_got, f_law_all_got, PySem.W.fnOf "_law_all_got" "_law_all_got" (defArgs s_law_all_got) (defBody s_law_all_got) (defScope s_law_all_got) .none kV_law_all_got dc_law_all_got pm_law_all_got an_law_all_got cd_law_all_got ct_law_all_got, f_law_odd, PySem.W.fnOf "_law_odd" "_law_odd" (defArgs s_law_odd) (defBody s_law_odd) (defScope s_law_odd) .none kV_law_odd dc_law_odd pm_law_odd an_law_odd cd_law_odd ct_law_odd, f_law_lows, PySem.W.fnOf "_law_lows" "_law_lows" (defArgs s_law_lows) (defBody s_law_lows) (defScope s_law_lows) .none kV_law_lows dc_law_lows pm_law_lows an_law_lows cd_law_lows ct_law_lows, fa, PySem.W.fnOf "law" "law" (defArgs s_law) (defBody s_law) (defScope s_law) .none kV_law dc_law pm_law an_law (.ref cL) ct_law, c_Poly, c_Table, p_Table_modulus, c_DialError, c_InvalidNumber, c_InvalidSingles, c_InvalidTable, c_Missing, fx_InvalidNumber, cc_InvalidNumber, kx_InvalidNumber, PySem.W.fnX "__init__" "InvalidNumber.__init__" (defArgs sx_InvalidNumber) (defBody sx_InvalidNumber) (defScope sx_InvalidNumber) [(("__class__" : Str), cc_InvalidNumber)] .none kV_xInvalidNumber dc_xInvalidNumber pm_xInvalidNumber an_xInvalidNumber (.ref kx_InvalidNumber) ct_xInvalidNumber, fx_InvalidTable, cc_InvalidTable, kx_InvalidTable, PySem.W.fnX "__init__" "InvalidTable.__init__" (defArgs sx_InvalidTable) (defBody sx_InvalidTable) (defScope sx_InvalidTable) [(("__class__" : Str), cc_InvalidTable)] .none kV_xInvalidTable dc_xInvalidTable pm_xInvalidTable an_xInvalidTable (.ref kx_InvalidTable) ct_xInvalidTable, fx_InvalidSingles, cc_InvalidSingles, kx_InvalidSingles, PySem.W.fnX "__init__" "InvalidSingles.__init__" (defArgs sx_InvalidSingles) (defBody sx_InvalidSingles) (defScope sx_InvalidSingles) [(("__class__" : Str), cc_InvalidSingles)] .none kV_xInvalidSingles dc_xInvalidSingles pm_xInvalidSingles an_xInvalidSingles (.ref kx_InvalidSingles) ct_xInvalidSingles, p_Table_always, e_Table_init_0⟩ := ⟨PySem.W.mg_none_of X G z_all, PySem.W.mg_none_of X G z_any, PySem.W.mg_none_of X G z_bool, PySem.W.mg_none_of X G z_dict, PySem.W.mg_none_of X G z_enumerate, PySem.W.mg_none_of X G z_int, PySem.W.mg_none_of X G z_isinstance, PySem.W.mg_none_of X G z_len, PySem.W.mg_none_of X G z_list, PySem.W.mg_none_of X G z_range, PySem.W.mg_none_of X G z_repr, PySem.W.mg_none_of X G z_sorted, PySem.W.mg_none_of X G z_super, PySem.W.mg_none_of X G z_tuple, PySem.W.mg_none_of X G z_zip, PySem.W.mg_of X G zb_gcd, PySem.W.mg_of X G a_is_whole, F_is_whole, F_is_whole.binds fun _ _ _ _ _ _ us hl => match us, hl with | [_], _ => rfl, PySem.W.mg_of X G a_is_number, F_is_number, F_is_number.binds fun _ _ _ _ _ _ us hl => match us, hl with | [_, _, _], _ => rfl, PySem.W.mg_of X G a_need_number, F_need_number, F_need_number.binds fun _ _ _ _ _ _ us hl => match us, hl with | [_, _, _], _ => rfl, PySem.W.mg_of X G a_primes_in, F_primes_in, F_primes_in.binds fun _ _ _ _ _ _ us hl => match us, hl with | [_], _ => rfl, PySem.W.mg_of X G a_all_divisors, F_all_divisors, F_all_divisors.binds fun _ _ _ _ _ _ us hl => match us, hl with | [_], _ => rfl, PySem.W.mg_of X G a_common, F_common, F_common.binds fun _ _ _ _ _ _ us hl => match us, hl with | [_, _], _ => rfl, F_Poly_init, bindStar_of (fun _ => rfl) (fun _ _ _ => rfl), PySem.W.mg_of X G a_poly_of, F_poly_of, F_poly_of.binds fun _ _ _ _ _ _ us hl => match us, hl with | [_], _ => rfl, F_Poly_eq, F_Poly_eq.binds fun _ _ _ _ _ _ us hl => match us, hl with | [_, _], _ => rfl, PySem.W.mg_of X G a_worth_of, F_worth_of, F_worth_of.binds fun _ _ _ _ _ _ us hl => match us, hl with | [_, _], _ => rfl, PySem.W.mg_of X G a_is_spare, F_is_spare, F_is_spare.binds fun _ _ _ _ _ _ us hl => match us, hl with | [_, _, _], _ => rfl, PySem.W.mg_of X G a_least_modulus, F_least_modulus, F_least_modulus.binds fun _ _ _ _ _ _ us hl => match us, hl with | [_, _], _ => rfl, PySem.W.mg_of X G a_need_polys, F_need_polys, F_need_polys.binds fun _ _ _ _ _ _ us hl => match us, hl with | [_, _], _ => rfl, PySem.W.mg_of X G a_need_singles, F_need_singles, F_need_singles.binds fun _ _ _ _ _ _ us hl => match us, hl with | [_], _ => rfl, F_Table_init, F_Table_always, F_Table_always.binds fun _ _ _ _ _ _ us hl => match us, hl with | [_], _ => rfl, F_Table_modulus, F_Table_modulus.binds fun _ _ _ _ _ _ us hl => match us, hl with | [_], _ => rfl, F_Table_polys, F_Table_polys.binds fun _ _ _ _ _ _ us hl => match us, hl with | [_], _ => rfl, F_Table_singles, F_Table_singles.binds fun _ _ _ _ _ _ us hl => match us, hl with | [_], _ => rfl, F_Table_poly_at, F_Table_poly_at.binds fun _ _ _ _ _ _ us hl => match us, hl with | [_, _], _ => rfl, F_Table_number_at, F_Table_number_at.binds fun _ _ _ _ _ _ us hl => match us, hl with | [_, _], _ => rfl, F_Table_call, F_Table_call.binds fun _ _ _ _ _ _ us hl => match us, hl with | [_, _], _ => rfl, F_Table_eq, F_Table_eq.binds fun _ _ _ _ _ _ us hl => match us, hl with | [_, _], _ => rfl, F_Table_bool, F_Table_bool.binds fun _ _ _ _ _ _ us hl => match us, hl with | [_], _ => rfl, PySem.W.mg_of X G a_law_bag, F_law_bag, F_law_bag.binds fun _ _ _ _ _ _ us hl => match us, hl with | [_], _ => rfl, PySem.W.mg_of X G a_law_draw, F_law_draw, F_law_draw.binds fun _ _ _ _ _ _ us hl => match us, hl with | [_, _], _ => rfl, PySem.W.mg_of X G a_law_any, F_law_any, F_law_any.binds fun _ _ _ _ _ _ us hl => match us, hl with | [_, _], _ => rfl, PySem.W.mg_of X G a_law_same, F_law_same, F_law_same.binds fun _ _ _ _ _ _ us hl => match us, hl with | [_, _], _ => rfl, PySem.W.mg_of X G a_law_field, F_law_field, F_law_field.binds fun _ _ _ _ _ _ us hl => match us, hl with | [_], _ => rfl, PySem.W.mg_of X G a_law_got, F_law_got, F_law_got.binds fun _ _ _ _ _ _ us hl => match us, hl with | [_], _ => rfl, PySem.W.mg_of X G a_law_all_got, F_law_all_got, F_law_all_got.binds fun _ _ _ _ _ _ us hl => match us, hl with | [_], _ => rfl, PySem.W.mg_of X G a_law_odd, F_law_odd, F_law_odd.binds fun _ _ _ _ _ _ us hl => match us, hl with | [_, _], _ => rfl, PySem.W.mg_of X G a_law_lows, F_law_lows, F_law_lows.binds fun _ _ _ _ _ _ us hl => match us, hl with | [_], _ => rfl, PySem.W.mg_of X G a_law, F_law, F_law.binds fun _ _ _ _ _ _ us hl => match us, hl with | [_], _ => rfl, ⟨_, PySem.W.mg_of X G ga_MOST_MODULUS⟩, ⟨_, _, _, le_Table_init_0, rfl, rfl, by decide, .nil⟩, cb_of fun fs us ws h0 h1 h2 => match fs, us, ws, h0, h1, h2 with | [], [_], [], _, _, _ => rfl, cb_dflt (its := [.ref e_Table_init_0]) ld_Table_init rfl (.cons rfl .nil) fun fs us ws h0 h1 h2 => match fs, us, ws, h0, h1, h2 with | [_], [_, _], [], _, _, _ => ⟨_, rfl, rfl⟩, cb_dflt (its := [.ref e_Table_init_0]) ld_Table_init rfl (.cons rfl .nil) fun fs us ws h0 h1 h2 => match fs, us, ws, h0, h1, h2 with | [_], [_, _, _], [], _, _, _ => ⟨_, rfl, rfl⟩, cb_of fun fs us ws h0 h1 h2 => match fs, us, ws, h0, h1, h2 with | [_], [_], [], _, _, _ => rfl, cb_of fun fs us ws h0 h1 h2 => match fs, us, ws, h0, h1, h2 with | [_], [_], [], _, _, _ => rfl, cb_of fun fs us ws h0 h1 h2 => match fs, us, ws, h0, h1, h2 with | [_], [], [], _, _, _ => rfl, cb_of fun fs us ws h0 h1 h2 => match fs, us, ws, h0, h1, h2 with | [_], [], [], _, _, _ => rfl, cb_of fun fs us ws h0 h1 h2 => match fs, us, ws, h0, h1, h2 with | [], [_, _, _], [], _, _, _ => rfl, cb_of fun fs us ws h0 h1 h2 => match fs, us, ws, h0, h1, h2 with | [], [_, _], [], _, _, _ => rfl, cb_of fun fs us ws h0 h1 h2 => match fs, us, ws, h0, h1, h2 with | [], [_], [], _, _, _ => rfl, ⟨crd_Table, crg_Table⟩, ⟨sq_Table_always, ⟨_, sr_Table_always⟩, sh_Table_always⟩, PySem.W.mg_of X G a_Poly, cl_Poly, PySem.W.mg_of X G a_Table, cl_Table, ⟨g5_Poly, a_Poly_init, i_Poly_init, g6_Poly⟩, ⟨g5_Table, a_Table_init, i_Table_init, g6_Table⟩, na_Poly_own_coefs, na_Table_own_modulus, na_Table_own_polys, na_Table_own_singles, ⟨a_Table_number_at, i_Table_number_at, k_Table_number_at⟩, ⟨a_Table_poly_at, i_Table_poly_at, k_Table_poly_at⟩, ⟨a_Table_polys, i_Table_polys, k_Table_polys⟩, ⟨a_Table_singles, i_Table_singles, k_Table_singles⟩, ⟨pa_Table_modulus, pg_Table_modulus, pt_Table_modulus, _, pr_Table_modulus⟩, ⟨cl_Poly, j1_Poly, j2, j3, j4_Poly, kit_refl⟩, ⟨cl_Table, j1_Table, j2, j3, j4_Table, kit_refl⟩, kit_down kt_Poly kc_Poly ks_NoneType_Poly (Bool.eq_false_iff.mpr fun h => by cases beq_iff_eq.mp h), kit_refl, kit_up ks_Poly_dict, kit_up ks_Poly_list, kit_up ks_Poly_tuple, kit_refl, kit_down kt_Poly kc_Poly ks_bool_Poly (Bool.eq_false_iff.mpr fun h => by cases beq_iff_eq.mp h), kit_down kt_Poly kc_Poly ks_dict_Poly (Bool.eq_false_iff.mpr fun h => by cases beq_iff_eq.mp h), kit_down kt_Poly kc_Poly ks_int_Poly (Bool.eq_false_iff.mpr fun h => by cases beq_iff_eq.mp h), kit_down kt_Poly kc_Poly ks_list_Poly (Bool.eq_false_iff.mpr fun h => by cases beq_iff_eq.mp h), kit_down kt_Poly kc_Poly ks_str_Poly (Bool.eq_false_iff.mpr fun h => by cases beq_iff_eq.mp h), kit_down kt_Poly kc_Poly ks_tuple_Poly (Bool.eq_false_iff.mpr fun h => by cases beq_iff_eq.mp h), a_Poly_eq, i_Poly_eq, a_Table_bool, i_Table_bool, a_Table_call, i_Table_call, fi_Table, a_Table_eq, i_Table_eq, nf_Poly_Poly, nf_Table_Table, (fun d => match d with | .none => kit_down kt_Poly kc_Poly ks_NoneType_Poly (Bool.eq_false_iff.mpr fun h => by cases beq_iff_eq.mp h) | .bool _ => kit_down kt_Poly kc_Poly ks_bool_Poly (Bool.eq_false_iff.mpr fun h => by cases beq_iff_eq.mp h) | .int _ => kit_down kt_Poly kc_Poly ks_int_Poly (Bool.eq_false_iff.mpr fun h => by cases beq_iff_eq.mp h) | .str _ => kit_down kt_Poly kc_Poly ks_str_Poly (Bool.eq_false_iff.mpr fun h => by cases beq_iff_eq.mp h) | .list _ => kit_down kt_Poly kc_Poly ks_list_Poly (Bool.eq_false_iff.mpr fun h => by cases beq_iff_eq.mp h) | .tuple _ => kit_down kt_Poly kc_Poly ks_tuple_Poly (Bool.eq_false_iff.mpr fun h => by cases beq_iff_eq.mp h) | .dict _ => kit_down kt_Poly kc_Poly ks_dict_Poly (Bool.eq_false_iff.mpr fun h => by cases beq_iff_eq.mp h)), PySem.W.mg_of X G a_DialError, PySem.W.mg_of X G a_InvalidNumber, PySem.W.mg_of X G a_InvalidSingles, PySem.W.mg_of X G a_InvalidTable, PySem.W.mg_of X G a_Missing, ox_InvalidNumber, xi_InvalidNumber, xy_InvalidNumber, ⟨foot_value, ox_InvalidNumber, ⟨_, _, _, _, _, rfl⟩, ⟨_, _, _, xl_InvalidNumber⟩, rfl, xd_InvalidNumber, ⟨_, _, _, xe_InvalidNumber⟩, ⟨_, _, _, _, _, _, xg_InvalidNumber, r4x_InvalidNumber, r5x_InvalidNumber⟩, opq, xa_InvalidNumber, xv_InvalidNumber, xm_InvalidNumber, z_super, r4x⟩, (fun _ us _ hl => match us, hl with | [_, _], _ => .of_eq rfl), xc_InvalidNumber, xn_InvalidNumber, ox_InvalidTable, xi_InvalidTable, xy_InvalidTable, ⟨foot_value, ox_InvalidTable, ⟨_, _, _, _, _, rfl⟩, ⟨_, _, _, xl_InvalidTable⟩, rfl, xd_InvalidTable, ⟨_, _, _, xe_InvalidTable⟩, ⟨_, _, _, _, _, _, xg_InvalidTable, r4x_InvalidTable, r5x_InvalidTable⟩, opq, xa_InvalidTable, xv_InvalidTable, xm_InvalidTable, z_super, r4x⟩, (fun _ us _ hl => match us, hl with | [_, _], _ => .of_eq rfl), xc_InvalidTable, xn_InvalidTable, ox_InvalidSingles, xi_InvalidSingles, xy_InvalidSingles, ⟨foot_value, ox_InvalidSingles, ⟨_, _, _, _, _, rfl⟩, ⟨_, _, _, xl_InvalidSingles⟩, rfl, xd_InvalidSingles, ⟨_, _, _, xe_InvalidSingles⟩, ⟨_, _, _, _, _, _, xg_InvalidSingles, r4x_InvalidSingles, r5x_InvalidSingles⟩, opq, xa_InvalidSingles, xv_InvalidSingles, xm_InvalidSingles, z_super, r4x⟩, (fun _ us _ hl => match us, hl with | [_, _], _ => .of_eq rfl), xc_InvalidSingles, xn_InvalidSingles, ⟨(fm_cons (xfB_ok xf_InvalidNumber) (fm_cons (xfB_ok xf_InvalidTable) (fm_cons (xfB_ok xf_InvalidSingles) fm_nil))), (fm_cons xc_InvalidNumber (fm_cons xc_InvalidTable (fm_cons xc_InvalidSingles fm_nil))), (fm_cons (fun f e => by cases e; exact xn_InvalidNumber) (fm_cons (fun f e => by cases e; exact xn_InvalidTable) (fm_cons (fun f e => by cases e; exact xn_InvalidSingles) fm_nil))), (fm_cons ⟨(show (Str.ofString "InvalidNumber").length ≤ sizeLine by decide +kernel), (show PyData.strOk (Str.ofString "InvalidNumber") = true by decide +kernel)⟩ (fm_cons ⟨(show (Str.ofString "InvalidTable").length ≤ sizeLine by decide +kernel), (show PyData.strOk (Str.ofString "InvalidTable") = true by decide +kernel)⟩ (fm_cons ⟨(show (Str.ofString "InvalidSingles").length ≤ sizeLine by decide +kernel), (show PyData.strOk (Str.ofString "InvalidSingles") = true by decide +kernel)⟩ fm_nil))), (fm_cons (show ftb.lookup "InvalidNumber" = some (some ("given" : Str)) by decide +kernel) (fm_cons (show ftb.lookup "InvalidTable" = some (some ("at" : Str)) by decide +kernel) (fm_cons (show ftb.lookup "InvalidSingles" = some (some ("at" : Str)) by decide +kernel) fm_nil)))⟩, (fm_cons xx_InvalidNumber (fm_cons xx_InvalidTable (fm_cons xx_InvalidSingles fm_nil)))⟩
  exact ⟨_, cL, Tb, tb_ts, tb_hd, tb_no, fun s u => .of_eq rfl, fun base _ _ hTB => ok_law T rfl hTB⟩
end K19
open PySem PySem.W PyProof.Rows
set_option maxHeartbeats 0 in
theorem PySem.Challenge.cw_anydial_k19_tables_refused_holds : PySem.Challenge.rw_anydial_k19_tables_refused.Holds := by
  w_on; o_law
  refine Mi.head_i (r := K19.RR) (q := K19.qv) (loose := K19.looseN) (K := K19.KA.heap_1) (as := K19.KA.2.1) (ts := K19.KA.2.2) (ek := K19.run5) (d := HeadRun.topDef K19.RR.prog 44) (kwd := []) 40000 K19.run1 K19.run2 K19.run3 K19.run4 (by kernel_rfl) (by kernel_rfl) (by kernel_rfl) (by rfl) K19.run6 K19.run7 ⟨rfl, rfl, rfl, rfl, rfl, by decide +kernel⟩ ?hw ?hc
  case hw => w_witness2
  k_fill
  refine Mi.walk_GT (l := PySem.Challenge.rw_anydial_k19_tables_refused) (n := 63) (k := 15) (x := "_law_script") (sp := K19.spL) rfl (by decide) rfl ⟨rfl, by decide, by decide⟩ (fun w h Y => ⟨PySem.W.km_in_of Y, PySem.W.km_tabs_of Y⟩) ?F (fun K H a T ns hl hT hS => Mi.sp_tab (wf := K19.m_law) hl hT hS (K19.law_true ns))
  case F =>
    intro w mg fa h KX G hmg
    refine' K19.all_mk KX G hmg ?a_Poly ?a_Table ?a_is_whole ?l_is_whole ?c_is_whole ?k_is_whole ?a_is_number ?l_is_number ?c_is_number ?k_is_number ?a_need_number ?l_need_number ?c_need_number ?k_need_number ?a_primes_in ?l_primes_in ?c_primes_in ?k_primes_in ?a_all_divisors ?l_all_divisors ?c_all_divisors ?k_all_divisors ?a_common ?l_common ?c_common ?k_common ?a_Poly_init ?i_Poly_init ?l_Poly_init ?c_Poly_init ?k_Poly_init ?a_poly_of ?l_poly_of ?c_poly_of ?k_poly_of ?a_Poly_eq ?i_Poly_eq ?l_Poly_eq ?c_Poly_eq ?k_Poly_eq ?a_worth_of ?l_worth_of ?c_worth_of ?k_worth_of ?a_is_spare ?l_is_spare ?c_is_spare ?k_is_spare ?a_least_modulus ?l_least_modulus ?c_least_modulus ?k_least_modulus ?a_need_polys ?l_need_polys ?c_need_polys ?k_need_polys ?a_need_singles ?l_need_singles ?c_need_singles ?k_need_singles ?a_Table_init ?i_Table_init ?l_Table_init ?c_Table_init ?k_Table_init ?ld_Table_init ?sa_Table_always ?sr_Table_always ?sq_Table_always ?sh_Table_always ?crd_Table ?crg_Table ?l_Table_always ?c_Table_always ?k_Table_always ?pa_Table_modulus ?pg_Table_modulus ?pt_Table_modulus ?pr_Table_modulus ?l_Table_modulus ?c_Table_modulus ?k_Table_modulus ?a_Table_polys ?i_Table_polys ?l_Table_polys ?c_Table_polys ?k_Table_polys ?a_Table_singles ?i_Table_singles ?l_Table_singles ?c_Table_singles ?k_Table_singles ?a_Table_poly_at ?i_Table_poly_at ?l_Table_poly_at ?c_Table_poly_at ?k_Table_poly_at ?a_Table_number_at ?i_Table_number_at ?l_Table_number_at ?c_Table_number_at ?k_Table_number_at ?a_Table_call ?i_Table_call ?l_Table_call ?c_Table_call ?k_Table_call ?a_Table_eq ?i_Table_eq ?l_Table_eq ?c_Table_eq ?k_Table_eq ?a_Table_bool ?i_Table_bool ?l_Table_bool ?c_Table_bool ?k_Table_bool ?a_law_bag ?l_law_bag ?c_law_bag ?k_law_bag ?a_law_draw ?l_law_draw ?c_law_draw ?k_law_draw ?a_law_any ?l_law_any ?c_law_any ?k_law_any ?a_law_same ?l_law_same ?c_law_same ?k_law_same ?a_law_field ?l_law_field ?c_law_field ?k_law_field ?a_law_got ?l_law_got ?c_law_got ?k_law_got ?a_law_all_got ?l_law_all_got ?c_law_all_got ?k_law_all_got ?a_law_odd ?l_law_odd ?c_law_odd ?k_law_odd ?a_law_lows ?l_law_lows ?c_law_lows ?k_law_lows ?a_law ?l_law ?c_law ?k_law ?le_Table_init_0 ?ga_MOST_MODULUS ?a_DialError ?a_InvalidNumber ?a_InvalidSingles ?a_InvalidTable ?a_Missing ?xi_InvalidNumber ?xl_InvalidNumber ?xd_InvalidNumber ?xe_InvalidNumber ?xg_InvalidNumber ?r4x_InvalidNumber ?r5x_InvalidNumber ?xk_InvalidNumber ?xs_InvalidNumber ?xb_InvalidNumber ?xt_InvalidNumber ?xq_InvalidNumber ?xf_InvalidNumber ?xa_InvalidNumber ?xv_InvalidNumber ?xm_InvalidNumber ?xy_InvalidNumber ?xc_InvalidNumber ?xn_InvalidNumber ?xx_InvalidNumber ?xi_InvalidTable ?xl_InvalidTable ?xd_InvalidTable ?xe_InvalidTable ?xg_InvalidTable ?r4x_InvalidTable ?r5x_InvalidTable ?xk_InvalidTable ?xs_InvalidTable ?xb_InvalidTable ?xt_InvalidTable ?xq_InvalidTable ?xf_InvalidTable ?xa_InvalidTable ?xv_InvalidTable ?xm_InvalidTable ?xy_InvalidTable ?xc_InvalidTable ?xn_InvalidTable ?xx_InvalidTable ?xi_InvalidSingles ?xl_InvalidSingles ?xd_InvalidSingles ?xe_InvalidSingles ?xg_InvalidSingles ?r4x_InvalidSingles ?r5x_InvalidSingles ?xk_InvalidSingles ?xs_InvalidSingles ?xb_InvalidSingles ?xt_InvalidSingles ?xq_InvalidSingles ?xf_InvalidSingles ?xa_InvalidSingles ?xv_InvalidSingles ?xm_InvalidSingles ?xy_InvalidSingles ?xc_InvalidSingles ?xn_InvalidSingles ?xx_InvalidSingles ?opq ?r4x ?nf_Poly_Poly ?nf_Table_Table ?tb_cd ?tb_ts ?tb_hd ?tb_no ?z_all ?z_any ?z_bool ?z_dict ?z_enumerate ?z_int ?z_isinstance ?z_len ?z_list ?z_range ?z_repr ?z_sorted ?z_super ?z_tuple ?z_zip ?zb_gcd ?fi_Table ?g1_Poly ?g2_Poly ?g3_Poly ?g4_Poly ?g1_Table ?g2_Table ?g3_Table ?g4_Table ?g5_Poly ?g6_Poly ?g5_Table ?g6_Table ?na_Poly_own_coefs ?na_Table_own_modulus ?na_Table_own_polys ?na_Table_own_singles ?j1_Poly ?j2 ?j3 ?j4_Poly ?j1_Table ?j4_Table ?kt_Poly ?kc_Poly ?ks_NoneType_Poly ?ks_Poly_dict ?ks_Poly_list ?ks_Poly_tuple ?ks_bool_Poly ?ks_dict_Poly ?ks_int_Poly ?ks_list_Poly ?ks_str_Poly ?ks_tuple_Poly
    (case a_Poly => k_is)
    (case a_Table => k_is)
    (case a_is_whole => k_is)
    (case l_is_whole => k_is)
    (case c_is_whole => k_is)
    (case k_is_whole => k_is)
    (case a_is_number => k_is)
    (case l_is_number => k_is)
    (case c_is_number => k_is)
    (case k_is_number => k_is)
    (case a_need_number => k_is)
    (case l_need_number => k_is)
    (case c_need_number => k_is)
    (case k_need_number => k_is)
    (case a_primes_in => k_is)
    (case l_primes_in => k_is)
    (case c_primes_in => k_is)
    (case k_primes_in => k_is)
    (case a_all_divisors => k_is)
    (case l_all_divisors => k_is)
    (case c_all_divisors => k_is)
    (case k_all_divisors => k_is)
    (case a_common => k_is)
    (case l_common => k_is)
    (case c_common => k_is)
    (case k_common => k_is)
    (case a_Poly_init => k_is)
    (case i_Poly_init => k_is)
    (case l_Poly_init => k_is)
    (case c_Poly_init => k_is)
    (case k_Poly_init => k_is)
    (case a_poly_of => k_is)
    (case l_poly_of => k_is)
    (case c_poly_of => k_is)
    (case k_poly_of => k_is)
    (case a_Poly_eq => k_is)
    (case i_Poly_eq => k_is)
    (case l_Poly_eq => k_is)
    (case c_Poly_eq => k_is)
    (case k_Poly_eq => k_is)
    (case a_worth_of => k_is)
    (case l_worth_of => k_is)
    (case c_worth_of => k_is)
    (case k_worth_of => k_is)
    (case a_is_spare => k_is)
    (case l_is_spare => k_is)
    (case c_is_spare => k_is)
    (case k_is_spare => k_is)
    (case a_least_modulus => k_is)
    (case l_least_modulus => k_is)
    (case c_least_modulus => k_is)
    (case k_least_modulus => k_is)
    (case a_need_polys => k_is)
    (case l_need_polys => k_is)
    (case c_need_polys => k_is)
    (case k_need_polys => k_is)
    (case a_need_singles => k_is)
    (case l_need_singles => k_is)
    (case c_need_singles => k_is)
    (case k_need_singles => k_is)
    (case a_Table_init => k_is)
    (case i_Table_init => k_is)
    (case l_Table_init => k_is)
    (case c_Table_init => k_is)
    (case k_Table_init => k_is)
    (case ld_Table_init => k_is)
    (case sa_Table_always => k_is)
    (case sr_Table_always => k_is)
    (case sq_Table_always => kernel_rfl)
    (case sh_Table_always => rfl)
    (case crd_Table => kernel_rfl)
    (case crg_Table => k_is)
    (case l_Table_always => k_is)
    (case c_Table_always => k_is)
    (case k_Table_always => k_is)
    (case pa_Table_modulus => k_is)
    (case pg_Table_modulus => k_is)
    (case pt_Table_modulus => k_is)
    (case pr_Table_modulus => k_is)
    (case l_Table_modulus => k_is)
    (case c_Table_modulus => k_is)
    (case k_Table_modulus => k_is)
    (case a_Table_polys => k_is)
    (case i_Table_polys => k_is)
    (case l_Table_polys => k_is)
    (case c_Table_polys => k_is)
    (case k_Table_polys => k_is)
    (case a_Table_singles => k_is)
    (case i_Table_singles => k_is)
    (case l_Table_singles => k_is)
    (case c_Table_singles => k_is)
    (case k_Table_singles => k_is)
    (case a_Table_poly_at => k_is)
    (case i_Table_poly_at => k_is)
    (case l_Table_poly_at => k_is)
    (case c_Table_poly_at => k_is)
    (case k_Table_poly_at => k_is)
    (case a_Table_number_at => k_is)
    (case i_Table_number_at => k_is)
    (case l_Table_number_at => k_is)
    (case c_Table_number_at => k_is)
    (case k_Table_number_at => k_is)
    (case a_Table_call => k_is)
    (case i_Table_call => k_is)
    (case l_Table_call => k_is)
    (case c_Table_call => k_is)
    (case k_Table_call => k_is)
    (case a_Table_eq => k_is)
    (case i_Table_eq => k_is)
    (case l_Table_eq => k_is)
    (case c_Table_eq => k_is)
    (case k_Table_eq => k_is)
    (case a_Table_bool => k_is)
    (case i_Table_bool => k_is)
    (case l_Table_bool => k_is)
    (case c_Table_bool => k_is)
    (case k_Table_bool => k_is)
    (case a_law_bag => k_is)
    (case l_law_bag => k_is)
    (case c_law_bag => k_is)
    (case k_law_bag => k_is)
    (case a_law_draw => k_is)
    (case l_law_draw => k_is)
    (case c_law_draw => k_is)
    (case k_law_draw => k_is)
    (case a_law_any => k_is)
    (case l_law_any => k_is)
    (case c_law_any => k_is)
    (case k_law_any => k_is)
    (case a_law_same => k_is)
    (case l_law_same => k_is)
    (case c_law_same => k_is)
    (case k_law_same => k_is)
    (case a_law_field => k_is)
    (case l_law_field => k_is)
    (case c_law_field => k_is)
    (case k_law_field => k_is)
    (case a_law_got => k_is)
    (case l_law_got => k_is)
    (case c_law_got => k_is)
    (case k_law_got => k_is)
    (case a_law_all_got => k_is)
    (case l_law_all_got => k_is)
    (case c_law_all_got => k_is)
    (case k_law_all_got => k_is)
    (case a_law_odd => k_is)
    (case l_law_odd => k_is)
    (case c_law_odd => k_is)
    (case k_law_odd => k_is)
    (case a_law_lows => k_is)
    (case l_law_lows => k_is)
    (case c_law_lows => k_is)
    (case k_law_lows => k_is)
    (case a_law => k_is)
    (case l_law => k_is)
    (case c_law => k_is)
    (case k_law => k_is)
    (case le_Table_init_0 => k_is)
    (case ga_MOST_MODULUS => k_is)
    (case a_DialError => k_is)
    (case a_InvalidNumber => k_is)
    (case a_InvalidSingles => k_is)
    (case a_InvalidTable => k_is)
    (case a_Missing => k_is)
    (case xi_InvalidNumber => k_is)
    (case xl_InvalidNumber => k_is)
    (case xd_InvalidNumber => k_is)
    (case xe_InvalidNumber => k_is)
    (case xg_InvalidNumber => k_is)
    (case r4x_InvalidNumber => rfl)
    (case r5x_InvalidNumber => decide +kernel)
    (case xk_InvalidNumber => exact ⟨_, _, _, _, _, _, _, _, _, _, _, _, _, _, _, by k_is, by decide +kernel⟩)
    (case xs_InvalidNumber => k_is)
    (case xb_InvalidNumber => k_is)
    (case xt_InvalidNumber => k_is)
    (case xq_InvalidNumber => k_is)
    (case xf_InvalidNumber => kernel_rfl)
    (case xa_InvalidNumber => kernel_rfl)
    (case xv_InvalidNumber => k_is)
    (case xm_InvalidNumber => k_is)
    (case xy_InvalidNumber => k_is)
    (case xc_InvalidNumber => k_is)
    (case xn_InvalidNumber => k_is)
    (case xx_InvalidNumber => kernel_rfl)
    (case xi_InvalidTable => k_is)
    (case xl_InvalidTable => k_is)
    (case xd_InvalidTable => k_is)
    (case xe_InvalidTable => k_is)
    (case xg_InvalidTable => k_is)
    (case r4x_InvalidTable => rfl)
    (case r5x_InvalidTable => decide +kernel)
    (case xk_InvalidTable => exact ⟨_, _, _, _, _, _, _, _, _, _, _, _, _, _, _, by k_is, by decide +kernel⟩)
    (case xs_InvalidTable => k_is)
    (case xb_InvalidTable => k_is)
    (case xt_InvalidTable => k_is)
    (case xq_InvalidTable => k_is)
    (case xf_InvalidTable => kernel_rfl)
    (case xa_InvalidTable => kernel_rfl)
    (case xv_InvalidTable => k_is)
    (case xm_InvalidTable => k_is)
    (case xy_InvalidTable => k_is)
    (case xc_InvalidTable => k_is)
    (case xn_InvalidTable => k_is)
    (case xx_InvalidTable => kernel_rfl)
    (case xi_InvalidSingles => k_is)
    (case xl_InvalidSingles => k_is)
    (case xd_InvalidSingles => k_is)
    (case xe_InvalidSingles => k_is)
    (case xg_InvalidSingles => k_is)
    (case r4x_InvalidSingles => rfl)
    (case r5x_InvalidSingles => decide +kernel)
    (case xk_InvalidSingles => exact ⟨_, _, _, _, _, _, _, _, _, _, _, _, _, _, _, by k_is, by decide +kernel⟩)
    (case xs_InvalidSingles => k_is)
    (case xb_InvalidSingles => k_is)
    (case xt_InvalidSingles => k_is)
    (case xq_InvalidSingles => k_is)
    (case xf_InvalidSingles => kernel_rfl)
    (case xa_InvalidSingles => kernel_rfl)
    (case xv_InvalidSingles => k_is)
    (case xm_InvalidSingles => k_is)
    (case xy_InvalidSingles => k_is)
    (case xc_InvalidSingles => k_is)
    (case xn_InvalidSingles => k_is)
    (case xx_InvalidSingles => kernel_rfl)
    (case opq => k_is)
    (case r4x => decide +kernel)
    (case nf_Poly_Poly => k_is)
    (case nf_Table_Table => k_is)
    (case tb_cd => rfl)
    (case tb_ts => exact List.Mem.head _)
    (case tb_hd => kernel_rfl)
    (case tb_no => kernel_rfl)
    (case z_all => k_is)
    (case z_any => k_is)
    (case z_bool => k_is)
    (case z_dict => k_is)
    (case z_enumerate => k_is)
    (case z_int => k_is)
    (case z_isinstance => k_is)
    (case z_len => k_is)
    (case z_list => k_is)
    (case z_range => k_is)
    (case z_repr => k_is)
    (case z_sorted => k_is)
    (case z_super => k_is)
    (case z_tuple => k_is)
    (case z_zip => k_is)
    (case zb_gcd => k_is)
    (case fi_Table => kernel_rfl)
    (case g1_Poly => k_is)
    (case g2_Poly => k_is)
    (case g3_Poly => k_is)
    (case g4_Poly => k_is)
    (case g1_Table => k_is)
    (case g2_Table => k_is)
    (case g3_Table => k_is)
    (case g4_Table => k_is)
    (case g5_Poly => k_is)
    (case g6_Poly => k_is)
    (case g5_Table => k_is)
    (case g6_Table => k_is)
    (case na_Poly_own_coefs => k_is)
    (case na_Table_own_modulus => k_is)
    (case na_Table_own_polys => k_is)
    (case na_Table_own_singles => k_is)
    (case j1_Poly => k_is)
    (case j2 => k_is)
    (case j3 => k_is)
    (case j4_Poly => k_is)
    (case j1_Table => k_is)
    (case j4_Table => k_is)
    (case kt_Poly => k_is)
    (case kc_Poly => k_is)
    (case ks_NoneType_Poly => k_is)
    (case ks_Poly_dict => k_is)
    (case ks_Poly_list => k_is)
    (case ks_Poly_tuple => k_is)
    (case ks_bool_Poly => k_is)
    (case ks_dict_Poly => k_is)
    (case ks_int_Poly => k_is)
    (case ks_list_Poly => k_is)
    (case ks_str_Poly => k_is)
    (case ks_tuple_Poly => k_is)
