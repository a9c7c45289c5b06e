import PyProof.Rows.All
import Wide.All
import OpenK.AllK
import Wide.FinOn
import HandS.ForMost
import HandS.ForExc
import HandS.CallSlots
import HandS.Wide
import HandS.TupAny
import HandS.Style
import HandS.Conv
import HandS.IsInst
import HandS.Property
import HandS.StrMore
import HandS.Rev
import HandS.Text
import KE.DataEq
import HandS.ClsMeth
import HandS.OwnIter
import HandS.IterVal
import HandS.GenYield
import HandS.GenList
import HandS.Ends
import HandS.Star
import HandS.Defaults
import HandS.MakeKwOnly
import HandS.SortInts
import HandS.RevRange
import PySem.Challenge.RW_powersanddays_k24_whole_greatest_facts_b
import PyProof.Rows.BitMore
import HandS.WideBits
set_option Elab.async false
set_option linter.all false
section
set_option maxRecDepth 100000
/-! A layer of pure results over the hand layer: what a def's body gives, as a function of plain data. -/
namespace PL
open PySem L2
/-! ### arguments without stars -/
def notStar : Expr → Bool
  | .Starred _ _ => false
  | _ => true
theorem star_ns {e : Expr} {es : List Expr} {env : Env} (h : notStar e = true) : starEach (e :: es) env = (false, eval e env) :: starEach es env := by
  cases e <;> first | rfl | exact absurd h Bool.false_ne_true
theorem star_1 {e : Expr} {env : Env} (h : notStar e = true) : starEach [e] env = [(false, eval e env)] := star_ns h
theorem star_2 {e f : Expr} {env : Env} (h : notStar e = true) (g : notStar f = true) : starEach [e, f] env = [(false, eval e env), (false, eval f env)] := by rw [star_ns h, star_1 g]
theorem back_ns {pos : Pos} {env : Env} : ∀ {es : List Expr}, es.all notStar = true → (backTo pos (starEach es env)).any (·.1) = false
  | [], _ => rfl
  | e :: es, h => by
    rw [List.all_cons, Bool.and_eq_true] at h
    rw [star_ns h.1]
    exact back_ns (es := es) h.2
theorem few_1 {p : Pos} {e : Expr} {env : Env} (h : notStar e = true) : ((backTo p (starEach [e] env)).all (fun x => !x.1) && (backToKw p (keywordEach [] env)).all (fun x => x.1.isSome)
      && decide ([e].length + ([] : List Keyword).length + (if ([] : List Keyword).isEmpty then 0 else 1) < 30)) = true := by
  rw [star_1 h]; rfl
/-! ### results -/
/-- what an own exception bears -/
inductive Pay where
  | non | int (i : Int) | str (s : Str) | ints (xs : List Int)
structure Err where
  cls : Str
  fld : List (Str × Pay)
inductive M (α : Type) where
  | ok (a : α)
  | exc (e : Err)
  | stuck
namespace M
variable {α β γ : Type}
def bind : M α → (α → M β) → M β
  | .ok a, f => f a
  | .exc e, _ => .exc e
  | .stuck, _ => .stuck
def grd (c : Bool) (m : M α) : M α := match c with
  | true => m
  | false => .stuck
@[simp] theorem bind_ok (a : α) (f : α → M β) : (M.ok a).bind f = f a := rfl
@[simp] theorem bind_stuck (f : α → M β) : (M.stuck).bind f = .stuck := rfl
@[simp] theorem bind_exc (e : Err) (f : α → M β) : (M.exc e).bind f = .exc e := rfl
theorem bind_id (m : M α) : m.bind (fun a => .ok a) = m := by cases m <;> rfl
@[simp] theorem grd_true (m : M α) : M.grd true m = m := rfl
/-- no exception is let out of a comprehension -/
def nox : M α → M α
  | .ok a => .ok a
  | .exc _ => .stuck
  | .stuck => .stuck
end M
/-! ### heaps -/
structure Ext (H F H' F' : Hp) : Prop where
  hh : Same H H'
  ff : Same F F'
  fh : Same F' H'
  nw : ∀ a, H a ≠ none → F a = none → F' a = none
theorem Ext.refl {H F : Hp} (h : Same F H) : Ext H F H F := ⟨Same.refl _, Same.refl _, h, fun _ _ e => e⟩
theorem Ext.trans {H F H1 F1 H2 F2 : Hp} (a : Ext H F H1 F1) (b : Ext H1 F1 H2 F2) : Ext H F H2 F2 where
  hh := a.hh.trans b.hh
  ff := a.ff.trans b.ff
  fh := b.fh
  nw := fun c h e => b.nw c (fun z => h (a.hh.free z)) (a.nw c h e)
theorem same_upd {H : Hp} {p : Addr} {o : HO} (h : H p = none) : Same H (upd H p o) := fun b x e => by
  rw [upd_ne (ne_of_none e h)]
  exact e
/-- a new object, frozen -/
theorem Ext.new {H F : Hp} (h : Same F H) {p : Addr} {o : HO} (hp : H p = none) : Ext H F (upd H p o) (upd F p o) where
  hh := same_upd hp
  ff := same_upd (h.free hp)
  fh := fun b x e => by
    by_cases hb : b = p
    · subst hb; rw [upd_same] at e ⊢; exact e
    · rw [upd_ne hb] at e ⊢; exact h b x e
  nw := fun a ha e => by rw [upd_ne (fun z => ha (by rw [z]; exact hp))]; exact e
/-- a new object, one's own -/
theorem Ext.own {H F : Hp} (h : Same F H) {p : Addr} {o : HO} (hp : H p = none) : Ext H F (upd H p o) F where
  hh := same_upd hp
  ff := Same.refl _
  fh := h.trans (same_upd hp)
  nw := fun _ _ e => e
theorem Same.tq {K : PySem.W.Frag} {H H' : Hp} {a : Addr} {xs : List V} (e : Same H H') (h : SqT K H a xs) : SqT K H' a xs := by
  rcases h with (h | ⟨o, h⟩) | h
  · exact .inl (.inl (e _ _ h))
  · exact .inl (.inr ⟨o, e _ _ h⟩)
  · exact .inr h
/-! ### how data lies in the heap -/
structure R (K : PySem.W.Frag) (α : Type) where
  rep : Hp → V → α → Prop
  mono : ∀ {H H' : Hp} {v : V} {x : α}, Same H H' → rep H v x → rep H' v x
section
variable {K : PySem.W.Frag} {α β γ δ : Type}
theorem reps_mono {r : R K α} {H H' : Hp} (h : Same H H') : ∀ {vs : List V} {xs : List α}, Paired (r.rep H) vs xs → Paired (r.rep H') vs xs
  | _, _, .nil => .nil
  | _, _, .cons a t => .cons (r.mono h a) (reps_mono h t)
theorem Paired.get {F : V → α → Prop} : ∀ {vs : List V} {xs : List α} {i : Nat} {x : α}, Paired F vs xs → xs[i]? = some x → ∃ v, vs[i]? = some v ∧ F v x
  | _, _, _, _, .nil, e => by simp at e
  | _, _, 0, _, .cons h _, e => by simp at e; subst e; exact ⟨_, rfl, h⟩
  | _, _, i + 1, x, .cons _ t, e => by
    obtain ⟨v, h1, h2⟩ := Paired.get (i := i) (x := x) t (by simpa using e)
    exact ⟨v, by simpa using h1, h2⟩
theorem Paired.get' {F : V → α → Prop} : ∀ {vs : List V} {xs : List α} {i : Nat} {v : V}, Paired F vs xs → vs[i]? = some v → ∃ x, xs[i]? = some x ∧ F v x
  | _, _, _, _, .nil, e => by simp at e
  | _, _, 0, _, .cons h _, e => by simp at e; subst e; exact ⟨_, rfl, h⟩
  | _, _, i + 1, v, .cons _ t, e => by
    obtain ⟨x, h1, h2⟩ := Paired.get' (i := i) (v := v) t (by simpa using e)
    exact ⟨x, by simpa using h1, h2⟩
theorem Paired.app {F : V → α → Prop} : ∀ {vs ws : List V} {xs ys : List α}, Paired F vs xs → Paired F ws ys → Paired F (vs ++ ws) (xs ++ ys)
  | _, _, _, _, .nil, h => h
  | _, _, _, _, .cons a t, h => .cons a (Paired.app t h)
theorem Paired.drp {F : V → α → Prop} : ∀ {vs : List V} {xs : List α} (n : Nat), Paired F vs xs → Paired F (vs.drop n) (xs.drop n)
  | _, _, 0, h => h
  | _, _, _ + 1, .nil => .nil
  | _, _, n + 1, .cons _ t => Paired.drp n t
theorem Paired.tke {F : V → α → Prop} : ∀ {vs : List V} {xs : List α} (n : Nat), Paired F vs xs → Paired F (vs.take n) (xs.take n)
  | _, _, 0, _ => .nil
  | _, _, _ + 1, .nil => .nil
  | _, _, n + 1, .cons a t => .cons a (Paired.tke n t)
theorem Paired.st {F : V → α → Prop} {v : V} {x : α} (h : F v x) : ∀ {vs : List V} {xs : List α} (n : Nat), Paired F vs xs → Paired F (vs.set n v) (xs.set n x)
  | _, _, _, .nil => .nil
  | _, _, 0, .cons _ t => .cons h t
  | _, _, n + 1, .cons a t => .cons a (Paired.st h n t)
def rInt : R K Int := ⟨fun _ v x => v = .int x, fun _ h => h⟩
def rBool : R K Bool := ⟨fun _ v x => v = .bl x, fun _ h => h⟩
def rStr : R K Str := ⟨fun _ v x => v = .str x, fun _ h => h⟩
def rNone : R K Unit := ⟨fun _ v _ => v = .non, fun _ h => h⟩
def rList (r : R K α) : R K (List α) := ⟨fun H v xs => ∃ p vs, v = .ref p ∧ H p = some (.lst vs) ∧ Paired (r.rep H) vs xs, fun h ⟨p, vs, e, a, b⟩ => ⟨p, vs, e, h _ _ a, reps_mono h b⟩⟩
/-- the script: read, never written -/
def rScr : R K (List Int) := ⟨fun H v xs => ∃ p, v = .ref p ∧ SqL K H p (xs.map V.int), fun h ⟨p, e, a⟩ => ⟨p, e, h.seq a⟩⟩
def rVTup (r : R K α) : R K (List α) := ⟨fun H v xs => ∃ p vs, v = .ref p ∧ SqT K H p vs ∧ Paired (r.rep H) vs xs, fun h ⟨p, vs, e, a, b⟩ => ⟨p, vs, e, Same.tq h a, reps_mono h b⟩⟩
def rTup2 (r : R K α) (s : R K β) : R K (α × β) := ⟨fun H v x => ∃ p a b, v = .ref p ∧ SqT K H p [a, b] ∧ r.rep H a x.1 ∧ s.rep H b x.2, fun h ⟨p, a, b, e, q, c, d⟩ => ⟨p, a, b, e, Same.tq h q, r.mono h c, s.mono h d⟩⟩
def rTup3 (r : R K α) (s : R K β) (t : R K γ) : R K (α × β × γ) := ⟨fun H v x => ∃ p a b c, v = .ref p ∧ SqT K H p [a, b, c] ∧ r.rep H a x.1 ∧ s.rep H b x.2.1 ∧ t.rep H c x.2.2, fun h ⟨p, a, b, c, e, q, c1, c2, c3⟩ => ⟨p, a, b, c, e, Same.tq h q, r.mono h c1, s.mono h c2, t.mono h c3⟩⟩
def rOpt (r : R K α) : R K (Option α) := ⟨fun H v x => match x with | none => v = .non | some y => v ≠ .non ∧ r.rep H v y, fun {_ _ _ x} h => match x with | none => fun e => e | some _ => fun ⟨n, e⟩ => ⟨n, r.mono h e⟩⟩
def payRep (K : PySem.W.Frag) (F : Hp) : V → Pay → Prop
  | v, .non => v = .non
  | v, .int i => v = .int i
  | v, .str s => v = .str s
  | v, .ints xs => (rVTup (K := K) rInt).rep F v xs
def ErrOk (K : PySem.W.Frag) (mg : Str → Option Value) (cls : Value) (d : Option Addr) (F : Hp) (e : Err) : Prop :=
  mg e.cls = some cls ∧ (e.fld = [] ∧ d = none ∨ ∃ a fs, d = some a ∧ F a = some (.xd fs) ∧ Paired (fun (p : Str × V) (q : Str × Pay) => p.1 = q.1 ∧ payRep K F p.2 q.2) fs e.fld)
/-! ### the attributes of an instance -/
structure RF (K : PySem.W.Frag) (A : Type) where
  names : List Str
  rep : Hp → List (Str × V) → A → Prop
  mono : ∀ {F F' : Hp} {fs : List (Str × V)} {x : A}, Same F F' → rep F fs x → rep F' fs x
  keys : ∀ {F : Hp} {fs : List (Str × V)} {x : A}, rep F fs x → fs.map (·.1) = names
def rfN : RF K Unit := ⟨[], fun _ fs _ => fs = [], fun _ h => h, fun h => by rw [h]; rfl⟩
def rfC (f : Str) (r : R K α) (t : RF K β) : RF K (α × β) :=
  ⟨f :: t.names, fun F fs x => ∃ v gs, fs = (f, v) :: gs ∧ r.rep F v x.1 ∧ t.rep F gs x.2, fun h ⟨v, gs, e, a, b⟩ => ⟨v, gs, e, r.mono h a, t.mono h b⟩, fun ⟨v, gs, e, a, b⟩ => by rw [e, List.map_cons, t.keys b]⟩
/-- an instance that stays as it is -/
def rObj (C : Addr) (rf : RF K α) : R K α := ⟨fun F v x => ∃ a dx fs, v = .ref a ∧ F a = some (.ins C dx fs) ∧ rf.rep F fs x, fun h ⟨a, dx, fs, e, p, q⟩ => ⟨a, dx, fs, e, h _ _ p, rf.mono h q⟩⟩
/-! ### the slots -/
inductive Sl (K : PySem.W.Frag) : Type 1 where
  | no
  | va {α : Type} (r : R K α) (x : α)
  | ow {α : Type} (r : R K α) (xs : List α)
  | bo {α : Type} (r : R K α) (xs : List α)
  | ob (C : Addr) (o : Option (Addr × Addr)) {α : Type} (rf : RF K α) (x : α)
abbrev En (K : PySem.W.Frag) := List (Sl K)
def Sl.isOw : Sl K → Prop
  | .ow _ _ => True
  | .ob _ _ _ _ => True
  | _ => False
def SlOk (B H F : Hp) : Sl K → Option V → Prop
  | .no, _ => True
  | .va r x, o => ∃ v, o = some v ∧ r.rep F v x
  | .ow r xs, o => ∃ p vs, o = some (.ref p) ∧ B p = none ∧ F p = none ∧ H p = some (.lst vs) ∧ Paired (r.rep F) vs xs
  | .bo r xs, o => ∃ p vs, o = some (.ref p) ∧ B p = some (.lst vs) ∧ Paired (r.rep F) vs xs
  | .ob C q rf x, o => ∃ a dx fs, (∀ z, q = some z → z = (a, dx)) ∧ o = some (.ref a) ∧ dx ≠ a ∧ B a = none ∧ F a = none ∧ B dx = none ∧ F dx = none ∧ H a = some (.ins C dx fs) ∧ H dx = some (.own a) ∧ rf.rep F fs x
structure EnOk (Γ : En K) (σ : St) (B F0 H F : Hp) : Prop where
  ex : Ext B F0 H F
  sl : ∀ (i : Nat) (s : Sl K), Γ[i]? = some s → ∃ o, σ[i]? = some o ∧ SlOk B H F s o
  ap : ∀ (i j : Nat) (s t : Sl K) (p : Addr), i ≠ j → Γ[i]? = some s → Γ[j]? = some t → s.isOw → t.isOw → σ[i]? = some (some (.ref p)) → σ[j]? = some (some (.ref p)) → False
theorem SlOk.ext {B H F H' F' : Hp} (e : Ext H F H' F') : ∀ {s : Sl K} {o : Option V}, SlOk B H F s o → SlOk B H' F' s o
  | .no, _, _ => trivial
  | .va r x, _, ⟨v, a, b⟩ => ⟨v, a, r.mono e.ff b⟩
  | .ow r xs, _, ⟨p, vs, a, b, c, d, k⟩ => ⟨p, vs, a, b, e.nw p (by rw [d]; exact fun z => nomatch z) c, e.hh _ _ d, reps_mono e.ff k⟩
  | .bo r xs, _, ⟨p, vs, a, b, c⟩ => ⟨p, vs, a, b, reps_mono e.ff c⟩
  | .ob C q rf x, _, ⟨a, dx, fs, z, e1, ne, b, c, b2, c2, d, d2, k⟩ => ⟨a, dx, fs, z, e1, ne, b, e.nw a (by rw [d]; exact fun z => nomatch z) c, b2, e.nw dx (by rw [d2]; exact fun z => nomatch z) c2, e.hh _ _ d, e.hh _ _ d2, rf.mono e.ff k⟩
theorem EnOk.ext {Γ : En K} {σ : St} {B F0 H F H' F' : Hp} (h : EnOk Γ σ B F0 H F) (e : Ext H F H' F') : EnOk Γ σ B F0 H' F' :=
  ⟨h.ex.trans e, fun i s q => let ⟨o, a, b⟩ := h.sl i s q; ⟨o, a, b.ext e⟩, h.ap⟩
theorem EnOk.fh {Γ : En K} {σ : St} {B F0 H F : Hp} (h : EnOk Γ σ B F0 H F) : Same F H := h.ex.fh
end
/-! ### weakest readings -/
section
variable (X : Cx)
structure wE (e : Expr) (σ : St) (H : Hp) (Q : VK) : Prop where
  run : ∀ pins s, Inv X pins σ H s → wpAny (model X.prog X.w) X.A (eval e X.env) (EP X pins σ Q) X.xe s
structure wT (e : Expr) (σ : St) (H : Hp) (Q : Bool → Hp → Prop) : Prop where
  run : ∀ pins s, Inv X pins σ H s → wpAny (model X.prog X.w) X.A (isTrue e X.env (eval e X.env)) (TP X pins σ Q) X.xe s
structure wW (e : Expr) (σ : St) (H : Hp) (Q : Bool → Hp → Prop) : Prop where
  run : ∀ (whole : Sem Value) pins s, Inv X pins σ H s → wpAny (model X.prog X.w) X.A (isTrue e X.env whole) (TP X pins σ Q) X.xe s
structure wA (es : List Expr) (σ : St) (H : Hp) (Q : List V → Hp → Prop) : Prop where
  run : ∀ (pos : Pos) pins s, Inv X pins σ H s → wpAny (model X.prog X.w) X.A (spliced (backTo pos (starEach es X.env))) (AP X pins σ Q) X.xe s
structure wS (st : Stmt) (D : Ends) (σ : St) (H : Hp) : Prop where
  run : ∀ pins s, Inv X pins σ H s → wpAny (model X.prog X.w) X.A (exec st X.env) (SP X pins D) X.xe s
structure wB (st : List Stmt) (D : Ends) (σ : St) (H : Hp) : Prop where
  run : ∀ pins s, Inv X pins σ H s → wpAny (model X.prog X.w) X.A (execs st X.env) (SP X pins D) X.xe s
end
section
variable {X : Cx} {e : Expr} {es : List Expr} {st : Stmt} {sts : List Stmt}
theorem pe_w : PE X e (wE X e) := ⟨fun pins s _ _ _ I h => h.run pins s I⟩
theorem pt_w : PT X e (wT X e) := ⟨fun pins s _ _ _ I h => h.run pins s I⟩
theorem pw_w : PW X e (wW X e) := ⟨fun wh pins s _ _ _ I h => h.run wh pins s I⟩
theorem pa_w : PA X es (wA X es) := ⟨fun pos pins s _ _ _ I h => h.run pos pins s I⟩
theorem ps_w : PS X st (wS X st) := ⟨fun pins s _ _ _ I h => h.run pins s I⟩
theorem pb_w : PSs X sts (wB X sts) := ⟨fun pins s _ _ _ I h => h.run pins s I⟩
theorem PE.w {t : TE} (p : PE X e t) {σ H Q} (h : t σ H Q) : wE X e σ H Q := ⟨fun pins s I => p.run pins s σ H Q I h⟩
theorem PT.w {t : TT} (p : PT X e t) {σ H Q} (h : t σ H Q) : wT X e σ H Q := ⟨fun pins s I => p.run pins s σ H Q I h⟩
theorem PW.w {t : TT} (p : PW X e t) {σ H Q} (h : t σ H Q) : wW X e σ H Q := ⟨fun wh pins s I => p.run wh pins s σ H Q I h⟩
theorem PA.w {t : TA} (p : PA X es t) {σ H Q} (h : t σ H Q) : wA X es σ H Q := ⟨fun pos pins s I => p.run pos pins s σ H Q I h⟩
theorem PS.w {t : TS} (p : PS X st t) {D σ H} (h : t D σ H) : wS X st D σ H := ⟨fun pins s I => p.run pins s σ H D I h⟩
theorem PSs.w {t : TS} (p : PSs X sts t) {D σ H} (h : t D σ H) : wB X sts D σ H := ⟨fun pins s I => p.run pins s σ H D I h⟩
end
/-! ### the judgements -/
section
variable {α β γ : Type}
def KO (X : Cx) (r : R X.K α) (W : WX) (σ : St) (H F : Hp) (Q : VK) : M α → Prop
  | .ok x => ∀ v H' F', Ext H F H' F' → r.rep F' v x → Q v H'
  | .exc e => ∀ cls d H' F', Ext H F H' F' → ErrOk X.K X.mg cls d F' e → W cls d σ H'
  | .stuck => False
/-- .. of a list that is read now: it may be one's own -/
def KL (X : Cx) (r : R X.K α) (W : WX) (σ : St) (H F : Hp) (Q : VK) : M (List α) → Prop
  | .ok xs => ∀ p vs H' F', Ext H F H' F' → H' p = some (.lst vs) → Paired (r.rep F') vs xs → Q (.ref p) H'
  | .exc e => ∀ cls d H' F', Ext H F H' F' → ErrOk X.K X.mg cls d F' e → W cls d σ H'
  | .stuck => False
/-- .. of a new list -/
def KN (X : Cx) (r : R X.K α) (W : WX) (σ : St) (H F : Hp) (Q : VK) : M (List α) → Prop
  | .ok xs => ∀ p vs H' F', Ext H F H' F' → H p = none → F' p = none → H' p = some (.lst vs) → Paired (r.rep F') vs xs → Q (.ref p) H'
  | .exc e => ∀ cls d H' F', Ext H F H' F' → ErrOk X.K X.mg cls d F' e → W cls d σ H'
  | .stuck => False
/-- .. of arguments -/
def KT (X : Cx) (W : WX) (σ : St) (H F : Hp) (Q : Bool → Hp → Prop) : M Bool → Prop
  | .ok b => ∀ H' F', Ext H F H' F' → Q b H'
  | .exc e => ∀ cls d H' F', Ext H F H' F' → ErrOk X.K X.mg cls d F' e → W cls d σ H'
  | .stuck => False
def Ev (X : Cx) (W : WX) (Γ : En X.K) (r : R X.K α) (e : Expr) (m : M α) : Prop :=
  Takes X W → ∀ σ B F0 H F Q, EnOk Γ σ B F0 H F → KO X r W σ H F Q m → wE X e σ H Q
def El (X : Cx) (W : WX) (Γ : En X.K) (r : R X.K α) (e : Expr) (m : M (List α)) : Prop :=
  Takes X W → ∀ σ B F0 H F Q, EnOk Γ σ B F0 H F → KL X r W σ H F Q m → wE X e σ H Q
def Nw (X : Cx) (W : WX) (Γ : En X.K) (r : R X.K α) (e : Expr) (m : M (List α)) : Prop :=
  Takes X W → ∀ σ B F0 H F Q, EnOk Γ σ B F0 H F → KN X r W σ H F Q m → wE X e σ H Q
def Tt (X : Cx) (W : WX) (Γ : En X.K) (e : Expr) (m : M Bool) : Prop :=
  Takes X W → ∀ σ B F0 H F Q, EnOk Γ σ B F0 H F → KT X W σ H F Q m → wT X e σ H Q
def Tw (X : Cx) (W : WX) (Γ : En X.K) (e : Expr) (m : M Bool) : Prop :=
  Takes X W → ∀ σ B F0 H F Q, EnOk Γ σ B F0 H F → KT X W σ H F Q m → wW X e σ H Q
variable {X : Cx} {W : WX} {σ : St} {H F H' F' : Hp} {Q : VK} {Γ : En X.K}
theorem KO.ext {r : R X.K α} {m : M α} (h : KO X r W σ H F Q m) (e : Ext H F H' F') : KO X r W σ H' F' Q m := by
  cases m with
  | ok x => exact fun v H2 F2 e2 q => h v H2 F2 (e.trans e2) q
  | exc er => exact fun c d H2 F2 e2 q => h c d H2 F2 (e.trans e2) q
  | stuck => exact h
theorem KT.ext {Q : Bool → Hp → Prop} {m : M Bool} (h : KT X W σ H F Q m) (e : Ext H F H' F') : KT X W σ H' F' Q m := by
  cases m with
  | ok x => exact fun H2 F2 e2 => h H2 F2 (e.trans e2)
  | exc er => exact fun c d H2 F2 e2 q => h c d H2 F2 (e.trans e2) q
  | stuck => exact h
theorem KL.ext {r : R X.K α} {m : M (List α)} (h : KL X r W σ H F Q m) (e : Ext H F H' F') : KL X r W σ H' F' Q m := by
  cases m with
  | ok x => exact fun p vs H2 F2 e2 q => h p vs H2 F2 (e.trans e2) q
  | exc er => exact fun c d H2 F2 e2 q => h c d H2 F2 (e.trans e2) q
  | stuck => exact h
theorem KN.ext {r : R X.K α} {m : M (List α)} (h : KN X r W σ H F Q m) (e : Ext H F H' F') : KN X r W σ H' F' Q m := by
  cases m with
  | ok x => exact fun p vs H2 F2 e2 n q => h p vs H2 F2 (e.trans e2) (e.hh.free n) q
  | exc er => exact fun c d H2 F2 e2 q => h c d H2 F2 (e.trans e2) q
  | stuck => exact h
/-- a continuation of what comes behind: any of the above -/
structure KK (X : Cx) (W : WX) (σ : St) (P : Hp → Hp → M β → Prop) : Prop where
  ext : ∀ {H F H' F' m}, P H F m → Ext H F H' F' → P H' F' m
  ofexc : ∀ {H F e}, P H F (.exc e) → ∀ cls d H' F', Ext H F H' F' → ErrOk X.K X.mg cls d F' e → W cls d σ H'
  ofstk : ∀ {H F}, P H F .stuck → False
theorem kkO {r : R X.K β} : KK X W σ (fun H F m => KO X r W σ H F Q m) := ⟨fun h e => h.ext e, fun h => h, fun h => h⟩
theorem kkL {r : R X.K β} : KK X W σ (fun H F m => KL X r W σ H F Q m) := ⟨fun h e => h.ext e, fun h => h, fun h => h⟩
theorem kkN {r : R X.K β} : KK X W σ (fun H F m => KN X r W σ H F Q m) := ⟨fun h e => h.ext e, fun h => h, fun h => h⟩
theorem kkT {Q : Bool → Hp → Prop} : KK X W σ (fun H F m => KT X W σ H F Q m) := ⟨fun h e => h.ext e, fun h => h, fun h => h⟩
theorem KO.bnd {P : Hp → Hp → M β → Prop} (kk : KK X W σ P) {ra : R X.K α} {ma : M α} {f : α → M β} {Q' : VK} (h : P H F (ma.bind f))
    (k : ∀ x v H' F', Ext H F H' F' → ra.rep F' v x → P H' F' (f x) → Q' v H') : KO X ra W σ H F Q' ma := by
  cases ma with
  | ok x => exact fun v H' F' e r => k x v H' F' e r (kk.ext h e)
  | exc er => exact kk.ofexc h
  | stuck => exact kk.ofstk h
theorem KL.bnd {P : Hp → Hp → M β → Prop} (kk : KK X W σ P) {ra : R X.K α} {ma : M (List α)} {f : List α → M β} {Q' : VK} (h : P H F (ma.bind f))
    (k : ∀ x p vs H' F', Ext H F H' F' → H' p = some (.lst vs) → Paired (ra.rep F') vs x → P H' F' (f x) → Q' (.ref p) H') : KL X ra W σ H F Q' ma := by
  cases ma with
  | ok x => exact fun p vs H' F' e r q => k x p vs H' F' e r q (kk.ext h e)
  | exc er => exact kk.ofexc h
  | stuck => exact kk.ofstk h
theorem KN.bnd {P : Hp → Hp → M β → Prop} (kk : KK X W σ P) {ra : R X.K α} {ma : M (List α)} {f : List α → M β} {Q' : VK} (h : P H F (ma.bind f))
    (k : ∀ x p vs H' F', Ext H F H' F' → H p = none → F' p = none → H' p = some (.lst vs) → Paired (ra.rep F') vs x → P H' F' (f x) → Q' (.ref p) H') : KN X ra W σ H F Q' ma := by
  cases ma with
  | ok x => exact fun p vs H' F' e n f' r q => k x p vs H' F' e n f' r q (kk.ext h e)
  | exc er => exact kk.ofexc h
  | stuck => exact kk.ofstk h
theorem KT.bnd {P : Hp → Hp → M β → Prop} (kk : KK X W σ P) {ma : M Bool} {f : Bool → M β} {Q' : Bool → Hp → Prop} (h : P H F (ma.bind f))
    (k : ∀ x H' F', Ext H F H' F' → P H' F' (f x) → Q' x H') : KT X W σ H F Q' ma := by
  cases ma with
  | ok x => exact fun H' F' e => k x H' F' e (kk.ext h e)
  | exc er => exact kk.ofexc h
  | stuck => exact kk.ofstk h
/-- a value that is here -/
theorem KO.now {r : R X.K α} {x : α} {v : V} (h : KO X r W σ H F Q (.ok x)) (fh : Same F H) (q : r.rep F v x) : Q v H := h v H F (Ext.refl fh) q
theorem KT.now {Q : Bool → Hp → Prop} {b : Bool} (h : KT X W σ H F Q (.ok b)) (fh : Same F H) : Q b H := h H F (Ext.refl fh)
end
end PL
end
section
set_option maxRecDepth 100000
namespace PL
open PySem L2
section
variable {X : Cx} {W : WX} {Γ : En X.K} {α β γ δ : Type} {pos : Pos}
/-! ### names, constants -/
theorem ev_v (i : Nat) {x : Str} {r : R X.K α} {a : α} (hΓ : Γ[i]? = some (.va r a) := by rfl) (hN : X.N[i]? = some x := by rfl) (hv : Vis X.env.scope x := by first | exact Or.inl rfl | exact Or.inr (Or.inl rfl) | exact Or.inr (Or.inr rfl))
    (hd : (x == ("__debug__" : Str)) = false := by decide) (hcd : (x == ("__classdict__" : Str)) = false := by decide) : Ev X W Γ r (.Name x pos) (.ok a) := fun _ σ B F0 H F Q en h => by
  obtain ⟨o, ho, v, rfl, hr⟩ := en.sl i _ hΓ
  exact PE.w (pe_var hN hv hd hcd) ⟨v, ho, KO.now h en.fh hr⟩
theorem el_ow (i : Nat) {x : Str} {r : R X.K α} {a : List α} (hΓ : Γ[i]? = some (.ow r a) := by rfl) (hN : X.N[i]? = some x := by rfl) (hv : Vis X.env.scope x := by first | exact Or.inl rfl | exact Or.inr (Or.inl rfl) | exact Or.inr (Or.inr rfl))
    (hd : (x == ("__debug__" : Str)) = false := by decide) (hcd : (x == ("__classdict__" : Str)) = false := by decide) : El X W Γ r (.Name x pos) (.ok a) := fun _ σ B F0 H F Q en h => by
  obtain ⟨o, ho, p, vs, rfl, _, _, hp, hr⟩ := en.sl i _ hΓ
  exact PE.w (pe_var hN hv hd hcd) ⟨_, ho, h p vs H F (Ext.refl en.fh) hp hr⟩
theorem el_bo (i : Nat) {x : Str} {r : R X.K α} {a : List α} (hΓ : Γ[i]? = some (.bo r a) := by rfl) (hN : X.N[i]? = some x := by rfl) (hv : Vis X.env.scope x := by first | exact Or.inl rfl | exact Or.inr (Or.inl rfl) | exact Or.inr (Or.inr rfl))
    (hd : (x == ("__debug__" : Str)) = false := by decide) (hcd : (x == ("__classdict__" : Str)) = false := by decide) : El X W Γ r (.Name x pos) (.ok a) := fun _ σ B F0 H F Q en h => by
  obtain ⟨o, ho, p, vs, rfl, hq, hr⟩ := en.sl i _ hΓ
  exact PE.w (pe_var hN hv hd hcd) ⟨_, ho, h p vs H F (Ext.refl en.fh) (en.ex.hh _ _ hq) hr⟩
theorem el_of {e : Expr} {r : R X.K α} {m : M (List α)} (h : Ev X W Γ (rList r) e m) : El X W Γ r e m := fun tk σ B F0 H F Q en k => by
  refine h tk σ B F0 H F Q en ?_
  cases m with
  | ok xs => exact fun v H' F' ex ⟨p, vs, e, a, b⟩ => by subst e; exact k p vs H' F' ex (ex.fh _ _ a) b
  | exc er => exact k
  | stuck => exact k
theorem el_nw {e : Expr} {r : R X.K α} {m : M (List α)} (h : Nw X W Γ r e m) : El X W Γ r e m := fun tk σ B F0 H F Q en k => by
  refine h tk σ B F0 H F Q en ?_
  cases m with
  | ok xs => exact fun p vs H' F' ex _ _ hp hr => k p vs H' F' ex hp hr
  | exc er => exact k
  | stuck => exact k
/-- a new list, frozen at once -/
theorem ev_nw {e : Expr} {r : R X.K α} {m : M (List α)} (h : Nw X W Γ r e m) : Ev X W Γ (rList r) e m := fun tk σ B F0 H F Q en k => by
  refine h tk σ B F0 H F Q en ?_
  cases m with
  | ok xs =>
    exact fun p vs H' F' ex hn hf hp hr => by
      have hsu : Same F' (upd F' p (.lst vs)) := same_upd hf
      refine k (.ref p) H' (upd F' p (.lst vs)) ⟨ex.hh, ex.ff.trans hsu, fun b x e => ?_, fun a ha e => ?_⟩ ⟨p, vs, rfl, upd_same, reps_mono hsu hr⟩
      · by_cases hb : b = p
        · rw [hb, upd_same] at e; rw [hb, hp]; exact e
        · rw [upd_ne hb] at e; exact ex.fh _ _ e
      · rw [upd_ne (fun z => ha (by rw [z]; exact hn))]; exact ex.nw a ha e
  | exc er => exact k
  | stuck => exact k
theorem ev_int {i j} : Ev X W Γ rInt (.Constant (.int i) j pos) (.ok i) := fun _ _ _ _ H F Q en h => PE.w pe_int (KO.now h en.fh rfl)
theorem ev_bl {b j} : Ev X W Γ rBool (.Constant (.bool b) j pos) (.ok b) := fun _ _ _ _ H F Q en h => PE.w pe_bl (KO.now h en.fh rfl)
theorem ev_str {x j} : Ev X W Γ rStr (.Constant (.str x) j pos) (.ok x) := fun _ _ _ _ H F Q en h => PE.w pe_str (KO.now h en.fh rfl)
theorem ev_non {j} : Ev X W Γ rNone (.Constant .none j pos) (.ok ()) := fun _ _ _ _ H F Q en h => PE.w pe_non (KO.now h en.fh rfl)
theorem ev_nonO {j} {r : R X.K α} : Ev X W Γ (rOpt r) (.Constant .none j pos) (.ok none) := fun _ _ _ _ H F Q en h => PE.w pe_non (KO.now h en.fh rfl)
/-- another form of the same value -/
theorem ev_conv {e : Expr} {r : R X.K α} {s : R X.K β} {m : M α} (g : α → β) (hg : ∀ {F v x}, r.rep F v x → s.rep F v (g x)) (h : Ev X W Γ r e m) : Ev X W Γ s e (m.bind fun x => .ok (g x)) := fun tk σ B F0 H F Q en k =>
  h tk σ B F0 H F Q en (KO.bnd kkO k fun x v H' F' ex hr k' => KO.now k' ex.fh (hg hr))
/-! ### operators -/
theorem ev_op {a b : Expr} {op : Operator} {ra : R X.K α} {rb : R X.K β} {rc : R X.K γ} {ma : M α} {mb : M β} {f : α → β → M γ} {rr : R2} (ho : OpR X (binaryOp op) rr)
    (hf : ∀ {W σ H F Q v w x y}, Same F H → ra.rep F v x → rb.rep F w y → KO X rc W σ H F Q (f x y) → rr v w H Q) (ha : Ev X W Γ ra a ma) (hb : Ev X W Γ rb b mb) :
    Ev X W Γ rc (.BinOp a op b pos) (ma.bind fun x => mb.bind fun y => f x y) := fun tk σ B F0 H F Q en k =>
  PE.w (pe_op ho pe_w pe_w) <| ha tk σ B F0 H F _ en <| KO.bnd kkO k fun x v H1 F1 e1 r1 k1 =>
    hb tk σ B F0 H1 F1 _ (en.ext e1) <| KO.bnd kkO k1 fun y w H2 F2 e2 r2 k2 => hf e2.fh (ra.mono e2.ff r1) r2 k2
theorem ev_cmp {a b : Expr} {op : CmpOp} {ra : R X.K α} {rb : R X.K β} {rc : R X.K γ} {ma : M α} {mb : M β} {f : α → β → M γ} {rr : R2} (ho : OpR X (compareOp op) rr)
    (hf : ∀ {W σ H F Q v w x y}, Same F H → ra.rep F v x → rb.rep F w y → KO X rc W σ H F Q (f x y) → rr v w H Q) (hm : behindInMarks op b = false) (ha : Ev X W Γ ra a ma) (hb : Ev X W Γ rb b mb) :
    Ev X W Γ rc (.Compare a [op] [b] pos) (ma.bind fun x => mb.bind fun y => f x y) := fun tk σ B F0 H F Q en k =>
  PE.w (pe_cmpR ho pe_w pe_w hm) <| ha tk σ B F0 H F _ en <| KO.bnd kkO k fun x v H1 F1 e1 r1 k1 =>
    hb tk σ B F0 H1 F1 _ (en.ext e1) <| KO.bnd kkO k1 fun y w H2 F2 e2 r2 k2 => hf e2.fh (ra.mono e2.ff r1) r2 k2
theorem tt_cmp {a b : Expr} {op : CmpOp} {ra : R X.K α} {rb : R X.K β} {ma : M α} {mb : M β} {f : α → β → M Bool} {rr : R2} (ho : OpR X (compareOp op) rr)
    (hf : ∀ {W σ H F Q v w x y}, Same F H → ra.rep F v x → rb.rep F w y → KO X rBool W σ H F Q (f x y) → rr v w H Q) (hm : behindInMarks op b = false) (ha : Ev X W Γ ra a ma) (hb : Ev X W Γ rb b mb) :
    Tt X W Γ (.Compare a [op] [b] pos) (ma.bind fun x => mb.bind fun y => f x y) := fun tk σ B F0 H F Q en k =>
  PT.w (pt_cmpR ho pe_w pe_w hm) <| ha tk σ B F0 H F _ en <| KO.bnd kkT k fun x v H1 F1 e1 r1 k1 =>
    hb tk σ B F0 H1 F1 _ (en.ext e1) <| KO.bnd kkT k1 fun y w H2 F2 e2 r2 k2 => hf (W := W) (σ := σ) e2.fh (ra.mono e2.ff r1) r2 (by
      cases q : f x y with
      | ok b => rw [q] at k2; exact fun v H' F' ex hv => ⟨b, hv, k2 H' F' ex⟩
      | exc er => rw [q] at k2; exact k2
      | stuck => rw [q] at k2; exact k2)
theorem tt_val {e : Expr} {m : M Bool} (h : Ev X W Γ rBool e m) (he : ∀ whole, isTrue e X.env whole = (do let v ← whole; standAt e.pos; holding [v] (truthy v)) := by intro _; rfl) : Tt X W Γ e m := fun tk σ B F0 H F Q en k =>
  PT.w (pt_val pe_w he) <| h tk σ B F0 H F _ en (by
    cases m with
    | ok b => exact fun v H' F' ex hv => ⟨b, hv, k H' F' ex⟩
    | exc er => exact k
    | stuck => exact k)
section
variable {a b c : Expr} {ma mb mc : M Int}
theorem ev_add (ha : Ev X W Γ rInt a ma) (hb : Ev X W Γ rInt b mb) : Ev X W Γ rInt (.BinOp a .Add b pos) (ma.bind fun x => mb.bind fun y => .ok (x + y)) := ev_op op_add (fun {_ _ _ _ _ _ _ x y} s p q k => ⟨x, y, p, q, KO.now k s rfl⟩) ha hb
theorem ev_sub (ha : Ev X W Γ rInt a ma) (hb : Ev X W Γ rInt b mb) : Ev X W Γ rInt (.BinOp a .Sub b pos) (ma.bind fun x => mb.bind fun y => .ok (x - y)) := ev_op op_sub (fun {_ _ _ _ _ _ _ x y} s p q k => ⟨x, y, p, q, KO.now k s rfl⟩) ha hb
theorem ev_and (ha : Ev X W Γ rInt a ma) (hb : Ev X W Γ rInt b mb) : Ev X W Γ rInt (.BinOp a .BitAnd b pos) (ma.bind fun x => mb.bind fun y => .ok (Builtin.bitAnd x y)) := ev_op op_and (fun {_ _ _ _ _ _ _ x y} s p q k => ⟨x, y, p, q, KO.now k s rfl⟩) ha hb
theorem ev_or (ha : Ev X W Γ rInt a ma) (hb : Ev X W Γ rInt b mb) : Ev X W Γ rInt (.BinOp a .BitOr b pos) (ma.bind fun x => mb.bind fun y => .ok (Builtin.bitOr x y)) := ev_op op_or (fun {_ _ _ _ _ _ _ x y} s p q k => ⟨x, y, p, q, KO.now k s rfl⟩) ha hb
theorem ev_xor (ha : Ev X W Γ rInt a ma) (hb : Ev X W Γ rInt b mb) : Ev X W Γ rInt (.BinOp a .BitXor b pos) (ma.bind fun x => mb.bind fun y => .ok (Builtin.bitXor x y)) := ev_op op_xor (fun {_ _ _ _ _ _ _ x y} s p q k => ⟨x, y, p, q, KO.now k s rfl⟩) ha hb
end
end
/-! the operations that have a limit -/
def smallI (x : Int) : Bool := decide (-18446744073709551616 < x) && decide (x < 18446744073709551616)
def mulI (x y : Int) : M Int := M.grd (smallI x || smallI y) (.ok (x * y))
def fdivI (x y : Int) : M Int := M.grd (decide (0 < y) && decide (y < 1073741824)) (.ok (x / y))
def modI (x y : Int) : M Int := M.grd (decide (0 < y)) (.ok (x % y))
def powI (x y : Int) : M Int := M.grd (decide (0 ≤ y) && decide (y ≤ 1000000) && decide (x.natAbs < 18446744073709551616)) (.ok (x ^ y.toNat))
def shlI (x y : Int) : M Int := M.grd (decide (0 ≤ y) && decide (y ≤ 1000000) && decide (x.natAbs < 18446744073709551616)) (.ok (x * 2 ^ y.toNat))
def shrI (x y : Int) : M Int := M.grd (decide (0 ≤ y)) (.ok (x / 2 ^ y.toNat))
section
variable {X : Cx} {W : WX} {Γ : En X.K} {α β γ δ : Type} {pos : Pos} {σ : St} {H F : Hp} {Q : VK}
theorem KO.grd {r : R X.K α} {c : Bool} {m : M α} (k : KO X r W σ H F Q (M.grd c m)) : c = true ∧ KO X r W σ H F Q m := by
  cases c with
  | true => exact ⟨rfl, k⟩
  | false => exact False.elim k
theorem p64 : (2 : Int) ^ 64 = 18446744073709551616 := by decide
theorem p64n : (2 : Nat) ^ 64 = 18446744073709551616 := by decide
variable {a b c : Expr} {ma mb mc : M Int}
theorem ev_mul (ha : Ev X W Γ rInt a ma) (hb : Ev X W Γ rInt b mb) : Ev X W Γ rInt (.BinOp a .Mult b pos) (ma.bind fun x => mb.bind fun y => mulI x y) := ev_op op_mul (fun {_ _ _ _ _ _ _ x y} s p q k => by
  obtain ⟨c, k⟩ := KO.grd k
  refine ⟨x, y, p, q, ?_, KO.now k s rfl⟩
  simp only [smallI, Bool.or_eq_true, Bool.and_eq_true, decide_eq_true_eq] at c
  unfold CMul
  rw [p64]
  exact c) ha hb
theorem ev_fdiv (ha : Ev X W Γ rInt a ma) (hb : Ev X W Γ rInt b mb) : Ev X W Γ rInt (.BinOp a .FloorDiv b pos) (ma.bind fun x => mb.bind fun y => fdivI x y) := ev_op op_fdiv (fun {_ _ _ _ _ _ _ x y} s p q k => by
  obtain ⟨c, k⟩ := KO.grd k
  refine ⟨x, y, p, q, ?_, KO.now k s rfl⟩
  unfold CDiv
  simpa only [Bool.and_eq_true, decide_eq_true_eq] using c) ha hb
theorem ev_mod (ha : Ev X W Γ rInt a ma) (hb : Ev X W Γ rInt b mb) : Ev X W Γ rInt (.BinOp a .Mod b pos) (ma.bind fun x => mb.bind fun y => modI x y) := ev_op op_mod (fun {_ _ _ _ _ _ _ x y} s p q k => by
  obtain ⟨c, k⟩ := KO.grd k
  exact ⟨x, y, p, q, of_decide_eq_true c, KO.now k s rfl⟩) ha hb
theorem cpow_of {x y : Int} (c : (decide (0 ≤ y) && decide (y ≤ 1000000) && decide (x.natAbs < 18446744073709551616)) = true) : CPow x y := by
  simp only [Bool.and_eq_true, decide_eq_true_eq] at c
  unfold CPow
  rw [p64n]
  exact ⟨c.1.1, c.1.2, c.2⟩
theorem ev_pow (ha : Ev X W Γ rInt a ma) (hb : Ev X W Γ rInt b mb) : Ev X W Γ rInt (.BinOp a .Pow b pos) (ma.bind fun x => mb.bind fun y => powI x y) := ev_op op_pow (fun {_ _ _ _ _ _ _ x y} s p q k => by
  obtain ⟨c, k⟩ := KO.grd k
  exact ⟨x, y, p, q, cpow_of c, KO.now k s rfl⟩) ha hb
theorem ev_shl (ha : Ev X W Γ rInt a ma) (hb : Ev X W Γ rInt b mb) : Ev X W Γ rInt (.BinOp a .LShift b pos) (ma.bind fun x => mb.bind fun y => shlI x y) := ev_op op_shl (fun {_ _ _ _ _ _ _ x y} s p q k => by
  obtain ⟨c, k⟩ := KO.grd k
  exact ⟨x, y, p, q, cpow_of c, KO.now k s rfl⟩) ha hb
theorem ev_shr (ha : Ev X W Γ rInt a ma) (hb : Ev X W Γ rInt b mb) : Ev X W Γ rInt (.BinOp a .RShift b pos) (ma.bind fun x => mb.bind fun y => shrI x y) := ev_op op_shr (fun {_ _ _ _ _ _ _ x y} s p q k => by
  obtain ⟨c, k⟩ := KO.grd k
  exact ⟨x, y, p, q, of_decide_eq_true c, KO.now k s rfl⟩) ha hb
theorem ev_un {op : UnaryOp} {ra : R X.K α} {rc : R X.K γ} {ma : M α} {f : α → M γ} {rr : V → Hp → VK → Prop} (ho : UnR X (unaryOp op) rr)
    (hf : ∀ {W σ H F Q v x}, Same F H → ra.rep F v x → KO X rc W σ H F Q (f x) → rr v H Q) (ha : Ev X W Γ ra a ma) : Ev X W Γ rc (.UnaryOp op a pos) (ma.bind fun x => f x) := fun tk σ B F0 H F Q en k =>
  PE.w (pe_un ho pe_w) <| ha tk σ B F0 H F _ en <| KO.bnd kkO k fun x v H1 F1 e1 r1 k1 => hf e1.fh r1 k1
theorem ev_neg (ha : Ev X W Γ rInt a ma) : Ev X W Γ rInt (.UnaryOp .USub a pos) (ma.bind fun x => .ok (-x)) := ev_un un_neg (fun {_ _ _ _ _ _ x} s p k => ⟨x, p, KO.now k s rfl⟩) ha
theorem ev_inv (ha : Ev X W Γ rInt a ma) : Ev X W Γ rInt (.UnaryOp .Invert a pos) (ma.bind fun x => .ok (Builtin.bitNot x)) := ev_un un_inv (fun {_ _ _ _ _ _ x} s p k => ⟨x, p, KO.now k s rfl⟩) ha
end
/-! comparisons: one lemma by values, used for the expression and for the test -/
/-- what a comparison of two values gives -/
structure Cm (X : Cx) (op : CmpOp) (ra : R X.K α) (rb : R X.K β) (f : α → β → Bool) : Prop where
  run : ∃ rr, OpR X (compareOp op) rr ∧ ∀ {W : WX} {σ : St} {H F : Hp} {Q : VK} {v w : V} {x : α} {y : β}, Same F H → ra.rep F v x → rb.rep F w y → KO X rBool W σ H F Q (.ok (f x y)) → rr v w H Q
section
variable {X : Cx} {W : WX} {Γ : En X.K} {α β γ δ : Type} {pos : Pos} {σ : St} {H F : Hp} {Q : VK} {a b c : Expr}
theorem ev_c {op : CmpOp} {ra : R X.K α} {rb : R X.K β} {f : α → β → Bool} (cm : Cm X op ra rb f) {ma : M α} {mb : M β} (ha : Ev X W Γ ra a ma) (hb : Ev X W Γ rb b mb) (hm : behindInMarks op b = false := by first | exact nomark _ | rfl) :
    Ev X W Γ rBool (.Compare a [op] [b] pos) (ma.bind fun x => mb.bind fun y => .ok (f x y)) := by
  obtain ⟨rr, ho, h⟩ := cm.run
  exact ev_cmp ho h hm ha hb
theorem tt_c {op : CmpOp} {ra : R X.K α} {rb : R X.K β} {f : α → β → Bool} (cm : Cm X op ra rb f) {ma : M α} {mb : M β} (ha : Ev X W Γ ra a ma) (hb : Ev X W Γ rb b mb) (hm : behindInMarks op b = false := by first | exact nomark _ | rfl) :
    Tt X W Γ (.Compare a [op] [b] pos) (ma.bind fun x => mb.bind fun y => .ok (f x y)) := by
  obtain ⟨rr, ho, h⟩ := cm.run
  exact tt_cmp ho h hm ha hb
theorem cm_lt : Cm X .Lt rInt rInt (fun x y => decide (x < y)) := ⟨_, op_lt, fun {_ _ _ _ _ _ _ x y} s p q k => ⟨x, y, p, q, KO.now k s rfl⟩⟩
theorem cm_le : Cm X .LtE rInt rInt (fun x y => decide (x ≤ y)) := ⟨_, op_le, fun {_ _ _ _ _ _ _ x y} s p q k => ⟨x, y, p, q, KO.now k s rfl⟩⟩
theorem cm_gt : Cm X .Gt rInt rInt (fun x y => decide (y < x)) := ⟨_, op_gt, fun {_ _ _ _ _ _ _ x y} s p q k => ⟨x, y, p, q, KO.now k s rfl⟩⟩
theorem cm_ge : Cm X .GtE rInt rInt (fun x y => decide (y ≤ x)) := ⟨_, op_ge, fun {_ _ _ _ _ _ _ x y} s p q k => ⟨x, y, p, q, KO.now k s rfl⟩⟩
theorem cm_isN {r : R X.K α} : Cm X .Is (rOpt r) rNone (fun x _ => x.isNone) := ⟨_, op_isN, fun {_ _ _ _ _ v w x y} s p q k => by
  refine ⟨q, ?_⟩
  cases x with
  | none => have p : v = .non := p; subst p; exact KO.now k s rfl
  | some z => obtain ⟨p, _⟩ := p; rw [decide_eq_false p]; exact KO.now k s rfl⟩
theorem cm_notN {r : R X.K α} : Cm X .IsNot (rOpt r) rNone (fun x _ => x.isSome) := ⟨_, op_notN, fun {_ _ _ _ _ v w x y} s p q k => by
  refine ⟨q, ?_⟩
  cases x with
  | none => have p : v = .non := p; subst p; exact KO.now k s rfl
  | some z => obtain ⟨p, _⟩ := p; rw [decide_eq_false p]; exact KO.now k s rfl⟩
theorem cm_eqI : Cm X .Eq rInt rInt (fun x y => decide (x = y)) := ⟨_, op_eq, fun {_ _ _ _ _ v w x y} s p q k => by
  have p : v = .int x := p
  have q : w = .int y := q
  subst p; subst q
  refine ⟨rfl, ?_⟩
  have e : decide (V.int x = V.int y) = decide (x = y) := by simp
  rw [e]
  exact KO.now k s rfl⟩
theorem cm_neI : Cm X .NotEq rInt rInt (fun x y => !decide (x = y)) := ⟨_, op_ne, fun {_ _ _ _ _ v w x y} s p q k => by
  have p : v = .int x := p
  have q : w = .int y := q
  subst p; subst q
  refine ⟨rfl, ?_⟩
  have e : decide (V.int x = V.int y) = decide (x = y) := by simp
  rw [e]
  exact KO.now k s rfl⟩
theorem cm_eqS : Cm X .Eq rStr rStr (fun x y => decide (x = y)) := ⟨_, op_eq, fun {_ _ _ _ _ v w x y} s p q k => by
  have p : v = .str x := p
  have q : w = .str y := q
  subst p; subst q
  refine ⟨rfl, ?_⟩
  have e : decide (V.str x = V.str y) = decide (x = y) := by simp
  rw [e]
  exact KO.now k s rfl⟩
theorem cm_neS : Cm X .NotEq rStr rStr (fun x y => !decide (x = y)) := ⟨_, op_ne, fun {_ _ _ _ _ v w x y} s p q k => by
  have p : v = .str x := p
  have q : w = .str y := q
  subst p; subst q
  refine ⟨rfl, ?_⟩
  have e : decide (V.str x = V.str y) = decide (x = y) := by simp
  rw [e]
  exact KO.now k s rfl⟩
theorem cm_eqB : Cm X .Eq rBool rBool (fun x y => decide (x = y)) := ⟨_, op_eq, fun {_ _ _ _ _ v w x y} s p q k => by
  have p : v = .bl x := p
  have q : w = .bl y := q
  subst p; subst q
  refine ⟨rfl, ?_⟩
  have e : decide (V.bl x = V.bl y) = decide (x = y) := by simp
  rw [e]
  exact KO.now k s rfl⟩
/-- a op b op' c -/
theorem ev_ch {op op' : CmpOp} {ra : R X.K α} {rb : R X.K β} {rc : R X.K γ} {f : α → β → Bool} {g : β → γ → Bool} (cm : Cm X op ra rb f) (cm' : Cm X op' rb rc g) {ma : M α} {mb : M β} {mc : M γ} (ha : Ev X W Γ ra a ma) (hb : Ev X W Γ rb b mb) (hc : Ev X W Γ rc c mc) (hm : lastMarks [op, op'] [b, c] = false := by with_unfolding_all rfl) :
    Ev X W Γ rBool (.Compare a [op, op'] [b, c] pos) (ma.bind fun x => mb.bind fun y => cond (f x y) (mc.bind fun z => .ok (g y z)) (.ok false)) := by
  obtain ⟨rr, ho, h⟩ := cm.run
  obtain ⟨rr', ho', h'⟩ := cm'.run
  exact fun tk σ B F0 H F Q en k =>
    PE.w (pe_chain ho ho' pe_w pe_w pe_w hm) <| ha tk σ B F0 H F _ en <| KO.bnd kkO k fun x v H1 F1 e1 r1 k1 =>
      hb tk σ B F0 H1 F1 _ (en.ext e1) <| KO.bnd kkO k1 fun y w H2 F2 e2 r2 k2 => h (W := W) (σ := σ) e2.fh (ra.mono e2.ff r1) r2 fun z H3 F3 e3 hz => by
        refine ⟨_, hz, ?_⟩
        replace k2 := KO.ext k2 e3
        cases q : f x y with
        | false => rw [q] at k2; rw [if_neg Bool.false_ne_true]; exact KO.now k2 e3.fh rfl
        | true =>
          rw [q] at k2
          rw [if_pos rfl]
          exact hc tk σ B F0 H3 F3 _ ((en.ext (e1.trans e2)).ext e3) <| KO.bnd kkO k2 fun z' u H4 F4 e4 r4 k4 => h' (W := W) (σ := σ) e4.fh (rb.mono e4.ff (rb.mono e3.ff r2)) r4 k4
theorem tt_ch {op op' : CmpOp} {ra : R X.K α} {rb : R X.K β} {rc : R X.K γ} {f : α → β → Bool} {g : β → γ → Bool} (cm : Cm X op ra rb f) (cm' : Cm X op' rb rc g) {ma : M α} {mb : M β} {mc : M γ} (ha : Ev X W Γ ra a ma) (hb : Ev X W Γ rb b mb) (hc : Ev X W Γ rc c mc) (hm : lastMarks [op, op'] [b, c] = false := by with_unfolding_all rfl) :
    Tt X W Γ (.Compare a [op, op'] [b, c] pos) (ma.bind fun x => mb.bind fun y => cond (f x y) (mc.bind fun z => .ok (g y z)) (.ok false)) := by
  obtain ⟨rr, ho, h⟩ := cm.run
  obtain ⟨rr', ho', h'⟩ := cm'.run
  exact fun tk σ B F0 H F Q en k =>
    PT.w (pt_chain ho ho' pe_w pe_w pe_w hm) <| ha tk σ B F0 H F _ en <| KO.bnd kkT k fun x v H1 F1 e1 r1 k1 =>
      hb tk σ B F0 H1 F1 _ (en.ext e1) <| KO.bnd kkT k1 fun y w H2 F2 e2 r2 k2 => h (W := W) (σ := σ) e2.fh (ra.mono e2.ff r1) r2 fun z H3 F3 e3 hz => by
        refine ⟨_, hz, ?_⟩
        replace k2 := KT.ext k2 e3
        cases q : f x y with
        | false => rw [q] at k2; rw [if_neg Bool.false_ne_true]; exact ⟨_, rfl, KT.now k2 e3.fh⟩
        | true =>
          rw [q] at k2
          rw [if_pos rfl]
          exact hc tk σ B F0 H3 F3 _ ((en.ext (e1.trans e2)).ext e3) <| KO.bnd kkT k2 fun z' u H4 F4 e4 r4 k4 => h' (W := W) (σ := σ) e4.fh (rb.mono e4.ff (rb.mono e3.ff r2)) r4 fun u H5 F5 e5 hu => ⟨_, hu, k4 H5 F5 e5⟩
/-! and, or, not; if .. else -/
def mAnd (m n : M Bool) : M Bool := m.bind fun c => cond c n (.ok false)
def mOr (m n : M Bool) : M Bool := m.bind fun c => cond c (.ok true) n
def mNot (m : M Bool) : M Bool := m.bind fun c => .ok (!c)
theorem tw_t {e : Expr} {m : M Bool} (h : Tw X W Γ e m) : Tt X W Γ e m := fun tk σ B F0 H F Q en k => ⟨fun pins s I => (h tk σ B F0 H F Q en k).run _ pins s I⟩
theorem tw_and1 {m : M Bool} (h : Tt X W Γ a m) : Tw X W Γ (.BoolOp .And [a] pos) m := fun tk σ B F0 H F Q en k => PW.w (pw_and1 pt_w) (h tk σ B F0 H F Q en k)
theorem tw_or1 {m : M Bool} (h : Tt X W Γ a m) : Tw X W Γ (.BoolOp .Or [a] pos) m := fun tk σ B F0 H F Q en k => PW.w (pw_or1 pt_w) (h tk σ B F0 H F Q en k)
theorem tw_and {rest : List Expr} {m n : M Bool} (h : Tt X W Γ a m) (g : Tw X W Γ (.BoolOp .And (b :: rest) pos) n) : Tw X W Γ (.BoolOp .And (a :: b :: rest) pos) (mAnd m n) := fun tk σ B F0 H F Q en k =>
  PW.w (pw_and pt_w pw_w) <| h tk σ B F0 H F _ en <| KT.bnd kkT k fun x H1 F1 e1 k1 => by
    cases x with
    | true => rw [if_pos rfl]; exact g tk σ B F0 H1 F1 _ (en.ext e1) k1
    | false => rw [if_neg Bool.false_ne_true]; exact KT.now k1 e1.fh
theorem tw_or {rest : List Expr} {m n : M Bool} (h : Tt X W Γ a m) (g : Tw X W Γ (.BoolOp .Or (b :: rest) pos) n) : Tw X W Γ (.BoolOp .Or (a :: b :: rest) pos) (mOr m n) := fun tk σ B F0 H F Q en k =>
  PW.w (pw_or pt_w pw_w) <| h tk σ B F0 H F _ en <| KT.bnd kkT k fun x H1 F1 e1 k1 => by
    cases x with
    | true => rw [if_pos rfl]; exact KT.now k1 e1.fh
    | false => rw [if_neg Bool.false_ne_true]; exact g tk σ B F0 H1 F1 _ (en.ext e1) k1
theorem tt_not {m : M Bool} (h : Tt X W Γ a m) : Tt X W Γ (.UnaryOp .Not a pos) (mNot m) := fun tk σ B F0 H F Q en k =>
  PT.w (pt_not pt_w) <| h tk σ B F0 H F _ en <| KT.bnd kkT k fun x H1 F1 e1 k1 => KT.now k1 e1.fh
theorem ev_one {op} {r : R X.K α} {m : M α} (h : Ev X W Γ r a m) : Ev X W Γ r (.BoolOp op [a] pos) m := fun tk σ B F0 H F Q en k => PE.w (pe_one pe_w) (h tk σ B F0 H F Q en k)
theorem ev_andB {rest : List Expr} {m n : M Bool} (h : Ev X W Γ rBool a m) (g : Ev X W Γ rBool (.BoolOp .And (b :: rest) pos) n) : Ev X W Γ rBool (.BoolOp .And (a :: b :: rest) pos) (mAnd m n) := fun tk σ B F0 H F Q en k =>
  PE.w (pe_and pe_w pe_w) <| h tk σ B F0 H F _ en <| KO.bnd kkO k fun x v H1 F1 e1 r1 k1 => by
    refine ⟨x, r1, ?_⟩
    cases x with
    | true => rw [if_pos rfl]; exact g tk σ B F0 H1 F1 _ (en.ext e1) k1
    | false => rw [if_neg Bool.false_ne_true]; exact KO.now k1 e1.fh rfl
theorem ev_orB {rest : List Expr} {m n : M Bool} (h : Ev X W Γ rBool a m) (g : Ev X W Γ rBool (.BoolOp .Or (b :: rest) pos) n) : Ev X W Γ rBool (.BoolOp .Or (a :: b :: rest) pos) (mOr m n) := fun tk σ B F0 H F Q en k =>
  PE.w (pe_or pe_w pe_w) <| h tk σ B F0 H F _ en <| KO.bnd kkO k fun x v H1 F1 e1 r1 k1 => by
    refine ⟨x, r1, ?_⟩
    cases x with
    | true => rw [if_pos rfl]; exact KO.now k1 e1.fh rfl
    | false => rw [if_neg Bool.false_ne_true]; exact g tk σ B F0 H1 F1 _ (en.ext e1) k1
theorem ev_not {m : M Bool} (h : Ev X W Γ rBool a m) : Ev X W Γ rBool (.UnaryOp .Not a pos) (mNot m) := fun tk σ B F0 H F Q en k =>
  PE.w (pe_not pe_w) <| h tk σ B F0 H F _ en <| KO.bnd kkO k fun x v H1 F1 e1 r1 k1 => ⟨x, r1, KO.now k1 e1.fh rfl⟩
theorem ev_if {r : R X.K α} {mc : M Bool} {ma mb : M α} (hc : Tt X W Γ c mc) (ha : Ev X W Γ r a ma) (hb : Ev X W Γ r b mb) : Ev X W Γ r (.IfExp c a b pos) (mc.bind fun t => cond t ma mb) := fun tk σ B F0 H F Q en k =>
  PE.w (pe_ifExp pt_w pe_w pe_w) <| hc tk σ B F0 H F _ en <| KT.bnd kkO k fun t H1 F1 e1 k1 => by
    cases t with
    | true => rw [if_pos rfl]; exact ha tk σ B F0 H1 F1 _ (en.ext e1) k1
    | false => rw [if_neg Bool.false_ne_true]; exact hb tk σ B F0 H1 F1 _ (en.ext e1) k1
end
end PL
end
section
set_option maxRecDepth 100000
namespace PL
open PySem L2
/-! ### arguments -/
structure RA (K : PySem.W.Frag) (A : Type) where
  rep : Hp → Hp → List V → A → Prop
  mono : ∀ {H F H' F' : Hp} {vs : List V} {a : A}, Ext H F H' F' → rep H F vs a → rep H' F' vs a
section
variable {K : PySem.W.Frag} {α β γ A : Type}
def raN : RA K Unit := ⟨fun _ _ vs _ => vs = [], fun _ h => h⟩
/-- a frozen one, then the rest -/
def raC (r : R K α) (t : RA K A) : RA K (α × A) := ⟨fun H F vs x => ∃ v ws, vs = v :: ws ∧ r.rep F v x.1 ∧ t.rep H F ws x.2, fun e ⟨v, ws, q, a, b⟩ => ⟨v, ws, q, r.mono e.ff a, t.mono e b⟩⟩
/-- a list that the callee reads -/
def raL (r : R K α) (t : RA K A) : RA K (List α × A) := ⟨fun H F vs x => ∃ p us ws, vs = .ref p :: ws ∧ H p = some (.lst us) ∧ Paired (r.rep F) us x.1 ∧ t.rep H F ws x.2, fun e ⟨p, us, ws, q, a, b, c⟩ => ⟨p, us, ws, q, e.hh _ _ a, reps_mono e.ff b, t.mono e c⟩⟩
/-- items of one kind -/
def raH (r : R K α) : RA K (List α) := ⟨fun _ F vs xs => Paired (r.rep F) vs xs, fun e h => reps_mono e.ff h⟩
def RA.Len (ra : RA K A) (n : Nat) : Prop := ∀ H F vs a, ra.rep H F vs a → vs.length = n
theorem len_n : (raN (K := K)).Len 0 := fun _ _ _ _ h => by
  have h : _ = [] := h
  rw [h]; rfl
theorem len_c {r : R K α} {t : RA K A} {n : Nat} (h : t.Len n) : (raC r t).Len (n + 1) := fun H F vs a ⟨v, ws, q, _, b⟩ => by rw [q, List.length_cons, h H F ws _ b]
theorem len_l {r : R K α} {t : RA K A} {n : Nat} (h : t.Len n) : (raL r t).Len (n + 1) := fun H F vs a ⟨p, us, ws, q, _, _, b⟩ => by rw [q, List.length_cons, h H F ws _ b]
end
section
variable {α β γ A : Type}
def KA (X : Cx) (ra : RA X.K A) (W : WX) (σ : St) (H F : Hp) (Q : List V → Hp → Prop) : M A → Prop
  | .ok a => ∀ vs H' F', Ext H F H' F' → ra.rep H' F' vs a → Q vs H'
  | .exc e => ∀ cls d H' F', Ext H F H' F' → ErrOk X.K X.mg cls d F' e → W cls d σ H'
  | .stuck => False
def Ag (X : Cx) (W : WX) (Γ : En X.K) (ra : RA X.K A) (es : List Expr) (m : M A) : Prop :=
  Takes X W → ∀ σ B F0 H F Q, EnOk Γ σ B F0 H F → KA X ra W σ H F Q m → wA X es σ H Q
variable {X : Cx} {W : WX} {Γ : En X.K} {pos : Pos} {σ : St} {H F H' F' : Hp} {Q : VK} {e : Expr} {es : List Expr}
theorem KA.ext {ra : RA X.K A} {Q : List V → Hp → Prop} {m : M A} (h : KA X ra W σ H F Q m) (e : Ext H F H' F') : KA X ra W σ H' F' Q m := by
  cases m with
  | ok x => exact fun v H2 F2 e2 q => h v H2 F2 (e.trans e2) q
  | exc er => exact fun c d H2 F2 e2 q => h c d H2 F2 (e.trans e2) q
  | stuck => exact h
theorem kkA {ra : RA X.K A} {Q : List V → Hp → Prop} : KK X W σ (fun H F m => KA X ra W σ H F Q m) := ⟨fun h e => h.ext e, fun h => h, fun h => h⟩
theorem KA.bnd {P : Hp → Hp → M β → Prop} (kk : KK X W σ P) {ra : RA X.K A} {ma : M A} {f : A → M β} {Q' : List V → Hp → Prop} (h : P H F (ma.bind f))
    (k : ∀ x vs H' F', Ext H F H' F' → ra.rep H' F' vs x → P H' F' (f x) → Q' vs H') : KA X ra W σ H F Q' ma := by
  cases ma with
  | ok x => exact fun vs H' F' e r => k x vs H' F' e r (kk.ext h e)
  | exc er => exact kk.ofexc h
  | stuck => exact kk.ofstk h
theorem ag_n : Ag X W Γ raN [] (.ok ()) := fun _ σ B F0 H F Q en k => PA.w pa_nil (k [] H F (Ext.refl en.fh) rfl)
theorem ag_c {r : R X.K α} {t : RA X.K A} {m : M α} {n : M A} (h : Ev X W Γ r e m) (g : Ag X W Γ t es n) (hs : starEach (e :: es) X.env = (false, eval e X.env) :: starEach es X.env := by exact star_ns rfl) :
    Ag X W Γ (raC r t) (e :: es) (m.bind fun x => n.bind fun y => .ok (x, y)) := fun tk σ B F0 H F Q en k =>
  PA.w (pa_cons pe_w pa_w hs) <| h tk σ B F0 H F _ en <| KO.bnd kkA k fun x v H1 F1 e1 r1 k1 =>
    g tk σ B F0 H1 F1 _ (en.ext e1) <| KA.bnd kkA k1 fun y ws H2 F2 e2 r2 k2 => k2 (v :: ws) H2 F2 (Ext.refl e2.fh) ⟨v, ws, rfl, r.mono e2.ff r1, r2⟩
theorem ag_l {r : R X.K α} {t : RA X.K A} {m : M (List α)} {n : M A} (h : El X W Γ r e m) (g : Ag X W Γ t es n) (hs : starEach (e :: es) X.env = (false, eval e X.env) :: starEach es X.env := by exact star_ns rfl) :
    Ag X W Γ (raL r t) (e :: es) (m.bind fun x => n.bind fun y => .ok (x, y)) := fun tk σ B F0 H F Q en k =>
  PA.w (pa_cons pe_w pa_w hs) <| h tk σ B F0 H F _ en <| KL.bnd kkA k fun x p vs H1 F1 e1 q1 r1 k1 =>
    g tk σ B F0 H1 F1 _ (en.ext e1) <| KA.bnd kkA k1 fun y ws H2 F2 e2 r2 k2 => k2 (.ref p :: ws) H2 F2 (Ext.refl e2.fh) ⟨p, vs, ws, rfl, e2.hh _ _ q1, reps_mono e2.ff r1, r2⟩
/-- items of one kind -/
theorem ah_n {r : R X.K α} : Ag X W Γ (raH r) [] (.ok []) := fun _ σ B F0 H F Q en k => PA.w pa_nil (k [] H F (Ext.refl en.fh) .nil)
theorem ah_c {r : R X.K α} {m : M α} {n : M (List α)} (h : Ev X W Γ r e m) (g : Ag X W Γ (raH r) es n) (hs : starEach (e :: es) X.env = (false, eval e X.env) :: starEach es X.env := by exact star_ns rfl) :
    Ag X W Γ (raH r) (e :: es) (m.bind fun x => n.bind fun y => .ok (x :: y)) := fun tk σ B F0 H F Q en k =>
  PA.w (pa_cons pe_w pa_w hs) <| h tk σ B F0 H F _ en <| KO.bnd kkA k fun x v H1 F1 e1 r1 k1 =>
    g tk σ B F0 H1 F1 _ (en.ext e1) <| KA.bnd kkA k1 fun y ws H2 F2 e2 r2 k2 => k2 (v :: ws) H2 F2 (Ext.refl e2.fh) (.cons (r.mono e2.ff r1) r2)
/-! ### displays -/
def lenOk (n : Nat) : Bool := decide (n ≤ 16777216)
theorem lenOk_le {n : Nat} (h : lenOk n = true) : n ≤ sizeLine := by rw [sizeLine_eq]; exact of_decide_eq_true h
theorem len_lit {n : Nat} (h : n ≤ 100) : lenOk n = true := by unfold lenOk; exact decide_eq_true (by omega)
theorem small_le {n : Nat} (h : n ≤ 1000) : n ≤ sizeLine := by rw [sizeLine_eq]; omega
theorem sq_new {K : PySem.W.Frag} {F : Hp} {p : Addr} {vs : List V} : SqT K (upd F p (.tup vs)) p vs := .of upd_same
theorem ev_tup2 {a b : Expr} {r : R X.K α} {s : R X.K β} {ma : M α} {mb : M β} {k0} (ha : Ev X W Γ r a ma) (hb : Ev X W Γ s b mb) (hs : starEach [a, b] X.env = (false, eval a X.env) :: starEach [b] X.env := by exact star_ns rfl) (hs2 : starEach [b] X.env = (false, eval b X.env) :: starEach [] X.env := by exact star_ns rfl) :
    Ev X W Γ (rTup2 r s) (.Tuple [a, b] k0 pos) (ma.bind fun x => mb.bind fun y => .ok (x, y)) := fun tk σ B F0 H F Q en k =>
  PE.w (pe_tup (pa_cons pe_w (pa_cons pe_w pa_nil hs2) hs)) <| ha tk σ B F0 H F _ en <| KO.bnd kkO k fun x v H1 F1 e1 r1 k1 =>
    hb tk σ B F0 H1 F1 _ (en.ext e1) <| KO.bnd kkO k1 fun y w H2 F2 e2 r2 k2 => ⟨small_le (by simp), fun p hp =>
      have ex := Ext.new e2.fh hp (o := .tup [v, w])
      k2 (.ref p) _ _ ex ⟨p, v, w, rfl, sq_new, r.mono ex.ff (r.mono e2.ff r1), s.mono ex.ff r2⟩⟩
theorem ev_tup3 {a b c : Expr} {r : R X.K α} {s : R X.K β} {t : R X.K γ} {ma : M α} {mb : M β} {mc : M γ} {k0} (ha : Ev X W Γ r a ma) (hb : Ev X W Γ s b mb) (hc : Ev X W Γ t c mc) (hs : starEach [a, b, c] X.env = (false, eval a X.env) :: starEach [b, c] X.env := by exact star_ns rfl)
    (hs2 : starEach [b, c] X.env = (false, eval b X.env) :: starEach [c] X.env := by exact star_ns rfl) (hs3 : starEach [c] X.env = (false, eval c X.env) :: starEach [] X.env := by exact star_ns rfl) :
    Ev X W Γ (rTup3 r s t) (.Tuple [a, b, c] k0 pos) (ma.bind fun x => mb.bind fun y => mc.bind fun z => .ok (x, y, z)) := fun tk σ B F0 H F Q en k =>
  PE.w (pe_tup (pa_cons pe_w (pa_cons pe_w (pa_cons pe_w pa_nil hs3) hs2) hs)) <| ha tk σ B F0 H F _ en <| KO.bnd kkO k fun x v H1 F1 e1 r1 k1 =>
    hb tk σ B F0 H1 F1 _ (en.ext e1) <| KO.bnd kkO k1 fun y w H2 F2 e2 r2 k2 =>
      hc tk σ B F0 H2 F2 _ ((en.ext e1).ext e2) <| KO.bnd kkO k2 fun z u H3 F3 e3 r3 k3 => ⟨small_le (by simp), fun p hp =>
        have ex := Ext.new e3.fh hp (o := .tup [v, w, u])
        k3 (.ref p) _ _ ex ⟨p, v, w, u, rfl, sq_new, r.mono ex.ff (r.mono e3.ff (r.mono e2.ff r1)), s.mono ex.ff (s.mono e3.ff r2), t.mono ex.ff r3⟩⟩
/-- a written tuple of items of one kind -/
theorem ev_vtup {r : R X.K α} {m : M (List α)} {k0} (h : Ag X W Γ (raH r) es m) : Ev X W Γ (rVTup r) (.Tuple es k0 pos) (m.bind fun xs => M.grd (lenOk xs.length) (.ok xs)) := fun tk σ B F0 H F Q en k =>
  PE.w (pe_tup pa_w) <| h tk σ B F0 H F _ en <| KA.bnd kkO k fun xs vs H1 F1 e1 r1 k1 => by
    obtain ⟨c, k1⟩ := KO.grd k1
    refine ⟨by rw [Paired.length r1]; exact lenOk_le c, fun p hp => ?_⟩
    have ex := Ext.new e1.fh hp (o := .tup vs)
    exact k1 (.ref p) _ _ ex ⟨p, vs, rfl, sq_new, reps_mono ex.ff r1⟩
theorem KN.grd {r : R X.K α} {c : Bool} {m : M (List α)} (k : KN X r W σ H F Q (M.grd c m)) : c = true ∧ KN X r W σ H F Q m := by
  cases c with
  | true => exact ⟨rfl, k⟩
  | false => exact False.elim k
theorem KN.now {r : R X.K α} {xs : List α} {p : Addr} {vs : List V} (k : KN X r W σ H F Q (.ok xs)) (fh : Same F H) (hp : H p = none) (q : Paired (r.rep F) vs xs) : Q (.ref p) (upd H p (.lst vs)) :=
  k p vs _ F (Ext.own fh hp) hp (fh.free hp) upd_same q
theorem nw_lst {r : R X.K α} {m : M (List α)} (h : Ag X W Γ (raH r) es m) : Nw X W Γ r (.List es pos) (m.bind fun xs => M.grd (lenOk xs.length) (.ok xs)) := fun tk σ B F0 H F Q en k =>
  PE.w (pe_lst pa_w) <| h tk σ B F0 H F _ en <| KA.bnd kkN k fun xs vs H1 F1 e1 r1 k1 => by
    obtain ⟨c, k1⟩ := KN.grd k1
    exact ⟨by rw [Paired.length r1]; exact lenOk_le c, fun p hp => KN.now k1 e1.fh hp r1⟩
/-! ### subscripts -/
def idx (xs : List α) (i : Int) : M α := match atI xs i with
  | some x => .ok x
  | none => .stuck
theorem at_pair {P : V → α → Prop} {vs : List V} {xs : List α} {i : Int} {x : α} (h : Paired P vs xs) (e : atI xs i = some x) : ∃ v, atI vs i = some v ∧ P v x := by
  unfold atI at e ⊢
  rw [Paired.length h]
  cases q : ixN xs.length i with
  | none => rw [q] at e; cases e
  | some j => rw [q] at e; exact Paired.get h e
theorem KO.idx {r : R X.K α} {xs : List α} {i : Int} (k : KO X r W σ H F Q (PL.idx xs i)) : ∃ x, atI xs i = some x ∧ KO X r W σ H F Q (.ok x) := by
  unfold PL.idx at k
  cases q : atI xs i with
  | none => rw [q] at k; exact False.elim k
  | some x => rw [q] at k; exact ⟨x, rfl, k⟩
theorem ev_ixL {a b : Expr} {r : R X.K α} {ma : M (List α)} {mb : M Int} (ha : El X W Γ r a ma) (hb : Ev X W Γ rInt b mb) (hs : PlainIx b := by exact fun _ _ => rfl) : Ev X W Γ r (.Subscript a b pos) (ma.bind fun xs => mb.bind fun i => idx xs i) := fun tk σ B F0 H F Q en k =>
  PE.w (pe_ix ix_list pe_w pe_w hs) <| ha tk σ B F0 H F _ en <| KL.bnd kkO k fun xs p vs H1 F1 e1 q1 r1 k1 =>
    hb tk σ B F0 H1 F1 _ (en.ext e1) <| KO.bnd kkO k1 fun i w H2 F2 e2 r2 k2 => by
      obtain ⟨x, hx, k2⟩ := KO.idx k2
      obtain ⟨v, hv, hr⟩ := at_pair r1 hx
      exact ⟨p, vs, i, v, rfl, r2, .of (e2.hh _ _ q1), hv, KO.now k2 e2.fh (r.mono e2.ff hr)⟩
theorem ev_ixT {a b : Expr} {r : R X.K α} {ma : M (List α)} {mb : M Int} (ha : Ev X W Γ (rVTup r) a ma) (hb : Ev X W Γ rInt b mb) (hs : PlainIx b := by exact fun _ _ => rfl) : Ev X W Γ r (.Subscript a b pos) (ma.bind fun xs => mb.bind fun i => idx xs i) := fun tk σ B F0 H F Q en k =>
  PE.w (pe_ix ix_tup pe_w pe_w hs) <| ha tk σ B F0 H F _ en <| KO.bnd kkO k fun xs v1 H1 F1 e1 r1 k1 => by
    obtain ⟨p, vs, rfl, q1, r1⟩ := r1
    exact hb tk σ B F0 H1 F1 _ (en.ext e1) <| KO.bnd kkO k1 fun i w H2 F2 e2 r2 k2 => by
      obtain ⟨x, hx, k2⟩ := KO.idx k2
      obtain ⟨v, hv, hr⟩ := at_pair r1 hx
      exact ⟨p, vs, i, v, rfl, r2, Same.tq e2.fh (Same.tq e2.ff q1), hv, KO.now k2 e2.fh (r.mono e2.ff hr)⟩
theorem ev_ixS {a b : Expr} {ma : M (List Int)} {mb : M Int} (ha : Ev X W Γ rScr a ma) (hb : Ev X W Γ rInt b mb) (hs : PlainIx b := by exact fun _ _ => rfl) : Ev X W Γ rInt (.Subscript a b pos) (ma.bind fun xs => mb.bind fun i => idx xs i) := fun tk σ B F0 H F Q en k =>
  PE.w (pe_ix ix_list pe_w pe_w hs) <| ha tk σ B F0 H F _ en <| KO.bnd kkO k fun xs v1 H1 F1 e1 r1 k1 => by
    obtain ⟨p, rfl, q1⟩ := r1
    exact hb tk σ B F0 H1 F1 _ (en.ext e1) <| KO.bnd kkO k1 fun i w H2 F2 e2 r2 k2 => by
      obtain ⟨x, hx, k2⟩ := KO.idx k2
      refine ⟨p, xs.map V.int, i, .int x, rfl, r2, e2.hh.seq (e1.fh.seq q1), ?_, KO.now k2 e2.fh rfl⟩
      unfold atI at hx ⊢
      rw [List.length_map]
      cases q : ixN xs.length i with
      | none => rw [q] at hx; cases hx
      | some j =>
        rw [q] at hx
        have hx : xs[j]? = some x := hx
        show (xs.map V.int)[j]? = _
        rw [List.getElem?_map, hx]; rfl
/-- the first, the second of a pair -/
theorem ev_fst {a : Expr} {r : R X.K α} {s : R X.K β} {ma : M (α × β)} {j p0} (ha : Ev X W Γ (rTup2 r s) a ma) : Ev X W Γ r (.Subscript a (.Constant (.int 0) j p0) pos) (ma.bind fun x => .ok x.1) := fun tk σ B F0 H F Q en k =>
  PE.w (pe_ix ix_tup pe_w pe_int (fun _ _ => rfl)) <| ha tk σ B F0 H F _ en <| KO.bnd kkO k fun x v1 H1 F1 e1 r1 k1 => by
    obtain ⟨p, v, w, rfl, q1, r1, r2⟩ := r1
    exact ⟨p, [v, w], 0, v, rfl, rfl, Same.tq e1.fh q1, atI_nat (j := 0) rfl, KO.now k1 e1.fh r1⟩
theorem ev_snd {a : Expr} {r : R X.K α} {s : R X.K β} {ma : M (α × β)} {j p0} (ha : Ev X W Γ (rTup2 r s) a ma) : Ev X W Γ s (.Subscript a (.Constant (.int 1) j p0) pos) (ma.bind fun x => .ok x.2) := fun tk σ B F0 H F Q en k =>
  PE.w (pe_ix ix_tup pe_w pe_int (fun _ _ => rfl)) <| ha tk σ B F0 H F _ en <| KO.bnd kkO k fun x v1 H1 F1 e1 r1 k1 => by
    obtain ⟨p, v, w, rfl, q1, r1, r2⟩ := r1
    exact ⟨p, [v, w], 1, w, rfl, rfl, Same.tq e1.fh q1, atI_nat (j := 1) rfl, KO.now k1 e1.fh r2⟩
theorem ev_t30 {a : Expr} {r : R X.K α} {s : R X.K β} {t : R X.K γ} {ma : M (α × β × γ)} {j p0} (ha : Ev X W Γ (rTup3 r s t) a ma) : Ev X W Γ r (.Subscript a (.Constant (.int 0) j p0) pos) (ma.bind fun x => .ok x.1) := fun tk σ B F0 H F Q en k =>
  PE.w (pe_ix ix_tup pe_w pe_int (fun _ _ => rfl)) <| ha tk σ B F0 H F _ en <| KO.bnd kkO k fun x v1 H1 F1 e1 r1 k1 => by
    obtain ⟨p, v, w, u, rfl, q1, r1, r2, r3⟩ := r1
    exact ⟨p, [v, w, u], 0, v, rfl, rfl, Same.tq e1.fh q1, atI_nat (j := 0) rfl, KO.now k1 e1.fh r1⟩
theorem ev_t31 {a : Expr} {r : R X.K α} {s : R X.K β} {t : R X.K γ} {ma : M (α × β × γ)} {j p0} (ha : Ev X W Γ (rTup3 r s t) a ma) : Ev X W Γ s (.Subscript a (.Constant (.int 1) j p0) pos) (ma.bind fun x => .ok x.2.1) := fun tk σ B F0 H F Q en k =>
  PE.w (pe_ix ix_tup pe_w pe_int (fun _ _ => rfl)) <| ha tk σ B F0 H F _ en <| KO.bnd kkO k fun x v1 H1 F1 e1 r1 k1 => by
    obtain ⟨p, v, w, u, rfl, q1, r1, r2, r3⟩ := r1
    exact ⟨p, [v, w, u], 1, w, rfl, rfl, Same.tq e1.fh q1, atI_nat (j := 1) rfl, KO.now k1 e1.fh r2⟩
theorem ev_t32 {a : Expr} {r : R X.K α} {s : R X.K β} {t : R X.K γ} {ma : M (α × β × γ)} {j p0} (ha : Ev X W Γ (rTup3 r s t) a ma) : Ev X W Γ t (.Subscript a (.Constant (.int 2) j p0) pos) (ma.bind fun x => .ok x.2.2) := fun tk σ B F0 H F Q en k =>
  PE.w (pe_ix ix_tup pe_w pe_int (fun _ _ => rfl)) <| ha tk σ B F0 H F _ en <| KO.bnd kkO k fun x v1 H1 F1 e1 r1 k1 => by
    obtain ⟨p, v, w, u, rfl, q1, r1, r2, r3⟩ := r1
    exact ⟨p, [v, w, u], 2, u, rfl, rfl, Same.tq e1.fh q1, atI_nat (j := 2) rfl, KO.now k1 e1.fh r3⟩
/-! slices -/
def wO (X : Cx) (o : Option Expr) : TO := match o with
  | none => tNoPart
  | some e => tPart (wE X e)
theorem po_w {o : Option Expr} : PO X o (wO X o) := match o with
  | none => po_none
  | some e => po_some pe_w
def KP (X : Cx) (W : WX) (σ : St) (H F : Hp) (Q : Option Int → Hp → Prop) : M (Option Int) → Prop
  | .ok i => ∀ H' F', Ext H F H' F' → Q i H'
  | .exc e => ∀ cls d H' F', Ext H F H' F' → ErrOk X.K X.mg cls d F' e → W cls d σ H'
  | .stuck => False
def Po (X : Cx) (W : WX) (Γ : En X.K) (o : Option Expr) (m : M (Option Int)) : Prop :=
  Takes X W → ∀ σ B F0 H F Q, EnOk Γ σ B F0 H F → KP X W σ H F Q m → wO X o σ H Q
theorem KP.ext {Q : Option Int → Hp → Prop} {m : M (Option Int)} (h : KP X W σ H F Q m) (e : Ext H F H' F') : KP X W σ H' F' Q m := by
  cases m with
  | ok x => exact fun H2 F2 e2 => h H2 F2 (e.trans e2)
  | exc er => exact fun c d H2 F2 e2 q => h c d H2 F2 (e.trans e2) q
  | stuck => exact h
theorem kkP {Q : Option Int → Hp → Prop} : KK X W σ (fun H F m => KP X W σ H F Q m) := ⟨fun h e => h.ext e, fun h => h, fun h => h⟩
theorem KP.bnd {P : Hp → Hp → M β → Prop} (kk : KK X W σ P) {ma : M (Option Int)} {f : Option Int → M β} {Q' : Option Int → Hp → Prop} (h : P H F (ma.bind f))
    (k : ∀ x H' F', Ext H F H' F' → P H' F' (f x) → Q' x H') : KP X W σ H F Q' ma := by
  cases ma with
  | ok x => exact fun H' F' e => k x H' F' e (kk.ext h e)
  | exc er => exact kk.ofexc h
  | stuck => exact kk.ofstk h
theorem po_n : Po X W Γ none (.ok none) := fun _ σ B F0 H F Q en k => k H F (Ext.refl en.fh)
theorem po_s {m : M Int} (h : Ev X W Γ rInt e m) : Po X W Γ (some e) (m.bind fun i => .ok (some i)) := fun tk σ B F0 H F Q en k =>
  h tk σ B F0 H F _ en <| KO.bnd kkP k fun i v H1 F1 e1 r1 k1 => ⟨i, r1, k1 H1 F1 (Ext.refl e1.fh)⟩
def cut (xs : List α) (lo hi : Option Int) : List α := (xs.drop (HT.sIx xs.length 0 lo)).take (HT.sIx xs.length xs.length hi - HT.sIx xs.length 0 lo)
theorem cut_pair {P : V → α → Prop} {vs : List V} {xs : List α} (h : Paired P vs xs) (lo hi : Option Int) : Paired P (cutV vs lo hi) (cut xs lo hi) := by
  unfold cutV cut
  rw [Paired.length h]
  exact Paired.tke _ (Paired.drp _ h)
theorem nw_slL {a : Expr} {lo hi : Option Expr} {p2 : Pos} {r : R X.K α} {ma : M (List α)} {ml mh : M (Option Int)} (ha : El X W Γ r a ma) (hl : Po X W Γ lo ml) (hh : Po X W Γ hi mh) :
    Nw X W Γ r (.Subscript a (.Slice lo hi none p2) pos) (ma.bind fun xs => ml.bind fun l => mh.bind fun h => .ok (cut xs l h)) := fun tk σ B F0 H F Q en k =>
  PE.w (pe_slice sl_list pe_w po_w po_w) <| ha tk σ B F0 H F _ en <| KL.bnd kkN k fun xs p vs H1 F1 e1 q1 r1 k1 =>
    hl tk σ B F0 H1 F1 _ (en.ext e1) <| KP.bnd kkN k1 fun l H2 F2 e2 k2 =>
      hh tk σ B F0 H2 F2 _ ((en.ext e1).ext e2) <| KP.bnd kkN k2 fun h H3 F3 e3 k3 =>
        ⟨p, vs, rfl, .of (e3.hh _ _ (e2.hh _ _ q1)), fun q hq => KN.now k3 e3.fh hq (cut_pair (reps_mono e3.ff (reps_mono e2.ff r1)) l h)⟩
theorem cut_full {xs : List V} {lo hi : Option Int} (h : HT.sIx xs.length 0 lo = 0 ∧ HT.sIx xs.length xs.length hi = xs.length) : cutV xs lo hi = xs := by
  unfold cutV
  rw [h.1, h.2]
  simp
theorem ev_slT {a : Expr} {lo hi : Option Expr} {p2 : Pos} {r : R X.K α} {ma : M (List α)} {ml mh : M (Option Int)} (ha : Ev X W Γ (rVTup r) a ma) (hl : Po X W Γ lo ml) (hh : Po X W Γ hi mh) :
    Ev X W Γ (rVTup r) (.Subscript a (.Slice lo hi none p2) pos) (ma.bind fun xs => ml.bind fun l => mh.bind fun h => .ok (cut xs l h)) := fun tk σ B F0 H F Q en k =>
  PE.w (pe_slice sl_tupA pe_w po_w po_w) <| ha tk σ B F0 H F _ en <| KO.bnd kkO k fun xs v1 H1 F1 e1 r1 k1 => by
    obtain ⟨p, vs, rfl, q1, r1⟩ := r1
    exact hl tk σ B F0 H1 F1 _ (en.ext e1) <| KP.bnd kkO k1 fun l H2 F2 e2 k2 =>
      hh tk σ B F0 H2 F2 _ ((en.ext e1).ext e2) <| KP.bnd kkO k2 fun h H3 F3 e3 k3 => by
        have e13 := e2.trans e3
        have rr := cut_pair (reps_mono e13.ff r1) l h
        refine ⟨p, vs, rfl, Same.tq e3.fh (Same.tq e13.ff q1), fun z => ?_, fun _ q hq => ?_⟩
        · rw [cut_full z] at rr
          exact KO.now k3 e3.fh ⟨p, vs, rfl, Same.tq e13.ff q1, rr⟩
        · have ex := Ext.new e3.fh hq (o := .tup (cutV vs l h))
          exact k3 (.ref q) _ _ ex ⟨q, _, rfl, sq_new, reps_mono ex.ff rr⟩
theorem nw_rev {a : Expr} {r : R X.K α} {ma : M (List α)} {k1 p1 p2 p3} (ha : El X W Γ r a ma) : Nw X W Γ r (.Subscript a (.Slice none none (some (.UnaryOp .USub (.Constant (.int 1) k1 p1) p2)) p3) pos) (ma.bind fun xs => .ok xs.reverse) := fun tk σ B F0 H F Q en k =>
  PE.w (pe_revL pe_w) <| ha tk σ B F0 H F _ en <| KL.bnd kkN k fun xs p vs H1 F1 e1 q1 r1 k1 =>
    ⟨p, vs, rfl, .of q1, fun q hq => KN.now k1 e1.fh hq (by
      have : ∀ {us : List V} {ys : List α}, Paired (r.rep F1) us ys → Paired (r.rep F1) us.reverse ys.reverse := by
        intro us ys h
        induction h with
        | nil => exact .nil
        | cons h t ih => rw [List.reverse_cons, List.reverse_cons]; exact Paired.app ih (.cons h .nil)
      exact this r1)⟩
/-- lists, tuples put together -/
def catL (xs ys : List α) : M (List α) := M.grd (lenOk (xs.length + ys.length)) (.ok (xs ++ ys))
theorem nw_cat {a b : Expr} {r : R X.K α} {ma mb : M (List α)} (ha : El X W Γ r a ma) (hb : El X W Γ r b mb) : Nw X W Γ r (.BinOp a .Add b pos) (ma.bind fun xs => mb.bind fun ys => catL xs ys) := fun tk σ B F0 H F Q en k =>
  PE.w (pe_op op_cat pe_w pe_w) <| ha tk σ B F0 H F _ en <| KL.bnd kkN k fun xs p vs H1 F1 e1 q1 r1 k1 =>
    hb tk σ B F0 H1 F1 _ (en.ext e1) <| KL.bnd kkN k1 fun ys q ws H2 F2 e2 q2 r2 k2 => by
      obtain ⟨c, k2⟩ := KN.grd k2
      exact ⟨p, q, vs, ws, rfl, rfl, e2.hh _ _ q1, q2, by rw [Paired.length r1, Paired.length r2]; exact lenOk_le c, fun l hl => KN.now k2 e2.fh hl (Paired.app (reps_mono e2.ff r1) r2)⟩
theorem ev_catT {a b : Expr} {r : R X.K α} {ma mb : M (List α)} (ha : Ev X W Γ (rVTup r) a ma) (hb : Ev X W Γ (rVTup r) b mb) : Ev X W Γ (rVTup r) (.BinOp a .Add b pos) (ma.bind fun xs => mb.bind fun ys => catL xs ys) :=
  ev_op op_catA (fun {_ _ H F Q v w x y} s p q k => by
    obtain ⟨c, k⟩ := KO.grd k
    obtain ⟨a, vs, rfl, q1, r1⟩ := p
    obtain ⟨b, ws, rfl, q2, r2⟩ := q
    have rr := Paired.app r1 r2
    refine ⟨a, b, vs, ws, rfl, rfl, Same.tq s q1, Same.tq s q2, by rw [Paired.length r1, Paired.length r2]; exact lenOk_le c, fun z => ?_, fun _ z => ?_, fun _ _ l hl => ?_⟩
    · rw [z, List.nil_append] at rr
      exact KO.now k s ⟨b, ws, rfl, q2, rr⟩
    · rw [z, List.append_nil] at rr
      exact KO.now k s ⟨a, vs, rfl, q1, rr⟩
    · have ex := Ext.new s hl (o := .tup (vs ++ ws))
      exact k (.ref l) _ _ ex ⟨l, _, rfl, sq_new, reps_mono ex.ff rr⟩) ha hb
end
end PL
end
section
set_option maxRecDepth 100000
namespace PL
open PySem L2
section
variable {α β γ A ρ : Type} {X : Cx} {W : WX} {Γ : En X.K} {pos p0 : Pos} {σ : St} {H F H' F' : Hp} {Q : VK} {a b : Expr}
/-! ### built-in functions -/
theorem bind_id' {e : Expr} {r : R X.K α} {m : M α} (h : Ev X W Γ r e (m.bind fun a => .ok a)) : Ev X W Γ r e m := by rwa [M.bind_id] at h
theorem bind_idn {e : Expr} {r : R X.K α} {m : M (List α)} (h : Nw X W Γ r e (m.bind fun a => .ok a)) : Nw X W Γ r e m := by rwa [M.bind_id] at h
/-- a built-in of one argument -/
theorem ev_b1 {x : Str} {id : String} {rr : List V → Hp → VK → Prop} {ra : R X.K α} {rc : R X.K γ} {m : M α} {f : α → M γ} (hc : CallR X (.builtin id) rr) (hv : bootBuiltins x = some (.builtin id)) (hn : x ≠ "__name__")
    (hf : ∀ {W σ H F Q v y}, Same F H → ra.rep F v y → KO X rc W σ H F Q (f y) → rr [v] H Q) (ha : Ev X W Γ ra a m) (hm : X.mg x = none) (hg : Gl X x) (hdb : (x == ("__debug__" : Str)) = false) (hs : starEach [a] X.env = (false, eval a X.env) :: starEach [] X.env) :
    Ev X W Γ rc (.Call (.Name x p0) [a] [] pos) (m.bind fun y => f y) := fun tk σ B F0 H F Q en k =>
  PE.w (pe_callB hc hg hm hv (pa_cons pe_w pa_nil hs) hn hdb hs) <| ha tk σ B F0 H F _ en <| KO.bnd kkO k fun y v H1 F1 e1 r1 k1 => hf e1.fh r1 k1
theorem ev_y1 {x : Str} {T : String} {rr : List V → Hp → VK → Prop} {ra : R X.K α} {rc : R X.K γ} {m : M α} {f : α → M γ} (hc : CallR X (.type T) rr) (hv : bootBuiltins x = some (.type T)) (hn : x ≠ "__name__")
    (hf : ∀ {W σ H F Q v y}, Same F H → ra.rep F v y → KO X rc W σ H F Q (f y) → rr [v] H Q) (ha : Ev X W Γ ra a m) (hm : X.mg x = none) (hg : Gl X x) (hdb : (x == ("__debug__" : Str)) = false) (hs : starEach [a] X.env = (false, eval a X.env) :: starEach [] X.env) :
    Ev X W Γ rc (.Call (.Name x p0) [a] [] pos) (m.bind fun y => f y) := fun tk σ B F0 H F Q en k =>
  PE.w (pe_callTy hc hg hm hv (pa_cons pe_w pa_nil hs) hn hdb hs) <| ha tk σ B F0 H F _ en <| KO.bnd kkO k fun y v H1 F1 e1 r1 k1 => hf e1.fh r1 k1
/-- .. of one list that is read -/
theorem ev_bl1 {x : Str} {id : String} {rr : List V → Hp → VK → Prop} {ra : R X.K α} {rc : R X.K γ} {m : M (List α)} {f : List α → M γ} (hc : CallR X (.builtin id) rr) (hv : bootBuiltins x = some (.builtin id)) (hn : x ≠ "__name__")
    (hf : ∀ {W σ H F Q p vs y}, Same F H → H p = some (.lst vs) → Paired (ra.rep F) vs y → KO X rc W σ H F Q (f y) → rr [.ref p] H Q) (ha : El X W Γ ra a m) (hm : X.mg x = none) (hg : Gl X x) (hdb : (x == ("__debug__" : Str)) = false) (hs : starEach [a] X.env = (false, eval a X.env) :: starEach [] X.env) :
    Ev X W Γ rc (.Call (.Name x p0) [a] [] pos) (m.bind fun y => f y) := fun tk σ B F0 H F Q en k =>
  PE.w (pe_callB hc hg hm hv (pa_cons pe_w pa_nil hs) hn hdb hs) <| ha tk σ B F0 H F _ en <| KL.bnd kkO k fun y p vs H1 F1 e1 q1 r1 k1 => hf e1.fh q1 r1 k1
theorem nw_yl1 {x : Str} {T : String} {rr : List V → Hp → VK → Prop} {ra : R X.K α} {rc : R X.K γ} {m : M (List α)} {f : List α → M (List γ)} (hc : CallR X (.type T) rr) (hv : bootBuiltins x = some (.type T)) (hn : x ≠ "__name__")
    (hf : ∀ {W σ H F Q p vs y}, Same F H → H p = some (.lst vs) → Paired (ra.rep F) vs y → KN X rc W σ H F Q (f y) → rr [.ref p] H Q) (ha : El X W Γ ra a m) (hm : X.mg x = none) (hg : Gl X x) (hdb : (x == ("__debug__" : Str)) = false) (hs : starEach [a] X.env = (false, eval a X.env) :: starEach [] X.env) :
    Nw X W Γ rc (.Call (.Name x p0) [a] [] pos) (m.bind fun y => f y) := fun tk σ B F0 H F Q en k =>
  PE.w (pe_callTy hc hg hm hv (pa_cons pe_w pa_nil hs) hn hdb hs) <| ha tk σ B F0 H F _ en <| KL.bnd kkN k fun y p vs H1 F1 e1 q1 r1 k1 => hf e1.fh q1 r1 k1
theorem nw_y1 {x : Str} {T : String} {rr : List V → Hp → VK → Prop} {ra : R X.K α} {rc : R X.K γ} {m : M α} {f : α → M (List γ)} (hc : CallR X (.type T) rr) (hv : bootBuiltins x = some (.type T)) (hn : x ≠ "__name__")
    (hf : ∀ {W σ H F Q v y}, Same F H → ra.rep F v y → KN X rc W σ H F Q (f y) → rr [v] H Q) (ha : Ev X W Γ ra a m) (hm : X.mg x = none) (hg : Gl X x) (hdb : (x == ("__debug__" : Str)) = false) (hs : starEach [a] X.env = (false, eval a X.env) :: starEach [] X.env) :
    Nw X W Γ rc (.Call (.Name x p0) [a] [] pos) (m.bind fun y => f y) := fun tk σ B F0 H F Q en k =>
  PE.w (pe_callTy hc hg hm hv (pa_cons pe_w pa_nil hs) hn hdb hs) <| ha tk σ B F0 H F _ en <| KO.bnd kkN k fun y v H1 F1 e1 r1 k1 => hf e1.fh r1 k1
theorem ev_yl1 {x : Str} {T : String} {rr : List V → Hp → VK → Prop} {ra : R X.K α} {rc : R X.K γ} {m : M (List α)} {f : List α → M γ} (hc : CallR X (.type T) rr) (hv : bootBuiltins x = some (.type T)) (hn : x ≠ "__name__")
    (hf : ∀ {W σ H F Q p vs y}, Same F H → H p = some (.lst vs) → Paired (ra.rep F) vs y → KO X rc W σ H F Q (f y) → rr [.ref p] H Q) (ha : El X W Γ ra a m) (hm : X.mg x = none) (hg : Gl X x) (hdb : (x == ("__debug__" : Str)) = false) (hs : starEach [a] X.env = (false, eval a X.env) :: starEach [] X.env) :
    Ev X W Γ rc (.Call (.Name x p0) [a] [] pos) (m.bind fun y => f y) := fun tk σ B F0 H F Q en k =>
  PE.w (pe_callTy hc hg hm hv (pa_cons pe_w pa_nil hs) hn hdb hs) <| ha tk σ B F0 H F _ en <| KL.bnd kkO k fun y p vs H1 F1 e1 q1 r1 k1 => hf e1.fh q1 r1 k1
theorem ev_len {r : R X.K α} {m : M (List α)} (hm : X.mg "len" = none) (ha : El X W Γ r a m) (hg : Gl X "len" := by rfl) (hs : starEach [a] X.env = (false, eval a X.env) :: starEach [] X.env := by exact star_ns rfl) : Ev X W Γ rInt (.Call (.Name "len" p0) [a] [] pos) (m.bind fun xs => .ok (xs.length : Int)) :=
  ev_bl1 (f := fun xs => .ok (xs.length : Int)) call_len_seq PySem.boot_len (by decide) (fun {_ _ _ _ _ p vs y} s q r k => ⟨p, vs, rfl, .inl (.of q), by rw [Paired.length r]; exact KO.now k s rfl⟩) ha hm hg (by decide) hs
theorem ev_lenT {r : R X.K α} {m : M (List α)} (hm : X.mg "len" = none) (ha : Ev X W Γ (rVTup r) a m) (hg : Gl X "len" := by rfl) (hs : starEach [a] X.env = (false, eval a X.env) :: starEach [] X.env := by exact star_ns rfl) : Ev X W Γ rInt (.Call (.Name "len" p0) [a] [] pos) (m.bind fun xs => .ok (xs.length : Int)) :=
  ev_b1 (f := fun xs => .ok (xs.length : Int)) call_len_seq PySem.boot_len (by decide) (fun {_ _ _ _ _ v y} s r k => by
    obtain ⟨p, vs, rfl, q, r⟩ := r
    exact ⟨p, vs, rfl, .inr (Same.tq s q), by rw [Paired.length r]; exact KO.now k s rfl⟩) ha hm hg (by decide) hs
theorem ev_lenS {m : M (List Int)} (hm : X.mg "len" = none) (ha : Ev X W Γ rScr a m) (hg : Gl X "len" := by rfl) (hs : starEach [a] X.env = (false, eval a X.env) :: starEach [] X.env := by exact star_ns rfl) : Ev X W Γ rInt (.Call (.Name "len" p0) [a] [] pos) (m.bind fun xs => .ok (xs.length : Int)) :=
  ev_b1 (f := fun xs => .ok (xs.length : Int)) call_len_seq PySem.boot_len (by decide) (fun {_ _ _ _ _ v y} s r k => by
    obtain ⟨p, rfl, q⟩ := r
    exact ⟨p, _, rfl, .inl (s.seq q), by rw [List.length_map]; exact KO.now k s rfl⟩) ha hm hg (by decide) hs
def absI (i : Int) : Int := if i < 0 then -i else i
theorem ev_abs {m : M Int} (hm : X.mg "abs" = none) (ha : Ev X W Γ rInt a m) (hg : Gl X "abs" := by rfl) (hs : starEach [a] X.env = (false, eval a X.env) :: starEach [] X.env := by exact star_ns rfl) : Ev X W Γ rInt (.Call (.Name "abs" p0) [a] [] pos) (m.bind fun i => .ok (absI i)) :=
  ev_b1 (f := fun i => .ok (absI i)) call_abs PyProof.Rows.boot_abs (by decide) (fun {_ _ _ _ _ v y} s r k => ⟨y, by rw [show v = .int y from r], KO.now k s rfl⟩) ha hm hg (by decide) hs
theorem ev_int1 {m : M Int} (hm : X.mg "int" = none) (ha : Ev X W Γ rInt a m) (hg : Gl X "int" := by rfl) (hs : starEach [a] X.env = (false, eval a X.env) :: starEach [] X.env := by exact star_ns rfl) : Ev X W Γ rInt (.Call (.Name "int" p0) [a] [] pos) m := bind_id' <|
  ev_y1 (f := fun i => .ok i) call_int1 PyProof.Rows.boot_int (by decide) (fun {_ _ _ _ _ v y} s r k => .inl ⟨y, by rw [show v = .int y from r], KO.now k s rfl⟩) ha hm hg (by decide) hs
theorem ev_intB {m : M Bool} (hm : X.mg "int" = none) (ha : Ev X W Γ rBool a m) (hg : Gl X "int" := by rfl) (hs : starEach [a] X.env = (false, eval a X.env) :: starEach [] X.env := by exact star_ns rfl) : Ev X W Γ rInt (.Call (.Name "int" p0) [a] [] pos) (m.bind fun i => .ok (cond i 1 0)) :=
  ev_y1 (f := fun i => .ok (cond i 1 0)) call_int1 PyProof.Rows.boot_int (by decide) (fun {_ _ _ _ _ v y} s r k => .inr ⟨y, by rw [show v = .bl y from r], KO.now k s (by cases y <;> rfl)⟩) ha hm hg (by decide) hs
theorem nw_list {r : R X.K α} {m : M (List α)} (hm : X.mg "list" = none) (ha : El X W Γ r a m) (hg : Gl X "list" := by rfl) (hs : starEach [a] X.env = (false, eval a X.env) :: starEach [] X.env := by exact star_ns rfl) : Nw X W Γ r (.Call (.Name "list" p0) [a] [] pos) m := bind_idn <|
  nw_yl1 (f := fun xs => .ok xs) call_list_of PyProof.Rows.boot_list (by decide) (fun {_ _ _ _ _ p vs y} s q r k => ⟨p, vs, rfl, .inl (.of q), fun l hl => KN.now k s hl r⟩) ha hm hg (by decide) hs
theorem nw_listT {r : R X.K α} {m : M (List α)} (hm : X.mg "list" = none) (ha : Ev X W Γ (rVTup r) a m) (hg : Gl X "list" := by rfl) (hs : starEach [a] X.env = (false, eval a X.env) :: starEach [] X.env := by exact star_ns rfl) : Nw X W Γ r (.Call (.Name "list" p0) [a] [] pos) m := bind_idn <|
  nw_y1 (f := fun xs => .ok xs) call_list_of PyProof.Rows.boot_list (by decide) (fun {_ _ _ _ _ v y} s r k => by
    obtain ⟨p, vs, rfl, q, r⟩ := r
    exact ⟨p, vs, rfl, .inr (Same.tq s q), fun l hl => KN.now k s hl r⟩) ha hm hg (by decide) hs
theorem ev_tuple {r : R X.K α} {m : M (List α)} (hm : X.mg "tuple" = none) (ha : El X W Γ r a m) (hg : Gl X "tuple" := by rfl) (hs : starEach [a] X.env = (false, eval a X.env) :: starEach [] X.env := by exact star_ns rfl) : Ev X W Γ (rVTup r) (.Call (.Name "tuple" p0) [a] [] pos) m := bind_id' <|
  ev_yl1 (f := fun xs => .ok xs) call_tuple_of PyProof.Rows.boot_tuple (by decide) (fun {_ _ _ _ _ p vs y} s q r k => ⟨p, vs, rfl, .inl ⟨.of q, fun l hl => by
    have ex := Ext.new s hl (o := .tup vs)
    exact k (.ref l) _ _ ex ⟨l, vs, rfl, sq_new, reps_mono ex.ff r⟩⟩⟩) ha hm hg (by decide) hs
theorem ints_of {K : PySem.W.Frag} {F : Hp} : ∀ {vs : List V} {xs : List Int}, Paired ((rInt (K := K)).rep F) vs xs → vs = xs.map V.int
  | _, _, .nil => rfl
  | _, _, .cons h t => by rw [List.map_cons, ← ints_of t, show _ = V.int _ from h]
theorem bools_of {K : PySem.W.Frag} {F : Hp} : ∀ {vs : List V} {xs : List Bool}, Paired ((rBool (K := K)).rep F) vs xs → vs = xs.map V.bl
  | _, _, .nil => rfl
  | _, _, .cons h t => by rw [List.map_cons, ← bools_of t, show _ = V.bl _ from h]
theorem strs_of {K : PySem.W.Frag} {F : Hp} : ∀ {vs : List V} {xs : List Str}, Paired ((rStr (K := K)).rep F) vs xs → vs = xs.map V.str
  | _, _, .nil => rfl
  | _, _, .cons h t => by rw [List.map_cons, ← strs_of t, show _ = V.str _ from h]
theorem ints_to {K : PySem.W.Frag} {F : Hp} : ∀ (xs : List Int), Paired ((rInt (K := K)).rep F) (xs.map V.int) xs
  | [] => .nil
  | x :: r => .cons rfl (ints_to r)
end
end PL
end
section
set_option maxRecDepth 100000
namespace PL
open PySem L2
/-! ### how a def hands back -/
structure Rt (K : PySem.W.Frag) (ρ : Type) where
  rep : Hp → Hp → Hp → V → ρ → Prop
section
variable {K : PySem.W.Frag} {α β γ A ρ : Type}
def rtF (r : R K α) : Rt K α := ⟨fun _ _ F' v y => r.rep F' v y⟩
/-- a new list, the caller's own -/
def rtN (r : R K α) : Rt K (List α) := ⟨fun H H' F' v xs => ∃ p vs, v = .ref p ∧ H p = none ∧ F' p = none ∧ H' p = some (.lst vs) ∧ Paired (r.rep F') vs xs⟩
/-! ### the control of a block -/
structure Ct (X : Cx) (L ρ : Type) where
  W : WX
  Γe : En X.K
  Λ : L → En X.K
  rt : Rt X.K ρ
/-- what stands in any such context -/
structure Cok (X : Cx) : Prop where
  calm : X.calm = true
  po : PassesOwn (model X.prog X.w) X.A X.env X.xe
  nd : X.N.Nodup
inductive Fl (S L ρ : Type) where
  | nx (s : S) | rt (y : ρ) | bk (l : L)
/-- less is known -/
inductive SLe : En K → En K → Prop
  | nil {Γ : En K} : SLe Γ []
  | refl {Γ : En K} : SLe Γ Γ
  | same {s : Sl K} {Γ Γ' : En K} : SLe Γ Γ' → SLe (s :: Γ) (s :: Γ')
  | drop {s : Sl K} {Γ Γ' : En K} : SLe Γ Γ' → SLe (s :: Γ) (.no :: Γ')
theorem SLe.at {Γ Γ' : En K} (h : SLe Γ Γ') : ∀ (i : Nat) (s : Sl K), Γ'[i]? = some s → s = .no ∧ (∃ t, Γ[i]? = some t) ∨ Γ[i]? = some s := by
  induction h with
  | nil => intro i s q; simp at q
  | refl => exact fun i s q => .inr q
  | same h ih =>
    intro i s q
    cases i with
    | zero => exact .inr (by simpa using q)
    | succ i => simpa using ih i s (by simpa using q)
  | drop h ih =>
    intro i s q
    cases i with
    | zero => simp at q; exact .inl ⟨q.symm, _, rfl⟩
    | succ i => simpa using ih i s (by simpa using q)
def Le (Γ Γ' : En K) : Prop := ∀ {σ B F0 H F}, EnOk Γ σ B F0 H F → EnOk Γ' σ B F0 H F
theorem SLe.le {Γ Γ' : En K} (h : SLe Γ Γ') : Le Γ Γ' := fun {σ B F0 H F} en => by
  refine ⟨en.ex, fun i s q => ?_, fun i j s t p n q1 q2 o1 o2 => ?_⟩
  · rcases h.at i s q with ⟨e, t, z⟩ | z
    · subst e
      obtain ⟨o, a, _⟩ := en.sl i t z
      exact ⟨o, a, trivial⟩
    · exact en.sl i s z
  · rcases h.at i s q1 with ⟨e, _⟩ | z1
    · subst e; exact False.elim o1
    · rcases h.at j t q2 with ⟨e, _⟩ | z2
      · subst e; exact False.elim o2
      · exact en.ap i j s t p n z1 z2 o1 o2
theorem EnOk.nil {Γ : En K} {σ : St} {B F0 H F : Hp} (en : EnOk Γ σ B F0 H F) : EnOk (K := K) [] σ B F0 H F := SLe.nil.le en
theorem get_set {Γ : En K} {i j : Nat} {s t : Sl K} (h : (Γ.set i s)[j]? = some t) : (j = i ∧ t = s ∧ (∃ u, Γ[i]? = some u)) ∨ (j ≠ i ∧ Γ[j]? = some t) := by
  rw [List.getElem?_set] at h
  split at h
  · rename_i e
    split at h
    · rename_i hl
      exact .inl ⟨e.symm, (Option.some.inj h).symm, _, List.getElem?_eq_getElem hl⟩
    · cases h
  · rename_i e
    exact .inr ⟨fun z => e z.symm, h⟩
theorem set_at {σ : St} {i j : Nat} {v : V} (h : j ≠ i) : (σ.set i (some v))[j]? = σ[j]? := by rw [List.getElem?_set_ne (fun z => h z.symm)]
theorem set_here {σ : St} {i : Nat} {v : V} {o : Option V} (h : σ[i]? = some o) : (σ.set i (some v))[i]? = some (some v) := by
  obtain ⟨hl, _⟩ := List.getElem?_eq_some_iff.mp h
  rw [List.getElem?_set_self hl]
/-- a slot gets a value -/
theorem EnOk.put {Γ : En K} {σ : St} {B F0 H F : Hp} {i : Nat} {v : V} {r : R K α} {x : α} (en : EnOk Γ σ B F0 H F) (h : r.rep F v x) : EnOk (Γ.set i (.va r x)) (σ.set i (some v)) B F0 H F := by
  refine ⟨en.ex, fun j s q => ?_, fun j k s t p n q1 q2 o1 o2 z1 z2 => ?_⟩
  · rcases get_set q with ⟨rfl, rfl, u, hu⟩ | ⟨hj, q⟩
    · obtain ⟨o, a, _⟩ := en.sl j u hu
      exact ⟨_, set_here a, v, rfl, h⟩
    · obtain ⟨o, a, b⟩ := en.sl j s q
      exact ⟨o, by rw [set_at hj]; exact a, b⟩
  · rcases get_set q1 with ⟨rfl, rfl, _⟩ | ⟨hj, q1⟩
    · exact False.elim o1
    · rcases get_set q2 with ⟨rfl, rfl, _⟩ | ⟨hk, q2⟩
      · exact False.elim o2
      · rw [set_at hj] at z1
        rw [set_at hk] at z2
        exact en.ap j k s t p n q1 q2 o1 o2 z1 z2
/-- a slot gets a new list -/
theorem EnOk.putN {Γ : En K} {σ : St} {B F0 H F H' F' : Hp} {i : Nat} {p : Addr} {vs : List V} {r : R K α} {xs : List α} (en : EnOk Γ σ B F0 H F) (ex : Ext H F H' F') (hn : H p = none) (hf : F' p = none) (hp : H' p = some (.lst vs)) (h : Paired (r.rep F') vs xs) :
    EnOk (Γ.set i (.ow r xs)) (σ.set i (some (.ref p))) B F0 H' F' := by
  have en' := en.ext ex
  have old : ∀ (j : Nat) (s : Sl K), Γ[j]? = some s → s.isOw → σ[j]? ≠ some (some (.ref p)) := fun j s q ho z => by
    cases s with
    | ow r' ys =>
      obtain ⟨o, a, p', vs', e, _, _, c, _⟩ := en.sl j _ q
      subst e
      rw [z] at a
      have e1 : V.ref p = V.ref p' := Option.some.inj (Option.some.inj a)
      have e2 : p = p' := V.ref.inj e1
      rw [← e2, hn] at c
      cases c
    | no => exact ho
    | va _ _ => exact ho
    | bo _ _ => exact ho
    | ob C q rf x =>
      obtain ⟨o, a, p', dx', fs', _, e, _, _, _, _, _, c, _⟩ := en.sl j _ q
      subst e
      rw [z] at a
      have e1 : V.ref p = V.ref p' := Option.some.inj (Option.some.inj a)
      have e2 : p = p' := V.ref.inj e1
      rw [← e2, hn] at c
      cases c
  refine ⟨en'.ex, fun j s q => ?_, fun j k s t p' n q1 q2 o1 o2 z1 z2 => ?_⟩
  · rcases get_set q with ⟨rfl, rfl, u, hu⟩ | ⟨hj, q⟩
    · obtain ⟨o, a, _⟩ := en.sl j u hu
      exact ⟨_, set_here a, p, vs, rfl, en.ex.hh.free hn, hf, hp, h⟩
    · obtain ⟨o, a, b⟩ := en'.sl j s q
      exact ⟨o, by rw [set_at hj]; exact a, b⟩
  · rcases get_set q1 with ⟨ej, es, u, hu⟩ | ⟨hj, g1⟩
    · rcases get_set q2 with ⟨ek, _, _⟩ | ⟨hk, g2⟩
      · exact n (ej.trans ek.symm)
      · rw [ej, set_here (en.sl i u hu).choose_spec.1] at z1
        rw [set_at hk] at z2
        have e1 : p = p' := V.ref.inj (Option.some.inj (Option.some.inj z1))
        rw [← e1] at z2
        exact old k t g2 o2 z2
    · rcases get_set q2 with ⟨ek, es, u, hu⟩ | ⟨hk, g2⟩
      · rw [ek, set_here (en.sl i u hu).choose_spec.1] at z2
        rw [set_at hj] at z1
        have e1 : p = p' := V.ref.inj (Option.some.inj (Option.some.inj z2))
        rw [← e1] at z1
        exact old j s g1 o1 z1
      · rw [set_at hj] at z1
        rw [set_at hk] at z2
        exact en.ap j k s t p' n g1 g2 o1 o2 z1 z2
/-- one's own list is changed -/
theorem EnOk.chg {Γ : En K} {σ : St} {B F0 H F : Hp} {i : Nat} {p : Addr} {us : List V} {r r' : R K α} {xs ys : List α} (en : EnOk Γ σ B F0 H F) (hΓ : Γ[i]? = some (.ow r xs)) (hσ : σ[i]? = some (some (.ref p))) (h : Paired (r.rep F) us ys) :
    EnOk (Γ.set i (.ow r ys)) σ B F0 (upd H p (.lst us)) F := by
  obtain ⟨o, a, p', vs, e, hB, hF, hp, _⟩ := en.sl i _ hΓ
  subst e
  rw [hσ] at a
  have e2 : p = p' := V.ref.inj (Option.some.inj (Option.some.inj a))
  subst e2
  refine ⟨⟨fun b x e => ?_, en.ex.ff, fun b x e => ?_, en.ex.nw⟩, fun j s q => ?_, fun j k s t p' n q1 q2 o1 o2 z1 z2 => ?_⟩
  · rw [upd_ne (ne_of_none e hB)]; exact en.ex.hh _ _ e
  · rw [upd_ne (ne_of_none e hF)]; exact en.ex.fh _ _ e
  · rcases get_set q with ⟨rfl, rfl, _⟩ | ⟨hj, q⟩
    · exact ⟨_, hσ, p, us, rfl, hB, hF, upd_same, h⟩
    · obtain ⟨o, a2, b⟩ := en.sl j s q
      refine ⟨o, a2, ?_⟩
      cases s with
      | no => exact trivial
      | va _ _ => exact b
      | bo _ _ => exact b
      | ob C q rf x =>
        obtain ⟨a, dx, fs, z, e, ne, b1, b2, b3, b4, b5, b6, b7⟩ := b
        refine ⟨a, dx, fs, z, e, ne, b1, b2, b3, b4, ?_, ?_, b7⟩
        · rw [upd_ne (fun z => by rw [z, hp] at b5; cases b5)]; exact b5
        · rw [upd_ne (fun z => by rw [z, hp] at b6; cases b6)]; exact b6
      | ow r' zs =>
        obtain ⟨p', vs', e, b1, b2, b3, b4⟩ := b
        rw [e] at a2
        refine ⟨p', vs', e, b1, b2, ?_, b4⟩
        rw [upd_ne (fun z => by rw [z] at a2; exact en.ap j i _ _ p hj q hΓ trivial trivial a2 hσ)]
        exact b3
  · have own : ∀ (m : Nat) (s : Sl K), (Γ.set i (.ow r ys))[m]? = some s → s.isOw → ∃ s', Γ[m]? = some s' ∧ s'.isOw := fun m s q ho => by
      rcases get_set q with ⟨rfl, rfl, _⟩ | ⟨_, q⟩
      · exact ⟨_, hΓ, trivial⟩
      · exact ⟨s, q, ho⟩
    obtain ⟨s', g1, w1⟩ := own j s q1 o1
    obtain ⟨t', g2, w2⟩ := own k t q2 o2
    exact en.ap j k s' t' p' n g1 g2 w1 w2 z1 z2
/-- one's own list is frozen -/
theorem EnOk.frz {Γ : En K} {σ : St} {B F0 H F : Hp} {i : Nat} {r : R K α} {xs : List α} (en : EnOk Γ σ B F0 H F) (hΓ : Γ[i]? = some (.ow r xs)) : ∃ F', EnOk (Γ.set i (.va (rList r) xs)) σ B F0 H F' := by
  obtain ⟨o, a, p, vs, e, hB, hF, hp, hr⟩ := en.sl i _ hΓ
  subst e
  have hs : Same F (upd F p (.lst vs)) := same_upd hF
  refine ⟨upd F p (.lst vs), ⟨en.ex.hh, en.ex.ff.trans hs, fun b x e => ?_, fun b hb e => ?_⟩, fun j s q => ?_, fun j k s t p' n q1 q2 o1 o2 z1 z2 => ?_⟩
  · by_cases z : b = p
    · rw [z, upd_same] at e; rw [z, hp]; exact e
    · rw [upd_ne z] at e; exact en.ex.fh _ _ e
  · rw [upd_ne (fun z => hb (by rw [z]; exact hB))]; exact en.ex.nw b hb e
  · rcases get_set q with ⟨rfl, rfl, _⟩ | ⟨hj, q⟩
    · exact ⟨_, a, _, rfl, p, vs, rfl, upd_same, reps_mono hs hr⟩
    · obtain ⟨o, a2, b⟩ := en.sl j s q
      refine ⟨o, a2, ?_⟩
      cases s with
      | no => exact trivial
      | va r' x => obtain ⟨v, e, c⟩ := b; exact ⟨v, e, r'.mono hs c⟩
      | bo r' x => obtain ⟨p', vs', e, c, d⟩ := b; exact ⟨p', vs', e, c, reps_mono hs d⟩
      | ob C q rf x =>
        obtain ⟨a, dx, fs, z, e, ne, b1, b2, b3, b4, b5, b6, b7⟩ := b
        refine ⟨a, dx, fs, z, e, ne, b1, ?_, b3, ?_, b5, b6, rf.mono hs b7⟩
        · rw [upd_ne (fun z => by rw [z, hp] at b5; cases b5)]; exact b2
        · rw [upd_ne (fun z => by rw [z, hp] at b6; cases b6)]; exact b4
      | ow r' zs =>
        obtain ⟨p', vs', e, b1, b2, b3, b4⟩ := b
        rw [e] at a2
        refine ⟨p', vs', e, b1, ?_, b3, reps_mono hs b4⟩
        rw [upd_ne (fun z => by rw [z] at a2; exact en.ap j i _ _ p hj q hΓ trivial trivial a2 a)]
        exact b2
  · have own : ∀ (m : Nat) (s : Sl K), (Γ.set i (.va (rList r) xs))[m]? = some s → s.isOw → ∃ s', Γ[m]? = some s' ∧ s'.isOw := fun m s q ho => by
      rcases get_set q with ⟨rfl, rfl, _⟩ | ⟨_, q⟩
      · exact False.elim ho
      · exact ⟨s, q, ho⟩
    obtain ⟨s', g1, w1⟩ := own j s q1 o1
    obtain ⟨t', g2, w2⟩ := own k t q2 o2
    exact en.ap j k s' t' p' n g1 g2 w1 w2 z1 z2
end
/-! ### blocks -/
section
variable {S S1 S2 L ρ α β γ A : Type} {X : Cx}
def KE (X : Cx) (c : Ct X L ρ) (B F0 : Hp) (e : Err) : Prop := ∀ cls d σ' H' F', EnOk c.Γe σ' B F0 H' F' → ErrOk X.K X.mg cls d F' e → c.W cls d σ' H'
/-- a block that hands back -/
def KR (X : Cx) (c : Ct X L ρ) (B F0 : Hp) (D : Ends) : M ρ → Prop
  | .ok y => ∀ v H' F', Ext B F0 H' F' → c.rt.rep B H' F' v y → D.rt v H'
  | .exc e => KE X c B F0 e
  | .stuck => False
/-- one that goes on -/
def KN' (X : Cx) (c : Ct X L ρ) (B F0 : Hp) (Γ' : S → En X.K) (D : Ends) : M S → Prop
  | .ok s => ∀ σ' H' F', EnOk (Γ' s) σ' B F0 H' F' → D.nx σ' H'
  | .exc e => KE X c B F0 e
  | .stuck => False
/-- any -/
def KB (X : Cx) (c : Ct X L ρ) (B F0 : Hp) (Γ' : S → En X.K) (D : Ends) : M (Fl S L ρ) → Prop
  | .ok (.nx s) => ∀ σ' H' F', EnOk (Γ' s) σ' B F0 H' F' → D.nx σ' H'
  | .ok (.rt y) => ∀ v H' F', Ext B F0 H' F' → c.rt.rep B H' F' v y → D.rt v H'
  | .ok (.bk l) => ∀ σ' H' F', EnOk (c.Λ l) σ' B F0 H' F' → D.bk σ' H'
  | .exc e => KE X c B F0 e
  | .stuck => False
def Rb (X : Cx) (c : Ct X L ρ) (Γ : En X.K) (ss : List Stmt) (m : M ρ) : Prop := Takes X c.W → ∀ σ B F0 H F D, EnOk Γ σ B F0 H F → KR X c B F0 D m → wB X ss D σ H
def Nb (X : Cx) (c : Ct X L ρ) (Γ : En X.K) (Γ' : S → En X.K) (ss : List Stmt) (m : M S) : Prop := Takes X c.W → ∀ σ B F0 H F D, EnOk Γ σ B F0 H F → KN' X c B F0 Γ' D m → wB X ss D σ H
def Bk (X : Cx) (c : Ct X L ρ) (Γ : En X.K) (Γ' : S → En X.K) (ss : List Stmt) (m : M (Fl S L ρ)) : Prop := Takes X c.W → ∀ σ B F0 H F D, EnOk Γ σ B F0 H F → KB X c B F0 Γ' D m → wB X ss D σ H
/-- one statement that goes on; one statement, any -/
def Ns (X : Cx) (c : Ct X L ρ) (Γ : En X.K) (Γ' : S → En X.K) (st : Stmt) (m : M S) : Prop := Takes X c.W → ∀ σ B F0 H F D, EnOk Γ σ B F0 H F → KN' X c B F0 Γ' D m → wS X st D σ H
def Bs (X : Cx) (c : Ct X L ρ) (Γ : En X.K) (Γ' : S → En X.K) (st : Stmt) (m : M (Fl S L ρ)) : Prop := Takes X c.W → ∀ σ B F0 H F D, EnOk Γ σ B F0 H F → KB X c B F0 Γ' D m → wS X st D σ H
def Rs (X : Cx) (c : Ct X L ρ) (Γ : En X.K) (st : Stmt) (m : M ρ) : Prop := Takes X c.W → ∀ σ B F0 H F D, EnOk Γ σ B F0 H F → KR X c B F0 D m → wS X st D σ H
def Fl.toR (f : S → M ρ) : Fl S L ρ → M ρ
  | .nx s => f s
  | .rt y => .ok y
  | .bk _ => .stuck
def Fl.toB (f : S1 → M (Fl S2 L ρ)) : Fl S1 L ρ → M (Fl S2 L ρ)
  | .nx s => f s
  | .rt y => .ok (.rt y)
  | .bk l => .ok (.bk l)
def bindF (m : M (Fl S L ρ)) (f : S → M ρ) : M ρ := m.bind (Fl.toR f)
def bindB (m : M (Fl S1 L ρ)) (f : S1 → M (Fl S2 L ρ)) : M (Fl S2 L ρ) := m.bind (Fl.toB f)
variable {c : Ct X L ρ} {Γ Γ1 : En X.K} {Γ' : S → En X.K} {B F0 : Hp} {D : Ends} {st : Stmt} {ss : List Stmt} {σ : St} {H F : Hp}
/-- the three kinds of what comes behind, at once -/
structure KQ (X : Cx) (c : Ct X L ρ) (B F0 : Hp) (P : M β → Prop) : Prop where
  ofexc : ∀ {e}, P (.exc e) → KE X c B F0 e
  ofstk : P .stuck → False
theorem kqR : KQ X c B F0 (fun m => KR X c B F0 D m) := ⟨fun h => h, fun h => h⟩
theorem kqN : KQ X c B F0 (fun m => KN' X c B F0 Γ' D m) := ⟨fun h => h, fun h => h⟩
theorem kqB : KQ X c B F0 (fun m => KB X c B F0 Γ' D m) := ⟨fun h => h, fun h => h⟩
theorem KQ.o {P : M β → Prop} (kq : KQ X c B F0 P) (le : Le Γ c.Γe) (en : EnOk Γ σ B F0 H F) {ra : R X.K α} {m : M α} {f : α → M β} {Q' : VK} (h : P (m.bind f)) (k : ∀ x v H' F', Ext H F H' F' → ra.rep F' v x → P (f x) → Q' v H') : KO X ra c.W σ H F Q' m := by
  cases m with
  | ok x => exact fun v H' F' e r => k x v H' F' e r h
  | exc er => exact fun cls d H' F' e z => kq.ofexc h cls d σ H' F' (le (en.ext e)) z
  | stuck => exact kq.ofstk h
theorem KQ.n {P : M β → Prop} (kq : KQ X c B F0 P) (le : Le Γ c.Γe) (en : EnOk Γ σ B F0 H F) {ra : R X.K α} {m : M (List α)} {f : List α → M β} {Q' : VK} (h : P (m.bind f))
    (k : ∀ x p vs H' F', Ext H F H' F' → H p = none → F' p = none → H' p = some (.lst vs) → Paired (ra.rep F') vs x → P (f x) → Q' (.ref p) H') : KN X ra c.W σ H F Q' m := by
  cases m with
  | ok x => exact fun p vs H' F' e n f' r q => k x p vs H' F' e n f' r q h
  | exc er => exact fun cls d H' F' e z => kq.ofexc h cls d σ H' F' (le (en.ext e)) z
  | stuck => exact kq.ofstk h
theorem KQ.t {P : M β → Prop} (kq : KQ X c B F0 P) (le : Le Γ c.Γe) (en : EnOk Γ σ B F0 H F) {m : M Bool} {f : Bool → M β} {Q' : Bool → Hp → Prop} (h : P (m.bind f)) (k : ∀ x H' F', Ext H F H' F' → P (f x) → Q' x H') : KT X c.W σ H F Q' m := by
  cases m with
  | ok x => exact fun H' F' e => k x H' F' e h
  | exc er => exact fun cls d H' F' e z => kq.ofexc h cls d σ H' F' (le (en.ext e)) z
  | stuck => exact kq.ofstk h
/-! the rows of a block -/
theorem nb_nil {s : S} (h : SLe Γ (Γ' s)) : Nb X c Γ Γ' [] (.ok s) := fun _ σ B F0 H F D en k => PSs.w pss_nil (k σ H F (h.le en))
theorem bk_nil {s : S} (h : SLe Γ (Γ' s)) : Bk X c Γ Γ' [] (.ok (.nx s)) := fun _ σ B F0 H F D en k => PSs.w pss_nil (k σ H F (h.le en))
theorem bk_of_nb {m : M S} (h : Nb X c Γ Γ' ss m) : Bk X c Γ Γ' ss (m.bind fun s => .ok (.nx s)) := fun tk σ B F0 H F D en k => h tk σ B F0 H F D en (by cases m <;> exact k)
theorem bk_of_rb {m : M ρ} (h : Rb X c Γ ss m) : Bk X c Γ Γ' ss (m.bind fun y => .ok (.rt y)) := fun tk σ B F0 H F D en k => h tk σ B F0 H F D en (by cases m <;> exact k)
theorem bs_of_ns {m : M S} (h : Ns X c Γ Γ' st m) : Bs X c Γ Γ' st (m.bind fun s => .ok (.nx s)) := fun tk σ B F0 H F D en k => h tk σ B F0 H F D en (by cases m <;> exact k)
theorem bs_of_rs {m : M ρ} (h : Rs X c Γ st m) : Bs X c Γ Γ' st (m.bind fun y => .ok (.rt y)) := fun tk σ B F0 H F D en k => h tk σ B F0 H F D en (by cases m <;> exact k)
theorem nb_cons {Γ1 : S1 → En X.K} {m1 : M S1} {m2 : S1 → M S} (h : Ns X c Γ Γ1 st m1) (g : ∀ s, Nb X c (Γ1 s) Γ' ss (m2 s)) : Nb X c Γ Γ' (st :: ss) (m1.bind m2) := fun tk σ B F0 H F D en k =>
  PSs.w (pss_cons ps_w pb_w) <| h tk σ B F0 H F _ en (by
    cases m1 with
    | ok s => exact fun σ' H' F' en' => g s tk σ' B F0 H' F' D en' k
    | exc e => exact k
    | stuck => exact k)
theorem rb_cons {Γ1 : S1 → En X.K} {m1 : M S1} {m2 : S1 → M ρ} (h : Ns X c Γ Γ1 st m1) (g : ∀ s, Rb X c (Γ1 s) ss (m2 s)) : Rb X c Γ (st :: ss) (m1.bind m2) := fun tk σ B F0 H F D en k =>
  PSs.w (pss_cons ps_w pb_w) <| h tk σ B F0 H F _ en (by
    cases m1 with
    | ok s => exact fun σ' H' F' en' => g s tk σ' B F0 H' F' D en' k
    | exc e => exact k
    | stuck => exact k)
theorem bk_cons {Γ1 : S1 → En X.K} {m1 : M S1} {m2 : S1 → M (Fl S L ρ)} (h : Ns X c Γ Γ1 st m1) (g : ∀ s, Bk X c (Γ1 s) Γ' ss (m2 s)) : Bk X c Γ Γ' (st :: ss) (m1.bind m2) := fun tk σ B F0 H F D en k =>
  PSs.w (pss_cons ps_w pb_w) <| h tk σ B F0 H F _ en (by
    cases m1 with
    | ok s => exact fun σ' H' F' en' => g s tk σ' B F0 H' F' D en' k
    | exc e => exact k
    | stuck => exact k)
theorem rb_consF {Γ1 : S1 → En X.K} {m1 : M (Fl S1 L ρ)} {m2 : S1 → M ρ} (h : Bs X c Γ Γ1 st m1) (g : ∀ s, Rb X c (Γ1 s) ss (m2 s)) : Rb X c Γ (st :: ss) (bindF m1 m2) := fun tk σ B F0 H F D en k =>
  PSs.w (pss_cons ps_w pb_w) <| h tk σ B F0 H F _ en (by
    cases m1 with
    | ok f =>
      cases f with
      | nx s => exact fun σ' H' F' en' => g s tk σ' B F0 H' F' D en' k
      | rt y => exact k
      | bk l => exact False.elim k
    | exc e => exact k
    | stuck => exact k)
theorem bk_consF {Γ1 : S1 → En X.K} {m1 : M (Fl S1 L ρ)} {m2 : S1 → M (Fl S L ρ)} (h : Bs X c Γ Γ1 st m1) (g : ∀ s, Bk X c (Γ1 s) Γ' ss (m2 s)) : Bk X c Γ Γ' (st :: ss) (bindB m1 m2) := fun tk σ B F0 H F D en k =>
  PSs.w (pss_cons ps_w pb_w) <| h tk σ B F0 H F _ en (by
    cases m1 with
    | ok f =>
      cases f with
      | nx s => exact fun σ' H' F' en' => g s tk σ' B F0 H' F' D en' k
      | rt y => exact k
      | bk l => exact k
    | exc e => exact k
    | stuck => exact k)
/-- what stands behind a statement that always hands back is not run -/
theorem rb_last {m : M ρ} (h : Rs X c Γ st m) : Rb X c Γ (st :: ss) m := fun tk σ B F0 H F D en k =>
  PSs.w (pss_cons ps_w pb_w) <| h tk σ B F0 H F { D with nx := wB X ss D } en (by
    cases m with
    | ok y => exact k
    | exc e => exact k
    | stuck => exact k)
theorem rb_one {m : M ρ} (h : Rs X c Γ st m) : Rb X c Γ [st] m := rb_last h
/-- a list of one's own is frozen ahead of the rows -/
theorem rb_frz (i : Nat) {r : R X.K α} {xs : List α} {m : M ρ} (hΓ : Γ[i]? = some (.ow r xs)) (h : Rb X c (Γ.set i (.va (rList r) xs)) ss m) : Rb X c Γ ss m := fun tk σ B F0 H F D en k =>
  let ⟨F', en'⟩ := en.frz hΓ
  h tk σ B F0 H F' D en' k
theorem nb_frz (i : Nat) {r : R X.K α} {xs : List α} {m : M S} (hΓ : Γ[i]? = some (.ow r xs)) (h : Nb X c (Γ.set i (.va (rList r) xs)) Γ' ss m) : Nb X c Γ Γ' ss m := fun tk σ B F0 H F D en k =>
  let ⟨F', en'⟩ := en.frz hΓ
  h tk σ B F0 H F' D en' k
theorem bk_frz (i : Nat) {r : R X.K α} {xs : List α} {m : M (Fl S L ρ)} (hΓ : Γ[i]? = some (.ow r xs)) (h : Bk X c (Γ.set i (.va (rList r) xs)) Γ' ss m) : Bk X c Γ Γ' ss m := fun tk σ B F0 H F D en k =>
  let ⟨F', en'⟩ := en.frz hΓ
  h tk σ B F0 H F' D en' k
/-! statements -/
section
variable {e e2 : Expr} {pos pos' p1 p2 : Pos} {i : Nat} {x : Str}
theorem ns_pass : Ns X c Γ (fun _ : Unit => Γ) (.Pass pos) (.ok ()) := fun _ σ B F0 H F D en k => PS.w ps_pass (k σ H F en)
theorem ns_doc {z j} : Ns X c Γ (fun _ : Unit => Γ) (.Expr (.Constant (.str z) j pos) pos') (.ok ()) := fun _ σ B F0 H F D en k => PS.w ps_doc (k σ H F en)
theorem ns_set (i : Nat) {r : R X.K α} {m : M α} (C : Cok X) (h : Ev X c.W Γ r e m) (le : SLe Γ c.Γe) (hi : X.N[i]? = some x := by rfl) (hx : Loc X.env.scope x := by first | exact Or.inl rfl | exact Or.inr rfl)
    (hs : swapsWith e (some (.Name x pos')) pos.line X.env = pure false := by rfl) (hf : X.fn x = true ∨ X.env.scope.names.lookup x = some .local := by first | exact .inl rfl | exact .inr rfl) :
    Ns X c Γ (fun a => Γ.set i (.va r a)) (.Assign [.Name x pos'] e pos) m := fun tk σ B F0 H F D en k0 =>
  have k := (M.bind_id m).symm ▸ k0;
  PS.w (ps_set C.nd hi hx pe_w hs hf) <| h tk σ B F0 H F _ en <| kqN.o (f := fun a => .ok a) le.le en k fun a v H1 F1 e1 r1 k1 => k1 _ H1 F1 ((en.ext e1).put r1)
theorem ns_setN (i : Nat) {r : R X.K α} {m : M (List α)} (C : Cok X) (h : Nw X c.W Γ r e m) (le : SLe Γ c.Γe) (hi : X.N[i]? = some x := by rfl) (hx : Loc X.env.scope x := by first | exact Or.inl rfl | exact Or.inr rfl)
    (hs : swapsWith e (some (.Name x pos')) pos.line X.env = pure false := by rfl) (hf : X.fn x = true ∨ X.env.scope.names.lookup x = some .local := by first | exact .inl rfl | exact .inr rfl) :
    Ns X c Γ (fun a => Γ.set i (.ow r a)) (.Assign [.Name x pos'] e pos) m := fun tk σ B F0 H F D en k0 =>
  have k := (M.bind_id m).symm ▸ k0;
  PS.w (ps_set C.nd hi hx pe_w hs hf) <| h tk σ B F0 H F _ en <| kqN.n (f := fun a => .ok a) le.le en k fun a p vs H1 F1 e1 hn hf' hp r1 k1 => k1 _ H1 F1 (en.putN e1 hn hf' hp r1)
theorem rs_ret {r : R X.K ρ} {m : M ρ} (hrt : c.rt = rtF r) (h : Ev X c.W Γ r e m) (le : SLe Γ c.Γe) : Rs X c Γ (.Return (some e) pos) m := fun tk σ B F0 H F D en k0 =>
  have k := (M.bind_id m).symm ▸ k0;
  PS.w (ps_ret pe_w) <| h tk σ B F0 H F _ en <| kqR.o (f := fun a => .ok a) le.le en k fun a v H1 F1 e1 r1 k1 => k1 v H1 F1 (en.ex.trans e1) (by rw [hrt]; exact r1)
theorem rs_retN {r : R X.K α} {c : Ct X L (List α)} {m : M (List α)} (hrt : c.rt = rtN r) (h : Nw X c.W Γ r e m) (le : SLe Γ c.Γe) : Rs X c Γ (.Return (some e) pos) m := fun tk σ B F0 H F D en k0 =>
  have k := (M.bind_id m).symm ▸ k0;
  PS.w (ps_ret pe_w) <| h tk σ B F0 H F _ en <| kqR.n (f := fun a => .ok a) le.le en k fun a p vs H1 F1 e1 hn hf hp r1 k1 => k1 _ H1 F1 (en.ex.trans e1) (by rw [hrt]; exact ⟨p, vs, rfl, en.ex.hh.free hn, hf, hp, r1⟩)
/-- a list of one's own is handed back -/
theorem rs_retO (i : Nat) {r : R X.K α} {xs : List α} {c : Ct X L (List α)} (hrt : c.rt = rtN r) (hΓ : Γ[i]? = some (.ow r xs) := by rfl) (hN : X.N[i]? = some x := by rfl) (hv : Vis X.env.scope x := by first | exact Or.inl rfl | exact Or.inr (Or.inl rfl) | exact Or.inr (Or.inr rfl))
    (hd : (x == ("__debug__" : Str)) = false := by decide) (hcd : (x == ("__classdict__" : Str)) = false := by decide) : Rs X c Γ (.Return (some (.Name x p1)) pos) (.ok xs) := fun tk σ B F0 H F D en k => by
  obtain ⟨o, ho, p, vs, rfl, hB, hF, hp, hr⟩ := en.sl i _ hΓ
  exact PS.w (ps_ret (pe_var hN hv hd hcd)) ⟨_, ho, k _ H F en.ex (by rw [hrt]; exact ⟨p, vs, rfl, hB, hF, hp, hr⟩)⟩
theorem rs_none {c : Ct X L Unit} (hrt : c.rt = rtF rNone) : Rs X c Γ (.Return none pos) (.ok ()) := fun tk σ B F0 H F D en k => PS.w ps_retN (k .non H F en.ex (by rw [hrt]; exact rfl))
theorem bs_brk {l : L} (h : SLe Γ (c.Λ l)) : Bs X c Γ Γ' (.Break pos) (.ok (.bk l)) := fun tk σ B F0 H F D en k => PS.w ps_break (k σ H F (h.le en))
theorem ns_if {a b : List Stmt} {mc : M Bool} {ma mb : M S} (hc : Tt X c.W Γ e mc) (ha : Nb X c Γ Γ' a ma) (hb : Nb X c Γ Γ' b mb) (le : SLe Γ c.Γe) : Ns X c Γ Γ' (.If e a b pos) (mc.bind fun t => cond t ma mb) := fun tk σ B F0 H F D en k =>
  PS.w (ps_if pt_w pb_w pb_w) <| hc tk σ B F0 H F _ en <| kqN.t le.le en k fun t H1 F1 e1 k1 => by
    cases t with
    | true => rw [if_pos rfl]; exact ha tk σ B F0 H1 F1 D (en.ext e1) k1
    | false => rw [if_neg Bool.false_ne_true]; exact hb tk σ B F0 H1 F1 D (en.ext e1) k1
theorem bs_if {a b : List Stmt} {mc : M Bool} {ma mb : M (Fl S L ρ)} (hc : Tt X c.W Γ e mc) (ha : Bk X c Γ Γ' a ma) (hb : Bk X c Γ Γ' b mb) (le : SLe Γ c.Γe) : Bs X c Γ Γ' (.If e a b pos) (mc.bind fun t => cond t ma mb) := fun tk σ B F0 H F D en k =>
  PS.w (ps_if pt_w pb_w pb_w) <| hc tk σ B F0 H F _ en <| kqB.t le.le en k fun t H1 F1 e1 k1 => by
    cases t with
    | true => rw [if_pos rfl]; exact ha tk σ B F0 H1 F1 D (en.ext e1) k1
    | false => rw [if_neg Bool.false_ne_true]; exact hb tk σ B F0 H1 F1 D (en.ext e1) k1
theorem rs_if {a b : List Stmt} {mc : M Bool} {ma mb : M ρ} (hc : Tt X c.W Γ e mc) (ha : Rb X c Γ a ma) (hb : Rb X c Γ b mb) (le : SLe Γ c.Γe) : Rs X c Γ (.If e a b pos) (mc.bind fun t => cond t ma mb) := fun tk σ B F0 H F D en k =>
  PS.w (ps_if pt_w pb_w pb_w) <| hc tk σ B F0 H F _ en <| kqR.t le.le en k fun t H1 F1 e1 k1 => by
    cases t with
    | true => rw [if_pos rfl]; exact ha tk σ B F0 H1 F1 D (en.ext e1) k1
    | false => rw [if_neg Bool.false_ne_true]; exact hb tk σ B F0 H1 F1 D (en.ext e1) k1
/-- if e: (hands back); the rest -/
theorem rb_ifr {a : List Stmt} {mc : M Bool} {ma m2 : M ρ} (hc : Tt X c.W Γ e mc) (ha : Rb X c Γ a ma) (h2 : Rb X c Γ ss m2) (le : SLe Γ c.Γe) : Rb X c Γ (.If e a [] pos :: ss) (mc.bind fun t => cond t ma m2) := fun tk σ B F0 H F D en k =>
  PSs.w (pss_cons ps_w pb_w) <| PS.w (ps_if pt_w pb_w pb_w) <| hc tk σ B F0 H F _ en <| kqR.t le.le en k fun t H1 F1 e1 k1 => by
    cases t with
    | true =>
      rw [if_pos rfl]
      refine ha tk σ B F0 H1 F1 _ (en.ext e1) ?_
      change KR X c B F0 D ma at k1
      cases ma <;> exact k1
    | false => rw [if_neg Bool.false_ne_true]; exact PSs.w pss_nil (h2 tk σ B F0 H1 F1 D (en.ext e1) k1)
theorem bk_ifr {a : List Stmt} {mc : M Bool} {ma : M ρ} {m2 : M (Fl S L ρ)} (hc : Tt X c.W Γ e mc) (ha : Rb X c Γ a ma) (h2 : Bk X c Γ Γ' ss m2) (le : SLe Γ c.Γe) : Bk X c Γ Γ' (.If e a [] pos :: ss) (mc.bind fun t => cond t (ma.bind fun y => .ok (.rt y)) m2) := fun tk σ B F0 H F D en k =>
  PSs.w (pss_cons ps_w pb_w) <| PS.w (ps_if pt_w pb_w pb_w) <| hc tk σ B F0 H F _ en <| kqB.t le.le en k fun t H1 F1 e1 k1 => by
    cases t with
    | true =>
      rw [if_pos rfl]
      refine ha tk σ B F0 H1 F1 _ (en.ext e1) ?_
      change KB X c B F0 Γ' D (ma.bind fun y => .ok (.rt y)) at k1
      cases ma <;> exact k1
    | false => rw [if_neg Bool.false_ne_true]; exact PSs.w pss_nil (h2 tk σ B F0 H1 F1 D (en.ext e1) k1)
/-- xs.append(e) -/
def appL (xs : List α) (a : α) : M (List α) := M.grd (lenOk (xs.length + 1)) (.ok (xs ++ [a]))
theorem ns_app (i : Nat) {r : R X.K α} {xs : List α} {m : M α} (h : Ev X c.W Γ r e m) (le : SLe Γ c.Γe) (hΓ : Γ[i]? = some (.ow r xs) := by rfl) (hN : X.N[i]? = some x := by rfl) (hv : Vis X.env.scope x := by first | exact Or.inl rfl | exact Or.inr (Or.inl rfl) | exact Or.inr (Or.inr rfl))
    (hd : (x == ("__debug__" : Str)) = false := by decide) (hcd : (x == ("__classdict__" : Str)) = false := by decide)
    (hst : starEach [e] X.env = (false, eval e X.env) :: starEach [] X.env := by exact star_ns rfl) (hpl : (backTo pos' (starEach [] X.env)).any (·.1) = false := by exact back_ns rfl)
    (hb : attributeBase (.Name x p1) "append" X.env (eval (.Name x p1) X.env) = eval (.Name x p1) X.env := by rfl)
    (hfew : ((backTo pos' (starEach [e] X.env)).all (fun x => !x.1) && (backToKw pos' (keywordEach [] X.env)).all (fun x => x.1.isSome)
      && decide ([e].length + ([] : List Keyword).length + (if ([] : List Keyword).isEmpty then 0 else 1) < 30)) = true := by exact few_1 rfl) (hline : (p2.endLine == pos'.line) = true := by rfl) :
    Ns X c Γ (fun ys => Γ.set i (.ow r ys)) (.Expr (.Call (.Attribute (.Name x p1) "append" p2) [e] [] pos') pos) (m.bind fun a => appL xs a) := fun tk σ B F0 H F D en k => by
  obtain ⟨o, ho, p, vs, rfl, hB, hF, hp, hr⟩ := en.sl i _ hΓ
  refine PS.w (ps_expr (pe_bm PySem.F.plainAttrs_list PySem.F.slot_list_append PySem.F.type_list_append mt_append (pe_var hN hv hd hcd) (pa_cons pe_w pa_nil hst) hb hfew hline hst hpl)) ⟨_, ho, .inl ⟨rfl, _, .inl (.inl hp)⟩, ?_⟩
  refine h tk σ B F0 H F _ en <| kqN.o le.le en k fun a v H1 F1 e1 r1 k1 => ?_
  have hc' : lenOk (xs.length + 1) = true := by
    cases q : lenOk (xs.length + 1) with
    | true => rfl
    | false =>
      have z : KN' X c B F0 (fun ys => Γ.set i (.ow r ys)) D (M.grd (lenOk (xs.length + 1)) (.ok (xs ++ [a]))) := k1
      rw [q] at z; exact False.elim z
  have k1 : KN' X c B F0 (fun ys => Γ.set i (.ow r ys)) D (M.grd (lenOk (xs.length + 1)) (.ok (xs ++ [a]))) := k1
  rw [hc'] at k1
  refine ⟨p, vs, v, rfl, rfl, e1.hh _ _ hp, Nat.lt_of_lt_of_le (Nat.lt_succ_self _) (by rw [Paired.length hr]; exact lenOk_le hc'), ?_⟩
  exact k1 σ _ F1 ((en.ext e1).chg (r' := r) hΓ ho (Paired.app (reps_mono e1.ff hr) (.cons r1 .nil)))
/-- xs[j] = e -/
def setL (xs : List α) (j : Int) (a : α) : M (List α) := match ixN xs.length j with
  | some k => .ok (xs.set k a)
  | none => .stuck
theorem ns_st (i : Nat) {r : R X.K α} {xs : List α} {m : M α} {mj : M Int} (h : Ev X c.W Γ r e m) (hj : Ev X c.W Γ rInt e2 mj) (le : SLe Γ c.Γe) (hΓ : Γ[i]? = some (.ow r xs) := by rfl) (hN : X.N[i]? = some x := by rfl) (hv : Vis X.env.scope x := by first | exact Or.inl rfl | exact Or.inr (Or.inl rfl) | exact Or.inr (Or.inr rfl))
    (hd : (x == ("__debug__" : Str)) = false := by decide) (hcd : (x == ("__classdict__" : Str)) = false := by decide)
    (hs : swapsWithSole [.Subscript (.Name x p1) e2 p2] e pos.line X.env = pure false := by rfl) (hw : swappedStores [.Subscript (.Name x p1) e2 p2] e X.env = pure none := by rfl)
    (ha : ∀ v, assign (.Subscript (.Name x p1) e2 p2) X.env v = (do
      let ov ← holding [v] (eval (.Name x p1) X.env)
      let iv ← holding [v, ov] (eval e2 X.env)
      standAt p2
      holding [v, ov, iv] (setItem ov iv v)
      release [v, ov, iv] []) := by intro _; rfl) (h1 : (assignEach [.Subscript (.Name x p1) e2 p2] X.env).map (·.2) = [assign (.Subscript (.Name x p1) e2 p2) X.env] := by rfl) :
    Ns X c Γ (fun ys => Γ.set i (.ow r ys)) (.Assign [.Subscript (.Name x p1) e2 p2] e pos) (m.bind fun a => mj.bind fun j => setL xs j a) := fun tk σ B F0 H F D en k => by
  obtain ⟨o, ho, p, vs, rfl, hB, hF, hp, hr⟩ := en.sl i _ hΓ
  refine PS.w (ps_asg pe_w (pg_sub (pe_var hN hv hd hcd) pe_w set_list ha) hs hw h1) ?_
  refine h tk σ B F0 H F _ en <| kqN.o le.le en k fun a v H1 F1 e1 r1 k1 => ⟨_, ho, ?_⟩
  refine hj tk σ B F0 H1 F1 _ (en.ext e1) <| kqN.o le.le (en.ext e1) k1 fun j w H2 F2 e2' r2 k2 => ?_
  unfold setL at k2
  cases q : ixN xs.length j with
  | none => rw [q] at k2; exact False.elim k2
  | some n =>
    rw [q] at k2
    have e12 := e1.trans e2'
    refine ⟨p, vs, j, n, rfl, r2, e12.hh _ _ hp, by rw [Paired.length hr]; exact q, ?_⟩
    exact k2 σ _ F2 ((en.ext e12).chg (r' := r) hΓ ho (Paired.st (r.mono e2'.ff r1) n (reps_mono e12.ff hr)))
end
end
end PL
end
section
set_option maxRecDepth 100000
namespace PL
open PySem L2
section
variable {α β γ A ρ S L : Type} {X : Cx} {W : WX} {Γ : En X.K}
/-! ### targets -/
structure wG (X : Cx) (tg : Expr) (v : V) (σ : St) (H : Hp) (Q : St → Hp → Prop) : Prop where
  run : ∀ pins s u, Inv X pins σ H s → RelV v u → wpAny (model X.prog X.w) X.A (assign tg X.env u) (fun _ s' => ∃ σ' H', Inv X pins σ' H' s' ∧ Q σ' H') X.xe s
theorem pg_w {tg : Expr} : PG X tg (wG X tg) := ⟨fun pins s σ H v u Q I r h => h.run pins s u I r⟩
theorem PG.w {tg : Expr} {t : TG} (p : PG X tg t) {v σ H Q} (h : t v σ H Q) : wG X tg v σ H Q := ⟨fun pins s u I r => p.run pins s σ H v u Q I r h⟩
/-- a target takes a value: the slots at vs may change -/
def Tg (X : Cx) (vs : List Nat) (Γ : En X.K) (r : R X.K α) (tg : Expr) (Γ' : α → En X.K) : Prop :=
  ∀ x v σ B F0 H F (Q : St → Hp → Prop), EnOk Γ σ B F0 H F → r.rep F v x → (∀ σ', EnOk (Γ' x) σ' B F0 H F → wipe σ' vs = wipe σ vs → Q σ' H) → wG X tg v σ H Q
theorem wipe_set {σ : St} {i : Nat} {o : Option V} : ∀ {vs : List Nat}, i ∈ vs → wipe (σ.set i o) vs = wipe σ vs := by
  intro vs
  have gen : ∀ (us : List Nat) (τ : St), wipe (τ.set i o) us = if i ∈ us then wipe τ us else (wipe τ us).set i o := by
    intro us
    induction us with
    | nil => intro τ; simp [wipe]
    | cons v us ih =>
      intro τ
      unfold wipe
      rw [ih]
      by_cases h1 : i ∈ us
      · simp [h1]
      · by_cases h2 : i = v
        · subst h2
          simp [h1, List.set_set]
        · rw [if_neg h1, if_neg (by simp [h1, h2]), List.set_comm _ _ h2]
  intro h
  rw [gen vs σ, if_pos h]
theorem tg_n (i : Nat) {vs : List Nat} {x : Str} {pos : Pos} {r : R X.K α} (C : Cok X) (hi : X.N[i]? = some x := by rfl) (hv : vs.contains i = true := by rfl) (hx : Loc X.env.scope x := by first | exact Or.inl rfl | exact Or.inr rfl)
    (hf : X.fn x = true ∨ X.env.scope.names.lookup x = some .local := by first | exact .inl rfl | exact .inr rfl) : Tg X vs Γ r (.Name x pos) (fun a => Γ.set i (.va r a)) := fun a v σ B F0 H F Q en h k =>
  PG.w (pg_name C.nd hi hx hf) (k _ (en.put h) (wipe_set (by simpa using hv)))
theorem tg_2 {vs : List Nat} {a b : Expr} {k0 : Nat} {pos : Pos} {r : R X.K α} {s : R X.K β} {Γ1 : α → En X.K} {Γ2 : α → β → En X.K} (C : Cok X) (h1 : Tg X vs Γ r a Γ1) (h2 : ∀ x, Tg X vs (Γ1 x) s b (Γ2 x))
    (hn : (assignEach [a, b] X.env).length = 2 := by rfl) (hst : (assignEach [a, b] X.env).findIdx? (·.1) = none := by rfl) (hs : (assignEach [a, b] X.env).map (·.2) = assign a X.env :: (assignEach [b] X.env).map (·.2) := by rfl)
    (hs2 : (assignEach [b] X.env).map (·.2) = assign b X.env :: (assignEach [] X.env).map (·.2) := by rfl) : Tg X vs Γ (rTup2 r s) (.Tuple [a, b] k0 pos) (fun p => Γ2 p.1 p.2) := fun x v σ B F0 H F Q en h k => by
  obtain ⟨p, v1, v2, rfl, q, r1, r2⟩ := h
  refine PG.w (pg_tup C.calm (pgs_cons pg_w (pgs_cons pg_w pgs_nil hs2) hs) hn hst) ⟨p, _, rfl, Same.tq en.fh q, rfl, v1, [v2], rfl, ?_⟩
  refine h1 x.1 v1 σ B F0 H F _ en r1 fun σ1 en1 w1 => ⟨v2, [], rfl, ?_⟩
  exact h2 x.1 x.2 v2 σ1 B F0 H F _ en1 r2 fun σ2 en2 w2 => ⟨rfl, k σ2 en2 (w2.trans w1)⟩
theorem tg_3 {vs : List Nat} {a b c : Expr} {k0 : Nat} {pos : Pos} {r : R X.K α} {s : R X.K β} {t : R X.K γ} {Γ1 : α → En X.K} {Γ2 : α → β → En X.K} {Γ3 : α → β → γ → En X.K} (C : Cok X) (h1 : Tg X vs Γ r a Γ1) (h2 : ∀ x, Tg X vs (Γ1 x) s b (Γ2 x)) (h3 : ∀ x y, Tg X vs (Γ2 x y) t c (Γ3 x y))
    (hn : (assignEach [a, b, c] X.env).length = 3 := by rfl) (hst : (assignEach [a, b, c] X.env).findIdx? (·.1) = none := by rfl) (hs : (assignEach [a, b, c] X.env).map (·.2) = assign a X.env :: (assignEach [b, c] X.env).map (·.2) := by rfl)
    (hs2 : (assignEach [b, c] X.env).map (·.2) = assign b X.env :: (assignEach [c] X.env).map (·.2) := by rfl) (hs3 : (assignEach [c] X.env).map (·.2) = assign c X.env :: (assignEach [] X.env).map (·.2) := by rfl) : Tg X vs Γ (rTup3 r s t) (.Tuple [a, b, c] k0 pos) (fun p => Γ3 p.1 p.2.1 p.2.2) := fun x v σ B F0 H F Q en h k => by
  obtain ⟨p, v1, v2, v3, rfl, q, r1, r2, r3⟩ := h
  refine PG.w (pg_tup C.calm (pgs_cons pg_w (pgs_cons pg_w (pgs_cons pg_w pgs_nil hs3) hs2) hs) hn hst) ⟨p, _, rfl, Same.tq en.fh q, rfl, v1, [v2, v3], rfl, ?_⟩
  refine h1 x.1 v1 σ B F0 H F _ en r1 fun σ1 en1 w1 => ⟨v2, [v3], rfl, ?_⟩
  refine h2 x.1 x.2.1 v2 σ1 B F0 H F _ en1 r2 fun σ2 en2 w2 => ⟨v3, [], rfl, ?_⟩
  exact h3 x.1 x.2.1 x.2.2 v3 σ2 B F0 H F _ en2 r3 fun σ3 en3 w3 => ⟨rfl, k σ3 en3 (w3.trans (w2.trans w1))⟩
theorem ns_tg {vs : List Nat} {c : Ct X L ρ} {e tg : Expr} {pos : Pos} {r : R X.K α} {m : M α} {Γ' : α → En X.K} (h : Ev X c.W Γ r e m) (g : Tg X vs Γ r tg Γ') (le : SLe Γ c.Γe) (hs : swapsWithSole [tg] e pos.line X.env = pure false := by rfl) (hw : swappedStores [tg] e X.env = pure none := by rfl)
    (h1 : (assignEach [tg] X.env).map (·.2) = [assign tg X.env] := by rfl) (hg : ∀ {x σ B F0 H F H' F'}, EnOk Γ σ B F0 H F → Ext H F H' F' → EnOk (Γ' x) σ B F0 H' F' → True := by intros; trivial) : Ns X c Γ Γ' (.Assign [tg] e pos) m := fun tk σ B F0 H F D en k0 =>
  have k := (M.bind_id m).symm ▸ k0;
  PS.w (ps_asg pe_w pg_w hs hw h1) <| h tk σ B F0 H F _ en <| kqN.o (f := fun a => .ok a) le.le en k fun a v H1 F1 e1 r1 k1 => g a v σ B F0 H1 F1 _ (en.ext e1) r1 fun σ' en' _ => k1 σ' H1 F1 en'
/-! ### what is walked -/
def Itp {K : PySem.W.Frag} (G F1 : Hp) (J : It) (r : R K α) (xs : List α) : Prop :=
  ∀ i H' F', Same F1 F' → Same F' H' → Same G H' → (xs.length ≤ i → J.stop i H') ∧ (∀ x, xs[i]? = some x → J.go i H' ∧ ∀ v H'', J.yld i H' v H'' → ∃ F'', Ext H' F' H'' F'' ∧ r.rep F'' v x)
structure wI (X : Cx) (tg iter : Expr) (σ : St) (H : Hp) (R : It → Hp → Prop) : Prop where
  run : ∀ pins s, Inv X pins σ H s →
    wpAny (model X.prog X.w) X.A (eval iter X.env) (fun v s1 => wpAny (model X.prog X.w) X.A (pyIter v) (PIE X pins σ tg R) X.xe s1) X.xe s
theorem pi_w {tg iter : Expr} : PI X tg iter (wI X tg iter) := ⟨fun pins s σ H R I h => h.run pins s I⟩
theorem PI.w {tg iter : Expr} {t : TI} (p : PI X tg iter t) {σ H R} (h : t σ H R) : wI X tg iter σ H R := ⟨fun pins s I => p.run pins s σ H R I h⟩
/-- G: what stays while it is walked (false: what stood at the entry; true: all that stands here) -/
def KI (X : Cx) (g : Bool) (r : R X.K α) (W : WX) (σ : St) (B H F : Hp) (Q : It → Hp → Prop) : M (List α) → Prop
  | .ok xs => ∀ J H1 F1, Ext H F H1 F1 → Itp (cond g H1 B) F1 J r xs → Q J H1
  | .exc e => ∀ cls d H' F', Ext H F H' F' → ErrOk X.K X.mg cls d F' e → W cls d σ H'
  | .stuck => False
def Iv (X : Cx) (g : Bool) (W : WX) (Γ : En X.K) (r : R X.K α) (tg iter : Expr) (m : M (List α)) : Prop :=
  Takes X W → ∀ σ B F0 H F Q, EnOk Γ σ B F0 H F → KI X g r W σ B H F Q m → wI X tg iter σ H Q
theorem Itp.up {K : PySem.W.Frag} {G G' F1 : Hp} {J : It} {r : R K α} {xs : List α} (h : Itp G F1 J r xs) (s : Same G G') : Itp G' F1 J r xs := fun i H' F' a b c => h i H' F' a b (s.trans c)
theorem KI.ext {g : Bool} {r : R X.K α} {σ : St} {B H F H' F' : Hp} {Q : It → Hp → Prop} {m : M (List α)} (h : KI X g r W σ B H F Q m) (e : Ext H F H' F') : KI X g r W σ B H' F' Q m := by
  cases m with
  | ok x => exact fun J H2 F2 e2 q => h J H2 F2 (e.trans e2) q
  | exc er => exact fun c d H2 F2 e2 q => h c d H2 F2 (e.trans e2) q
  | stuck => exact h
theorem kkI {g : Bool} {r : R X.K β} {σ : St} {B : Hp} {Q : It → Hp → Prop} : KK X W σ (fun H F m => KI X g r W σ B H F Q m) := ⟨fun h e => h.ext e, fun h => h, fun h => h⟩
variable {g : Bool} {tg a b : Expr} {p0 pos : Pos}
theorem KI.now {r : R X.K α} {σ : St} {B H F : Hp} {Q : It → Hp → Prop} {xs : List α} {J : It} (h : KI X g r W σ B H F Q (.ok xs)) (fh : Same F H) (bh : Same B H) (q : Itp B F J r xs) : Q J H := h J H F (Ext.refl fh) (by
  cases g with
  | true => exact q.up bh
  | false => exact q)
theorem itp_list {K : PySem.W.Frag} {r : R K α} {G F1 : Hp} {p : Addr} {vs : List V} {xs : List α} (hp : ∀ F' H', Same F1 F' → Same F' H' → Same G H' → SqL K H' p vs) (hr : Paired (r.rep F1) vs xs) : Itp G F1 (Itl K p) r xs := fun i H' F' a b c => by
  have q := hp F' H' a b c
  refine ⟨fun hi => ⟨vs, q, by rw [Paired.length hr]; exact hi⟩, fun x hx => ?_⟩
  obtain ⟨v, hv, r1⟩ := Paired.get hr hx
  exact ⟨⟨vs, v, q, hv⟩, fun w H'' ⟨e, y⟩ => by
    subst e
    have e1 : v = w := Option.some.inj (hv.symm.trans (y vs q))
    subst e1
    exact ⟨F', Ext.refl b, r.mono a r1⟩⟩
theorem itp_tup {K : PySem.W.Frag} {r : R K α} {G F1 : Hp} {p : Addr} {vs : List V} {xs : List α} (hp : ∀ F' H', Same F1 F' → Same F' H' → Same G H' → SqT K H' p vs) (hr : Paired (r.rep F1) vs xs) : Itp G F1 (Itt K p) r xs := fun i H' F' a b c => by
  have q := hp F' H' a b c
  refine ⟨fun hi => ⟨vs, q, by rw [Paired.length hr]; exact hi⟩, fun x hx => ?_⟩
  obtain ⟨v, hv, r1⟩ := Paired.get hr hx
  exact ⟨⟨vs, v, q, hv⟩, fun w H'' ⟨e, y⟩ => by
    subst e
    have e1 : v = w := Option.some.inj (hv.symm.trans (y vs q))
    subst e1
    exact ⟨F', Ext.refl b, r.mono a r1⟩⟩
theorem iv_l {r : R X.K α} {m : M (List α)} (h : Ev X W Γ (rList r) a m) : Iv X g W Γ r tg a m := fun tk σ B F0 H F Q en k =>
  PI.w (pi_list pe_w) <| h tk σ B F0 H F _ en <| by
    cases m with
    | ok xs =>
      exact fun v H1 F1 e1 ⟨p, vs, e, hp, hr⟩ => by
        subst e
        exact ⟨p, rfl, ⟨vs, .of (e1.fh _ _ hp)⟩, KI.now (KI.ext k e1) e1.fh (en.ex.hh.trans e1.hh) (itp_list (fun F' H' x y _ => .of (y _ _ (x _ _ hp))) hr)⟩
    | exc e => exact k
    | stuck => exact k
/-- a list that may be one's own, walked while nothing is written -/
theorem ic_l {r : R X.K α} {m : M (List α)} (h : El X W Γ r a m) : Iv X true W Γ r tg a m := fun tk σ B F0 H F Q en k =>
  PI.w (pi_list pe_w) <| h tk σ B F0 H F _ en <| by
    cases m with
    | ok xs => exact fun p vs H1 F1 e1 hp hr => ⟨p, rfl, ⟨vs, .of hp⟩, k _ H1 F1 e1 (itp_list (fun F' H' _ _ z => .of (z _ _ hp)) hr)⟩
    | exc e => exact k
    | stuck => exact k
/-- a list that was handed in -/
theorem iv_bo (i : Nat) {x : Str} {r : R X.K α} {xs : List α} (hΓ : Γ[i]? = some (.bo r xs) := by rfl) (hN : X.N[i]? = some x := by rfl) (hv : Vis X.env.scope x := by first | exact Or.inl rfl | exact Or.inr (Or.inl rfl) | exact Or.inr (Or.inr rfl))
    (hd : (x == ("__debug__" : Str)) = false := by decide) (hcd : (x == ("__classdict__" : Str)) = false := by decide) : Iv X g W Γ r tg (.Name x pos) (.ok xs) := fun tk σ B F0 H F Q en k => by
  obtain ⟨o, ho, p, vs, rfl, hq, hr⟩ := en.sl i _ hΓ
  exact PI.w (pi_list (pe_var hN hv hd hcd)) ⟨_, ho, p, rfl, ⟨vs, .of (en.ex.hh _ _ hq)⟩, KI.now k en.fh en.ex.hh (itp_list (fun F' H' _ _ z => .of (z _ _ hq)) hr)⟩
theorem iv_t {r : R X.K α} {m : M (List α)} (h : Ev X W Γ (rVTup r) a m) : Iv X g W Γ r tg a m := fun tk σ B F0 H F Q en k =>
  PI.w (pi_tup pe_w) <| h tk σ B F0 H F _ en <| by
    cases m with
    | ok xs =>
      exact fun v H1 F1 e1 ⟨p, vs, e, hp, hr⟩ => by
        subst e
        exact ⟨p, rfl, ⟨vs, Same.tq e1.fh hp⟩, KI.now (KI.ext k e1) e1.fh (en.ex.hh.trans e1.hh) (itp_tup (fun F' H' x y _ => Same.tq y (Same.tq x hp)) hr)⟩
    | exc e => exact k
    | stuck => exact k
/-- the ints from lo, below hi -/
def rng (lo hi : Int) : List Int := (List.range (hi - lo).toNat).map fun i => lo + (i : Nat)
def rgOk (i : Int) : Bool := decide (-4611686018427387904 ≤ i) && decide (i < 4611686018427387904)
theorem p62 : (2 : Int) ^ 62 = 4611686018427387904 := by decide
theorem rgOk_of {i : Int} (h : rgOk i = true) : -(2 ^ 62) ≤ i ∧ i < 2 ^ 62 := by
  rw [p62]
  simpa [rgOk] using h
theorem itp_rng {K : PySem.W.Frag} {G F1 : Hp} {lo hi : Int} : Itp (K := K) G F1 (Itr lo (hi - lo).toNat) rInt (rng lo hi) := fun i H' F' a b c => by
  have hl : (rng lo hi).length = (hi - lo).toNat := by unfold rng; rw [List.length_map, List.length_range]
  refine ⟨fun h => by rw [hl] at h; exact h, fun x hx => ?_⟩
  have hi' : i < (hi - lo).toNat := by rw [← hl]; exact (List.getElem?_eq_some_iff.mp hx).1
  have e : x = lo + (i : Nat) := by
    unfold rng at hx
    rw [List.getElem?_map, List.getElem?_range hi'] at hx
    exact (Option.some.inj hx).symm
  exact ⟨hi', fun v H'' ⟨e1, e2⟩ => ⟨F', by rw [e1]; exact Ext.refl b, by rw [e2, e]; rfl⟩⟩
theorem KI.grd {r : R X.K α} {σ : St} {B H F : Hp} {Q : It → Hp → Prop} {c : Bool} {m : M (List α)} (k : KI X g r W σ B H F Q (M.grd c m)) : c = true ∧ KI X g r W σ B H F Q m := by
  cases c with
  | true => exact ⟨rfl, k⟩
  | false => exact False.elim k
theorem iv_r1 {m : M Int} (hm : X.mg "range" = none) (h : Ev X W Γ rInt a m) (hg : Gl X "range" := by rfl) (hs : starEach [a] X.env = [(false, eval a X.env)] := by exact star_1 rfl) : Iv X g W Γ rInt tg (.Call (.Name "range" p0) [a] [] pos) (m.bind fun n => M.grd (rgOk n) (.ok (rng 0 n))) := fun tk σ B F0 H F Q en k =>
  PI.w (pi_range1 hg hm (pa_cons pe_w pa_nil hs) hs) <| h tk σ B F0 H F _ en <| KO.bnd kkI k fun n v H1 F1 e1 r1 k1 => by
    obtain ⟨c, k1⟩ := KI.grd k1
    obtain ⟨c1, c2⟩ := rgOk_of c
    have z : Itp (K := X.K) B F1 (Itr 0 n.toNat) rInt (rng 0 n) := by
      have q := itp_rng (K := X.K) (G := B) (F1 := F1) (lo := 0) (hi := n)
      rw [Int.sub_zero] at q
      exact q
    exact ⟨n, by rw [show v = .int n from r1], c1, c2, KI.now k1 e1.fh (en.ex.hh.trans e1.hh) z⟩
theorem iv_r2 {m n : M Int} (hm : X.mg "range" = none) (h : Ev X W Γ rInt a m) (h2 : Ev X W Γ rInt b n) (hg : Gl X "range" := by rfl) (hs : starEach [a, b] X.env = [(false, eval a X.env), (false, eval b X.env)] := by exact star_2 rfl rfl) (hs2 : starEach [b] X.env = [(false, eval b X.env)] := by exact star_1 rfl) :
    Iv X g W Γ rInt tg (.Call (.Name "range" p0) [a, b] [] pos) (m.bind fun i => n.bind fun j => M.grd (rgOk i && rgOk j) (.ok (rng i j))) := fun tk σ B F0 H F Q en k =>
  PI.w (pi_range2 hg hm (pa_cons pe_w (pa_cons pe_w pa_nil hs2) (hs.trans (by rw [hs2]))) hs hs2) <| h tk σ B F0 H F _ en <| KO.bnd kkI k fun i v H1 F1 e1 r1 k1 =>
    h2 tk σ B F0 H1 F1 _ (en.ext e1) <| KO.bnd kkI k1 fun j w H2 F2 e2 r2 k2 => by
      obtain ⟨c, k2⟩ := KI.grd k2
      obtain ⟨c1, c2⟩ := Bool.and_eq_true_iff.mp c
      obtain ⟨c1, c3⟩ := rgOk_of c1
      obtain ⟨c2, c4⟩ := rgOk_of c2
      exact ⟨i, j, by rw [show v = .int i from r1, show w = .int j from r2], ⟨c1, c3, c2, c4⟩, KI.now k2 e2.fh (en.ex.hh.trans (e1.hh.trans e2.hh)) itp_rng⟩
/-- enumerate(list) -/
def enumL (xs : List α) : List (Int × α) := (List.range xs.length).zip xs |>.map fun p => ((p.1 : Int), p.2)
theorem enumL_get {xs : List α} {i : Nat} {y : Int × α} (h : (enumL xs)[i]? = some y) : y.1 = (i : Int) ∧ xs[i]? = some y.2 := by
  unfold enumL at h
  rw [List.getElem?_map] at h
  cases q : ((List.range xs.length).zip xs)[i]? with
  | none => rw [q] at h; cases h
  | some p =>
    rw [q] at h
    have e : y = ((p.1 : Int), p.2) := (Option.some.inj h).symm
    rw [List.getElem?_zip_eq_some] at q
    obtain ⟨q1, q2⟩ := q
    have hi : i < xs.length := (List.getElem?_eq_some_iff.mp q2).1
    rw [List.getElem?_range hi] at q1
    have e1 : i = p.1 := Option.some.inj q1
    rw [e]
    exact ⟨by show (p.1 : Int) = i; rw [e1], q2⟩
theorem enumL_len {xs : List α} : (enumL xs).length = xs.length := by unfold enumL; simp
theorem itp_enum {K : PySem.W.Frag} {r : R K α} {G F1 : Hp} {p : Addr} {vs : List V} {xs : List α} (hp : ∀ F' H', Same F1 F' → Same F' H' → Same G H' → SqL K H' p vs) (hr : Paired (r.rep F1) vs xs) : Itp G F1 (Ite K p) (rTup2 rInt r) (enumL xs) := fun i H' F' a b c => by
  have q := hp F' H' a b c
  refine ⟨fun hi => ⟨vs, q, by rw [Paired.length hr, ← enumL_len]; exact hi⟩, fun x hx => ?_⟩
  obtain ⟨e1, hx2⟩ := enumL_get hx
  obtain ⟨v, hv, r1⟩ := Paired.get hr hx2
  refine ⟨⟨vs, v, q, hv⟩, fun w H'' ⟨T, z, e, nT, e2, y⟩ => ?_⟩
  have e3 : v = z := Option.some.inj (hv.symm.trans (y vs q))
  subst e3 e e2
  have ex := Ext.new b nT (o := .tup [.int (i : Nat), v])
  exact ⟨_, ex, T, .int (i : Nat), v, rfl, sq_new, by rw [e1]; rfl, r.mono ex.ff (r.mono a r1)⟩
theorem iv_en {r : R X.K α} {m : M (List α)} {es : List Expr} {k0 : Nat} {tpos : Pos} (hm : X.mg "enumerate" = none) (h : Ev X W Γ (rList r) a m) (hg : Gl X "enumerate" := by rfl) (hs : starEach [a] X.env = [(false, eval a X.env)] := by exact star_1 rfl) :
    Iv X g W Γ (rTup2 rInt r) (.Tuple es k0 tpos) (.Call (.Name "enumerate" p0) [a] [] pos) (m.bind fun xs => .ok (enumL xs)) := fun tk σ B F0 H F Q en k =>
  PI.w (pi_enum hg hm (pa_cons pe_w pa_nil hs) hs) <| h tk σ B F0 H F _ en <| KO.bnd kkI k fun xs v H1 F1 e1 r1 k1 => by
    obtain ⟨p, vs, rfl, hp, hr⟩ := r1
    exact ⟨p, vs, rfl, .of (e1.fh _ _ hp), KI.now k1 e1.fh (en.ex.hh.trans e1.hh) (itp_enum (fun F' H' x y _ => .of (y _ _ (x _ _ hp))) hr)⟩
theorem iv_enB (i : Nat) {x : Str} {r : R X.K α} {xs : List α} {es : List Expr} {k0 : Nat} {tpos p1 : Pos} (hm : X.mg "enumerate" = none) (hΓ : Γ[i]? = some (.bo r xs) := by rfl) (hN : X.N[i]? = some x := by rfl) (hv : Vis X.env.scope x := by first | exact Or.inl rfl | exact Or.inr (Or.inl rfl) | exact Or.inr (Or.inr rfl))
    (hg : Gl X "enumerate" := by rfl) (hd : (x == ("__debug__" : Str)) = false := by decide) (hcd : (x == ("__classdict__" : Str)) = false := by decide) (hs : starEach [.Name x p1] X.env = [(false, eval (.Name x p1) X.env)] := by rfl) :
    Iv X g W Γ (rTup2 rInt r) (.Tuple es k0 tpos) (.Call (.Name "enumerate" p0) [.Name x p1] [] pos) (.ok (enumL xs)) := fun tk σ B F0 H F Q en k => by
  obtain ⟨o, ho, p, vs, rfl, hq, hr⟩ := en.sl i _ hΓ
  exact PI.w (pi_enum hg hm (pa_cons (pe_var hN hv hd hcd) pa_nil hs) hs) ⟨_, ho, p, vs, rfl, .of (en.ex.hh _ _ hq), KI.now k en.fh en.ex.hh (itp_enum (fun F' H' _ _ z => .of (z _ _ hq)) hr)⟩
/-- reversed(list) -/
theorem itp_rev {K : PySem.W.Frag} {r : R K α} {G F1 : Hp} {p : Addr} {vs : List V} {xs : List α} (hp : ∀ F' H', Same F1 F' → Same F' H' → Same G H' → SqL K H' p vs) (hr : Paired (r.rep F1) vs xs) : Itp G F1 (Itv K p vs.length) r xs.reverse := fun i H' F' a b c => by
  have q := hp F' H' a b c
  have hl := Paired.length hr
  refine ⟨fun hi => by rw [List.length_reverse] at hi; show vs.length ≤ i; omega, fun x hx => ?_⟩
  have hi : i < xs.length := by have := (List.getElem?_eq_some_iff.mp hx).1; rwa [List.length_reverse] at this
  rw [List.getElem?_reverse hi] at hx
  obtain ⟨v, hv, r1⟩ := Paired.get hr hx
  rw [← hl] at hv
  exact ⟨⟨by omega, vs, v, q, hv⟩, fun w H'' ⟨e, y⟩ => by
    subst e
    have e1 : v = w := Option.some.inj (hv.symm.trans (y vs q))
    subst e1
    exact ⟨F', Ext.refl b, r.mono a r1⟩⟩
theorem iv_rev {r : R X.K α} {m : M (List α)} (hm : X.mg "reversed" = none) (h : Ev X W Γ (rList r) a m) (hg : Gl X "reversed" := by rfl) (hs : starEach [a] X.env = [(false, eval a X.env)] := by exact star_1 rfl) : Iv X g W Γ r tg (.Call (.Name "reversed" p0) [a] [] pos) (m.bind fun xs => .ok xs.reverse) := fun tk σ B F0 H F Q en k =>
  PI.w (pi_reversed hg hm (pa_cons pe_w pa_nil hs) hs) <| h tk σ B F0 H F _ en <| KO.bnd kkI k fun xs v H1 F1 e1 r1 k1 => by
    obtain ⟨p, vs, rfl, hp, hr⟩ := r1
    exact ⟨p, vs, rfl, .of (e1.fh _ _ hp), KI.now k1 e1.fh (en.ex.hh.trans e1.hh) (itp_rev (fun F' H' x y _ => .of (y _ _ (x _ _ hp))) hr)⟩
end
/-! ### loops -/
namespace M
variable {α β S L ρ : Type}
def fold (f : S → α → M S) : List α → S → M S
  | [], s => .ok s
  | x :: xs, s => (f s x).bind fun s' => fold f xs s'
def thn (k : S → M (Fl S L ρ)) : Fl S S ρ → M (Fl S L ρ)
  | .nx s => k s
  | .bk s => .ok (.nx s)
  | .rt y => .ok (.rt y)
def loop (f : S → α → M (Fl S S ρ)) : List α → S → M (Fl S L ρ)
  | [], s => .ok (.nx s)
  | x :: xs, s => (f s x).bind (thn fun s' => loop f xs s')
def whl (c : S → M Bool) (f : S → M S) : Nat → S → M S
  | 0, _ => .stuck
  | n + 1, s => (c s).bind fun t => cond t ((f s).bind fun s' => whl c f n s') (.ok s)
def whlF (c : S → M Bool) (f : S → M (Fl S S ρ)) : Nat → S → M (Fl S L ρ)
  | 0, _ => .stuck
  | n + 1, s => (c s).bind fun t => cond t ((f s).bind (thn fun s' => whlF c f n s')) (.ok (.nx s))
/-- [f x for x in xs] -/
def map (f : α → M β) : List α → M (List β)
  | [] => .ok []
  | x :: xs => match f x with
    | .ok y => match map f xs with
      | .ok ys => .ok (y :: ys)
      | _ => .stuck
    | _ => .stuck
/-- [f x for x in xs if p x] -/
def lc (p : α → M Bool) (f : α → M β) : List α → M (List β)
  | [] => .ok []
  | x :: xs => match p x with
    | .ok true => match f x with
      | .ok y => match lc p f xs with
        | .ok ys => .ok (y :: ys)
        | _ => .stuck
      | _ => .stuck
    | .ok false => lc p f xs
    | _ => .stuck
end M
section
variable {α β γ A ρ S L : Type} {X : Cx} {Γ : En X.K} {tg iter : Expr} {body : List Stmt} {pos : Pos} {c : Ct X L ρ} {r : R X.K α} {mx : M (List α)}
theorem drop_get {xs : List α} {i : Nat} {x : α} {t : List α} (h : xs.drop i = x :: t) : xs[i]? = some x ∧ xs.drop (i + 1) = t ∧ i < xs.length := by
  have hl : i < xs.length := by
    by_cases hi : i < xs.length
    · exact hi
    · rw [List.drop_eq_nil_of_le (by omega)] at h; cases h
  rw [List.drop_eq_getElem_cons hl] at h
  injection h with h1 h2
  exact ⟨by rw [List.getElem?_eq_getElem hl, h1], h2, hl⟩
theorem drop_nil_ge {xs : List α} {i : Nat} (h : xs.drop i = []) : xs.length ≤ i := List.drop_eq_nil_iff.mp h
/-- for, its body goes on -/
theorem ns_for {vs : List Nat} {Γh : S → En X.K} {Γt : S → α → En X.K} {s0 : S} {f : S → α → M S} (C : Cok X) (hi : Iv X false c.W Γ r tg iter mx) (ht : ∀ s, Tg X vs (Γh s) r tg (Γt s)) (hb : ∀ s x, Nb X c (Γt s x) Γh body (f s x)) (h0 : SLe Γ (Γh s0)) (le : SLe Γ c.Γe)
    (hs : ∀ x, foldedSetIterable iter X.env x = pure x := by intro _; rfl) : Ns X c Γ Γh (.For tg iter body [] pos) (mx.bind fun xs => M.fold f xs s0) := fun tk σ B F0 H F D en k =>
  PS.w (ps_for C.po C.calm pi_w pg_w pb_w hs) <| hi tk σ B F0 H F _ en <| by
    cases mx with
    | exc e => exact fun cls d H' F' e' z => k cls d σ H' F' (le.le (en.ext e')) z
    | stuck => exact k
    | ok xs =>
      intro J H1 F1 e1 it
      refine ⟨fun i m σ H => ∃ s F, EnOk (Γh s) σ B F0 H F ∧ Same F1 F ∧ KN' X c B F0 Γh D (M.fold f (xs.drop i) s) ∧ m = xs.length - i, ⟨xs.length, s0, F1, h0.le (en.ext e1), Same.refl _, k, by simp⟩, fun i m σ' H' ⟨s, F', en', sf, k', em⟩ => ?_⟩
      obtain ⟨st, go⟩ := it i H' F' sf en'.fh en'.ex.hh
      cases hd : xs.drop i with
      | nil =>
        rw [hd] at k'
        exact .inl ⟨st (drop_nil_ge hd), k' σ' H' F' en'⟩
      | cons x t =>
        obtain ⟨hx, ht', hl⟩ := drop_get hd
        obtain ⟨g1, g2⟩ := go x hx
        rw [hd] at k'
        change KN' X c B F0 Γh D ((f s x).bind fun s' => M.fold f t s') at k'
        refine .inr ⟨g1, fun σ'' H'' => ∃ s F, EnOk (Γh s) σ'' B F0 H'' F ∧ Same F1 F ∧ KN' X c B F0 Γh D (M.fold f t s), fun σ'' H'' ⟨s2, F2, en2, sf2, k2⟩ => ⟨xs.length - (i + 1), by omega, s2, F2, en2, sf2, by rw [ht']; exact k2, rfl⟩, fun v H'' y => ?_⟩
        obtain ⟨F2, ex2, r2⟩ := g2 v H'' y
        refine ht s x v σ' B F0 H'' F2 _ (en'.ext ex2) r2 fun σ2 en2 _ => hb s x tk σ2 B F2 H'' F2 _ ⟨?_, en2.sl, en2.ap⟩ ?_
        · exact ⟨en2.ex.hh, Same.refl _, en2.ex.fh, fun a ha e => e⟩
        · have up : ∀ {Γ2 : En X.K} {σ3 H3 F3}, EnOk Γ2 σ3 B F2 H3 F3 → EnOk Γ2 σ3 B F0 H3 F3 := fun q =>
            ⟨⟨q.ex.hh, en2.ex.ff.trans q.ex.ff, q.ex.fh, fun a ha e => q.ex.nw a ha (en2.ex.nw a ha e)⟩, q.sl, q.ap⟩
          cases hf : f s x with
          | ok s' => rw [hf] at k'; exact fun σ3 H3 F3 en3 => ⟨s', F3, up en3, sf.trans (ex2.ff.trans en3.ex.ff), k'⟩
          | exc e => rw [hf] at k'; exact fun cls d σ3 H3 F3 en3 z => k' cls d σ3 H3 F3 (up en3) z
          | stuck => rw [hf] at k'; exact k'
end
end PL
end
section
set_option maxRecDepth 100000
namespace PL
open PySem L2
section
variable {α β γ A ρ S L : Type} {X : Cx} {Γ : En X.K} {tg iter : Expr} {body : List Stmt} {pos : Pos} {c : Ct X L ρ} {r : R X.K α} {mx : M (List α)}
abbrev Ct.inl (c : Ct X L ρ) (Λ : S → En X.K) : Ct X S ρ := ⟨c.W, c.Γe, Λ, c.rt⟩
theorem EnOk.rebase {Γ2 : En X.K} {σ : St} {B F0 F2 H F : Hp} (e : Same F0 F2) (nw : ∀ a, B a ≠ none → F0 a = none → F2 a = none) (q : EnOk Γ2 σ B F2 H F) : EnOk Γ2 σ B F0 H F :=
  ⟨⟨q.ex.hh, e.trans q.ex.ff, q.ex.fh, fun a ha z => q.ex.nw a ha (nw a ha z)⟩, q.sl, q.ap⟩
theorem EnOk.here {Γ2 : En X.K} {σ : St} {B F0 H F : Hp} (q : EnOk Γ2 σ B F0 H F) : EnOk Γ2 σ B F H F := ⟨⟨q.ex.hh, Same.refl _, q.ex.fh, fun _ _ e => e⟩, q.sl, q.ap⟩
/-- for, any body -/
theorem bs_for {vs : List Nat} {Γh : S → En X.K} {Γt : S → α → En X.K} {s0 : S} {f : S → α → M (Fl S S ρ)} (C : Cok X) (hi : Iv X false c.W Γ r tg iter mx) (ht : ∀ s, Tg X vs (Γh s) r tg (Γt s)) (hb : ∀ s x, Bk X (c.inl Γh) (Γt s x) Γh body (f s x)) (h0 : SLe Γ (Γh s0)) (le : SLe Γ c.Γe)
    (hs : ∀ x, foldedSetIterable iter X.env x = pure x := by intro _; rfl) (hrt : ∃ r' : R X.K ρ, c.rt = rtF r') : Bs X c Γ Γh (.For tg iter body [] pos) (mx.bind fun xs => M.loop f xs s0) := fun tk σ B F0 H F D en k =>
  PS.w (ps_for C.po C.calm pi_w pg_w pb_w hs) <| hi tk σ B F0 H F _ en <| by
    obtain ⟨r', hrt⟩ := hrt
    cases mx with
    | exc e => exact fun cls d H' F' e' z => k cls d σ H' F' (le.le (en.ext e')) z
    | stuck => exact k
    | ok xs =>
      intro J H1 F1 e1 it
      refine ⟨fun i m σ H => ∃ s F, EnOk (Γh s) σ B F0 H F ∧ Same F1 F ∧ KB X c B F0 Γh D (M.loop f (xs.drop i) s) ∧ m = xs.length - i, ⟨xs.length, s0, F1, h0.le (en.ext e1), Same.refl _, k, by simp⟩, fun i m σ' H' ⟨s, F', en', sf, k', em⟩ => ?_⟩
      obtain ⟨st, go⟩ := it i H' F' sf en'.fh en'.ex.hh
      cases hd : xs.drop i with
      | nil =>
        rw [hd] at k'
        exact .inl ⟨st (drop_nil_ge hd), k' σ' H' F' en'⟩
      | cons x t =>
        obtain ⟨hx, ht', hl⟩ := drop_get hd
        obtain ⟨g1, g2⟩ := go x hx
        rw [hd] at k'
        refine .inr ⟨g1, fun σ'' H'' => ∃ s F, EnOk (Γh s) σ'' B F0 H'' F ∧ Same F1 F ∧ KB X c B F0 Γh D (M.loop f t s), fun σ'' H'' ⟨s2, F2, en2, sf2, k2⟩ => ⟨xs.length - (i + 1), by omega, s2, F2, en2, sf2, by rw [ht']; exact k2, rfl⟩, fun v H'' y => ?_⟩
        obtain ⟨F2, ex2, r2⟩ := g2 v H'' y
        refine ht s x v σ' B F0 H'' F2 _ (en'.ext ex2) r2 fun σ2 en2 _ => hb s x tk σ2 B F2 H'' F2 _ en2.here ?_
        have up : ∀ {Γ2 : En X.K} {σ3 H3 F3}, EnOk Γ2 σ3 B F2 H3 F3 → EnOk Γ2 σ3 B F0 H3 F3 := fun q => EnOk.rebase en2.ex.ff en2.ex.nw q
        change KB X c B F0 Γh D ((f s x).bind (M.thn fun s' => M.loop f t s')) at k'
        cases hf : f s x with
        | ok fl =>
          rw [hf] at k'
          cases fl with
          | nx s' => exact fun σ3 H3 F3 en3 => ⟨s', F3, up en3, sf.trans (ex2.ff.trans en3.ex.ff), k'⟩
          | bk s' => exact fun σ3 H3 F3 en3 => k' σ3 H3 F3 (up en3)
          | rt y => exact fun w H3 F3 ex3 hr => k' w H3 F3 ⟨ex3.hh, en2.ex.ff.trans ex3.ff, ex3.fh, fun a ha e => ex3.nw a ha (en2.ex.nw a ha e)⟩ (by
              have hr' : c.rt.rep B H3 F3 w y := hr
              exact hr')
        | exc e => rw [hf] at k'; exact fun cls d σ3 H3 F3 en3 z => k' cls d σ3 H3 F3 (up en3) z
        | stuck => rw [hf] at k'; exact k'
/-- while -/
theorem ns_whl {test : Expr} {Γh : S → En X.K} {s0 : S} {mc : S → M Bool} {f : S → M S} (n : Nat) (C : Cok X) (ht : ∀ s, Tt X c.W (Γh s) test (mc s)) (hb : ∀ s, Nb X c (Γh s) Γh body (f s)) (h0 : SLe Γ (Γh s0)) (le : ∀ s, SLe (Γh s) c.Γe) :
    Ns X c Γ Γh (.While test body [] pos) (M.whl mc f n s0) := fun tk σ B F0 H F D en k =>
  PS.w (ps_while C.po pt_w pb_w) <| by
    refine ⟨fun m σ H => ∃ s F, EnOk (Γh s) σ B F0 H F ∧ KN' X c B F0 Γh D (M.whl mc f m s), ⟨n, s0, F, h0.le en, k⟩, fun m σ' H' ⟨s, F', en', k'⟩ => ?_⟩
    cases m with
    | zero => exact False.elim k'
    | succ m =>
      refine ht s tk σ' B F0 H' F' _ en' <| kqN.t (le s).le en' k' fun t H1 F1 e1 k1 => ?_
      cases t with
      | false => rw [if_neg Bool.false_ne_true]; exact k1 σ' H1 F1 (en'.ext e1)
      | true =>
        rw [if_pos rfl]
        refine ⟨fun σ'' H'' => ∃ s F, EnOk (Γh s) σ'' B F0 H'' F ∧ KN' X c B F0 Γh D (M.whl mc f m s), fun σ'' H'' q => ⟨m, Nat.lt_succ_self _, q⟩, ?_⟩
        refine hb s tk σ' B F0 H1 F1 _ (en'.ext e1) ?_
        change KN' X c B F0 Γh D ((f s).bind fun s' => M.whl mc f m s') at k1
        cases hf : f s with
        | ok s' => rw [hf] at k1; exact fun σ3 H3 F3 en3 => ⟨s', F3, en3, k1⟩
        | exc e => rw [hf] at k1; exact k1
        | stuck => rw [hf] at k1; exact k1
theorem bs_whl {test : Expr} {Γh : S → En X.K} {s0 : S} {mc : S → M Bool} {f : S → M (Fl S S ρ)} (n : Nat) (C : Cok X) (ht : ∀ s, Tt X c.W (Γh s) test (mc s)) (hb : ∀ s, Bk X (c.inl Γh) (Γh s) Γh body (f s)) (h0 : SLe Γ (Γh s0)) (le : ∀ s, SLe (Γh s) c.Γe) :
    Bs X c Γ Γh (.While test body [] pos) (M.whlF mc f n s0) := fun tk σ B F0 H F D en k =>
  PS.w (ps_while C.po pt_w pb_w) <| by
    refine ⟨fun m σ H => ∃ s F, EnOk (Γh s) σ B F0 H F ∧ KB X c B F0 Γh D (M.whlF mc f m s), ⟨n, s0, F, h0.le en, k⟩, fun m σ' H' ⟨s, F', en', k'⟩ => ?_⟩
    cases m with
    | zero => exact False.elim k'
    | succ m =>
      refine ht s tk σ' B F0 H' F' _ en' <| kqB.t (le s).le en' k' fun t H1 F1 e1 k1 => ?_
      cases t with
      | false => rw [if_neg Bool.false_ne_true]; exact k1 σ' H1 F1 (en'.ext e1)
      | true =>
        rw [if_pos rfl]
        refine ⟨fun σ'' H'' => ∃ s F, EnOk (Γh s) σ'' B F0 H'' F ∧ KB X c B F0 Γh D (M.whlF mc f m s), fun σ'' H'' q => ⟨m, Nat.lt_succ_self _, q⟩, ?_⟩
        refine hb s tk σ' B F0 H1 F1 _ (en'.ext e1) ?_
        change KB X c B F0 Γh D ((f s).bind (M.thn fun s' => M.whlF mc f m s')) at k1
        cases hf : f s with
        | ok fl =>
          rw [hf] at k1
          cases fl with
          | nx s' => exact fun σ3 H3 F3 en3 => ⟨s', F3, en3, k1⟩
          | bk s' => exact k1
          | rt y => exact k1
        | exc e => rw [hf] at k1; exact k1
        | stuck => rw [hf] at k1; exact k1
/-! ### comprehensions -/
/-- seen from a block: one's own lists are only read, the block's names are forgotten -/
def Sl.bor {K : PySem.W.Frag} : Sl K → Sl K
  | .ow r xs => .bo r xs
  | .ob _ _ _ _ => .no
  | s => s
def bor {K : PySem.W.Frag} (Γ : En K) (vs : List Nat) : En K := vs.foldr (fun v G => G.set v .no) (Γ.map Sl.bor)
theorem bor_at {K : PySem.W.Frag} {Γ : En K} {i : Nat} {s : Sl K} : ∀ {vs : List Nat}, (bor Γ vs)[i]? = some s → (s = .no ∧ ∃ t, Γ[i]? = some t) ∨ (i ∉ vs ∧ ∃ t, Γ[i]? = some t ∧ s = t.bor)
  | [], h => by
    unfold bor at h
    rw [List.foldr_nil, List.getElem?_map] at h
    cases q : Γ[i]? with
    | none => rw [q] at h; cases h
    | some t => rw [q] at h; exact .inr ⟨by simp, t, rfl, (Option.some.inj h).symm⟩
  | v :: vs, h => by
    have h : ((bor Γ vs).set v .no)[i]? = some s := h
    rcases get_set h with ⟨rfl, rfl, u, hu⟩ | ⟨hi, h⟩
    · rcases bor_at hu with ⟨_, t, ht⟩ | ⟨_, t, ht, _⟩
      · exact .inl ⟨rfl, t, ht⟩
      · exact .inl ⟨rfl, t, ht⟩
    · rcases bor_at h with q | ⟨hn, q⟩
      · exact .inl q
      · exact .inr ⟨by simp [hi, hn], q⟩
theorem wipe_at {σ : St} {i : Nat} : ∀ {vs : List Nat}, i ∉ vs → (wipe σ vs)[i]? = σ[i]?
  | [], _ => rfl
  | v :: vs, h => by
    unfold wipe
    simp only [List.mem_cons, not_or] at h
    rw [List.getElem?_set_ne (fun z => h.1 z.symm), wipe_at h.2]
theorem EnOk.bor {σ : St} {B F0 H F : Hp} (en : EnOk Γ σ B F0 H F) (vs : List Nat) : EnOk (PL.bor Γ vs) (wipe σ vs) H F H F := by
  refine ⟨Ext.refl en.fh, fun i s q => ?_, fun i j s t p n q1 q2 o1 o2 => ?_⟩
  · rcases bor_at q with ⟨rfl, t, ht⟩ | ⟨hn, t, ht, rfl⟩
    · obtain ⟨o, a, _⟩ := en.sl i t ht
      have hl : i < (wipe σ vs).length := by rw [wipe_length]; exact (List.getElem?_eq_some_iff.mp a).1
      exact ⟨_, List.getElem?_eq_getElem hl, trivial⟩
    · obtain ⟨o, a, b⟩ := en.sl i t ht
      refine ⟨o, by rw [wipe_at hn]; exact a, ?_⟩
      cases t with
      | no => exact trivial
      | va r x => exact b
      | ow r xs => obtain ⟨p, us, e, _, _, c, d⟩ := b; exact ⟨p, us, e, c, d⟩
      | bo r xs => obtain ⟨p, us, e, c, d⟩ := b; exact ⟨p, us, e, en.ex.hh _ _ c, d⟩
      | ob C q rf x => exact trivial
  · rcases bor_at q1 with ⟨rfl, _⟩ | ⟨_, t', _, rfl⟩
    · exact False.elim o1
    · cases t' <;> exact False.elim o1
def W0 : WX := fun _ _ _ _ => False
abbrev blkX (X : Cx) (scope : Scope) (s : Shared) (H : Hp) (C : Addr) (cl : List (Str × Addr)) (fp : List Addr) : Cx := X.blk s H scope (compEnvC scope cl C X.env) fp
theorem Cok.blk (C : Cok X) (scope : Scope) (s : Shared) (H : Hp) (Ca : Addr) (cl : List (Str × Addr)) (fp : List Addr) : Cok (blkX X scope s H Ca cl fp) := ⟨C.calm, PassesOwn.never, C.nd⟩
/-- the element's, a test's and the target's weakest reading in every such block -/
def wEB (X : Cx) (scope : Scope) (e : Expr) : TE := fun σ H Q => ∀ s H0 C cl fp, wE (blkX X scope s H0 C cl fp) e σ H Q
def wTB (X : Cx) (scope : Scope) (e : Expr) : TT := fun σ H Q => ∀ s H0 C cl fp, wT (blkX X scope s H0 C cl fp) e σ H Q
def wGB (X : Cx) (scope : Scope) (e : Expr) : TG := fun v σ H Q => ∀ s H0 C cl fp, wG (blkX X scope s H0 C cl fp) e v σ H Q
theorem pe_wb {scope : Scope} {e : Expr} (s H0 C cl fp) : PE (blkX X scope s H0 C cl fp) e (wEB X scope e) := ⟨fun pins s' σ H Q I h => (h s H0 C cl fp).run pins s' I⟩
theorem pt_wb {scope : Scope} {e : Expr} (s H0 C cl fp) : PT (blkX X scope s H0 C cl fp) e (wTB X scope e) := ⟨fun pins s' σ H Q I h => (h s H0 C cl fp).run pins s' I⟩
theorem pg_wb {scope : Scope} {e : Expr} (s H0 C cl fp) : PG (blkX X scope s H0 C cl fp) e (wGB X scope e) := ⟨fun pins s' σ H v u Q I r h => (h s H0 C cl fp).run pins s' u I r⟩
theorem lc_inv {W : WX} {σ : St} {B F0 : Hp} {Q : VK} {r' : R X.K β} {scope : Scope} {elt : Expr} {own : List (Str × Nat)} {tt : TT} {p : α → M Bool} {f : α → M β} {xs : List α} {J : It} {H1 F1 : Hp} (en : EnOk Γ σ B F0 H1 F1) (it : Itp H1 F1 J r xs)
    (k : KN X r' W σ H1 F1 Q ((M.lc p f xs).bind fun ys => M.grd (lenOk ys.length) (.ok ys)))
    (turn : ∀ x v H' F' (Q' : Bool → V → Hp → Prop), Ext H1 F1 H' F' → r.rep F' v x → (∀ H2 F2, Ext H' F' H2 F2 → p x = .ok false → Q' false .non H2) → (∀ y w H2 F2, Ext H' F' H2 F2 → p x = .ok true → f x = .ok y → r'.rep F2 w y → Q' true w H2) → (p x = .ok false ∨ (p x = .ok true ∧ ∃ y, f x = .ok y)) →
      wGB X scope tg v (wipe σ (own.map (·.2))) H' fun σ2 H2 => wipe σ2 (own.map (·.2)) = wipe σ (own.map (·.2)) ∧ tt σ2 H2 fun b H3 => if b = true then wEB X scope elt σ2 H3 fun w H4 => Q' true w H4 else Q' false .non H3)
    (D : Addr) (hD : H1 D = none) : ∃ W : Nat → Nat → Hp → Prop, (∃ m, W 0 m (upd H1 D (.lst []))) ∧ ∀ i m H, W i m H →
  (J.stop i H ∧ Q (.ref D) H) ∨ (J.go i H ∧ ∃ Nx : Hp → Prop, (∀ H', Nx H' → ∃ m', m' < m ∧ W (i + 1) m' H') ∧ ∀ x H', J.yld i H x H' → wGB X scope tg x (wipe σ (own.map (·.2))) H' fun σ2 H2 => wipe σ2 (own.map (·.2)) = wipe σ (own.map (·.2)) ∧ tt σ2 H2 fun b H3 =>
    if b = true then wEB X scope elt σ2 H3 fun y H4 => ∃ acc, H4 D = some (.lst acc) ∧ acc.length < sizeLine ∧ Nx (upd H4 D (.lst (acc ++ [y]))) else Nx H3) := by
  -- what is left to do at turn i, with acc made
  refine ⟨fun i m H => m = xs.length - i ∧ ∃ F vs acc ys, Ext H1 F1 H F ∧ H D = some (.lst vs) ∧ F D = none ∧ Paired (r'.rep F) vs acc ∧ M.lc p f (xs.drop i) = .ok ys ∧ lenOk (acc ++ ys).length = true ∧ KN X r' W σ H1 F1 Q (.ok (acc ++ ys)), ?_, ?_⟩
  · cases q : M.lc p f xs with
    | ok ys =>
      rw [q] at k
      obtain ⟨c, k⟩ := KN.grd k
      exact ⟨_, rfl, F1, [], [], ys, Ext.own en.fh hD, upd_same, en.fh.free hD, .nil, q, c, k⟩
    | exc e =>
      have none_exc : ∀ zs, M.lc p f zs ≠ .exc e := by
        intro zs
        induction zs with
        | nil => intro h; cases h
        | cons z zs ih =>
          intro h
          unfold M.lc at h
          split at h
          · split at h
            · split at h
              · cases h
              · cases h
            · cases h
          · exact ih h
          · cases h
      exact absurd q (none_exc _)
    | stuck => rw [q] at k; exact False.elim k
  · rintro i m H' ⟨em, F', vs, acc, ys, ex, hv, hf, hp, hl, hz, kk⟩
    obtain ⟨st, go⟩ := it i H' F' ex.ff ex.fh ex.hh
    cases hd : xs.drop i with
    | nil =>
      rw [hd] at hl
      cases hl
      rw [List.append_nil] at kk
      exact .inl ⟨st (drop_nil_ge hd), kk D vs H' F' ex hD hf hv hp⟩
    | cons x t =>
      obtain ⟨hx, ht', hlen⟩ := drop_get hd
      obtain ⟨g1, g2⟩ := go x hx
      rw [hd] at hl
      refine .inr ⟨g1, fun H'' => ∃ F vs acc ys, Ext H1 F1 H'' F ∧ H'' D = some (.lst vs) ∧ F D = none ∧ Paired (r'.rep F) vs acc ∧ M.lc p f t = .ok ys ∧ lenOk (acc ++ ys).length = true ∧ KN X r' W σ H1 F1 Q (.ok (acc ++ ys)), fun H'' q => ⟨xs.length - (i + 1), by omega, rfl, by rw [ht']; exact q⟩, fun v H'' y => ?_⟩
      obtain ⟨F2, ex2, r2⟩ := g2 v H'' y
      have mono : ∀ {Q1 Q2 : Bool → V → Hp → Prop}, (∀ b w H, Q1 b w H → Q2 b w H) → ∀ b w H, Q1 b w H → Q2 b w H := fun h => h
      have key := turn x v H'' F2 (fun b w H4 => if b = true then ∃ acc, H4 D = some (.lst acc) ∧ acc.length < sizeLine ∧ ∃ F vs' acc' ys, Ext H1 F1 (upd H4 D (.lst (acc ++ [w]))) F ∧ (upd H4 D (.lst (acc ++ [w]))) D = some (.lst vs') ∧ F D = none ∧ Paired (r'.rep F) vs' acc' ∧ M.lc p f t = .ok ys ∧ lenOk (acc' ++ ys).length = true ∧ KN X r' W σ H1 F1 Q (.ok (acc' ++ ys))
        else ∃ F vs acc ys, Ext H1 F1 H4 F ∧ H4 D = some (.lst vs) ∧ F D = none ∧ Paired (r'.rep F) vs acc ∧ M.lc p f t = .ok ys ∧ lenOk (acc ++ ys).length = true ∧ KN X r' W σ H1 F1 Q (.ok (acc ++ ys))) (ex.trans ex2) r2
      unfold M.lc at hl
      have hvD : H'' D = some (.lst vs) := ex2.hh _ _ hv
      refine key ?_ ?_ ?_
      · intro H3 F3 e3 hpx
        rw [hpx] at hl
        rw [if_neg Bool.false_ne_true]
        have e13 := ex2.trans e3
        exact ⟨F3, vs, acc, ys, ex.trans e13, e13.hh _ _ hv, e13.nw D (by rw [hv]; exact fun z => nomatch z) hf, reps_mono e13.ff hp, hl, hz, kk⟩
      · intro y' w H3 F3 e3 hpx hfx hw
        rw [hpx] at hl
        simp only [hfx] at hl
        rw [if_pos rfl]
        have e13 := ex2.trans e3
        have h3D : H3 D = some (.lst vs) := e13.hh _ _ hv
        have f3D : F3 D = none := e13.nw D (by rw [hv]; exact fun z => nomatch z) hf
        cases q : M.lc p f t with
        | ok ys' =>
          rw [q] at hl
          have hl : ys = y' :: ys' := by cases hl; rfl
          subst hl
          have el : (acc ++ [y']) ++ ys' = acc ++ y' :: ys' := by simp
          have hle : vs.length < sizeLine := by
            rw [Paired.length hp]
            have z := lenOk_le hz
            rw [List.length_append, List.length_cons] at z
            omega
          have e1 := ex.trans e13
          refine ⟨vs, h3D, hle, F3, vs ++ [w], acc ++ [y'], ys', ⟨fun b o e => ?_, e1.ff, fun b o e => ?_, e1.nw⟩, upd_same, f3D, Paired.app (reps_mono e13.ff hp) (.cons hw .nil), rfl, by rw [el]; exact hz, by rw [el]; exact kk⟩
          · rw [upd_ne (ne_of_none e hD)]; exact e1.hh _ _ e
          · rw [upd_ne (ne_of_none e f3D)]; exact e1.fh _ _ e
        | exc e => rw [q] at hl; cases hl
        | stuck => rw [q] at hl; cases hl
      · cases hpx : p x with
        | ok b =>
          cases b with
          | false => exact .inl rfl
          | true =>
            refine .inr ⟨rfl, ?_⟩
            rw [hpx] at hl
            cases hfx : f x with
            | ok y' => exact ⟨y', rfl⟩
            | exc e => simp only [hfx] at hl; cases hl
            | stuck => simp only [hfx] at hl; cases hl
        | exc e => rw [hpx] at hl; cases hl
        | stuck => rw [hpx] at hl; cases hl
end
end PL
end
section
set_option maxRecDepth 100000
namespace PL
open PySem L2
section
variable {α β γ A ρ S L : Type} {X : Cx} {W : WX} {Γ : En X.K} {tg iter elt : Expr} {pos : Pos} {r : R X.K α} {r' : R X.K β} {mx : M (List α)} {scope : Scope}
theorem wipe_wipe {σ : St} {vs : List Nat} : wipe (wipe σ vs) vs = wipe σ vs := by
  apply List.ext_getElem?
  intro i
  have l1 : (wipe (wipe σ vs) vs).length = σ.length := by rw [wipe_length, wipe_length]
  have l2 : (wipe σ vs).length = σ.length := wipe_length _ _
  by_cases hi : i ∈ vs
  · have gen : ∀ (us : List Nat) (τ : St), i ∈ us → (wipe τ us)[i]? = if i < τ.length then some none else none := by
      intro us
      induction us with
      | nil => intro τ h; cases h
      | cons v us ih =>
        intro τ h
        unfold wipe
        by_cases e : v = i
        · subst e
          by_cases hl : v < τ.length
          · rw [if_pos hl, List.getElem?_set_self (by rw [wipe_length]; exact hl)]
          · rw [if_neg hl, List.getElem?_eq_none (by simp [wipe_length]; omega)]
        · rw [List.getElem?_set_ne e]
          rcases List.mem_cons.mp h with z | z
          · exact absurd z.symm e
          · exact ih τ z
    rw [gen vs _ hi, gen vs _ hi, wipe_length]
  · rw [wipe_at hi]
theorem lc_true {f : α → M β} : ∀ xs, M.lc (fun _ => .ok true) f xs = M.map f xs
  | [] => rfl
  | x :: xs => by
    unfold M.lc M.map
    rw [lc_true xs]
theorem lc_t {W : WX} {own : List (Str × Nat)} {cnd : Expr} {p : α → M Bool} {f : α → M β} {Γt : α → En X.K} (C : Cok X) (ok : BlkOk X.N X.env.scope scope own) (hi : Iv X true W Γ r tg iter mx)
    (ht : ∀ s H0 Ca cl fp, Tg (blkX X scope s H0 Ca cl fp) (own.map (·.2)) (bor Γ (own.map (·.2))) r tg Γt)
    (hp : ∀ s H0 Ca cl fp x, Tt (blkX X scope s H0 Ca cl fp) W0 (Γt x) cnd (p x))
    (he : ∀ s H0 Ca cl fp x, Ev (blkX X scope s H0 Ca cl fp) W0 (Γt x) r' elt (f x))  (tk : Takes X W) {σ : St} {B F0 H F : Hp} {Q : VK} (en : EnOk Γ σ B F0 H F) (k : KN X r' W σ H F Q (mx.bind fun xs => (M.lc p f xs).bind fun ys => M.grd (lenOk ys.length) (.ok ys))) :
    tLc (wI X tg iter) (wGB X scope tg) (wTB X scope cnd) (wEB X scope elt) (own.map (·.2)) σ H Q :=
  hi tk σ B F0 H F _ en <| by
    cases mx with
    | exc e => exact k
    | stuck => exact k
    | ok xs =>
      intro J H1 F1 e1 it D hD
      refine lc_inv (en.ext e1) it (KN.ext k e1) (fun x v H' F' Q' ex hr q0 q1 alt => ?_) D hD
      intro s H0 Ca cl fp
      refine ht s H0 Ca cl fp x v (wipe σ (own.map (·.2))) H1 F1 H' F' _ (((en.ext e1).bor _).ext ex) hr ?_
      intro σ2 en2 w2
      refine ⟨w2.trans wipe_wipe, ?_⟩
      intro s H0 Ca cl fp
      refine hp s H0 Ca cl fp x takes0 σ2 H1 F1 H' F' _ en2 ?_
      rcases alt with e | ⟨e, y, ey⟩
      · rw [e]
        exact fun H3 F3 e3 => by
          show (if false = true then _ else _)
          rw [if_neg Bool.false_ne_true]
          exact q0 H3 F3 e3 e
      · rw [e]
        exact fun H3 F3 e3 => by
          show (if true = true then _ else _)
          rw [if_pos rfl]
          intro s H0 Ca cl fp
          refine he s H0 Ca cl fp x takes0 σ2 H1 F1 H3 F3 _ (en2.ext e3) ?_
          rw [ey]
          exact fun w H4 F4 e4 hw => q1 y w H4 F4 (e3.trans e4) e ey hw
theorem nw_lc {own : List (Str × Nat)} {cnd : Expr} {p : α → M Bool} {f : α → M β} {Γt : α → En X.K} (C : Cok X) (ok : BlkOk X.N X.env.scope scope own) (hi : Iv X true W Γ r tg iter mx)
    (ht : ∀ s H0 Ca cl fp, Tg (blkX X scope s H0 Ca cl fp) (own.map (·.2)) (bor Γ (own.map (·.2))) r tg Γt)
    (hp : ∀ s H0 Ca cl fp x, Tt (blkX X scope s H0 Ca cl fp) W0 (Γt x) cnd (p x))
    (he : ∀ s H0 Ca cl fp x, Ev (blkX X scope s H0 Ca cl fp) W0 (Γt x) r' elt (f x)) (hs : ∀ x, foldedSetIterable iter X.env x = pure x := by intro _; rfl) :
    Nw X W Γ r' (.ListComp elt [⟨tg, iter, [cnd], 0⟩] scope pos) (mx.bind fun xs => (M.lc p f xs).bind fun ys => M.grd (lenOk ys.length) (.ok ys)) := fun tk σ B F0 H F Q en k =>
  PE.w (pe_lc (wi := wI X tg iter) (g := wGB X scope tg) (tt := wTB X scope cnd) (te := wEB X scope elt) C.calm C.nd pi_w ok pg_wb (fun s H0 Ca cl fp => pts_one (pt_wb s H0 Ca cl fp)) pe_wb hs) (lc_t C ok hi ht hp he tk en k)
theorem map_t {W : WX} {own : List (Str × Nat)} {f : α → M β} {Γt : α → En X.K} (C : Cok X) (ok : BlkOk X.N X.env.scope scope own) (hi : Iv X true W Γ r tg iter mx)
    (ht : ∀ s H0 Ca cl fp, Tg (blkX X scope s H0 Ca cl fp) (own.map (·.2)) (bor Γ (own.map (·.2))) r tg Γt)
    (he : ∀ s H0 Ca cl fp x, Ev (blkX X scope s H0 Ca cl fp) W0 (Γt x) r' elt (f x))  (tk : Takes X W) {σ : St} {B F0 H F : Hp} {Q : VK} (en : EnOk Γ σ B F0 H F) (k : KN X r' W σ H F Q (mx.bind fun xs => (M.map f xs).bind fun ys => M.grd (lenOk ys.length) (.ok ys))) :
    tLc (wI X tg iter) (wGB X scope tg) tYes (wEB X scope elt) (own.map (·.2)) σ H Q :=
  hi tk σ B F0 H F _ en <| by
    cases mx with
    | exc e => exact k
    | stuck => exact k
    | ok xs =>
      intro J H1 F1 e1 it D hD
      have k' : KN X r' W σ H F Q ((M.lc (fun _ => .ok true) f xs).bind fun ys => M.grd (lenOk ys.length) (.ok ys)) := by rw [lc_true]; exact k
      refine lc_inv (en.ext e1) it (KN.ext k' e1) (fun x v H' F' Q' ex hr q0 q1 alt => ?_) D hD
      intro s H0 Ca cl fp
      refine ht s H0 Ca cl fp x v (wipe σ (own.map (·.2))) H1 F1 H' F' _ (((en.ext e1).bor _).ext ex) hr ?_
      intro σ2 en2 w2
      refine ⟨w2.trans wipe_wipe, ?_⟩
      show (fun (b : Bool) H3 => if b = true then wEB X scope elt σ2 H3 fun w H4 => Q' true w H4 else Q' false V.non H3) true H'
      show (if true = true then wEB X scope elt σ2 H' fun w H4 => Q' true w H4 else Q' false V.non H')
      rw [if_pos rfl]
      rcases alt with e | ⟨e, y, ey⟩
      · cases e
      · intro s H0 Ca cl fp
        refine he s H0 Ca cl fp x takes0 σ2 H1 F1 H' F' _ en2 ?_
        rw [ey]
        exact fun w H4 F4 e4 hw => q1 y w H4 F4 e4 rfl ey hw
theorem nw_map {own : List (Str × Nat)} {f : α → M β} {Γt : α → En X.K} (C : Cok X) (ok : BlkOk X.N X.env.scope scope own) (hi : Iv X true W Γ r tg iter mx)
    (ht : ∀ s H0 Ca cl fp, Tg (blkX X scope s H0 Ca cl fp) (own.map (·.2)) (bor Γ (own.map (·.2))) r tg Γt)
    (he : ∀ s H0 Ca cl fp x, Ev (blkX X scope s H0 Ca cl fp) W0 (Γt x) r' elt (f x)) (hs : ∀ x, foldedSetIterable iter X.env x = pure x := by intro _; rfl) :
    Nw X W Γ r' (.ListComp elt [⟨tg, iter, [], 0⟩] scope pos) (mx.bind fun xs => (M.map f xs).bind fun ys => M.grd (lenOk ys.length) (.ok ys)) := fun tk σ B F0 H F Q en k =>
  PE.w (pe_lc (wi := wI X tg iter) (g := wGB X scope tg) (tt := tYes) (te := wEB X scope elt) C.calm C.nd pi_w ok pg_wb (fun _ _ _ _ _ => pts_nil) pe_wb hs) (map_t C ok hi ht he tk en k)
/-- name = [..] on one line -/
theorem ns_lc {c : Ct X L ρ} (i : Nat) {y : Str} {py spos : Pos} {own : List (Str × Nat)} {cnd : Expr} {p : α → M Bool} {f : α → M β} {Γt : α → En X.K} (C : Cok X) (ok : BlkOk X.N X.env.scope scope own) (hi : Iv X true c.W Γ r tg iter mx)
    (ht : ∀ s H0 Ca cl fp, Tg (blkX X scope s H0 Ca cl fp) (own.map (·.2)) (bor Γ (own.map (·.2))) r tg Γt)
    (hp : ∀ s H0 Ca cl fp x, Tt (blkX X scope s H0 Ca cl fp) W0 (Γt x) cnd (p x))
    (he : ∀ s H0 Ca cl fp x, Ev (blkX X scope s H0 Ca cl fp) W0 (Γt x) r' elt (f x)) (le : SLe Γ c.Γe) (hy : X.N[i]? = some y := by rfl) (hyl : X.env.scope.names.lookup y = some .local := by rfl)
    (hk : X.env.scope.kind = .function := by rfl) (hl : (py.line == pos.line) = true := by rfl) (ha : (scope.names.any fun (n, k) => n == y && (k == .local || k == .cell)) = false := by rfl) (hs : ∀ x, foldedSetIterable iter X.env x = pure x := by intro _; rfl) :
    Ns X c Γ (fun a => Γ.set i (.ow r' a)) (.Assign [.Name y py] (.ListComp elt [⟨tg, iter, [cnd], 0⟩] scope pos) spos) (mx.bind fun xs => (M.lc p f xs).bind fun ys => M.grd (lenOk ys.length) (.ok ys)) := fun tk σ B F0 H F D en k0 => by
  have k := (M.bind_id (mx.bind fun xs => (M.lc p f xs).bind fun ys => M.grd (lenOk ys.length) (.ok ys))).symm ▸ k0
  refine PS.w (ps_setLc (wi := wI X tg iter) (g := wGB X scope tg) (tt := wTB X scope cnd) (te := wEB X scope elt) C.calm C.nd hy hyl (sw_true hk hyl hl ha) pi_w ok pg_wb (fun s H0 Ca cl fp => pts_one (pt_wb s H0 Ca cl fp)) pe_wb hs) ?_
  exact lc_t C ok hi ht hp he tk en (kqN.n (f := fun a => .ok a) le.le en k fun a p vs H1 F1 e1 hn hf hp r1 k1 => k1 _ H1 F1 (en.putN e1 hn hf hp r1))
theorem ns_map {c : Ct X L ρ} (i : Nat) {y : Str} {py spos : Pos} {own : List (Str × Nat)} {f : α → M β} {Γt : α → En X.K} (C : Cok X) (ok : BlkOk X.N X.env.scope scope own) (hi : Iv X true c.W Γ r tg iter mx)
    (ht : ∀ s H0 Ca cl fp, Tg (blkX X scope s H0 Ca cl fp) (own.map (·.2)) (bor Γ (own.map (·.2))) r tg Γt)
    (he : ∀ s H0 Ca cl fp x, Ev (blkX X scope s H0 Ca cl fp) W0 (Γt x) r' elt (f x)) (le : SLe Γ c.Γe) (hy : X.N[i]? = some y := by rfl) (hyl : X.env.scope.names.lookup y = some .local := by rfl)
    (hk : X.env.scope.kind = .function := by rfl) (hl : (py.line == pos.line) = true := by rfl) (ha : (scope.names.any fun (n, k) => n == y && (k == .local || k == .cell)) = false := by rfl) (hs : ∀ x, foldedSetIterable iter X.env x = pure x := by intro _; rfl) :
    Ns X c Γ (fun a => Γ.set i (.ow r' a)) (.Assign [.Name y py] (.ListComp elt [⟨tg, iter, [], 0⟩] scope pos) spos) (mx.bind fun xs => (M.map f xs).bind fun ys => M.grd (lenOk ys.length) (.ok ys)) := fun tk σ B F0 H F D en k0 => by
  have k := (M.bind_id (mx.bind fun xs => (M.map f xs).bind fun ys => M.grd (lenOk ys.length) (.ok ys))).symm ▸ k0
  refine PS.w (ps_setLc (wi := wI X tg iter) (g := wGB X scope tg) (tt := tYes) (te := wEB X scope elt) C.calm C.nd hy hyl (sw_true hk hyl hl ha) pi_w ok pg_wb (fun _ _ _ _ _ => pts_nil) pe_wb hs) ?_
  exact map_t C ok hi ht he tk en (kqN.n (f := fun a => .ok a) le.le en k fun a p vs H1 F1 e1 hn hf hp r1 k1 => k1 _ H1 F1 (en.putN e1 hn hf hp r1))
/-! ### defs -/
/-- what a def is worth: ra how the arguments lie, rt how the result does -/
def KD (K : PySem.W.Frag) (mg : Str → Option Value) (rt : Rt K ρ) (H F : Hp) (Q : VK) (E : XK) : M ρ → Prop
  | .ok y => ∀ v H' F', Ext H F H' F' → rt.rep H H' F' v y → Q v H'
  | .exc e => ∀ cls d H' F', Ext H F H' F' → ErrOk K mg cls d F' e → E cls d H'
  | .stuck => False
def spM {K : PySem.W.Frag} (mg : Str → Option Value) (ra : RA K A) (rt : Rt K ρ) (g : A → M ρ) : Sp := fun vs H Q E => ∃ F a, Same F H ∧ ra.rep H F vs a ∧ KD K mg rt H F Q E (g a)
structure Df (P : Program) (w : World) (K : PySem.W.Frag) (mg : Str → Option Value) (base : Heap) (k : Nat) (x : Str) (ra : RA K A) (rt : Rt K ρ) (g : A → M ρ) : Prop where
  ex : ∃ f fd ps, FnOk P w K mg base (L2.CX P w) k f fd ps (spM mg ra rt g) ∧ mg x = some (.ref f) ∧ PySem.W.keepIn K (.ref f) = true ∧ Binds K fd ps []
theorem Df.mono {P : Program} {w : World} {K : PySem.W.Frag} {mg : Str → Option Value} {base : Heap} {j k : Nat} {x : Str} {ra : RA K A} {rt : Rt K ρ} {g : A → M ρ} (D : Df P w K mg base j x ra rt g) (h : j ≤ k) : Df P w K mg base k x ra rt g :=
  let ⟨f, fd, ps, F, q⟩ := D.ex
  ⟨f, fd, ps, F.mono h, q⟩
/-- a call: all kinds of results at once -/
theorem call_w {x : Str} {k : Nat} {ra : RA X.K A} {rt : Rt X.K ρ} {g : A → M ρ} {m : M A} {e : Expr} {es : List Expr} {p0 : Pos} (D : Df X.prog X.w X.K X.mg X.base k x ra rt g) (hr : Room k X.A) (ha : Ag X W Γ ra (e :: es) m) (hg : Gl X x)
    (hdb : (x == ("__debug__" : Str)) = false) (he : starEach (e :: es) X.env = (false, eval e X.env) :: starEach es X.env) (hpl : (backTo pos (starEach es X.env)).any (·.1) = false)
    {P : Hp → Hp → M ρ → Prop} {σ : St} {B F0 H F : Hp} {Q : VK} (kk : KK X W σ P) (tk : Takes X W) (en : EnOk Γ σ B F0 H F) (k : P H F (m.bind g)) (hP : ∀ y H1 F1, Ext H F H1 F1 → P H1 F1 (.ok y) → ∀ v H' F', Ext H1 F1 H' F' → rt.rep H1 H' F' v y → Q v H') :
    wE X (.Call (.Name x p0) (e :: es) [] pos) σ H Q := by
  obtain ⟨f, fd, ps, Fn, hm, hk, hb⟩ := D.ex
  refine PE.w (pe_callS (E := fun σ => WE W σ) Fn hr hg hm hk hb (fun σ => passAt tk σ) pa_w hdb he hpl) ?_
  refine ha tk σ B F0 H F _ en <| KA.bnd kk k fun a vs H1 F1 e1 r1 k1 => ⟨F1, a, e1.fh, r1, ?_⟩
  cases hga : g a with
  | ok y => rw [hga] at k1; exact fun v H' F' ex hr' => hP y H1 F1 e1 k1 v H' F' ex hr'
  | exc er => rw [hga] at k1; exact fun cls d H' F' ex z => kk.ofexc k1 cls d H' F' ex z
  | stuck => rw [hga] at k1; exact kk.ofstk k1
theorem ev_call {x : Str} {k : Nat} {ra : RA X.K A} {rr : R X.K ρ} {g : A → M ρ} {m : M A} {e : Expr} {es : List Expr} {p0 : Pos} (D : Df X.prog X.w X.K X.mg X.base k x ra (rtF rr) g) (hr : Room k X.A) (ha : Ag X W Γ ra (e :: es) m) (hg : Gl X x := by rfl)
    (hdb : (x == ("__debug__" : Str)) = false := by decide) (he : starEach (e :: es) X.env = (false, eval e X.env) :: starEach es X.env := by exact star_ns rfl) (hpl : (backTo pos (starEach es X.env)).any (·.1) = false := by exact back_ns rfl) :
    Ev X W Γ rr (.Call (.Name x p0) (e :: es) [] pos) (m.bind g) := fun tk σ B F0 H F Q en k =>
  call_w D hr ha hg hdb he hpl kkO tk en k fun y H1 F1 e1 k1 v H' F' ex hr' => k1 v H' F' ex hr'
theorem nw_call {x : Str} {k : Nat} {ra : RA X.K A} {rr : R X.K ρ} {g : A → M (List ρ)} {m : M A} {e : Expr} {es : List Expr} {p0 : Pos} (D : Df X.prog X.w X.K X.mg X.base k x ra (rtN rr) g) (hr : Room k X.A) (ha : Ag X W Γ ra (e :: es) m) (hg : Gl X x := by rfl)
    (hdb : (x == ("__debug__" : Str)) = false := by decide) (he : starEach (e :: es) X.env = (false, eval e X.env) :: starEach es X.env := by exact star_ns rfl) (hpl : (backTo pos (starEach es X.env)).any (·.1) = false := by exact back_ns rfl) :
    Nw X W Γ rr (.Call (.Name x p0) (e :: es) [] pos) (m.bind g) := fun tk σ B F0 H F Q en k =>
  call_w D hr ha hg hdb he hpl kkN tk en k fun y H1 F1 e1 k1 v H' F' ex ⟨p, vs, e, hn, hf, hp, hr'⟩ => by subst e; exact k1 p vs H' F' ex hn hf hp hr'
end
/-! a def by its body -/
section
variable {A ρ α : Type} {P : Program} {w : World} {K : PySem.W.Frag} {mg : Str → Option Value} {base : Heap}
/-- how the arguments fill the slots -/
structure RA.Fill (ra : RA K A) (sl : A → En K) : Prop where
  len : ∀ {H F vs a}, ra.rep H F vs a → vs.length = (sl a).length
  ok : ∀ {H F : Hp} {vs a}, ra.rep H F vs a → ∀ (i : Nat) (s : Sl K), (sl a)[i]? = some s → ∃ v, vs[i]? = some v ∧ SlOk H H F s (some v) ∧ ¬ s.isOw
theorem sl_n : RA.Fill (raN (K := K)) (fun _ => []) := ⟨fun h => by rw [show _ = [] from h]; rfl, fun h i s q => by simp at q⟩
theorem sl_c {r : R K α} {t : RA K A} {sl : A → En K} (h : t.Fill sl) : (raC r t).Fill (fun x => .va r x.1 :: sl x.2) where
  len := fun ⟨v, ws, e, _, b⟩ => by rw [e, List.length_cons, List.length_cons, h.len b]
  ok := fun ⟨v, ws, e, a, b⟩ i s q => by
    subst e
    cases i with
    | zero => simp at q; subst q; exact ⟨v, rfl, ⟨v, rfl, a⟩, fun z => z⟩
    | succ i => simpa using h.ok b i s (by simpa using q)
theorem sl_l {r : R K α} {t : RA K A} {sl : A → En K} (h : t.Fill sl) : (raL r t).Fill (fun x => .bo r x.1 :: sl x.2) where
  len := fun ⟨p, us, ws, e, _, _, b⟩ => by rw [e, List.length_cons, List.length_cons, h.len b]
  ok := fun ⟨p, us, ws, e, a, c, b⟩ i s q => by
    subst e
    cases i with
    | zero => simp at q; subst q; exact ⟨_, rfl, ⟨p, us, rfl, a, c⟩, fun z => z⟩
    | succ i => simpa using h.ok b i s (by simpa using q)
theorem start_ok {ra : RA K A} {sl : A → En K} (h : ra.Fill sl) {H F : Hp} {vs : List V} {a : A} {N : List Str} (q : ra.rep H F vs a) (fh : Same F H) (hN : (sl a).length ≤ N.length) : EnOk (sl a ++ List.replicate (N.length - (sl a).length) .no) (L2.start N vs) H F H F := by
  have hl := h.len q
  have low : ∀ (i : Nat) (s : Sl K), (sl a ++ List.replicate (N.length - (sl a).length) .no)[i]? = some s → (∃ v, (L2.start N vs)[i]? = some (some v) ∧ SlOk H H F s (some v) ∧ ¬ s.isOw) ∨ (s = .no ∧ ∃ o, (L2.start N vs)[i]? = some o) := fun i s e => by
    by_cases hi : i < (sl a).length
    · rw [List.getElem?_append_left hi] at e
      obtain ⟨v, h1, h2, h3⟩ := h.ok q i s e
      refine .inl ⟨v, ?_, h2, h3⟩
      unfold L2.start
      rw [List.getElem?_append_left (by rw [List.length_map, hl]; exact hi), List.getElem?_map, h1]
      rfl
    · rw [List.getElem?_append_right (by omega), List.getElem?_replicate] at e
      split at e
      · rename_i hlt
        refine .inr ⟨(Option.some.inj e).symm, none, ?_⟩
        unfold L2.start
        rw [List.getElem?_append_right (by rw [List.length_map, hl]; omega), List.getElem?_replicate, List.length_map, hl, if_pos hlt]
      · cases e
  refine ⟨Ext.refl fh, fun i s e => ?_, fun i j s t p n e1 e2 o1 o2 => ?_⟩
  · rcases low i s e with ⟨v, h1, h2, _⟩ | ⟨rfl, o, h1⟩
    · exact ⟨_, h1, h2⟩
    · exact ⟨o, h1, trivial⟩
  · rcases low i s e1 with ⟨_, _, _, h3⟩ | ⟨rfl, _⟩
    · exact False.elim (h3 o1)
    · exact False.elim o1
abbrev defX (P : Program) (w : World) (K : PySem.W.Frag) (mg : Str → Option Value) (base : Heap) (N : List Str) (qual : Str) (st : Stmt) (f : Addr) (cdv : Value) (A : Around) (outer : List Env) (s : Shared) (H : Hp) (E : XK) : Cx :=
  cxOf (L2.CX P w) P w K mg base N qual (defScope st) f cdv A outer s H E
abbrev ctD (X : Cx) (E : XK) (rt : Rt X.K ρ) : Ct X Empty ρ := ⟨fun cls d _ H => E cls d H, [], (fun l => nomatch l), rt⟩
theorem df_mk {x qual : Str} {st : Stmt} {f : Addr} {fd : FuncData} {N ps : List Str} {k : Nat} {ra : RA K A} {rt : Rt K ρ} {g : A → M ρ} {sl : A → En K} (F : Fun K x qual st f fd) (S : FnScope N ps (defScope st)) (hm : mg x = some (.ref f)) (hb : Binds K fd ps []) (hsl : ra.Fill sl)
    (hlen : ∀ a, (sl a).length = ps.length) (hN : ps.length ≤ N.length)
    (body : ∀ (cdv : Value) (A : Around) (outer : List Env) (s : Shared) (H : Hp) (E : XK), Room k (defX P w K mg base N qual st f cdv A outer s H E).A → Cok (defX P w K mg base N qual st f cdv A outer s H E) → ∀ a,
      Rb (defX P w K mg base N qual st f cdv A outer s H E) (ctD (defX P w K mg base N qual st f cdv A outer s H E) E rt) (sl a ++ List.replicate (N.length - ps.length) .no) (defBody st) (g a)) : Df P w K mg base (k + 1) x ra rt g := by
  refine ⟨f, fd, ps, F.okX S (fun vs H Q E ⟨F, a, _, q, _⟩ => by rw [hsl.len q, hlen]) (fun cdv A outer s H vs Q E hr ⟨F, a, fh, q, kd⟩ => ⟨_, pb_w, ?_⟩), hm, F.kp, hb⟩
  have en := start_ok (N := N) hsl q fh (by rw [hlen]; exact hN)
  rw [hlen] at en
  refine body cdv A outer s H E hr ⟨rfl, passes_of rfl, S.nd⟩ a (takes_of rfl rfl rfl rfl) _ H F H F _ en ?_
  cases hg : g a with
  | ok y => rw [hg] at kd; exact kd
  | exc e => rw [hg] at kd; exact fun cls d σ' H' F' en' z => kd cls d H' F' en'.ex z
  | stuck => rw [hg] at kd; exact kd
/-- .. of a def that falls off its end -/
theorem df_mkU {x qual : Str} {st : Stmt} {f : Addr} {fd : FuncData} {N ps : List Str} {k : Nat} {ra : RA K A} {g : A → M Unit} {sl : A → En K} (F : Fun K x qual st f fd) (S : FnScope N ps (defScope st)) (hm : mg x = some (.ref f)) (hb : Binds K fd ps []) (hsl : ra.Fill sl)
    (hlen : ∀ a, (sl a).length = ps.length) (hN : ps.length ≤ N.length)
    (body : ∀ (cdv : Value) (A : Around) (outer : List Env) (s : Shared) (H : Hp) (E : XK), Room k (defX P w K mg base N qual st f cdv A outer s H E).A → Cok (defX P w K mg base N qual st f cdv A outer s H E) → ∀ a,
      Nb (defX P w K mg base N qual st f cdv A outer s H E) (ctD (defX P w K mg base N qual st f cdv A outer s H E) E (rtF rNone)) (sl a ++ List.replicate (N.length - ps.length) .no) (fun _ : Unit => []) (defBody st) (g a)) : Df P w K mg base (k + 1) x ra (rtF rNone) g := by
  refine ⟨f, fd, ps, F.okX S (fun vs H Q E ⟨F, a, _, q, _⟩ => by rw [hsl.len q, hlen]) (fun cdv A outer s H vs Q E hr ⟨F, a, fh, q, kd⟩ => ⟨_, pb_w, ?_⟩), hm, F.kp, hb⟩
  have en := start_ok (N := N) hsl q fh (by rw [hlen]; exact hN)
  rw [hlen] at en
  refine body cdv A outer s H E hr ⟨rfl, passes_of rfl, S.nd⟩ a (takes_of rfl rfl rfl rfl) _ H F H F _ en ?_
  cases hg : g a with
  | ok y => rw [hg] at kd; exact fun σ' H' F' en' => kd .non H' F' en'.ex rfl
  | exc e => rw [hg] at kd; exact fun cls d σ' H' F' en' z => kd cls d H' F' en'.ex z
  | stuck => rw [hg] at kd; exact kd
end
end PL
end
section
set_option maxRecDepth 100000
namespace PL
open PySem L2
section
variable {α β γ A ρ S L : Type} {X : Cx} {W : WX} {Γ : En X.K} {c : Ct X L ρ} {Γ' : S → En X.K} {ss : List Stmt}
theorem rb_ec {m m' : M ρ} (h : Rb X c Γ ss m) (e : m = m') : Rb X c Γ ss m' := e ▸ h
theorem nb_ec {m m' : M S} (h : Nb X c Γ Γ' ss m) (e : m = m') : Nb X c Γ Γ' ss m' := e ▸ h
theorem bk_ec {m m' : M (Fl S L ρ)} (h : Bk X c Γ Γ' ss m) (e : m = m') : Bk X c Γ Γ' ss m' := e ▸ h
theorem tt_ec {e : Expr} {m m' : M Bool} (h : Tt X W Γ e m) (q : m = m') : Tt X W Γ e m' := q ▸ h
theorem ev_ec {e : Expr} {r : R X.K α} {m m' : M α} (h : Ev X W Γ r e m) (q : m = m') : Ev X W Γ r e m' := q ▸ h
theorem nb_one {st : Stmt} {Γ1 : S → En X.K} {m : M S} (h : Ns X c Γ Γ1 st m) (le : ∀ s, SLe (Γ1 s) (Γ' s)) : Nb X c Γ Γ' [st] m := fun tk σ B F0 H F D en k =>
  PSs.w (pss_one ps_w) <| h tk σ B F0 H F D en (by
    cases m with
    | ok s => exact fun σ' H' F' en' => k σ' H' F' ((le s).le en')
    | exc e => exact k
    | stuck => exact k)
theorem bk_dead {s : S} {Γ0 : S → En X.K} : True := trivial
end
/-! the same rules where the parts are plain values -/
section
variable {α β γ A ρ S L : Type} {X : Cx} {W : WX} {Γ : En X.K} {pos p0 p2 : Pos} {a b d : Expr} {x y z : Int}
theorem ev_addP (h : Ev X W Γ rInt a (.ok x)) (g : Ev X W Γ rInt b (.ok y)) : Ev X W Γ rInt (.BinOp a .Add b pos) (.ok (x + y)) := ev_add h g
theorem ev_subP (h : Ev X W Γ rInt a (.ok x)) (g : Ev X W Γ rInt b (.ok y)) : Ev X W Γ rInt (.BinOp a .Sub b pos) (.ok (x - y)) := ev_sub h g
theorem ev_andP2 (h : Ev X W Γ rInt a (.ok x)) (g : Ev X W Γ rInt b (.ok y)) : Ev X W Γ rInt (.BinOp a .BitAnd b pos) (.ok (Builtin.bitAnd x y)) := ev_and h g
theorem ev_orP2 (h : Ev X W Γ rInt a (.ok x)) (g : Ev X W Γ rInt b (.ok y)) : Ev X W Γ rInt (.BinOp a .BitOr b pos) (.ok (Builtin.bitOr x y)) := ev_or h g
theorem ev_xorP (h : Ev X W Γ rInt a (.ok x)) (g : Ev X W Γ rInt b (.ok y)) : Ev X W Γ rInt (.BinOp a .BitXor b pos) (.ok (Builtin.bitXor x y)) := ev_xor h g
theorem ev_mulP (h : Ev X W Γ rInt a (.ok x)) (g : Ev X W Γ rInt b (.ok y)) : Ev X W Γ rInt (.BinOp a .Mult b pos) (mulI x y) := ev_mul h g
theorem ev_fdivP (h : Ev X W Γ rInt a (.ok x)) (g : Ev X W Γ rInt b (.ok y)) : Ev X W Γ rInt (.BinOp a .FloorDiv b pos) (fdivI x y) := ev_fdiv h g
theorem ev_modP (h : Ev X W Γ rInt a (.ok x)) (g : Ev X W Γ rInt b (.ok y)) : Ev X W Γ rInt (.BinOp a .Mod b pos) (modI x y) := ev_mod h g
theorem ev_powP (h : Ev X W Γ rInt a (.ok x)) (g : Ev X W Γ rInt b (.ok y)) : Ev X W Γ rInt (.BinOp a .Pow b pos) (powI x y) := ev_pow h g
theorem ev_shlP (h : Ev X W Γ rInt a (.ok x)) (g : Ev X W Γ rInt b (.ok y)) : Ev X W Γ rInt (.BinOp a .LShift b pos) (shlI x y) := ev_shl h g
theorem ev_shrP (h : Ev X W Γ rInt a (.ok x)) (g : Ev X W Γ rInt b (.ok y)) : Ev X W Γ rInt (.BinOp a .RShift b pos) (shrI x y) := ev_shr h g
theorem ev_negP (h : Ev X W Γ rInt a (.ok x)) : Ev X W Γ rInt (.UnaryOp .USub a pos) (.ok (-x)) := ev_neg h
theorem ev_invP (h : Ev X W Γ rInt a (.ok x)) : Ev X W Γ rInt (.UnaryOp .Invert a pos) (.ok (Builtin.bitNot x)) := ev_inv h
theorem ev_notP {k : Bool} (h : Ev X W Γ rBool a (.ok k)) : Ev X W Γ rBool (.UnaryOp .Not a pos) (.ok (!k)) := ev_not h
theorem tt_notP {k : Bool} (h : Tt X W Γ a (.ok k)) : Tt X W Γ (.UnaryOp .Not a pos) (.ok (!k)) := tt_not h
theorem ev_cP {op : CmpOp} {ra : R X.K α} {rb : R X.K β} {f : α → β → Bool} {u : α} {v : β} (cm : Cm X op ra rb f) (ha : Ev X W Γ ra a (.ok u)) (hb : Ev X W Γ rb b (.ok v)) (hm : behindInMarks op b = false := by first | exact nomark _ | rfl) :
    Ev X W Γ rBool (.Compare a [op] [b] pos) (.ok (f u v)) := ev_c cm ha hb hm
theorem tt_cP {op : CmpOp} {ra : R X.K α} {rb : R X.K β} {f : α → β → Bool} {u : α} {v : β} (cm : Cm X op ra rb f) (ha : Ev X W Γ ra a (.ok u)) (hb : Ev X W Γ rb b (.ok v)) (hm : behindInMarks op b = false := by first | exact nomark _ | rfl) :
    Tt X W Γ (.Compare a [op] [b] pos) (.ok (f u v)) := tt_c cm ha hb hm
theorem cond_ok (c d : Bool) : (cond c (M.ok d) (M.ok false)) = M.ok (c && d) := by cases c <;> rfl
theorem cond_ok2 (c d : Bool) : (cond c (M.ok true) (M.ok d)) = M.ok (c || d) := by cases c <;> rfl
theorem ev_chP {op op' : CmpOp} {ra : R X.K α} {rb : R X.K β} {rc : R X.K γ} {f : α → β → Bool} {g : β → γ → Bool} {u : α} {v : β} {w : γ} (cm : Cm X op ra rb f) (cm' : Cm X op' rb rc g) (ha : Ev X W Γ ra a (.ok u)) (hb : Ev X W Γ rb b (.ok v)) (hc : Ev X W Γ rc d (.ok w)) (hm : lastMarks [op, op'] [b, d] = false := by with_unfolding_all rfl) :
    Ev X W Γ rBool (.Compare a [op, op'] [b, d] pos) (.ok (f u v && g v w)) := by rw [← cond_ok]; exact ev_ch cm cm' ha hb hc hm
theorem tt_chP {op op' : CmpOp} {ra : R X.K α} {rb : R X.K β} {rc : R X.K γ} {f : α → β → Bool} {g : β → γ → Bool} {u : α} {v : β} {w : γ} (cm : Cm X op ra rb f) (cm' : Cm X op' rb rc g) (ha : Ev X W Γ ra a (.ok u)) (hb : Ev X W Γ rb b (.ok v)) (hc : Ev X W Γ rc d (.ok w)) (hm : lastMarks [op, op'] [b, d] = false := by with_unfolding_all rfl) :
    Tt X W Γ (.Compare a [op, op'] [b, d] pos) (.ok (f u v && g v w)) := by rw [← cond_ok]; exact tt_ch cm cm' ha hb hc hm
theorem tw_andP {rest : List Expr} {c d : Bool} (h : Tt X W Γ a (.ok c)) (g : Tw X W Γ (.BoolOp .And (b :: rest) pos) (.ok d)) : Tw X W Γ (.BoolOp .And (a :: b :: rest) pos) (.ok (c && d)) := by rw [← cond_ok]; exact tw_and h g
theorem tw_orP {rest : List Expr} {c d : Bool} (h : Tt X W Γ a (.ok c)) (g : Tw X W Γ (.BoolOp .Or (b :: rest) pos) (.ok d)) : Tw X W Γ (.BoolOp .Or (a :: b :: rest) pos) (.ok (c || d)) := by rw [← cond_ok2]; exact tw_or h g
theorem ev_andP {rest : List Expr} {c d : Bool} (h : Ev X W Γ rBool a (.ok c)) (g : Ev X W Γ rBool (.BoolOp .And (b :: rest) pos) (.ok d)) : Ev X W Γ rBool (.BoolOp .And (a :: b :: rest) pos) (.ok (c && d)) := by rw [← cond_ok]; exact ev_andB h g
theorem ev_orP {rest : List Expr} {c d : Bool} (h : Ev X W Γ rBool a (.ok c)) (g : Ev X W Γ rBool (.BoolOp .Or (b :: rest) pos) (.ok d)) : Ev X W Γ rBool (.BoolOp .Or (a :: b :: rest) pos) (.ok (c || d)) := by rw [← cond_ok2]; exact ev_orB h g
theorem ev_ifP {c0 : Expr} {r : R X.K α} {c : Bool} {ma mb : M α} (hc : Tt X W Γ c0 (.ok c)) (ha : Ev X W Γ r a ma) (hb : Ev X W Γ r b mb) : Ev X W Γ r (.IfExp c0 a b pos) (cond c ma mb) := ev_if hc ha hb
theorem ev_tup2P {r : R X.K α} {s : R X.K β} {u : α} {v : β} {k0} (ha : Ev X W Γ r a (.ok u)) (hb : Ev X W Γ s b (.ok v)) (hs : starEach [a, b] X.env = (false, eval a X.env) :: starEach [b] X.env := by exact star_ns rfl) (hs2 : starEach [b] X.env = (false, eval b X.env) :: starEach [] X.env := by exact star_ns rfl) :
    Ev X W Γ (rTup2 r s) (.Tuple [a, b] k0 pos) (.ok (u, v)) := ev_tup2 ha hb hs hs2
theorem ev_tup3P {r : R X.K α} {s : R X.K β} {t : R X.K γ} {u : α} {v : β} {w : γ} {k0} (ha : Ev X W Γ r a (.ok u)) (hb : Ev X W Γ s b (.ok v)) (hc : Ev X W Γ t d (.ok w)) (hs : starEach [a, b, d] X.env = (false, eval a X.env) :: starEach [b, d] X.env := by exact star_ns rfl)
    (hs2 : starEach [b, d] X.env = (false, eval b X.env) :: starEach [d] X.env := by exact star_ns rfl) (hs3 : starEach [d] X.env = (false, eval d X.env) :: starEach [] X.env := by exact star_ns rfl) : Ev X W Γ (rTup3 r s t) (.Tuple [a, b, d] k0 pos) (.ok (u, v, w)) := ev_tup3 ha hb hc hs hs2 hs3
section
variable {es : List Expr} {e : Expr} {r : R X.K α}
theorem ag_cP {t : RA X.K A} {u : α} {n : A} (h : Ev X W Γ r e (.ok u)) (g : Ag X W Γ t es (.ok n)) (hs : starEach (e :: es) X.env = (false, eval e X.env) :: starEach es X.env := by exact star_ns rfl) : Ag X W Γ (raC r t) (e :: es) (.ok (u, n)) := ag_c h g hs
theorem ag_lP {t : RA X.K A} {u : List α} {n : A} (h : El X W Γ r e (.ok u)) (g : Ag X W Γ t es (.ok n)) (hs : starEach (e :: es) X.env = (false, eval e X.env) :: starEach es X.env := by exact star_ns rfl) : Ag X W Γ (raL r t) (e :: es) (.ok (u, n)) := ag_l h g hs
theorem ah_cP {u : α} {n : List α} (h : Ev X W Γ r e (.ok u)) (g : Ag X W Γ (raH r) es (.ok n)) (hs : starEach (e :: es) X.env = (false, eval e X.env) :: starEach es X.env := by exact star_ns rfl) : Ag X W Γ (raH r) (e :: es) (.ok (u :: n)) := ah_c h g hs
theorem ev_vtupP {xs : List α} {k0} (h : Ag X W Γ (raH r) es (.ok xs)) (hl : lenOk xs.length = true := by exact len_lit (Nat.le_of_ble_eq_true rfl)) : Ev X W Γ (rVTup r) (.Tuple es k0 pos) (.ok xs) := by
  have q := ev_vtup (pos := pos) (k0 := k0) h
  rw [M.bind_ok, hl] at q
  exact q
theorem nw_lstP {xs : List α} (h : Ag X W Γ (raH r) es (.ok xs)) (hl : lenOk xs.length = true := by exact len_lit (Nat.le_of_ble_eq_true rfl)) : Nw X W Γ r (.List es pos) (.ok xs) := by
  have q := nw_lst (pos := pos) h
  rw [M.bind_ok, hl] at q
  exact q
theorem ev_callP {x : Str} {k : Nat} {ra : RA X.K A} {rr : R X.K ρ} {g : A → M ρ} {u : A} (D : Df X.prog X.w X.K X.mg X.base k x ra (rtF rr) g) (hr : Room k X.A) (ha : Ag X W Γ ra (e :: es) (.ok u)) (hg : Gl X x := by rfl)
    (hdb : (x == ("__debug__" : Str)) = false := by decide) (he : starEach (e :: es) X.env = (false, eval e X.env) :: starEach es X.env := by exact star_ns rfl) (hpl : (backTo pos (starEach es X.env)).any (·.1) = false := by exact back_ns rfl) :
    Ev X W Γ rr (.Call (.Name x p0) (e :: es) [] pos) (g u) := ev_call D hr ha hg hdb he hpl
theorem nw_callP {x : Str} {k : Nat} {ra : RA X.K A} {rr : R X.K ρ} {g : A → M (List ρ)} {u : A} (D : Df X.prog X.w X.K X.mg X.base k x ra (rtN rr) g) (hr : Room k X.A) (ha : Ag X W Γ ra (e :: es) (.ok u)) (hg : Gl X x := by rfl)
    (hdb : (x == ("__debug__" : Str)) = false := by decide) (he : starEach (e :: es) X.env = (false, eval e X.env) :: starEach es X.env := by exact star_ns rfl) (hpl : (backTo pos (starEach es X.env)).any (·.1) = false := by exact back_ns rfl) :
    Nw X W Γ rr (.Call (.Name x p0) (e :: es) [] pos) (g u) := nw_call D hr ha hg hdb he hpl
theorem ev_ixLP {u : List α} (ha : El X W Γ r a (.ok u)) (hb : Ev X W Γ rInt b (.ok x)) (hs : PlainIx b := by exact fun _ _ => rfl) : Ev X W Γ r (.Subscript a b pos) (idx u x) := ev_ixL ha hb hs
theorem ev_ixTP {u : List α} (ha : Ev X W Γ (rVTup r) a (.ok u)) (hb : Ev X W Γ rInt b (.ok x)) (hs : PlainIx b := by exact fun _ _ => rfl) : Ev X W Γ r (.Subscript a b pos) (idx u x) := ev_ixT ha hb hs
theorem ev_ixSP {u : List Int} (ha : Ev X W Γ rScr a (.ok u)) (hb : Ev X W Γ rInt b (.ok x)) (hs : PlainIx b := by exact fun _ _ => rfl) : Ev X W Γ rInt (.Subscript a b pos) (idx u x) := ev_ixS ha hb hs
theorem ev_fstP {s : R X.K β} {u : α × β} {j p0} (ha : Ev X W Γ (rTup2 r s) a (.ok u)) : Ev X W Γ r (.Subscript a (.Constant (.int 0) j p0) pos) (.ok u.1) := ev_fst ha
theorem ev_sndP {s : R X.K β} {u : α × β} {j p0} (ha : Ev X W Γ (rTup2 r s) a (.ok u)) : Ev X W Γ s (.Subscript a (.Constant (.int 1) j p0) pos) (.ok u.2) := ev_snd ha
theorem ev_t30P {s : R X.K β} {t : R X.K γ} {u : α × β × γ} {j p0} (ha : Ev X W Γ (rTup3 r s t) a (.ok u)) : Ev X W Γ r (.Subscript a (.Constant (.int 0) j p0) pos) (.ok u.1) := ev_t30 ha
theorem ev_t31P {s : R X.K β} {t : R X.K γ} {u : α × β × γ} {j p0} (ha : Ev X W Γ (rTup3 r s t) a (.ok u)) : Ev X W Γ s (.Subscript a (.Constant (.int 1) j p0) pos) (.ok u.2.1) := ev_t31 ha
theorem ev_t32P {s : R X.K β} {t : R X.K γ} {u : α × β × γ} {j p0} (ha : Ev X W Γ (rTup3 r s t) a (.ok u)) : Ev X W Γ t (.Subscript a (.Constant (.int 2) j p0) pos) (.ok u.2.2) := ev_t32 ha
theorem po_sP (h : Ev X W Γ rInt e (.ok x)) : Po X W Γ (some e) (.ok (some x)) := po_s h
theorem nw_slLP {lo hi : Option Expr} {u : List α} {i j : Option Int} (ha : El X W Γ r a (.ok u)) (hl : Po X W Γ lo (.ok i)) (hh : Po X W Γ hi (.ok j)) : Nw X W Γ r (.Subscript a (.Slice lo hi none p2) pos) (.ok (cut u i j)) := nw_slL ha hl hh
theorem ev_slTP {lo hi : Option Expr} {u : List α} {i j : Option Int} (ha : Ev X W Γ (rVTup r) a (.ok u)) (hl : Po X W Γ lo (.ok i)) (hh : Po X W Γ hi (.ok j)) : Ev X W Γ (rVTup r) (.Subscript a (.Slice lo hi none p2) pos) (.ok (cut u i j)) := ev_slT ha hl hh
theorem nw_revP {u : List α} {k1 p1 p2 p3} (ha : El X W Γ r a (.ok u)) : Nw X W Γ r (.Subscript a (.Slice none none (some (.UnaryOp .USub (.Constant (.int 1) k1 p1) p2)) p3) pos) (.ok u.reverse) := nw_rev ha
theorem nw_catP {u v : List α} (ha : El X W Γ r a (.ok u)) (hb : El X W Γ r b (.ok v)) : Nw X W Γ r (.BinOp a .Add b pos) (catL u v) := nw_cat ha hb
theorem ev_catTP {u v : List α} (ha : Ev X W Γ (rVTup r) a (.ok u)) (hb : Ev X W Γ (rVTup r) b (.ok v)) : Ev X W Γ (rVTup r) (.BinOp a .Add b pos) (catL u v) := ev_catT ha hb
theorem ev_lenP {u : List α} (hm : X.mg "len" = none) (ha : El X W Γ r a (.ok u)) (hg : Gl X "len" := by rfl) (hs : starEach [a] X.env = (false, eval a X.env) :: starEach [] X.env := by exact star_ns rfl) : Ev X W Γ rInt (.Call (.Name "len" p0) [a] [] pos) (.ok (u.length : Int)) := ev_len hm ha hg hs
theorem ev_lenTP {u : List α} (hm : X.mg "len" = none) (ha : Ev X W Γ (rVTup r) a (.ok u)) (hg : Gl X "len" := by rfl) (hs : starEach [a] X.env = (false, eval a X.env) :: starEach [] X.env := by exact star_ns rfl) : Ev X W Γ rInt (.Call (.Name "len" p0) [a] [] pos) (.ok (u.length : Int)) := ev_lenT hm ha hg hs
theorem ev_lenSP {u : List Int} (hm : X.mg "len" = none) (ha : Ev X W Γ rScr a (.ok u)) (hg : Gl X "len" := by rfl) (hs : starEach [a] X.env = (false, eval a X.env) :: starEach [] X.env := by exact star_ns rfl) : Ev X W Γ rInt (.Call (.Name "len" p0) [a] [] pos) (.ok (u.length : Int)) := ev_lenS hm ha hg hs
theorem ev_absP (hm : X.mg "abs" = none) (ha : Ev X W Γ rInt a (.ok x)) (hg : Gl X "abs" := by rfl) (hs : starEach [a] X.env = (false, eval a X.env) :: starEach [] X.env := by exact star_ns rfl) : Ev X W Γ rInt (.Call (.Name "abs" p0) [a] [] pos) (.ok (absI x)) := ev_abs hm ha hg hs
theorem ev_intBP {k : Bool} (hm : X.mg "int" = none) (ha : Ev X W Γ rBool a (.ok k)) (hg : Gl X "int" := by rfl) (hs : starEach [a] X.env = (false, eval a X.env) :: starEach [] X.env := by exact star_ns rfl) : Ev X W Γ rInt (.Call (.Name "int" p0) [a] [] pos) (.ok (cond k 1 0)) := ev_intB hm ha hg hs
theorem nw_lcP {own : List (Str × Nat)} {tg iter elt cnd : Expr} {r' : R X.K β} {scope : Scope} {u : List α} {p : α → M Bool} {f : α → M β} {Γt : α → En X.K} (C : Cok X) (ok : BlkOk X.N X.env.scope scope own) (hi : Iv X true W Γ r tg iter (.ok u))
    (ht : ∀ s H0 Ca cl fp, Tg (blkX X scope s H0 Ca cl fp) (own.map (·.2)) (bor Γ (own.map (·.2))) r tg Γt)
    (hp : ∀ s H0 Ca cl fp x, Tt (blkX X scope s H0 Ca cl fp) W0 (Γt x) cnd (p x))
    (he : ∀ s H0 Ca cl fp x, Ev (blkX X scope s H0 Ca cl fp) W0 (Γt x) r' elt (f x)) (hs : ∀ x, foldedSetIterable iter X.env x = pure x := by intro _; rfl) :
    Nw X W Γ r' (.ListComp elt [⟨tg, iter, [cnd], 0⟩] scope pos) ((M.lc p f u).bind fun ys => M.grd (lenOk ys.length) (.ok ys)) := nw_lc C ok hi ht hp he hs
theorem nw_mapP {own : List (Str × Nat)} {tg iter elt : Expr} {r' : R X.K β} {scope : Scope} {u : List α} {f : α → M β} {Γt : α → En X.K} (C : Cok X) (ok : BlkOk X.N X.env.scope scope own) (hi : Iv X true W Γ r tg iter (.ok u))
    (ht : ∀ s H0 Ca cl fp, Tg (blkX X scope s H0 Ca cl fp) (own.map (·.2)) (bor Γ (own.map (·.2))) r tg Γt)
    (he : ∀ s H0 Ca cl fp x, Ev (blkX X scope s H0 Ca cl fp) W0 (Γt x) r' elt (f x)) (hs : ∀ x, foldedSetIterable iter X.env x = pure x := by intro _; rfl) :
    Nw X W Γ r' (.ListComp elt [⟨tg, iter, [], 0⟩] scope pos) ((M.map f u).bind fun ys => M.grd (lenOk ys.length) (.ok ys)) := nw_map C ok hi ht he hs
/-! walks -/
theorem iv_r1P {g : Bool} {tg : Expr} {n : Int} (hm : X.mg "range" = none) (h : Ev X W Γ rInt a (.ok n)) (hg : Gl X "range" := by rfl) (hs : starEach [a] X.env = [(false, eval a X.env)] := by exact star_1 rfl) : Iv X g W Γ rInt tg (.Call (.Name "range" p0) [a] [] pos) (M.grd (rgOk n) (.ok (rng 0 n))) := iv_r1 hm h hg hs
theorem iv_r1C {g : Bool} {tg : Expr} {n : Int} (hm : X.mg "range" = none) (h : Ev X W Γ rInt a (.ok n)) (hc : rgOk n = true := by decide) (hg : Gl X "range" := by rfl) (hs : starEach [a] X.env = [(false, eval a X.env)] := by exact star_1 rfl) : Iv X g W Γ rInt tg (.Call (.Name "range" p0) [a] [] pos) (.ok (rng 0 n)) := by
  have q := iv_r1 (g := g) (tg := tg) (p0 := p0) (pos := pos) hm h hg hs
  rw [M.bind_ok, hc] at q
  exact q
theorem iv_r2P {g : Bool} {tg : Expr} {i j : Int} (hm : X.mg "range" = none) (h : Ev X W Γ rInt a (.ok i)) (h2 : Ev X W Γ rInt b (.ok j)) (hg : Gl X "range" := by rfl) (hs : starEach [a, b] X.env = [(false, eval a X.env), (false, eval b X.env)] := by exact star_2 rfl rfl) (hs2 : starEach [b] X.env = [(false, eval b X.env)] := by exact star_1 rfl) :
    Iv X g W Γ rInt tg (.Call (.Name "range" p0) [a, b] [] pos) (M.grd (rgOk i && rgOk j) (.ok (rng i j))) := iv_r2 hm h h2 hg hs hs2
theorem iv_r2C {g : Bool} {tg : Expr} {i j : Int} (hm : X.mg "range" = none) (h : Ev X W Γ rInt a (.ok i)) (h2 : Ev X W Γ rInt b (.ok j)) (hc : (rgOk i && rgOk j) = true := by decide) (hg : Gl X "range" := by rfl) (hs : starEach [a, b] X.env = [(false, eval a X.env), (false, eval b X.env)] := by exact star_2 rfl rfl) (hs2 : starEach [b] X.env = [(false, eval b X.env)] := by exact star_1 rfl) :
    Iv X g W Γ rInt tg (.Call (.Name "range" p0) [a, b] [] pos) (.ok (rng i j)) := by
  have q := iv_r2 (g := g) (tg := tg) (p0 := p0) (pos := pos) hm h h2 hg hs hs2
  rw [M.bind_ok, M.bind_ok, hc] at q
  exact q
theorem iv_enP {g : Bool} {u : List α} {es : List Expr} {k0 : Nat} {tpos : Pos} (hm : X.mg "enumerate" = none) (h : Ev X W Γ (rList r) a (.ok u)) (hg : Gl X "enumerate" := by rfl) (hs : starEach [a] X.env = [(false, eval a X.env)] := by exact star_1 rfl) :
    Iv X g W Γ (rTup2 rInt r) (.Tuple es k0 tpos) (.Call (.Name "enumerate" p0) [a] [] pos) (.ok (enumL u)) := iv_en hm h hg hs
theorem iv_revP {g : Bool} {tg : Expr} {u : List α} (hm : X.mg "reversed" = none) (h : Ev X W Γ (rList r) a (.ok u)) (hg : Gl X "reversed" := by rfl) (hs : starEach [a] X.env = [(false, eval a X.env)] := by exact star_1 rfl) : Iv X g W Γ r tg (.Call (.Name "reversed" p0) [a] [] pos) (.ok u.reverse) := iv_rev hm h hg hs
end
end
/-! statements with plain parts -/
section
variable {α β γ A ρ S L : Type} {X : Cx} {Γ : En X.K} {c : Ct X L ρ} {Γ' : S → En X.K} {ss : List Stmt} {e e2 : Expr} {pos pos' p1 p2 : Pos} {i : Nat} {x : Str} {k : Bool} {a b : List Stmt}
theorem rb_ifrP {ma m2 : M ρ} (hc : Tt X c.W Γ e (.ok k)) (ha : Rb X c Γ a ma) (h2 : Rb X c Γ ss m2) (le : SLe Γ c.Γe) : Rb X c Γ (.If e a [] pos :: ss) (cond k ma m2) := rb_ifr hc ha h2 le
theorem bk_ifrP {ma : M ρ} {m2 : M (Fl S L ρ)} (hc : Tt X c.W Γ e (.ok k)) (ha : Rb X c Γ a ma) (h2 : Bk X c Γ Γ' ss m2) (le : SLe Γ c.Γe) : Bk X c Γ Γ' (.If e a [] pos :: ss) (cond k (ma.bind fun y => .ok (.rt y)) m2) := bk_ifr hc ha h2 le
/-- .. and the value handed back is plain -/
theorem bk_ifrQ {mc : M Bool} {y : ρ} {m2 : M (Fl S L ρ)} (hc : Tt X c.W Γ e mc) (ha : Rb X c Γ a (.ok y)) (h2 : Bk X c Γ Γ' ss m2) (le : SLe Γ c.Γe) : Bk X c Γ Γ' (.If e a [] pos :: ss) (mc.bind fun k => cond k (.ok (.rt y)) m2) := bk_ifr hc ha h2 le
theorem bk_ifrR {y : ρ} {m2 : M (Fl S L ρ)} (hc : Tt X c.W Γ e (.ok k)) (ha : Rb X c Γ a (.ok y)) (h2 : Bk X c Γ Γ' ss m2) (le : SLe Γ c.Γe) : Bk X c Γ Γ' (.If e a [] pos :: ss) (cond k (.ok (.rt y)) m2) := bk_ifr hc ha h2 le
theorem bk_of_rbP {y : ρ} (h : Rb X c Γ ss (.ok y)) : Bk X c Γ Γ' ss (.ok (.rt y)) := bk_of_rb h
theorem rs_ifP {ma mb : M ρ} (hc : Tt X c.W Γ e (.ok k)) (ha : Rb X c Γ a ma) (hb : Rb X c Γ b mb) (le : SLe Γ c.Γe) : Rs X c Γ (.If e a b pos) (cond k ma mb) := rs_if hc ha hb le
theorem ns_ifP {ma mb : M S} (hc : Tt X c.W Γ e (.ok k)) (ha : Nb X c Γ Γ' a ma) (hb : Nb X c Γ Γ' b mb) (le : SLe Γ c.Γe) : Ns X c Γ Γ' (.If e a b pos) (cond k ma mb) := ns_if hc ha hb le
theorem ns_forP {tg iter : Expr} {body : List Stmt} {vs : List Nat} {r : R X.K α} {u : List α} {Γh : S → En X.K} {Γt : S → α → En X.K} {s0 : S} {f : S → α → M S} (C : Cok X) (hi : Iv X false c.W Γ r tg iter (.ok u)) (ht : ∀ s, Tg X vs (Γh s) r tg (Γt s)) (hb : ∀ s x, Nb X c (Γt s x) Γh body (f s x)) (h0 : SLe Γ (Γh s0)) (le : SLe Γ c.Γe)
    (hs : ∀ x, foldedSetIterable iter X.env x = pure x := by intro _; rfl) : Ns X c Γ Γh (.For tg iter body [] pos) (M.fold f u s0) := ns_for C hi ht hb h0 le hs
theorem bs_forP {tg iter : Expr} {body : List Stmt} {vs : List Nat} {r : R X.K α} {u : List α} {Γh : S → En X.K} {Γt : S → α → En X.K} {s0 : S} {f : S → α → M (Fl S S ρ)} (C : Cok X) (hi : Iv X false c.W Γ r tg iter (.ok u)) (ht : ∀ s, Tg X vs (Γh s) r tg (Γt s)) (hb : ∀ s x, Bk X (c.inl Γh) (Γt s x) Γh body (f s x)) (h0 : SLe Γ (Γh s0)) (le : SLe Γ c.Γe)
    (hs : ∀ x, foldedSetIterable iter X.env x = pure x := by intro _; rfl) (hrt : ∃ r' : R X.K ρ, c.rt = rtF r') : Bs X c Γ Γh (.For tg iter body [] pos) (M.loop f u s0) := bs_for C hi ht hb h0 le hs hrt
theorem ns_appP (i : Nat) {r : R X.K α} {xs : List α} {u : α} (h : Ev X c.W Γ r e (.ok u)) (le : SLe Γ c.Γe) (hΓ : Γ[i]? = some (.ow r xs) := by rfl) (hN : X.N[i]? = some x := by rfl) (hv : Vis X.env.scope x := by first | exact Or.inl rfl | exact Or.inr (Or.inl rfl) | exact Or.inr (Or.inr rfl))
    (hd : (x == ("__debug__" : Str)) = false := by decide) (hcd : (x == ("__classdict__" : Str)) = false := by decide)
    (hst : starEach [e] X.env = (false, eval e X.env) :: starEach [] X.env := by exact star_ns rfl) (hpl : (backTo pos' (starEach [] X.env)).any (·.1) = false := by exact back_ns rfl)
    (hb : attributeBase (.Name x p1) "append" X.env (eval (.Name x p1) X.env) = eval (.Name x p1) X.env := by rfl)
    (hfew : ((backTo pos' (starEach [e] X.env)).all (fun x => !x.1) && (backToKw pos' (keywordEach [] X.env)).all (fun x => x.1.isSome)
      && decide ([e].length + ([] : List Keyword).length + (if ([] : List Keyword).isEmpty then 0 else 1) < 30)) = true := by exact few_1 rfl) (hline : (p2.endLine == pos'.line) = true := by rfl) :
    Ns X c Γ (fun ys => Γ.set i (.ow r ys)) (.Expr (.Call (.Attribute (.Name x p1) "append" p2) [e] [] pos') pos) (appL xs u) := ns_app i h le hΓ hN hv hd hcd hst hpl hb hfew hline
theorem ns_stP (i : Nat) {r : R X.K α} {xs : List α} {u : α} {j : Int} (h : Ev X c.W Γ r e (.ok u)) (hj : Ev X c.W Γ rInt e2 (.ok j)) (le : SLe Γ c.Γe) (hΓ : Γ[i]? = some (.ow r xs) := by rfl) (hN : X.N[i]? = some x := by rfl) (hv : Vis X.env.scope x := by first | exact Or.inl rfl | exact Or.inr (Or.inl rfl) | exact Or.inr (Or.inr rfl))
    (hd : (x == ("__debug__" : Str)) = false := by decide) (hcd : (x == ("__classdict__" : Str)) = false := by decide)
    (hs : swapsWithSole [.Subscript (.Name x p1) e2 p2] e pos.line X.env = pure false := by rfl) (hw : swappedStores [.Subscript (.Name x p1) e2 p2] e X.env = pure none := by rfl)
    (ha : ∀ v, assign (.Subscript (.Name x p1) e2 p2) X.env v = (do
      let ov ← holding [v] (eval (.Name x p1) X.env)
      let iv ← holding [v, ov] (eval e2 X.env)
      standAt p2
      holding [v, ov, iv] (setItem ov iv v)
      release [v, ov, iv] []) := by intro _; rfl) (h1 : (assignEach [.Subscript (.Name x p1) e2 p2] X.env).map (·.2) = [assign (.Subscript (.Name x p1) e2 p2) X.env] := by rfl) :
    Ns X c Γ (fun ys => Γ.set i (.ow r ys)) (.Assign [.Subscript (.Name x p1) e2 p2] e pos) (setL xs j u) := ns_st i h hj le hΓ hN hv hd hcd hs hw ha h1
theorem bs_ifP {ma mb : M (Fl S L ρ)} (hc : Tt X c.W Γ e (.ok k)) (ha : Bk X c Γ Γ' a ma) (hb : Bk X c Γ Γ' b mb) (le : SLe Γ c.Γe) : Bs X c Γ Γ' (.If e a b pos) (cond k ma mb) := bs_if hc ha hb le
end
end PL
end
section
set_option maxRecDepth 100000
namespace PL
open PySem L2
/-! ### in -/
section
variable {K : PySem.W.Frag} {α : Type} [DecidableEq α]
structure FlatR (r : R K α) : Prop where
  fl : ∀ {F v x}, r.rep F v x → flatV v = true
  eq : ∀ {F F' v w x y}, r.rep F v x → r.rep F' w y → eqV v w = decide (x = y)
theorem flat_int : FlatR (rInt (K := K)) := ⟨fun {_ v x} h => by rw [show v = .int x from h]; rfl, fun {_ _ v w x y} h g => by rw [show v = .int x from h, show w = .int y from g]; show (x == y) = _; rw [Bool.eq_iff_iff]; simp⟩
theorem flat_str : FlatR (rStr (K := K)) := ⟨fun {_ v x} h => by rw [show v = .str x from h]; rfl, fun {_ _ v w x y} h g => by rw [show v = .str x from h, show w = .str y from g]; show (x == y) = _; rw [Bool.eq_iff_iff]; simp⟩
theorem flat_bool : FlatR (rBool (K := K)) := ⟨fun {_ v x} h => by rw [show v = .bl x from h]; rfl, fun {_ _ v w x y} h g => by rw [show v = .bl x from h, show w = .bl y from g]; show (x == y) = _; rw [Bool.eq_iff_iff]; simp⟩
theorem FlatR.all {r : R K α} (f : FlatR r) {F : Hp} : ∀ {vs : List V} {xs : List α}, Paired (r.rep F) vs xs → vs.all flatV = true
  | _, _, .nil => rfl
  | _, _, .cons h t => by rw [List.all_cons, f.fl h, f.all t]; rfl
theorem FlatR.inV {r : R K α} (f : FlatR r) {F F' : Hp} {v : V} {x : α} (hx : r.rep F' v x) : ∀ {vs : List V} {xs : List α}, Paired (r.rep F) vs xs → inV v vs = decide (x ∈ xs)
  | _, _, .nil => by simp [L2.inV]
  | _, _, @Paired.cons _ _ _ w y _ _ h t => by
    have ih := f.inV hx t
    unfold L2.inV at ih ⊢
    rw [List.any_cons, f.eq h hx, ih, Bool.eq_iff_iff]
    simp only [Bool.or_eq_true, decide_eq_true_eq, List.mem_cons]
    exact ⟨fun z => z.elim (fun e => .inl e.symm) .inr, fun z => z.elim (fun e => .inl e.symm) .inr⟩
end
section
variable {X : Cx} {W : WX} {Γ : En X.K} {α β γ δ A ρ S L : Type} {pos p0 p1 p2 : Pos} {σ : St} {H F : Hp} {Q : VK} {a b c e : Expr}
theorem cm_inT [DecidableEq α] {r : R X.K α} (f : FlatR r) : Cm X .In r (rVTup r) (fun x ys => decide (x ∈ ys)) := ⟨_, op_in_seq, fun {_ _ _ _ _ v w x y} s p q k => by
  obtain ⟨a, vs, rfl, q1, r1⟩ := q
  refine ⟨a, vs, rfl, .inr (Same.tq s q1), f.fl p, f.all r1, ?_⟩
  rw [if_neg Bool.false_ne_true, f.inV p r1]
  exact KO.now k s rfl⟩
theorem cm_ninT [DecidableEq α] {r : R X.K α} (f : FlatR r) : Cm X .NotIn r (rVTup r) (fun x ys => !decide (x ∈ ys)) := ⟨_, op_notIn_seq, fun {_ _ _ _ _ v w x y} s p q k => by
  obtain ⟨a, vs, rfl, q1, r1⟩ := q
  refine ⟨a, vs, rfl, .inr (Same.tq s q1), f.fl p, f.all r1, ?_⟩
  rw [if_pos rfl, f.inV p r1]
  exact KO.now k s rfl⟩
theorem cm_inL [DecidableEq α] {r : R X.K α} (f : FlatR r) : Cm X .In r (rList r) (fun x ys => decide (x ∈ ys)) := ⟨_, op_in_seq, fun {_ _ _ _ _ v w x y} s p q k => by
  obtain ⟨a, vs, rfl, q1, r1⟩ := q
  refine ⟨a, vs, rfl, .inl (.of (s _ _ q1)), f.fl p, f.all r1, ?_⟩
  rw [if_neg Bool.false_ne_true, f.inV p r1]
  exact KO.now k s rfl⟩
theorem cm_ninL [DecidableEq α] {r : R X.K α} (f : FlatR r) : Cm X .NotIn r (rList r) (fun x ys => !decide (x ∈ ys)) := ⟨_, op_notIn_seq, fun {_ _ _ _ _ v w x y} s p q k => by
  obtain ⟨a, vs, rfl, q1, r1⟩ := q
  refine ⟨a, vs, rfl, .inl (.of (s _ _ q1)), f.fl p, f.all r1, ?_⟩
  rw [if_pos rfl, f.inV p r1]
  exact KO.now k s rfl⟩
theorem cm_inTI : Cm X .In rInt (rVTup rInt) (fun x ys => decide (x ∈ ys)) := cm_inT flat_int
theorem cm_inTS : Cm X .In rStr (rVTup rStr) (fun x ys => decide (x ∈ ys)) := cm_inT flat_str
theorem cm_ninTI : Cm X .NotIn rInt (rVTup rInt) (fun x ys => !decide (x ∈ ys)) := cm_ninT flat_int
theorem cm_ninTS : Cm X .NotIn rStr (rVTup rStr) (fun x ys => !decide (x ∈ ys)) := cm_ninT flat_str
theorem cm_inLI : Cm X .In rInt (rList rInt) (fun x ys => decide (x ∈ ys)) := cm_inL flat_int
theorem cm_inLS : Cm X .In rStr (rList rStr) (fun x ys => decide (x ∈ ys)) := cm_inL flat_str
theorem cm_ninLI : Cm X .NotIn rInt (rList rInt) (fun x ys => !decide (x ∈ ys)) := cm_ninL flat_int
theorem cm_ninLS : Cm X .NotIn rStr (rList rStr) (fun x ys => !decide (x ∈ ys)) := cm_ninL flat_str
/-- x in a list of one's own -/
theorem ev_inF [DecidableEq α] {r : R X.K α} (f : FlatR r) {ma : M α} {mb : M (List α)} (ha : Ev X W Γ r a ma) (hb : El X W Γ r b mb) (hm : behindInMarks .In b = false := by first | exact nomark _ | rfl) : Ev X W Γ rBool (.Compare a [.In] [b] pos) (ma.bind fun x => mb.bind fun ys => .ok (decide (x ∈ ys))) := fun tk σ B F0 H F Q en k =>
  PE.w (pe_cmpR op_in_seq pe_w pe_w hm) <| ha tk σ B F0 H F _ en <| KO.bnd kkO k fun x v H1 F1 e1 r1 k1 =>
    hb tk σ B F0 H1 F1 _ (en.ext e1) <| KL.bnd kkO k1 fun ys p vs H2 F2 e2 q2 r2 k2 => by
      refine ⟨p, vs, rfl, .inl (.of q2), f.fl r1, f.all r2, ?_⟩
      rw [if_neg Bool.false_ne_true, f.inV r1 r2]
      exact KO.now k2 e2.fh rfl
theorem ev_ninF [DecidableEq α] {r : R X.K α} (f : FlatR r) {ma : M α} {mb : M (List α)} (ha : Ev X W Γ r a ma) (hb : El X W Γ r b mb) (hm : behindInMarks .NotIn b = false := by first | exact nomark _ | rfl) : Ev X W Γ rBool (.Compare a [.NotIn] [b] pos) (ma.bind fun x => mb.bind fun ys => .ok (!decide (x ∈ ys))) := fun tk σ B F0 H F Q en k =>
  PE.w (pe_cmpR op_notIn_seq pe_w pe_w hm) <| ha tk σ B F0 H F _ en <| KO.bnd kkO k fun x v H1 F1 e1 r1 k1 =>
    hb tk σ B F0 H1 F1 _ (en.ext e1) <| KL.bnd kkO k1 fun ys p vs H2 F2 e2 q2 r2 k2 => by
      refine ⟨p, vs, rfl, .inl (.of q2), f.fl r1, f.all r2, ?_⟩
      rw [if_pos rfl, f.inV r1 r2]
      exact KO.now k2 e2.fh rfl
theorem tt_inF [DecidableEq α] {r : R X.K α} (f : FlatR r) {ma : M α} {mb : M (List α)} (ha : Ev X W Γ r a ma) (hb : El X W Γ r b mb) (hm : behindInMarks .In b = false := by first | exact nomark _ | rfl) : Tt X W Γ (.Compare a [.In] [b] pos) (ma.bind fun x => mb.bind fun ys => .ok (decide (x ∈ ys))) := fun tk σ B F0 H F Q en k =>
  PT.w (pt_cmpR op_in_seq pe_w pe_w hm) <| ha tk σ B F0 H F _ en <| KO.bnd kkT k fun x v H1 F1 e1 r1 k1 =>
    hb tk σ B F0 H1 F1 _ (en.ext e1) <| KL.bnd kkT k1 fun ys p vs H2 F2 e2 q2 r2 k2 => by
      refine ⟨p, vs, rfl, .inl (.of q2), f.fl r1, f.all r2, ?_⟩
      rw [if_neg Bool.false_ne_true, f.inV r1 r2]
      exact ⟨_, rfl, KT.now k2 e2.fh⟩
theorem tt_ninF [DecidableEq α] {r : R X.K α} (f : FlatR r) {ma : M α} {mb : M (List α)} (ha : Ev X W Γ r a ma) (hb : El X W Γ r b mb) (hm : behindInMarks .NotIn b = false := by first | exact nomark _ | rfl) : Tt X W Γ (.Compare a [.NotIn] [b] pos) (ma.bind fun x => mb.bind fun ys => .ok (!decide (x ∈ ys))) := fun tk σ B F0 H F Q en k =>
  PT.w (pt_cmpR op_notIn_seq pe_w pe_w hm) <| ha tk σ B F0 H F _ en <| KO.bnd kkT k fun x v H1 F1 e1 r1 k1 =>
    hb tk σ B F0 H1 F1 _ (en.ext e1) <| KL.bnd kkT k1 fun ys p vs H2 F2 e2 q2 r2 k2 => by
      refine ⟨p, vs, rfl, .inl (.of q2), f.fl r1, f.all r2, ?_⟩
      rw [if_pos rfl, f.inV r1 r2]
      exact ⟨_, rfl, KT.now k2 e2.fh⟩
/-! ### names of the module -/
theorem ev_g {x : Str} {r : R X.K α} {a : α} (hm : ∃ u v, X.mg x = some u ∧ RelV v u ∧ ∀ F, r.rep F v a) (hg : Gl X x := by rfl) (hd : (x == ("__debug__" : Str)) = false := by decide) : Ev X W Γ r (.Name x pos) (.ok a) := fun _ σ B F0 H F Q en k =>
  let ⟨u, v, h1, h2, h3⟩ := hm
  PE.w (pe_glob hg h1 h2 hd) (KO.now k en.fh (h3 F))
/-! ### texts -/
def slS (z : Str) (l h : Option Int) : M Str := M.grd (lenOk z.length) (.ok (cutS z l h))
theorem ev_slS {lo hi : Option Expr} {ma : M Str} {ml mh : M (Option Int)} (ha : Ev X W Γ rStr a ma) (hl : Po X W Γ lo ml) (hh : Po X W Γ hi mh) :
    Ev X W Γ rStr (.Subscript a (.Slice lo hi none p2) pos) (ma.bind fun z => ml.bind fun l => mh.bind fun h => slS z l h) := fun tk σ B F0 H F Q en k =>
  PE.w (pe_slice sl_str pe_w po_w po_w) <| ha tk σ B F0 H F _ en <| KO.bnd kkO k fun z v H1 F1 e1 r1 k1 =>
    hl tk σ B F0 H1 F1 _ (en.ext e1) <| KP.bnd kkO k1 fun l H2 F2 e2 k2 =>
      hh tk σ B F0 H2 F2 _ ((en.ext e1).ext e2) <| KP.bnd kkO k2 fun h H3 F3 e3 k3 => by
        obtain ⟨c, k3⟩ := KO.grd k3
        exact ⟨z, r1, lenOk_le c, KO.now k3 e3.fh rfl⟩
theorem ev_slSP {lo hi : Option Expr} {z : Str} {l h : Option Int} (ha : Ev X W Γ rStr a (.ok z)) (hl : Po X W Γ lo (.ok l)) (hh : Po X W Γ hi (.ok h)) : Ev X W Γ rStr (.Subscript a (.Slice lo hi none p2) pos) (slS z l h) := ev_slS ha hl hh
def idxS (z : Str) (i : Int) : M Str := match atI z.cps.toList i with
  | some c => M.grd (lenOk z.length) (.ok ⟨#[c]⟩)
  | none => .stuck
theorem ev_ixStr {ma : M Str} {mb : M Int} (ha : Ev X W Γ rStr a ma) (hb : Ev X W Γ rInt b mb) (hs : PlainIx b := by exact fun _ _ => rfl) : Ev X W Γ rStr (.Subscript a b pos) (ma.bind fun z => mb.bind fun i => idxS z i) := fun tk σ B F0 H F Q en k =>
  PE.w (pe_ix ix_str pe_w pe_w hs) <| ha tk σ B F0 H F _ en <| KO.bnd kkO k fun z v1 H1 F1 e1 r1 k1 =>
    hb tk σ B F0 H1 F1 _ (en.ext e1) <| KO.bnd kkO k1 fun i w H2 F2 e2 r2 k2 => by
      unfold idxS at k2
      cases q : atI z.cps.toList i with
      | none => rw [q] at k2; exact False.elim k2
      | some c =>
        rw [q] at k2
        obtain ⟨d, k2⟩ := KO.grd k2
        exact ⟨z, i, c, r1, r2, lenOk_le d, q, KO.now k2 e2.fh rfl⟩
theorem ev_ixStrP {z : Str} {i : Int} (ha : Ev X W Γ rStr a (.ok z)) (hb : Ev X W Γ rInt b (.ok i)) (hs : PlainIx b := by exact fun _ _ => rfl) : Ev X W Γ rStr (.Subscript a b pos) (idxS z i) := ev_ixStr ha hb hs
def catS (x y : Str) : M Str := M.grd (lenOk (x.length + y.length)) (.ok (x ++ y))
theorem ev_catS {ma mb : M Str} (ha : Ev X W Γ rStr a ma) (hb : Ev X W Γ rStr b mb) : Ev X W Γ rStr (.BinOp a .Add b pos) (ma.bind fun x => mb.bind fun y => catS x y) := ev_op op_add_str (fun {_ _ _ _ _ _ _ x y} s p q k => by
  obtain ⟨c, k⟩ := KO.grd k
  exact ⟨x, y, p, q, lenOk_le c, KO.now k s rfl⟩) ha hb
theorem ev_catSP {x y : Str} (ha : Ev X W Γ rStr a (.ok x)) (hb : Ev X W Γ rStr b (.ok y)) : Ev X W Γ rStr (.BinOp a .Add b pos) (catS x y) := ev_catS ha hb
def lenS (z : Str) : M Int := M.grd (lenOk z.length) (.ok (z.length : Int))
theorem ev_lenStr {m : M Str} (hm : X.mg "len" = none) (ha : Ev X W Γ rStr a m) (hg : Gl X "len" := by rfl) (hs : starEach [a] X.env = (false, eval a X.env) :: starEach [] X.env := by exact star_ns rfl) : Ev X W Γ rInt (.Call (.Name "len" p0) [a] [] pos) (m.bind fun z => lenS z) :=
  ev_b1 (f := fun z => lenS z) call_len_str PySem.boot_len (by decide) (fun {_ _ _ _ _ v y} s r k => by
    obtain ⟨c, k⟩ := KO.grd k
    exact ⟨y, by rw [show v = .str y from r], lenOk_le c, KO.now k s rfl⟩) ha hm hg (by decide) hs
theorem ev_lenStrP {z : Str} (hm : X.mg "len" = none) (ha : Ev X W Γ rStr a (.ok z)) (hg : Gl X "len" := by rfl) (hs : starEach [a] X.env = (false, eval a X.env) :: starEach [] X.env := by exact star_ns rfl) : Ev X W Γ rInt (.Call (.Name "len" p0) [a] [] pos) (lenS z) := ev_lenStr hm ha hg hs
/-- a text's method of one argument -/
theorem ev_sm1 {nm : Str} {id : String} {rr : V → List V → Hp → VK → Prop} {rb : R X.K β} {rc : R X.K γ} {ma : M Str} {mb : M β} {f : Str → β → M γ} (slot : Slot "str" nm id) (hty : typeOf (.builtin id) = pure (.type "method_descriptor")) (hm : MtR X id rr)
    (hf : ∀ {W σ H F Q w x y}, Same F H → rb.rep F w y → KO X rc W σ H F Q (f x y) → rr (.str x) [w] H Q) (ha : Ev X W Γ rStr a ma) (hb : Ev X W Γ rb b mb)
    (hbase : attributeBase a nm X.env (eval a X.env) = eval a X.env)
    (hfew : ((backTo p1 (starEach [b] X.env)).all (fun x => !x.1) && (backToKw p1 (keywordEach [] X.env)).all (fun x => x.1.isSome)
      && decide ([b].length + ([] : List Keyword).length + (if ([] : List Keyword).isEmpty then 0 else 1) < 30)) = true)
    (hline : (p2.endLine == p1.line) = true) (hs : starEach [b] X.env = (false, eval b X.env) :: starEach [] X.env) (hplain : (backTo p1 (starEach [] X.env)).any (·.1) = false) :
    Ev X W Γ rc (.Call (.Attribute a nm p2) [b] [] p1) (ma.bind fun x => mb.bind fun y => f x y) := fun tk σ B F0 H F Q en k =>
  PE.w (pe_bm PySem.F.plainAttrs_str slot hty hm pe_w (pa_cons pe_w pa_nil hs) hbase hfew hline hs hplain) <| ha tk σ B F0 H F _ en <| KO.bnd kkO k fun x v H1 F1 e1 r1 k1 => by
    have r1 : v = .str x := r1
    subst r1
    exact ⟨rfl, hb tk σ B F0 H1 F1 _ (en.ext e1) <| KO.bnd kkO k1 fun y w H2 F2 e2 r2 k2 => hf e2.fh r2 k2⟩
def remSuf (x y : Str) : M Str := M.grd (lenOk x.length) (.ok (Txt.removesuffix x y))
theorem ev_remSuf {ma mb : M Str} (ha : Ev X W Γ rStr a ma) (hb : Ev X W Γ rStr b mb) (hbase : attributeBase a "removesuffix" X.env (eval a X.env) = eval a X.env := by rfl)
    (hfew : ((backTo p1 (starEach [b] X.env)).all (fun x => !x.1) && (backToKw p1 (keywordEach [] X.env)).all (fun x => x.1.isSome)
      && decide ([b].length + ([] : List Keyword).length + (if ([] : List Keyword).isEmpty then 0 else 1) < 30)) = true := by exact few_1 rfl)
    (hline : (p2.endLine == p1.line) = true := by rfl) (hs : starEach [b] X.env = (false, eval b X.env) :: starEach [] X.env := by exact star_ns rfl) (hplain : (backTo p1 (starEach [] X.env)).any (·.1) = false := by exact back_ns rfl) :
    Ev X W Γ rStr (.Call (.Attribute a "removesuffix" p2) [b] [] p1) (ma.bind fun x => mb.bind fun y => remSuf x y) := ev_sm1 PySem.F.slot_str_removesuffix PySem.F.type_str_removesuffix mt_removesuffix (fun {_ _ _ _ _ w x y} s r k => by
      obtain ⟨c, k⟩ := KO.grd k
      exact ⟨x, y, rfl, by rw [show w = .str y from r], lenOk_le c, KO.now k s rfl⟩) ha hb hbase hfew hline hs hplain
theorem ev_remSufP {x y : Str} (ha : Ev X W Γ rStr a (.ok x)) (hb : Ev X W Γ rStr b (.ok y)) (hbase : attributeBase a "removesuffix" X.env (eval a X.env) = eval a X.env := by rfl)
    (hfew : ((backTo p1 (starEach [b] X.env)).all (fun x => !x.1) && (backToKw p1 (keywordEach [] X.env)).all (fun x => x.1.isSome)
      && decide ([b].length + ([] : List Keyword).length + (if ([] : List Keyword).isEmpty then 0 else 1) < 30)) = true := by exact few_1 rfl)
    (hline : (p2.endLine == p1.line) = true := by rfl) (hs : starEach [b] X.env = (false, eval b X.env) :: starEach [] X.env := by exact star_ns rfl) (hplain : (backTo p1 (starEach [] X.env)).any (·.1) = false := by exact back_ns rfl) :
    Ev X W Γ rStr (.Call (.Attribute a "removesuffix" p2) [b] [] p1) (remSuf x y) := ev_remSuf ha hb hbase hfew hline hs hplain
/-! ### sum, any, all -/
theorem ev_sum {m : M (List Int)} (hc : X.calm = true) (hm : X.mg "sum" = none) (ha : El X W Γ rInt a m) (hg : Gl X "sum" := by rfl) (hs : starEach [a] X.env = (false, eval a X.env) :: starEach [] X.env := by exact star_ns rfl) : Ev X W Γ rInt (.Call (.Name "sum" p0) [a] [] pos) (m.bind fun xs => .ok xs.sum) :=
  ev_bl1 (f := fun xs => .ok xs.sum) (cr_sum hc) PyProof.Rows.boot_sum (by decide) (fun {_ _ _ _ _ p vs y} s q r k => ⟨p, y, rfl, .of (by rw [q, ints_of r]), KO.now k s rfl⟩) ha hm hg (by decide) hs
theorem ev_any {m : M (List Bool)} (hc : X.calm = true) (hm : X.mg "any" = none) (ha : El X W Γ rBool a m) (hg : Gl X "any" := by rfl) (hs : starEach [a] X.env = (false, eval a X.env) :: starEach [] X.env := by exact star_ns rfl) : Ev X W Γ rBool (.Call (.Name "any" p0) [a] [] pos) (m.bind fun xs => .ok (xs.any id)) :=
  ev_bl1 (f := fun xs => .ok (xs.any id)) (cr_any hc) PyProof.Rows.boot_any (by decide) (fun {_ _ _ _ _ p vs y} s q r k => ⟨p, y, rfl, .of (by rw [q, bools_of r]), KO.now k s rfl⟩) ha hm hg (by decide) hs
theorem ev_all {m : M (List Bool)} (hc : X.calm = true) (hm : X.mg "all" = none) (ha : El X W Γ rBool a m) (hg : Gl X "all" := by rfl) (hs : starEach [a] X.env = (false, eval a X.env) :: starEach [] X.env := by exact star_ns rfl) : Ev X W Γ rBool (.Call (.Name "all" p0) [a] [] pos) (m.bind fun xs => .ok (xs.all id)) :=
  ev_bl1 (f := fun xs => .ok (xs.all id)) (cr_all hc) PyProof.Rows.boot_all (by decide) (fun {_ _ _ _ _ p vs y} s q r k => ⟨p, y, rfl, .of (by rw [q, bools_of r]), KO.now k s rfl⟩) ha hm hg (by decide) hs
theorem ev_sumP {x : List Int} (hc : X.calm = true) (hm : X.mg "sum" = none) (ha : El X W Γ rInt a (.ok x)) (hg : Gl X "sum" := by rfl) (hs : starEach [a] X.env = (false, eval a X.env) :: starEach [] X.env := by exact star_ns rfl) : Ev X W Γ rInt (.Call (.Name "sum" p0) [a] [] pos) (.ok x.sum) := ev_sum hc hm ha hg hs
theorem ev_anyP {x : List Bool} (hc : X.calm = true) (hm : X.mg "any" = none) (ha : El X W Γ rBool a (.ok x)) (hg : Gl X "any" := by rfl) (hs : starEach [a] X.env = (false, eval a X.env) :: starEach [] X.env := by exact star_ns rfl) : Ev X W Γ rBool (.Call (.Name "any" p0) [a] [] pos) (.ok (x.any id)) := ev_any hc hm ha hg hs
theorem ev_allP {x : List Bool} (hc : X.calm = true) (hm : X.mg "all" = none) (ha : El X W Γ rBool a (.ok x)) (hg : Gl X "all" := by rfl) (hs : starEach [a] X.env = (false, eval a X.env) :: starEach [] X.env := by exact star_ns rfl) : Ev X W Γ rBool (.Call (.Name "all" p0) [a] [] pos) (.ok (x.all id)) := ev_all hc hm ha hg hs
/-! ### isinstance, of a value whose kind is known -/
def TyR {K : PySem.W.Frag} (r : R K α) (t : String) : Prop := ∀ {H F v x}, Same F H → r.rep F v x → TyX K H v (.type t)
theorem tyx_sq {K : PySem.W.Frag} {H : Hp} {p : Addr} {vs : List V} (h : SqT K H p vs) : TyX K H (.ref p) (.type "tuple") := by
  rcases h with (h | ⟨o, h⟩) | ⟨o, _, _, h, e, _⟩
  · exact .base (.tup h)
  · exact .fTuple h
  · exact .kTuple h e
theorem ty_int {K : PySem.W.Frag} : TyR (rInt (K := K)) "int" := fun {_ _ v x} s h => by rw [show v = .int x from h]; exact .base (.int _)
theorem ty_bool {K : PySem.W.Frag} : TyR (rBool (K := K)) "bool" := fun {_ _ v x} s h => by rw [show v = .bl x from h]; exact .base (.bl _)
theorem ty_str {K : PySem.W.Frag} : TyR (rStr (K := K)) "str" := fun {_ _ v x} s h => by rw [show v = .str x from h]; exact .base (.str _)
theorem ty_none {K : PySem.W.Frag} : TyR (rNone (K := K)) "NoneType" := fun {_ _ v x} s h => by rw [show v = .non from h]; exact .base .non
theorem ty_list {K : PySem.W.Frag} {r : R K α} : TyR (rList r) "list" := fun {_ _ v x} s ⟨p, vs, e, h, _⟩ => by rw [e]; exact .base (.lst (s _ _ h))
theorem ty_vtup {K : PySem.W.Frag} {r : R K α} : TyR (rVTup r) "tuple" := fun {_ _ v x} s ⟨p, vs, e, h, _⟩ => by rw [e]; exact tyx_sq (Same.tq s h)
theorem ty_tup2 {K : PySem.W.Frag} {r : R K α} {t : R K β} : TyR (rTup2 r t) "tuple" := fun {_ _ v x} s ⟨p, _, _, e, h, _⟩ => by rw [e]; exact tyx_sq (Same.tq s h)
theorem ty_tup3 {K : PySem.W.Frag} {r : R K α} {t : R K β} {u : R K γ} : TyR (rTup3 r t u) "tuple" := fun {_ _ v x} s ⟨p, _, _, _, e, h, _⟩ => by rw [e]; exact tyx_sq (Same.tq s h)
theorem ev_isi {cn : Str} {T t : String} {b : Bool} {r : R X.K α} {m : M α} (hm : X.mg "isinstance" = none) (hmc : X.mg cn = none) (hv : bootBuiltins cn = some (.type T)) (ty : TyR r t) (hk : kitB t T = some b) (ha : Ev X W Γ r a m) (hg : Gl X "isinstance" := by rfl) (hgc : Gl X cn := by rfl)
    (hs : starEach [a, .Name cn p1] X.env = (false, eval a X.env) :: starEach [.Name cn p1] X.env := by exact star_ns rfl) (hs2 : starEach [.Name cn p1] X.env = (false, eval (.Name cn p1) X.env) :: starEach [] X.env := by exact star_ns rfl) (hpl : (backTo pos (starEach [.Name cn p1] X.env)).any (·.1) = false := by exact back_ns rfl)
    (hn : cn ≠ "__name__" := by decide) (hd : (cn == ("__debug__" : Str)) = false := by decide) :
    Ev X W Γ rBool (.Call (.Name "isinstance" p0) [a, .Name cn p1] [] pos) (m.bind fun _ => .ok b) := fun tk σ B F0 H F Q en k =>
  PE.w (pe_callB call_isi hg hm PyProof.Rows.boot_isinstance (pa_cons pe_w (pa_cons (pe_bltn hgc hmc hv (v := .ty T) rfl hn hd) pa_nil hs2) hs) (by decide) (by decide) hs hpl) <|
    ha tk σ B F0 H F _ en <| KO.bnd kkO k fun x v H1 F1 e1 r1 k1 => ⟨v, .ty T, .type t, .type T, b, rfl, .ty T, ty e1.fh r1, kit_ty hk, KO.now k1 e1.fh rfl⟩
theorem ev_isiL {cn : Str} {T : String} {b : Bool} {r : R X.K α} {m : M (List α)} (hm : X.mg "isinstance" = none) (hmc : X.mg cn = none) (hv : bootBuiltins cn = some (.type T)) (hk : kitB "list" T = some b) (ha : El X W Γ r a m) (hg : Gl X "isinstance" := by rfl) (hgc : Gl X cn := by rfl)
    (hs : starEach [a, .Name cn p1] X.env = (false, eval a X.env) :: starEach [.Name cn p1] X.env := by exact star_ns rfl) (hs2 : starEach [.Name cn p1] X.env = (false, eval (.Name cn p1) X.env) :: starEach [] X.env := by exact star_ns rfl) (hpl : (backTo pos (starEach [.Name cn p1] X.env)).any (·.1) = false := by exact back_ns rfl)
    (hn : cn ≠ "__name__" := by decide) (hd : (cn == ("__debug__" : Str)) = false := by decide) :
    Ev X W Γ rBool (.Call (.Name "isinstance" p0) [a, .Name cn p1] [] pos) (m.bind fun _ => .ok b) := fun tk σ B F0 H F Q en k =>
  PE.w (pe_callB call_isi hg hm PyProof.Rows.boot_isinstance (pa_cons pe_w (pa_cons (pe_bltn hgc hmc hv (v := .ty T) rfl hn hd) pa_nil hs2) hs) (by decide) (by decide) hs hpl) <|
    ha tk σ B F0 H F _ en <| KL.bnd kkO k fun x p vs H1 F1 e1 q1 r1 k1 => ⟨.ref p, .ty T, .type "list", .type T, b, rfl, .ty T, .base (.lst q1), kit_ty hk, KO.now k1 e1.fh rfl⟩
theorem ev_isiP {cn : Str} {T t : String} {b : Bool} {r : R X.K α} {m : α} (hm : X.mg "isinstance" = none) (hmc : X.mg cn = none) (hv : bootBuiltins cn = some (.type T)) (ty : TyR r t) (hk : kitB t T = some b) (ha : Ev X W Γ r a (.ok m)) (hg : Gl X "isinstance" := by rfl) (hgc : Gl X cn := by rfl)
    (hs : starEach [a, .Name cn p1] X.env = (false, eval a X.env) :: starEach [.Name cn p1] X.env := by exact star_ns rfl) (hs2 : starEach [.Name cn p1] X.env = (false, eval (.Name cn p1) X.env) :: starEach [] X.env := by exact star_ns rfl) (hpl : (backTo pos (starEach [.Name cn p1] X.env)).any (·.1) = false := by exact back_ns rfl)
    (hn : cn ≠ "__name__" := by decide) (hd : (cn == ("__debug__" : Str)) = false := by decide) :
    Ev X W Γ rBool (.Call (.Name "isinstance" p0) [a, .Name cn p1] [] pos) (.ok b) := ev_isi hm hmc hv ty hk ha hg hgc hs hs2 hpl hn hd
/-! ### is None of a value that is none -/
def NoN {K : PySem.W.Frag} (r : R K α) : Prop := ∀ {F v x}, r.rep F v x → v ≠ .non
theorem nn_int {K : PySem.W.Frag} : NoN (rInt (K := K)) := fun {_ v x} h => by rw [show v = .int x from h]; exact fun z => nomatch z
theorem nn_bool {K : PySem.W.Frag} : NoN (rBool (K := K)) := fun {_ v x} h => by rw [show v = .bl x from h]; exact fun z => nomatch z
theorem nn_str {K : PySem.W.Frag} : NoN (rStr (K := K)) := fun {_ v x} h => by rw [show v = .str x from h]; exact fun z => nomatch z
theorem nn_list {K : PySem.W.Frag} {r : R K α} : NoN (rList r) := fun ⟨p, vs, e, _⟩ => by rw [e]; exact fun z => nomatch z
theorem nn_vtup {K : PySem.W.Frag} {r : R K α} : NoN (rVTup r) := fun ⟨p, vs, e, _⟩ => by rw [e]; exact fun z => nomatch z
theorem nn_tup2 {K : PySem.W.Frag} {r : R K α} {t : R K β} : NoN (rTup2 r t) := fun ⟨p, _, _, e, _⟩ => by rw [e]; exact fun z => nomatch z
theorem nn_tup3 {K : PySem.W.Frag} {r : R K α} {t : R K β} {u : R K γ} : NoN (rTup3 r t u) := fun ⟨p, _, _, _, e, _⟩ => by rw [e]; exact fun z => nomatch z
theorem cm_isX {r : R X.K α} (n : NoN r) : Cm X .Is r rNone (fun _ _ => false) := ⟨_, op_isN, fun {_ _ _ _ _ v w x y} s p q k => by
  refine ⟨q, ?_⟩
  rw [decide_eq_false (n p)]
  exact KO.now k s rfl⟩
theorem cm_notX {r : R X.K α} (n : NoN r) : Cm X .IsNot r rNone (fun _ _ => true) := ⟨_, op_notN, fun {_ _ _ _ _ v w x y} s p q k => by
  refine ⟨q, ?_⟩
  rw [decide_eq_false (n p)]
  exact KO.now k s rfl⟩
theorem cm_isU : Cm X .Is rNone rNone (fun _ _ => true) := ⟨_, op_isN, fun {_ _ _ _ _ v w x y} s p q k => by
  have p : v = .non := p
  refine ⟨q, ?_⟩
  rw [decide_eq_true p]
  exact KO.now k s rfl⟩
theorem cm_notU : Cm X .IsNot rNone rNone (fun _ _ => false) := ⟨_, op_notN, fun {_ _ _ _ _ v w x y} s p q k => by
  have p : v = .non := p
  refine ⟨q, ?_⟩
  rw [decide_eq_true p]
  exact KO.now k s rfl⟩
theorem some_rep {K : PySem.W.Frag} {r : R K α} (n : NoN r) {F v x} (h : r.rep F v x) : (rOpt r).rep F v (some x) := ⟨n h, h⟩
/-! ### what is decided ahead -/
variable {c : Ct X L ρ} {Γ' : S → En X.K} {ss s1 s2 : List Stmt} {st : Stmt}
theorem rs_stuck : Rs X c Γ st .stuck := fun tk σ B F0 H F D en k => False.elim k
theorem rs_ifT {m : M ρ} (hc : Tt X c.W Γ e (.ok true)) (h : Rb X c Γ s1 m) : Rs X c Γ (.If e s1 s2 pos) m := fun tk σ B F0 H F D en k =>
  PS.w (ps_if pt_w pb_w pb_w) <| hc tk σ B F0 H F _ en fun H1 F1 e1 => by rw [if_pos rfl]; exact h tk σ B F0 H1 F1 D (en.ext e1) k
theorem rs_ifF {m : M ρ} (hc : Tt X c.W Γ e (.ok false)) (h : Rb X c Γ s2 m) : Rs X c Γ (.If e s1 s2 pos) m := fun tk σ B F0 H F D en k =>
  PS.w (ps_if pt_w pb_w pb_w) <| hc tk σ B F0 H F _ en fun H1 F1 e1 => by rw [if_neg Bool.false_ne_true]; exact h tk σ B F0 H1 F1 D (en.ext e1) k
theorem ns_ifT {m : M S} (hc : Tt X c.W Γ e (.ok true)) (h : Nb X c Γ Γ' s1 m) : Ns X c Γ Γ' (.If e s1 s2 pos) m := fun tk σ B F0 H F D en k =>
  PS.w (ps_if pt_w pb_w pb_w) <| hc tk σ B F0 H F _ en fun H1 F1 e1 => by rw [if_pos rfl]; exact h tk σ B F0 H1 F1 D (en.ext e1) k
theorem ns_ifF {m : M S} (hc : Tt X c.W Γ e (.ok false)) (h : Nb X c Γ Γ' s2 m) : Ns X c Γ Γ' (.If e s1 s2 pos) m := fun tk σ B F0 H F D en k =>
  PS.w (ps_if pt_w pb_w pb_w) <| hc tk σ B F0 H F _ en fun H1 F1 e1 => by rw [if_neg Bool.false_ne_true]; exact h tk σ B F0 H1 F1 D (en.ext e1) k
theorem bs_ifT {m : M (Fl S L ρ)} (hc : Tt X c.W Γ e (.ok true)) (h : Bk X c Γ Γ' s1 m) : Bs X c Γ Γ' (.If e s1 s2 pos) m := fun tk σ B F0 H F D en k =>
  PS.w (ps_if pt_w pb_w pb_w) <| hc tk σ B F0 H F _ en fun H1 F1 e1 => by rw [if_pos rfl]; exact h tk σ B F0 H1 F1 D (en.ext e1) k
theorem bs_ifF {m : M (Fl S L ρ)} (hc : Tt X c.W Γ e (.ok false)) (h : Bk X c Γ Γ' s2 m) : Bs X c Γ Γ' (.If e s1 s2 pos) m := fun tk σ B F0 H F D en k =>
  PS.w (ps_if pt_w pb_w pb_w) <| hc tk σ B F0 H F _ en fun H1 F1 e1 => by rw [if_neg Bool.false_ne_true]; exact h tk σ B F0 H1 F1 D (en.ext e1) k
/-- nothing is left of it -/
theorem rb_skip {m : M ρ} (hc : Ns X c Γ (fun _ : Unit => Γ) st (.ok ())) (h : Rb X c Γ ss m) : Rb X c Γ (st :: ss) m := rb_cons (m1 := .ok ()) hc fun _ => h
theorem nb_skip {m : M S} (hc : Ns X c Γ (fun _ : Unit => Γ) st (.ok ())) (h : Nb X c Γ Γ' ss m) : Nb X c Γ Γ' (st :: ss) m := nb_cons (m1 := .ok ()) hc fun _ => h
theorem bk_skip {m : M (Fl S L ρ)} (hc : Ns X c Γ (fun _ : Unit => Γ) st (.ok ())) (h : Bk X c Γ Γ' ss m) : Bk X c Γ Γ' (st :: ss) m := bk_cons (m1 := .ok ()) hc fun _ => h
theorem nb_nilU : Nb X c Γ (fun _ : Unit => Γ) [] (.ok ()) := nb_nil .refl
end
/-! ### == of nested data -/
structure QR {K : PySem.W.Frag} {α : Type} [DecidableEq α] (r : R K α) (d : α → PyData) (n : Nat) : Prop where
  dp : ∀ {F v x}, r.rep F v x → Dp K F v (d x)
  lay : ∀ x, (d x).plain = true
  dep : ∀ x, (d x).depth ≤ n
  eq : ∀ x y, PyData.eqv (d x) (d y) = decide (x = y)
mutual
theorem dp_mono {K : PySem.W.Frag} {H H' : Hp} (s : Same H H') : ∀ {v : V} {d : PyData}, Dp K H v d → Dp K H' v d
  | _, _, .non => .non
  | _, _, .bl b => .bl b
  | _, _, .int i => .int i
  | _, _, .str x => .str x
  | _, _, .lst h t => .lst (s.seq h) (dpAll_mono s t)
  | _, _, .tup h t => .tup (Same.tq s h) (dpAll_mono s t)
theorem dpAll_mono {K : PySem.W.Frag} {H H' : Hp} (s : Same H H') : ∀ {v : List V} {d : List PyData}, DpAll K H v d → DpAll K H' v d
  | _, _, .nil => .nil
  | _, _, .cons a b => .cons (dp_mono s a) (dpAll_mono s b)
end
section
variable {K : PySem.W.Frag} {α β γ : Type} [DecidableEq α] [DecidableEq β] [DecidableEq γ]
theorem beq_dec {α : Type} [BEq α] [LawfulBEq α] [DecidableEq α] (a b : α) : (a == b) = decide (a = b) := by rw [Bool.eq_iff_iff, beq_iff_eq, decide_eq_true_eq]
theorem qr_int : QR (rInt (K := K)) PyData.int 0 := ⟨fun {_ v x} h => by rw [show v = .int x from h]; exact .int _, fun _ => rfl, fun _ => Nat.le_refl _, fun x y => by simp only [PyData.eqv]; exact beq_dec x y⟩
theorem qr_bool : QR (rBool (K := K)) PyData.bool 0 := ⟨fun {_ v x} h => by rw [show v = .bl x from h]; exact .bl _, fun _ => rfl, fun _ => Nat.le_refl _, fun x y => by simp only [PyData.eqv]; exact beq_dec x y⟩
theorem qr_str : QR (rStr (K := K)) PyData.str 0 := ⟨fun {_ v x} h => by rw [show v = .str x from h]; exact .str _, fun _ => rfl, fun _ => Nat.le_refl _, fun x y => by simp only [PyData.eqv]; exact beq_dec x y⟩
theorem qr_all {r : R K α} {d : α → PyData} {n : Nat} (q : QR r d n) {F : Hp} : ∀ {vs : List V} {xs : List α}, Paired (r.rep F) vs xs → DpAll K F vs (xs.map d)
  | _, _, .nil => .nil
  | _, _, .cons h t => .cons (q.dp h) (qr_all q t)
theorem qr_lay {r : R K α} {d : α → PyData} {n : Nat} (q : QR r d n) : ∀ xs : List α, PyData.plainAll (xs.map d) = true
  | [] => rfl
  | x :: xs => by
    rw [List.map_cons]
    simp only [PyData.plainAll, q.lay x, qr_lay q xs, Bool.and_self]
theorem qr_dep {r : R K α} {d : α → PyData} {n : Nat} (q : QR r d n) : ∀ xs : List α, PyData.depthAll (xs.map d) ≤ n
  | [] => Nat.zero_le _
  | x :: xs => by
    rw [List.map_cons, PyData.depthAll]
    exact Nat.max_le.mpr ⟨q.dep x, qr_dep q xs⟩
theorem qr_eq {r : R K α} {d : α → PyData} {n : Nat} (q : QR r d n) : ∀ xs ys : List α, PyData.eqvAll (xs.map d) (ys.map d) = decide (xs = ys)
  | [], [] => by simp only [List.map_nil, PyData.eqvAll, decide_true]
  | [], _ :: _ => by simp [PyData.eqvAll]
  | _ :: _, [] => by simp [PyData.eqvAll]
  | x :: xs, y :: ys => by
    rw [List.map_cons, List.map_cons, PyData.eqvAll, q.eq x y, qr_eq q xs ys, ← Bool.decide_and]
    exact decide_eq_decide.mpr (by rw [List.cons.injEq])
theorem qr_list {r : R K α} {d : α → PyData} {n : Nat} (q : QR r d n) : QR (rList r) (fun xs => .list (xs.map d)) (n + 1) where
  dp := fun {_ v x} ⟨p, vs, e, h, t⟩ => by rw [e]; exact .lst (.of h) (qr_all q t)
  lay := fun xs => by simp only [PyData.plain]; exact qr_lay q xs
  dep := fun xs => by simp only [PyData.depth]; exact Nat.succ_le_succ (qr_dep q xs)
  eq := fun xs ys => by simp only [PyData.eqv]; exact qr_eq q xs ys
theorem qr_vtup {r : R K α} {d : α → PyData} {n : Nat} (q : QR r d n) : QR (rVTup r) (fun xs => .tuple (xs.map d)) (n + 1) where
  dp := fun {_ v x} ⟨p, vs, e, h, t⟩ => by rw [e]; exact .tup h (qr_all q t)
  lay := fun xs => by simp only [PyData.plain]; exact qr_lay q xs
  dep := fun xs => by simp only [PyData.depth]; exact Nat.succ_le_succ (qr_dep q xs)
  eq := fun xs ys => by simp only [PyData.eqv]; exact qr_eq q xs ys
theorem qr_tup2 {r : R K α} {s : R K β} {d : α → PyData} {e : β → PyData} {n : Nat} (q : QR r d n) (p : QR s e n) : QR (rTup2 r s) (fun x => .tuple [d x.1, e x.2]) (n + 1) where
  dp := fun {_ v x} ⟨a, v1, v2, ev, h, t1, t2⟩ => by rw [ev]; exact .tup h (.cons (q.dp t1) (.cons (p.dp t2) .nil))
  lay := fun x => by simp only [PyData.plain, PyData.plainAll, q.lay, p.lay, Bool.and_self]
  dep := fun x => by
    simp only [PyData.depth, PyData.depthAll]
    have := q.dep x.1
    have := p.dep x.2
    omega
  eq := fun x y => by
    simp only [PyData.eqv, PyData.eqvAll]
    rw [q.eq, p.eq, Bool.and_true, ← Bool.decide_and]
    exact decide_eq_decide.mpr ⟨fun z => Prod.ext z.1 z.2, fun z => by rw [z]; exact ⟨rfl, rfl⟩⟩
theorem qr_tup3 {r : R K α} {s : R K β} {t : R K γ} {d : α → PyData} {e : β → PyData} {f : γ → PyData} {n : Nat} (q : QR r d n) (p : QR s e n) (o : QR t f n) : QR (rTup3 r s t) (fun x => .tuple [d x.1, e x.2.1, f x.2.2]) (n + 1) where
  dp := fun {_ v x} ⟨a, v1, v2, v3, ev, h, t1, t2, t3⟩ => by rw [ev]; exact .tup h (.cons (q.dp t1) (.cons (p.dp t2) (.cons (o.dp t3) .nil)))
  lay := fun x => by simp only [PyData.plain, PyData.plainAll, q.lay, p.lay, o.lay, Bool.and_self]
  dep := fun x => by
    simp only [PyData.depth, PyData.depthAll]
    have := q.dep x.1
    have := p.dep x.2.1
    have := o.dep x.2.2
    omega
  eq := fun x y => by
    simp only [PyData.eqv, PyData.eqvAll]
    rw [q.eq, p.eq, o.eq, Bool.and_true, ← Bool.decide_and, ← Bool.decide_and]
    exact decide_eq_decide.mpr ⟨fun z => Prod.ext z.1 (Prod.ext z.2.1 z.2.2), fun z => by rw [z]; exact ⟨rfl, rfl, rfl⟩⟩
theorem QR.mono {r : R K α} {d : α → PyData} {n m : Nat} (q : QR r d n) (h : n ≤ m) : QR r d m := ⟨q.dp, q.lay, fun x => Nat.le_trans (q.dep x) h, q.eq⟩
end
section
variable {X : Cx} {α : Type} [DecidableEq α]
theorem hu64 {k : Nat} {A : Around} (h : Room k A) : A.units + 64 < cLine := by
  have := h.un
  omega
theorem op_eqQ {r : R X.K α} {d : α → PyData} {n : Nat} (hu : X.A.units + 64 < cLine) (q : QR r d n) (hn : n ≤ 60) : OpR X (compareOp .Eq) (fun v w H Q => ∃ F x y, Same F H ∧ r.rep F v x ∧ r.rep F w y ∧ Q (.bl (decide (x = y))) H) := by
  intro pins s σ H x y v u Q I rx ry h
  obtain ⟨F, a, b, sm, p, p', k⟩ := h
  obtain ⟨as, r1⟩ := Dp.reads I (d a) x v (dp_mono sm (q.dp p)) rx
  obtain ⟨bs, r2⟩ := Dp.reads I (d b) y u (dp_mono sm (q.dp p')) ry
  refine PySem.SeqAt.eq_plain r1 r2 (q.lay a) (q.lay b) ?_ ⟨.bl _, H, I, rfl, by rw [q.eq]; exact k⟩
  have := q.dep a
  omega
theorem op_neQ {r : R X.K α} {d : α → PyData} {n : Nat} (hu : X.A.units + 64 < cLine) (q : QR r d n) (hn : n ≤ 60) : OpR X (compareOp .NotEq) (fun v w H Q => ∃ F x y, Same F H ∧ r.rep F v x ∧ r.rep F w y ∧ Q (.bl (!decide (x = y))) H) := by
  intro pins s σ H x y v u Q I rx ry h
  obtain ⟨F, a, b, sm, p, p', k⟩ := h
  obtain ⟨as, r1⟩ := Dp.reads I (d a) x v (dp_mono sm (q.dp p)) rx
  obtain ⟨bs, r2⟩ := Dp.reads I (d b) y u (dp_mono sm (q.dp p')) ry
  refine PySem.SeqAt.ne_plain r1 r2 (q.lay a) (q.lay b) ?_ ⟨.bl _, H, I, rfl, by rw [q.eq]; exact k⟩
  have := q.dep a
  omega
theorem cm_eqQ {r : R X.K α} {d : α → PyData} {n : Nat} (hu : X.A.units + 64 < cLine) (q : QR r d n) (hn : n ≤ 60 := by decide) : Cm X .Eq r r (fun x y => decide (x = y)) := ⟨_, op_eqQ hu q hn, fun {_ _ _ F _ v w x y} s p p' k => ⟨F, x, y, s, p, p', KO.now k s rfl⟩⟩
theorem cm_neQ {r : R X.K α} {d : α → PyData} {n : Nat} (hu : X.A.units + 64 < cLine) (q : QR r d n) (hn : n ≤ 60 := by decide) : Cm X .NotEq r r (fun x y => !decide (x = y)) := ⟨_, op_neQ hu q hn, fun {_ _ _ F _ v w x y} s p p' k => ⟨F, x, y, s, p, p', KO.now k s rfl⟩⟩
/-- x in xs, by what is equal to it -/
theorem qr_any {r : R X.K α} {d : α → PyData} {n : Nat} (q : QR r d n) (x : α) : ∀ xs : List α, ((xs.map d).any fun y => PyData.eqv y (d x)) = decide (x ∈ xs)
  | [] => by simp
  | y :: ys => by
    rw [List.map_cons, List.any_cons, q.eq, qr_any q x ys, Bool.eq_iff_iff]
    simp only [Bool.or_eq_true, decide_eq_true_eq, List.mem_cons]
    exact ⟨fun z => z.elim (fun e => .inl e.symm) .inr, fun z => z.elim (fun e => .inl e.symm) .inr⟩
def rInQ (r : R X.K α) (neg : Bool) : R2 := fun v w H Q => ∃ F x ys p vs, Same F H ∧ r.rep F v x ∧ w = .ref p ∧ (SqL X.K H p vs ∨ SqT X.K H p vs) ∧ Paired (r.rep F) vs ys ∧ Q (.bl (if neg then !decide (x ∈ ys) else decide (x ∈ ys))) H
theorem dpa_mono {K : PySem.W.Frag} {H H' : Hp} (s : Same H H') {v : List V} {d : List PyData} (h : DpAll K H v d) : DpAll K H' v d := dpAll_mono s h
theorem op_inQ {r : R X.K α} {d : α → PyData} {n : Nat} (hu : X.A.units + 64 < cLine) (q : QR r d n) (hn : n ≤ 60) : OpR X (compareOp .In) (rInQ r false) := by
  intro pins s σ H x y v u Q I rx ry h
  obtain ⟨F, a, b, p, vs, sm, pa, e, sq, pb, k⟩ := h
  subst e
  obtain ⟨as, r1⟩ := Dp.reads I (d a) x v (dp_mono sm (q.dp pa)) rx
  have h1 := q.dep a
  have h2 := qr_dep q b
  rcases sq with sq | sq
  · obtain ⟨bs, r2⟩ := Dp.reads I (.list (b.map d)) (.ref p) u (.lst sq (dpa_mono sm (qr_all q pb))) ry
    refine PySem.SeqAt.in_list_data r2 r1 (qr_lay q b) (q.lay a) (by omega) ⟨.bl _, H, I, rfl, by rw [qr_any q]; exact k⟩
  · obtain ⟨bs, r2⟩ := Dp.reads I (.tuple (b.map d)) (.ref p) u (.tup sq (dpa_mono sm (qr_all q pb))) ry
    refine PySem.SeqAt.in_tuple_data r2 r1 (qr_lay q b) (q.lay a) (by omega) ⟨.bl _, H, I, rfl, by rw [qr_any q]; exact k⟩
theorem op_ninQ {r : R X.K α} {d : α → PyData} {n : Nat} (hu : X.A.units + 64 < cLine) (q : QR r d n) (hn : n ≤ 60) : OpR X (compareOp .NotIn) (rInQ r true) := by
  intro pins s σ H x y v u Q I rx ry h
  obtain ⟨F, a, b, p, vs, sm, pa, e, sq, pb, k⟩ := h
  subst e
  obtain ⟨as, r1⟩ := Dp.reads I (d a) x v (dp_mono sm (q.dp pa)) rx
  have h1 := q.dep a
  have h2 := qr_dep q b
  rcases sq with sq | sq
  · obtain ⟨bs, r2⟩ := Dp.reads I (.list (b.map d)) (.ref p) u (.lst sq (dpa_mono sm (qr_all q pb))) ry
    refine PySem.SeqAt.notIn_list_data r2 r1 (qr_lay q b) (q.lay a) (by omega) ⟨.bl _, H, I, rfl, by rw [qr_any q]; exact k⟩
  · obtain ⟨bs, r2⟩ := Dp.reads I (.tuple (b.map d)) (.ref p) u (.tup sq (dpa_mono sm (qr_all q pb))) ry
    refine PySem.SeqAt.notIn_tuple_data r2 r1 (qr_lay q b) (q.lay a) (by omega) ⟨.bl _, H, I, rfl, by rw [qr_any q]; exact k⟩
section
variable {W : WX} {Γ : En X.K} {pos : Pos} {a b : Expr} {r : R X.K α} {d : α → PyData} {n : Nat}
theorem cm_inQT (hu : X.A.units + 64 < cLine) (q : QR r d n) (hn : n ≤ 60 := by decide) : Cm X .In r (rVTup r) (fun x ys => decide (x ∈ ys)) := ⟨_, op_inQ hu q hn, fun {_ _ _ F _ v w x y} s p p' k => by
  obtain ⟨a, vs, e, sq, pb⟩ := p'
  exact ⟨F, x, y, a, vs, s, p, e, .inr (Same.tq s sq), pb, KO.now k s rfl⟩⟩
theorem cm_ninQT (hu : X.A.units + 64 < cLine) (q : QR r d n) (hn : n ≤ 60 := by decide) : Cm X .NotIn r (rVTup r) (fun x ys => !decide (x ∈ ys)) := ⟨_, op_ninQ hu q hn, fun {_ _ _ F _ v w x y} s p p' k => by
  obtain ⟨a, vs, e, sq, pb⟩ := p'
  exact ⟨F, x, y, a, vs, s, p, e, .inr (Same.tq s sq), pb, KO.now k s rfl⟩⟩
theorem cm_inQL (hu : X.A.units + 64 < cLine) (q : QR r d n) (hn : n ≤ 60 := by decide) : Cm X .In r (rList r) (fun x ys => decide (x ∈ ys)) := ⟨_, op_inQ hu q hn, fun {_ _ _ F _ v w x y} s p p' k => by
  obtain ⟨a, vs, e, sq, pb⟩ := p'
  exact ⟨F, x, y, a, vs, s, p, e, .inl (.of (s _ _ sq)), pb, KO.now k s rfl⟩⟩
theorem cm_ninQL (hu : X.A.units + 64 < cLine) (q : QR r d n) (hn : n ≤ 60 := by decide) : Cm X .NotIn r (rList r) (fun x ys => !decide (x ∈ ys)) := ⟨_, op_ninQ hu q hn, fun {_ _ _ F _ v w x y} s p p' k => by
  obtain ⟨a, vs, e, sq, pb⟩ := p'
  exact ⟨F, x, y, a, vs, s, p, e, .inl (.of (s _ _ sq)), pb, KO.now k s rfl⟩⟩
theorem ev_inQO (hu : X.A.units + 64 < cLine) (q : QR r d n) {ma : M α} {mb : M (List α)} (ha : Ev X W Γ r a ma) (hb : El X W Γ r b mb) (hn : n ≤ 60 := by decide) (hm : behindInMarks .In b = false := by first | exact nomark _ | rfl) : Ev X W Γ rBool (.Compare a [.In] [b] pos) (ma.bind fun x => mb.bind fun ys => .ok (decide (x ∈ ys))) := fun tk σ B F0 H F Q en k =>
  PE.w (pe_cmpR (op_inQ hu q hn) pe_w pe_w hm) <| ha tk σ B F0 H F _ en <| KO.bnd kkO k fun x v H1 F1 e1 r1 k1 =>
    hb tk σ B F0 H1 F1 _ (en.ext e1) <| KL.bnd kkO k1 fun ys p vs H2 F2 e2 q2 r2 k2 =>
      ⟨F2, x, ys, p, vs, e2.fh, r.mono e2.ff r1, rfl, .inl (.of q2), r2, KO.now k2 e2.fh rfl⟩
theorem ev_ninQO (hu : X.A.units + 64 < cLine) (q : QR r d n) {ma : M α} {mb : M (List α)} (ha : Ev X W Γ r a ma) (hb : El X W Γ r b mb) (hn : n ≤ 60 := by decide) (hm : behindInMarks .NotIn b = false := by first | exact nomark _ | rfl) : Ev X W Γ rBool (.Compare a [.NotIn] [b] pos) (ma.bind fun x => mb.bind fun ys => .ok (!decide (x ∈ ys))) := fun tk σ B F0 H F Q en k =>
  PE.w (pe_cmpR (op_ninQ hu q hn) pe_w pe_w hm) <| ha tk σ B F0 H F _ en <| KO.bnd kkO k fun x v H1 F1 e1 r1 k1 =>
    hb tk σ B F0 H1 F1 _ (en.ext e1) <| KL.bnd kkO k1 fun ys p vs H2 F2 e2 q2 r2 k2 =>
      ⟨F2, x, ys, p, vs, e2.fh, r.mono e2.ff r1, rfl, .inl (.of q2), r2, KO.now k2 e2.fh rfl⟩
end
end
end PL
end
section
set_option maxRecDepth 100000
namespace PL
open PySem L2
/-! ### attributes -/
section
variable {K : PySem.W.Frag} {α β γ A B : Type}
structure RF.At (rf : RF K A) (f : Str) (r : R K α) (g : A → α) : Prop where
  run : ∀ {F fs x}, rf.rep F fs x → ∃ v, fs.lookup f = some v ∧ r.rep F v (g x)
theorem at_z {f : Str} {r : R K α} {t : RF K β} : (rfC f r t).At f r (·.1) := ⟨fun ⟨v, gs, e, a, b⟩ => ⟨v, by rw [e, List.lookup_cons]; simp, a⟩⟩
theorem at_s {f k : Str} {r : R K α} {s : R K γ} {t : RF K β} {g : β → α} (h : t.At f r g) (n : (f == k) = false := by decide) : (rfC k s t).At f r (fun x => g x.2) := ⟨fun ⟨v, gs, e, a, b⟩ => by
  obtain ⟨w, e1, e2⟩ := h.run b
  exact ⟨w, by rw [e, List.lookup_cons, n]; exact e1, e2⟩⟩
structure RF.Put (rf : RF K A) (f : Str) (r : R K α) (rf' : RF K B) (p : A → α → B) : Prop where
  run : ∀ {F fs x v a}, rf.rep F fs x → r.rep F v a → rf'.rep F (putF f v fs) (p x a)
  few : rf.names.length < 1000
theorem put_n {f : Str} {r : R K α} : (rfN (K := K)).Put f r (rfC f r rfN) (fun _ a => (a, ())) := ⟨fun {F fs x v a} h q => by
  have h : fs = [] := h
  subst h
  exact ⟨v, [], rfl, q, rfl⟩, show (0 : Nat) < 1000 by decide⟩
theorem put_s {f k : Str} {r : R K α} {s : R K γ} {t : RF K β} {t' : RF K B} {p : β → α → B} (h : t.Put f r t' p) (n : k ≠ f := by decide) (m : t.names.length < 900 := by exact Nat.le_of_ble_eq_true rfl) : (rfC k s t).Put f r (rfC k s t') (fun x a => (x.1, p x.2 a)) := ⟨fun {F fs x v a} ⟨w, gs, e, q1, q2⟩ q => by
  subst e
  refine ⟨w, putF f v gs, ?_, q1, h.run q2 q⟩
  show (if k = f then _ else _) = _
  rw [if_neg n], by show t.names.length + 1 < 1000; omega⟩
theorem put_z {f : Str} {r : R K α} {s : R K γ} {t : RF K β} (m : t.names.length < 900 := by exact Nat.le_of_ble_eq_true rfl) : (rfC f s t).Put f r (rfC f r t) (fun x a => (a, x.2)) := ⟨fun {F fs x v a} ⟨w, gs, e, q1, q2⟩ q => by
  subst e
  refine ⟨v, gs, ?_, q, q2⟩
  show (if f = f then _ else _) = _
  rw [if_pos rfl], by show t.names.length + 1 < 1000; omega⟩
theorem RF.len {rf : RF K A} {F fs x} (h : rf.rep F fs x) : fs.length = rf.names.length := by rw [← rf.keys h, List.length_map]
theorem lookup_keys {fs : List (Str × V)} {m : Str} (h : m ∉ fs.map (·.1)) : fs.lookup m = none := by
  induction fs with
  | nil => rfl
  | cons p r ih =>
    obtain ⟨k, v⟩ := p
    simp only [List.map_cons, List.mem_cons, not_or] at h
    rw [List.lookup_cons]
    have : (m == k) = false := by simpa using h.1
    rw [this]
    exact ih h.2
end
section
variable {X : Cx} {W : WX} {Γ : En X.K} {α β γ δ A B ρ S L : Type} {pos p0 p1 p2 : Pos} {σ : St} {H F : Hp} {Q : VK} {a b e : Expr}
/-- e.f of an instance that stays -/
theorem ev_fld {C : Addr} {rf : RF X.K A} {r : R X.K α} {g : A → α} {f : Str} {m : M A} (cl : Cls X.K C) (na : NoAttr X.K C f) (at_ : rf.At f r g) (h : Ev X W Γ (rObj C rf) e m) (hb : attributeBase e f X.env (eval e X.env) = eval e X.env := by rfl) :
    Ev X W Γ r (.Attribute e f pos) (m.bind fun x => .ok (g x)) := fun tk σ B F0 H F Q en k =>
  PE.w (pe_fld pe_w hb) <| h tk σ B F0 H F _ en <| KO.bnd kkO k fun x v H1 F1 e1 r1 k1 => by
    obtain ⟨a, dx, fs, rfl, ha, hf⟩ := r1
    obtain ⟨w, l, q⟩ := at_.run hf
    exact ⟨a, C, dx, fs, w, rfl, e1.fh _ _ ha, cl, na, l, KO.now k1 e1.fh q⟩
theorem ev_fldP {C : Addr} {rf : RF X.K A} {r : R X.K α} {g : A → α} {f : Str} {x : A} (cl : Cls X.K C) (na : NoAttr X.K C f) (at_ : rf.At f r g) (h : Ev X W Γ (rObj C rf) e (.ok x)) (hb : attributeBase e f X.env (eval e X.env) = eval e X.env := by rfl) :
    Ev X W Γ r (.Attribute e f pos) (.ok (g x)) := ev_fld cl na at_ h hb
/-- .. of one's own -/
theorem ev_ofld (i : Nat) {C : Addr} {o : Option (Addr × Addr)} {rf : RF X.K A} {r : R X.K α} {g : A → α} {f x : Str} {u : A} (cl : Cls X.K C) (na : NoAttr X.K C f) (at_ : rf.At f r g) (hΓ : Γ[i]? = some (.ob C o rf u) := by rfl) (hN : X.N[i]? = some x := by rfl)
    (hv : Vis X.env.scope x := by first | exact Or.inl rfl | exact Or.inr (Or.inl rfl) | exact Or.inr (Or.inr rfl)) (hd : (x == ("__debug__" : Str)) = false := by decide) (hcd : (x == ("__classdict__" : Str)) = false := by decide)
    (hb : attributeBase (.Name x p1) f X.env (eval (.Name x p1) X.env) = eval (.Name x p1) X.env := by rfl) : Ev X W Γ r (.Attribute (.Name x p1) f pos) (.ok (g u)) := fun tk σ B F0 H F Q en k => by
  obtain ⟨o', ho, a, dx, fs, _, rfl, _, _, _, _, _, h5, _, h7⟩ := en.sl i _ hΓ
  obtain ⟨w, l, q⟩ := at_.run h7
  exact PE.w (pe_fld (pe_var hN hv hd hcd) hb) ⟨_, ho, a, C, dx, fs, w, rfl, h5, cl, na, l, KO.now k en.fh q⟩
/-- C.f, a constant of the class -/
theorem ev_cval {C : Addr} {x f : Str} {r : R X.K α} {c : α} (hm : X.mg x = some (.ref C)) (hc : ∃ mc v u, ClX.CRead X.K C mc ∧ ClX.CVal X.K C mc f v u ∧ ∀ F, r.rep F v c) (hg : Gl X x := by rfl) (hd : (x == ("__debug__" : Str)) = false := by decide)
    (hb : attributeBase (.Name x p1) f X.env (eval (.Name x p1) X.env) = eval (.Name x p1) X.env := by rfl) : Ev X W Γ r (.Attribute (.Name x p1) f pos) (.ok c) := fun tk σ B F0 H F Q en k =>
  let ⟨mc, v, u, h1, h2, h3⟩ := hc
  PE.w (ClX.pe_cval (pe_glob hg hm (v := .ref C) rfl hd) hb) ⟨C, mc, v, u, rfl, h1, h2, KO.now k en.fh (h3 F)⟩
end
/-! ### one's own instance is changed -/
section
variable {X : Cx} {A B α S S1 L ρ : Type}
theorem EnOk.chgO {K : PySem.W.Frag} {Γ : En K} {σ : St} {B0 F0 H F : Hp} {i : Nat} {a dx : Addr} {fs : List (Str × V)} {C : Addr} {o : Option (Addr × Addr)} {rf : RF K A} {rf' : RF K B} {x : A} {y : B} (en : EnOk Γ σ B0 F0 H F) (hΓ : Γ[i]? = some (.ob C o rf x)) (hσ : σ[i]? = some (some (.ref a)))
    (hd : ∃ gs, H a = some (.ins C dx gs)) (h : rf'.rep F fs y) : EnOk (Γ.set i (.ob C o rf' y)) σ B0 F0 (upd H a (.ins C dx fs)) F := by
  obtain ⟨o1, ha, a', dx', fs', z, e, ne, b1, b2, b3, b4, b5, b6, b7⟩ := en.sl i _ hΓ
  subst e
  rw [hσ] at ha
  have e2 : a = a' := V.ref.inj (Option.some.inj (Option.some.inj ha))
  subst e2
  obtain ⟨gs, hd⟩ := hd
  rw [b5] at hd
  obtain rfl : dx' = dx := by cases hd; rfl
  refine ⟨⟨fun b x e => ?_, en.ex.ff, fun b x e => ?_, en.ex.nw⟩, fun j s q => ?_, fun j k s t p' n q1 q2 o1 o2 z1 z2 => ?_⟩
  · rw [upd_ne (ne_of_none e b1)]; exact en.ex.hh _ _ e
  · rw [upd_ne (ne_of_none e b2)]; exact en.ex.fh _ _ e
  · rcases get_set q with ⟨rfl, rfl, _⟩ | ⟨hj, q⟩
    · exact ⟨_, hσ, a, dx', fs, z, rfl, ne, b1, b2, b3, b4, upd_same, by rw [upd_ne ne]; exact b6, h⟩
    · obtain ⟨o, a2, b⟩ := en.sl j s q
      refine ⟨o, a2, ?_⟩
      cases s with
      | no => exact trivial
      | va _ _ => exact b
      | bo _ _ => exact b
      | ow r' zs =>
        obtain ⟨p', vs', e, c1, c2, c3, c4⟩ := b
        exact ⟨p', vs', e, c1, c2, by rw [upd_ne (fun z => by rw [z, b5] at c3; cases c3)]; exact c3, c4⟩
      | ob C2 q2 rf2 x2 =>
        obtain ⟨a3, d3, f3, c0, e, c1, c2, c3, c4, c5, c6, c7, c8⟩ := b
        rw [e] at a2
        refine ⟨a3, d3, f3, c0, e, c1, c2, c3, c4, c5, ?_, ?_, c8⟩
        · rw [upd_ne (fun z => by rw [z] at a2; exact en.ap j i _ _ a hj q hΓ trivial trivial a2 hσ)]; exact c6
        · rw [upd_ne (fun z => by rw [z, b5] at c7; cases c7)]; exact c7
  · have own : ∀ (m : Nat) (s : Sl K), (Γ.set i (.ob C o rf' y))[m]? = some s → s.isOw → ∃ s', Γ[m]? = some s' ∧ s'.isOw := fun m s q ho => by
      rcases get_set q with ⟨rfl, rfl, _⟩ | ⟨_, q⟩
      · exact ⟨_, hΓ, trivial⟩
      · exact ⟨s, q, ho⟩
    obtain ⟨s', g1, w1⟩ := own j s q1 o1
    obtain ⟨t', g2, w2⟩ := own k t q2 o2
    exact en.ap j k s' t' p' n g1 g2 w1 w2 z1 z2
variable {c : Ct X L ρ} {Γ : En X.K} {e : Expr} {pos p1 p2 : Pos} {x f : Str}
/-- self.f = e -/
theorem ns_fld (i : Nat) {C : Addr} {o : Option (Addr × Addr)} {rf : RF X.K A} {rf' : RF X.K B} {r : R X.K α} {p : A → α → B} {u : A} {m : M α} (cl : Cls X.K C) (na : NoAttr X.K C f) (pt : rf.Put f r rf' p) (h : Ev X c.W Γ r e m) (le : SLe Γ c.Γe) (hΓ : Γ[i]? = some (.ob C o rf u) := by rfl) (hN : X.N[i]? = some x := by rfl)
    (hv : Vis X.env.scope x := by first | exact Or.inl rfl | exact Or.inr (Or.inl rfl) | exact Or.inr (Or.inr rfl)) (hd : (x == ("__debug__" : Str)) = false := by decide) (hcd : (x == ("__classdict__" : Str)) = false := by decide)
    (hs : swapsWith e (some (.Attribute (.Name x p1) f p2)) pos.line X.env = pure false := by rfl) : Ns X c Γ (fun y => Γ.set i (.ob C o rf' y)) (.Assign [.Attribute (.Name x p1) f p2] e pos) (m.bind fun a => .ok (p u a)) := fun tk σ B F0 H F D en k =>
  PS.w (ps_fld (pe_var hN hv hd hcd) pe_w hs) <| h tk σ B F0 H F _ en <| kqN.o le.le en k fun a v H1 F1 e1 r1 k1 => by
    have en1 := en.ext e1
    obtain ⟨o', ho, a', dx, fs, _, e2, _, _, _, _, _, h5, _, h7⟩ := en1.sl i _ hΓ
    subst e2
    exact ⟨_, ho, a', C, dx, fs, rfl, h5, cl, na, by rw [rf.len h7]; exact pt.few, k1 σ _ F1 (en1.chgO hΓ ho ⟨fs, h5⟩ (pt.run h7 r1))⟩
end
/-! ### calls of methods; instances are made -/
section
variable {X : Cx} {CX : CXT} {k : Nat} {f C : Addr} {fd : FuncData} {ps : List Str} {sp : Sp} {E : St → XK} {x m : Str} {p pos apos : Pos} {e o : Expr} {es : List Expr} {ta : TE} {t : TA}
def tMethS (C : Addr) (m : Str) (sp : Sp) (E : St → XK) (ta : TE) (t : TA) : TE := fun σ H Q => ta σ H fun x H1 => ∃ a dx fs, x = .ref a ∧ H1 a = some (.ins C dx fs) ∧ fs.lookup m = none ∧ t σ H1 fun vs H2 => sp (x :: vs) H2 Q (E σ)
theorem pe_methS {pl : Sem Bool} (he : PE X o ta) (c : Cls X.K C) (hm : Meth X.K C m f) (F : FnOk X.prog X.w X.K X.mg X.base CX k f fd ps sp) (hr : Room k X.A) (hb : Binds X.K fd ps []) (hx : ∀ σ, PassesAt CX X σ (E σ)) (ha : PA X (e :: es) t)
    (hst : starEach (e :: es) X.env = (false, eval e X.env) :: starEach es X.env := by exact star_ns rfl) (hpl : (backTo pos (starEach es X.env)).any (·.1) = false := by exact back_ns rfl)
    (ht : eval (.Call (.Attribute o m apos) (e :: es) [] pos) X.env = (do
      let ov ← eval o X.env
      standAt apos.atName
      let (f, first) ← holding [ov] (getMethod ov m pl)
      callWith pos f first (backTo pos (starEach (e :: es) X.env)) (backToKw pos (keywordEach [] X.env))) := by rfl) :
    PE X (.Call (.Attribute o m apos) (e :: es) [] pos) (tMethS C m sp E ta t) := by
  refine ⟨fun pins s σ H Q I h => ?_⟩
  refine PySem.W.methodCall_KW (pl := pl) (thn (he.run pins s σ H _ I h) fun u s1 ⟨x, H1, I1, rx, a, dx, fs, ex, ea, l, q⟩ => ?_) ht
  subst ex
  obtain rfl : u = Value.ref a := rx
  refine getmeth_ok I1 ea c hm l ?_
  refine PySem.W.callWith_K (first := [.ref a]) (h₀ := X.base) I.ok.mod.kin hm.kp (thn (ha.run pos pins s1 σ H1 _ I1 q) fun us s2 ⟨vs, H2, I2, r, q2⟩ => ⟨I2.kIn, ?_⟩) hst hpl
  exact run_fnS (us := .ref a :: us) (vs := .ref a :: vs) F hr hb (hx σ) I2 (.cons rfl r) q2
theorem pe_methS0 {pl : Sem Bool} (he : PE X o ta) (c : Cls X.K C) (hm : Meth X.K C m f) (F : FnOk X.prog X.w X.K X.mg X.base CX k f fd ps sp) (hr : Room k X.A) (hb : Binds X.K fd ps []) (hx : ∀ σ, PassesAt CX X σ (E σ))
    (ht : eval (.Call (.Attribute o m apos) [] [] pos) X.env = (do
      let ov ← eval o X.env
      standAt apos.atName
      let (f, first) ← holding [ov] (getMethod ov m pl)
      callWith pos f first (backTo pos (starEach [] X.env)) (backToKw pos (keywordEach [] X.env))) := by rfl) :
    PE X (.Call (.Attribute o m apos) [] [] pos) (tMethS C m sp E ta tNil) := by
  refine ⟨fun pins s σ H Q I h => ?_⟩
  refine PySem.W.methodCall_KW (pl := pl) (thn (he.run pins s σ H _ I h) fun u s1 ⟨x, H1, I1, rx, a, dx, fs, ex, ea, l, q⟩ => ?_) ht
  subst ex
  obtain rfl : u = Value.ref a := rx
  refine getmeth_ok I1 ea c hm l ?_
  exact PySem.W.callWith_K0 (first := [.ref a]) I1.kIn hm.kp (run_fnS (us := [.ref a]) (vs := [.ref a]) F hr hb (hx σ) I1 (.cons rfl .nil) q)
def tMakeS (C : Addr) (sp : Sp) (E : St → XK) (t : TA) : TE := fun σ H Q => t σ H fun vs H1 => ∀ x dx, H1 x = none → H1 dx = none → dx ≠ x → sp (.ref x :: vs) (upd (upd H1 dx (.own x)) x (.ins C dx [])) (fun v H2 => v = .non ∧ Q (.ref x) H2) (E σ)
theorem run_makeS {pins : List (Addr × Obj)} {σ : St} {H : Hp} {s : Shared} {Q : VK} {us : List Value} {vs : List V} (M : Mk X.K C f) (F : FnOk X.prog X.w X.K X.mg X.base CX k f fd ps sp) (hr : Room (k + 1) X.A) (hb : Binds X.K fd ps [])
    (hx : PassesAt CX X σ (E σ)) (I : Inv X pins σ H s) (r : Vals vs us)
    (h : ∀ x dx, H x = none → H dx = none → dx ≠ x → sp (.ref x :: vs) (upd (upd H dx (.own x)) x (.ins C dx [])) (fun v H2 => v = .non ∧ Q (.ref x) H2) (E σ)) :
    wpAny (model X.prog X.w) X.A (call (.ref C) us) (EP X pins σ Q) X.xe s := by
  have hq := h (s.heap.objs.size + 1) s.heap.objs.size (I.hok.fresh (Nat.le_succ _)) (I.hok.fresh (Nat.le_refl _)) (Nat.ne_of_lt (Nat.lt_succ_self _))
  have I2 := Inv.made (C := C) I
  have r2 : Vals (V.ref (s.heap.objs.size + 1) :: vs) (Value.ref (s.heap.objs.size + 1) :: us) := .cons rfl r
  have hl : (Value.ref (s.heap.objs.size + 1) :: us).length = ps.length := by
    have e := r2.length
    rw [F.len _ _ _ _ hq] at e
    exact e.symm
  have b := hb _ (Value.ref (s.heap.objs.size + 1) :: us) I2.kIn (by rw [List.append_nil]; exact hl)
  rw [List.append_nil] at b
  refine wpAny_call (make_map (f := f) I.kIn M.makes M.init (beq_iff_eq.mp M.fn) (codeAny_mono (F.run _ X.stack _ _ ⟨Value.ref (s.heap.objs.size + 1) :: us, []⟩ (Value.ref (s.heap.objs.size + 1) :: us) _ _ (E σ) (hr.make C us [])
    (I2.env0.make C us []) b r2 hq) fun r s' hq' => ?_))
  cases r with
  | error e => exact hx pins _ _ e s' I2 hq'
  | ok fl =>
    cases fl with
    | ret u =>
      obtain ⟨v, H', I3, rv, ev, q3⟩ := I2.after hq'
      subst ev
      exact ⟨rv, ⟨V.ref (s.heap.objs.size + 1), H', I3, rfl, q3⟩⟩
    | next => exact False.elim hq'
    | brk => exact False.elim hq'
    | cont => exact False.elim hq'
theorem pe_makeS (M : Mk X.K C f) (F : FnOk X.prog X.w X.K X.mg X.base CX k f fd ps sp) (hr : Room (k + 1) X.A) (hg : Gl X x) (hm : X.mg x = some (.ref C)) (hb : Binds X.K fd ps []) (hx : ∀ σ, PassesAt CX X σ (E σ))
    (ha : PA X (e :: es) t) (hdb : (x == ("__debug__" : Str)) = false := by decide) (he : starEach (e :: es) X.env = (false, eval e X.env) :: starEach es X.env := by exact star_ns rfl) (hpl : (backTo pos (starEach es X.env)).any (·.1) = false := by exact back_ns rfl) :
    PE X (.Call (.Name x p) (e :: es) [] pos) (tMakeS C sp E t) := by
  refine ⟨fun pins s σ H Q I h => ?_⟩
  refine wpAny_Call_Name_kw (ld_glob I hg hm ?_ hdb)
  refine PySem.W.callWith_K (h₀ := X.base) I.ok.mod.kin M.kp (thn (ha.run pos pins s σ H _ I h) fun us s1 ⟨vs, H1, I1, r, q⟩ => ⟨I1.kIn, ?_⟩) he hpl
  exact run_makeS M F hr hb (hx σ) I1 r q
end
/-! ### defs of classes -/
section
variable {α β ρ A A0 A1 : Type} {K : PySem.W.Frag}
/-- the instance at a, its dict at dx, one's own -/
structure Obj1 (a dx C : Addr) (H F : Hp) (fs : List (Str × V)) : Prop where
  f1 : F a = none
  f2 : F dx = none
  h1 : H a = some (.ins C dx fs)
  h2 : H dx = some (.own a)
/-- what __init__ is worth: the attributes behind -/
def KDI (K : PySem.W.Frag) (mg : Str → Option Value) (rf : RF K A1) (a dx C : Addr) (B F : Hp) (Q : VK) (E : XK) : M A1 → Prop
  | .ok y => ∀ H' F' fs, Ext B F H' F' → Obj1 a dx C H' F' fs → rf.rep F' fs y → Q .non H'
  | .exc e => ∀ cls d H' F', Ext B F H' F' → ErrOk K mg cls d F' e → E cls d H'
  | .stuck => False
def spI {K : PySem.W.Frag} (mg : Str → Option Value) (C : Addr) (rf : RF K A1) (ra : RA K A) (g : A → M A1) : Sp := fun vs H Q E => ∃ a dx ws B F x, vs = .ref a :: ws ∧ dx ≠ a ∧ Same B H ∧ B a = none ∧ B dx = none ∧ Same F B ∧ Obj1 a dx C H F [] ∧ ra.rep B F ws x ∧
  KDI K mg rf a dx C B F Q E (g x)
/-- the def that makes an instance: what it leaves -/
structure DfI (P : Program) (w : World) (K : PySem.W.Frag) (mg : Str → Option Value) (base : Heap) (k : Nat) (C : Addr) (ra : RA K A) (rf : RF K A1) (g : A → M A1) : Prop where
  ex : ∃ f fd ps, FnOk P w K mg base (L2.CX P w) k f fd ps (spI mg C rf ra g) ∧ Mk K C f ∧ Binds K fd ps []
theorem DfI.mono {P : Program} {w : World} {mg : Str → Option Value} {base : Heap} {j k : Nat} {C : Addr} {ra : RA K A} {rf : RF K A1} {g : A → M A1} (D : DfI P w K mg base j C ra rf g) (h : j ≤ k) : DfI P w K mg base k C ra rf g :=
  let ⟨f, fd, ps, F, q⟩ := D.ex
  ⟨f, fd, ps, F.mono h, q⟩
/-- a method of an instance that stays -/
structure Dm (P : Program) (w : World) (K : PySem.W.Frag) (mg : Str → Option Value) (base : Heap) (k : Nat) (C : Addr) (m : Str) (ra : RA K A) (rt : Rt K ρ) (g : A → M ρ) : Prop where
  ex : ∃ f fd ps, FnOk P w K mg base (L2.CX P w) k f fd ps (spM mg ra rt g) ∧ Meth K C m f ∧ Binds K fd ps []
end
section
variable {X : Cx} {W : WX} {Γ : En X.K} {α β γ δ A A1 B ρ S L : Type} {pos p0 p1 p2 : Pos} {σ : St} {H F : Hp} {Q : VK} {a b e : Expr} {es : List Expr}
/-- a new instance, one's own -/
def KNo (X : Cx) (C : Addr) (rf : RF X.K A) (W : WX) (σ : St) (H F : Hp) (Q : VK) : M A → Prop
  | .ok x => ∀ a dx fs H' F', Ext H F H' F' → dx ≠ a → H a = none → H dx = none → Obj1 a dx C H' F' fs → rf.rep F' fs x → Q (.ref a) H'
  | .exc e => ∀ cls d H' F', Ext H F H' F' → ErrOk X.K X.mg cls d F' e → W cls d σ H'
  | .stuck => False
def No (X : Cx) (W : WX) (Γ : En X.K) (C : Addr) (rf : RF X.K A) (e : Expr) (m : M A) : Prop :=
  Takes X W → ∀ σ B F0 H F Q, EnOk Γ σ B F0 H F → KNo X C rf W σ H F Q m → wE X e σ H Q
theorem KNo.ext {C : Addr} {rf : RF X.K A} {m : M A} {H' F' : Hp} (h : KNo X C rf W σ H F Q m) (e : Ext H F H' F') : KNo X C rf W σ H' F' Q m := by
  cases m with
  | ok x => exact fun a dx fs H2 F2 e2 ne n1 n2 => h a dx fs H2 F2 (e.trans e2) ne (e.hh.free n1) (e.hh.free n2)
  | exc er => exact fun c d H2 F2 e2 q => h c d H2 F2 (e.trans e2) q
  | stuck => exact h
theorem kkNo {C : Addr} {rf : RF X.K A} : KK X W σ (fun H F m => KNo X C rf W σ H F Q m) := ⟨fun h e => h.ext e, fun h => h, fun h => h⟩
/-- .. that stays as it is from now on -/
theorem ev_no {C : Addr} {rf : RF X.K A} {m : M A} (h : No X W Γ C rf e m) : Ev X W Γ (rObj C rf) e m := fun tk σ B F0 H F Q en k => by
  refine h tk σ B F0 H F Q en ?_
  cases m with
  | ok x =>
    exact fun a dx fs H' F' ex ne hn1 hn2 ⟨f1, f2, h1, h2⟩ hr => by
      have s1 : Same F' (upd F' dx (.own a)) := same_upd f2
      have n1 : upd F' dx (.own a) a = none := by rw [upd_ne (Ne.symm ne)]; exact f1
      have s2 : Same (upd F' dx (.own a)) (upd (upd F' dx (.own a)) a (.ins C dx fs)) := same_upd n1
      have s12 := s1.trans s2
      refine k (.ref a) H' (upd (upd F' dx (.own a)) a (.ins C dx fs)) ⟨ex.hh, ex.ff.trans s12, fun b x e => ?_, fun b hb e => ?_⟩ ⟨a, dx, fs, rfl, upd_same, rf.mono s12 hr⟩
      · by_cases z : b = a
        · rw [z, upd_same] at e; rw [z, h1]; exact e
        · rw [upd_ne z] at e
          by_cases z2 : b = dx
          · rw [z2, upd_same] at e; rw [z2, h2]; exact e
          · rw [upd_ne z2] at e; exact ex.fh _ _ e
      · rw [upd_ne (fun z => hb (by rw [z]; exact hn1)), upd_ne (fun z => hb (by rw [z]; exact hn2))]; exact ex.nw b hb e
  | exc er => exact k
  | stuck => exact k
/-- C(e, ..) -/
theorem no_make {x : Str} {C : Addr} {k : Nat} {ra : RA X.K A} {rf : RF X.K A1} {g : A → M A1} {m : M A} (D : DfI X.prog X.w X.K X.mg X.base k C ra rf g) (hm : X.mg x = some (.ref C)) (hr : Room (k + 1) X.A) (ha : Ag X W Γ ra (e :: es) m) (hg : Gl X x := by rfl)
    (hdb : (x == ("__debug__" : Str)) = false := by decide) (he : starEach (e :: es) X.env = (false, eval e X.env) :: starEach es X.env := by exact star_ns rfl) (hpl : (backTo pos (starEach es X.env)).any (·.1) = false := by exact back_ns rfl) :
    No X W Γ C rf (.Call (.Name x p0) (e :: es) [] pos) (m.bind g) := fun tk σ B F0 H F Q en k => by
  obtain ⟨f, fd, ps, Fn, mk, hb⟩ := D.ex
  refine PE.w (pe_makeS (E := fun σ => WE W σ) mk Fn hr hg hm hb (fun σ => passAt tk σ) pa_w hdb he hpl) ?_
  refine ha tk σ B F0 H F _ en <| KA.bnd kkNo k fun y vs H1 F1 e1 r1 k1 => ?_
  intro a dx n1 n2 ne
  have s1 : Same H1 (upd H1 dx (.own a)) := same_upd n2
  have n1' : upd H1 dx (.own a) a = none := by rw [upd_ne (Ne.symm ne)]; exact n1
  have s2 : Same (upd H1 dx (.own a)) (upd (upd H1 dx (.own a)) a (.ins C dx [])) := same_upd n1'
  refine ⟨a, dx, vs, H1, F1, y, rfl, ne, s1.trans s2, n1, n2, e1.fh, ⟨e1.fh.free n1, e1.fh.free n2, upd_same, by rw [upd_ne ne, upd_same]⟩, r1, ?_⟩
  cases hy : g y with
  | ok z =>
    rw [hy] at k1
    exact fun H' F' fs ex ob hf => ⟨rfl, k1 a dx fs H' F' ex ne n1 n2 ob hf⟩
  | exc er => rw [hy] at k1; exact fun cls d H' F' ex z => k1 cls d H' F' ex z
  | stuck => rw [hy] at k1; exact k1
/-- o.m(e, ..) of an instance that stays -/
theorem meth_w {m : Str} {C : Addr} {k : Nat} {rf : RF X.K A} {ra : RA X.K B} {rt : Rt X.K ρ} {g : A × B → M ρ} {mo : M A} {ma : M B} {o : Expr} (D : Dm X.prog X.w X.K X.mg X.base k C m (raC (rObj C rf) ra) rt g) (cl : Cls X.K C) (hn : m ∉ rf.names) (hr : Room k X.A) (ho : Ev X W Γ (rObj C rf) o mo) (ha : Ag X W Γ ra (e :: es) ma)
    {pl : Sem Bool} (hst : starEach (e :: es) X.env = (false, eval e X.env) :: starEach es X.env) (hpl : (backTo pos (starEach es X.env)).any (·.1) = false)
    (ht : eval (.Call (.Attribute o m p2) (e :: es) [] pos) X.env = (do
      let ov ← eval o X.env
      standAt p2.atName
      let (f, first) ← holding [ov] (getMethod ov m pl)
      callWith pos f first (backTo pos (starEach (e :: es) X.env)) (backToKw pos (keywordEach [] X.env))))
    {P : Hp → Hp → M ρ → Prop} {σ : St} {B F0 H F : Hp} {Q : VK} (kk : KK X W σ P) (tk : Takes X W) (en : EnOk Γ σ B F0 H F) (k : P H F (mo.bind fun x => ma.bind fun y => g (x, y))) (hP : ∀ y H1 F1, Ext H F H1 F1 → P H1 F1 (.ok y) → ∀ v H' F', Ext H1 F1 H' F' → rt.rep H1 H' F' v y → Q v H') :
    wE X (.Call (.Attribute o m p2) (e :: es) [] pos) σ H Q := by
  obtain ⟨f, fd, ps, Fn, hm, hb⟩ := D.ex
  refine PE.w (pe_methS (E := fun σ => WE W σ) pe_w cl hm Fn hr hb (fun σ => passAt tk σ) pa_w hst hpl ht) ?_
  refine ho tk σ B F0 H F _ en <| KO.bnd kk k fun x v H1 F1 e1 r1 k1 => ?_
  obtain ⟨a, dx, fs, ev, hf, hrf⟩ := id r1
  subst ev
  refine ⟨a, dx, fs, rfl, e1.fh _ _ hf, lookup_keys (by rw [rf.keys hrf]; exact hn), ?_⟩
  refine ha tk σ B F0 H1 F1 _ (en.ext e1) <| KA.bnd kk k1 fun y vs H2 F2 e2 r2 k2 => ⟨F2, (x, y), e2.fh, ⟨.ref a, vs, rfl, (rObj C rf).mono e2.ff r1, r2⟩, ?_⟩
  cases hga : g (x, y) with
  | ok z => rw [hga] at k2; exact fun v H' F' ex hr' => hP z H2 F2 (e1.trans e2) k2 v H' F' ex hr'
  | exc er => rw [hga] at k2; exact fun cls d H' F' ex z => kk.ofexc k2 cls d H' F' ex z
  | stuck => rw [hga] at k2; exact kk.ofstk k2
theorem meth_w0 {m : Str} {C : Addr} {k : Nat} {rf : RF X.K A} {rt : Rt X.K ρ} {g : A × Unit → M ρ} {mo : M A} {o : Expr} (D : Dm X.prog X.w X.K X.mg X.base k C m (raC (rObj C rf) raN) rt g) (cl : Cls X.K C) (hn : m ∉ rf.names) (hr : Room k X.A) (ho : Ev X W Γ (rObj C rf) o mo)
    {pl : Sem Bool}
    (ht : eval (.Call (.Attribute o m p2) [] [] pos) X.env = (do
      let ov ← eval o X.env
      standAt p2.atName
      let (f, first) ← holding [ov] (getMethod ov m pl)
      callWith pos f first (backTo pos (starEach [] X.env)) (backToKw pos (keywordEach [] X.env))))
    {P : Hp → Hp → M ρ → Prop} {σ : St} {B F0 H F : Hp} {Q : VK} (kk : KK X W σ P) (tk : Takes X W) (en : EnOk Γ σ B F0 H F) (k : P H F (mo.bind fun x => g (x, ()))) (hP : ∀ y H1 F1, Ext H F H1 F1 → P H1 F1 (.ok y) → ∀ v H' F', Ext H1 F1 H' F' → rt.rep H1 H' F' v y → Q v H') :
    wE X (.Call (.Attribute o m p2) [] [] pos) σ H Q := by
  obtain ⟨f, fd, ps, Fn, hm, hb⟩ := D.ex
  refine PE.w (pe_methS0 (E := fun σ => WE W σ) pe_w cl hm Fn hr hb (fun σ => passAt tk σ) ht) ?_
  refine ho tk σ B F0 H F _ en <| KO.bnd kk k fun x v H1 F1 e1 r1 k1 => ?_
  obtain ⟨a, dx, fs, ev, hf, hrf⟩ := id r1
  subst ev
  refine ⟨a, dx, fs, rfl, e1.fh _ _ hf, lookup_keys (by rw [rf.keys hrf]; exact hn), F1, (x, ()), e1.fh, ⟨.ref a, [], rfl, r1, rfl⟩, ?_⟩
  cases hga : g (x, ()) with
  | ok z => rw [hga] at k1; exact fun v H' F' ex hr' => hP z H1 F1 e1 k1 v H' F' ex hr'
  | exc er => rw [hga] at k1; exact fun cls d H' F' ex z => kk.ofexc k1 cls d H' F' ex z
  | stuck => rw [hga] at k1; exact kk.ofstk k1
end
/-! ### the def __init__ by its body -/
section
variable {A A1 ρ α : Type} {P : Program} {w : World} {K : PySem.W.Frag} {mg : Str → Option Value} {base : Heap}
theorem start_okO {ra : RA K A} {sl : A → En K} {A0 : Type} {rf : RF K A0} (h : ra.Fill sl) {a dx C : Addr} {fs : List (Str × V)} {x0 : A0} {B H F : Hp} {ws : List V} {x : A} {N : List Str} (ne : dx ≠ a) (sBH : Same B H) (ba : B a = none) (bd : B dx = none) (fB : Same F B) (ob : Obj1 a dx C H F fs) (hrf : rf.rep F fs x0) (q : ra.rep B F ws x)
    (hN : (sl x).length + 1 ≤ N.length) : EnOk (.ob C (some (a, dx)) rf x0 :: sl x ++ List.replicate (N.length - ((sl x).length + 1)) .no) (L2.start N (.ref a :: ws)) B F H F := by
  have hl := h.len q
  obtain ⟨f1, f2, h1, h2⟩ := ob
  have low : ∀ (i : Nat) (s : Sl K), (.ob C (some (a, dx)) rf x0 :: sl x ++ List.replicate (N.length - ((sl x).length + 1)) .no)[i]? = some s → ∃ o, (L2.start N (.ref a :: ws))[i]? = some o ∧ SlOk B H F s o ∧ (s.isOw → i = 0) := fun i s e => by
    have st : L2.start N (.ref a :: ws) = some (.ref a) :: ws.map some ++ List.replicate (N.length - ((sl x).length + 1)) none := by
      unfold L2.start
      rw [List.map_cons, List.length_cons, hl]
    rw [st]
    cases i with
    | zero =>
      simp at e
      subst e
      exact ⟨_, rfl, ⟨a, dx, fs, fun z hz => (Option.some.inj hz).symm, rfl, ne, ba, f1, bd, f2, h1, h2, hrf⟩, fun _ => rfl⟩
    | succ i =>
      rw [List.cons_append, List.getElem?_cons_succ] at e ⊢
      by_cases hi : i < (sl x).length
      · rw [List.getElem?_append_left hi] at e
        obtain ⟨v, g1, g2, g3⟩ := h.ok q i s e
        refine ⟨some v, ?_, ?_, fun z => False.elim (g3 z)⟩
        · rw [List.getElem?_append_left (by rw [List.length_map, hl]; exact hi), List.getElem?_map, g1]; rfl
        · cases s with
          | no => exact trivial
          | va r y => exact g2
          | ow r y => exact False.elim (g3 trivial)
          | bo r y => exact g2
          | ob _ _ _ _ => exact False.elim (g3 trivial)
      · rw [List.getElem?_append_right (by omega), List.getElem?_replicate] at e
        split at e
        · rename_i hlt
          have : s = .no := (Option.some.inj e).symm
          subst this
          refine ⟨none, ?_, trivial, fun z => False.elim z⟩
          rw [List.getElem?_append_right (by rw [List.length_map, hl]; omega), List.getElem?_replicate, List.length_map, hl, if_pos hlt]
        · cases e
  refine ⟨⟨sBH, Same.refl _, fB.trans sBH, fun _ _ e => e⟩, fun i s e => ?_, fun i j s t p n e1 e2 o1 o2 => ?_⟩
  · obtain ⟨o, a1, a2, _⟩ := low i s e
    exact ⟨o, a1, a2⟩
  · obtain ⟨_, _, _, z1⟩ := low i s e1
    obtain ⟨_, _, _, z2⟩ := low j t e2
    exact False.elim (n ((z1 o1).trans (z2 o2).symm))
abbrev ctI (X : Cx) (E : XK) : Ct X Empty Unit := ⟨fun cls d _ H => E cls d H, [], (fun l => nomatch l), rtF rNone⟩
theorem df_mkI {x qual : Str} {st : Stmt} {f C : Addr} {fd : FuncData} {N ps : List Str} {k : Nat} {ra : RA K A} {rf : RF K A1} {g : A → M A1} {sl : A → En K} (F : Fun K x qual st f fd) (S : FnScope N ps (defScope st)) (mk : Mk K C f) (hb : Binds K fd ps []) (hsl : ra.Fill sl)
    (hlen : ∀ a, (sl a).length + 1 = ps.length) (hN : ps.length ≤ N.length)
    (body : ∀ (cdv : Value) (A : Around) (outer : List Env) (s : Shared) (H : Hp) (E : XK) (a dx : Addr), Room k (defX P w K mg base N qual st f cdv A outer s H E).A → Cok (defX P w K mg base N qual st f cdv A outer s H E) → ∀ y,
      Nb (defX P w K mg base N qual st f cdv A outer s H E) (ctI (defX P w K mg base N qual st f cdv A outer s H E) E) (.ob C (some (a, dx)) rfN () :: sl y ++ List.replicate (N.length - ps.length) .no) (fun z => [.ob C (some (a, dx)) rf z]) (defBody st) (g y)) : DfI P w K mg base (k + 1) C ra rf g := by
  refine ⟨f, fd, ps, F.okX S (fun vs H Q E ⟨a, dx, ws, B, F, x, e, _, _, _, _, _, _, q, _⟩ => by rw [e, List.length_cons, hsl.len q, hlen]) (fun cdv A outer s H vs Q E hr ⟨a, dx, ws, B, F, y, ev, ne, sBH, ba, bd, fB, ob, q, kd⟩ => ⟨_, pb_w, ?_⟩), mk, hb⟩
  subst ev
  have en := start_okO (N := N) hsl ne sBH ba bd fB ob (show rfN.rep F [] () from rfl) q (by rw [hlen]; exact hN)
  rw [hlen] at en
  refine body cdv A outer s H E a dx hr ⟨rfl, passes_of rfl, S.nd⟩ y (takes_of rfl rfl rfl rfl) _ B F H F _ en ?_
  cases hg : g y with
  | ok z =>
    rw [hg] at kd
    exact fun σ' H' F' en' => by
      obtain ⟨o', ho, a', dx', fs, pin, e2, _, _, f1, _, f2, h5, h6, h7⟩ := en'.sl 0 _ rfl
      have := pin _ rfl
      cases this
      exact kd H' F' fs en'.ex ⟨f1, f2, h5, h6⟩ h7
  | exc e => rw [hg] at kd; exact fun cls d σ' H' F' en' z => kd cls d H' F' en'.ex z
  | stuck => rw [hg] at kd; exact kd
/-- a method by its body -/
theorem dm_mk {m qual : Str} {st : Stmt} {f C : Addr} {fd : FuncData} {N ps : List Str} {k : Nat} {ra : RA K A} {rt : Rt K ρ} {g : A → M ρ} {sl : A → En K} (F : Fun K m qual st f fd) (S : FnScope N ps (defScope st)) (hm : Meth K C m f) (hb : Binds K fd ps []) (hsl : ra.Fill sl)
    (hlen : ∀ a, (sl a).length = ps.length) (hN : ps.length ≤ N.length)
    (body : ∀ (cdv : Value) (A : Around) (outer : List Env) (s : Shared) (H : Hp) (E : XK), Room k (defX P w K mg base N qual st f cdv A outer s H E).A → Cok (defX P w K mg base N qual st f cdv A outer s H E) → ∀ a,
      Rb (defX P w K mg base N qual st f cdv A outer s H E) (ctD (defX P w K mg base N qual st f cdv A outer s H E) E rt) (sl a ++ List.replicate (N.length - ps.length) .no) (defBody st) (g a)) : Dm P w K mg base (k + 1) C m ra rt g := by
  refine ⟨f, fd, ps, F.okX S (fun vs H Q E ⟨F, a, _, q, _⟩ => by rw [hsl.len q, hlen]) (fun cdv A outer s H vs Q E hr ⟨F, a, fh, q, kd⟩ => ⟨_, pb_w, ?_⟩), hm, hb⟩
  have en := start_ok (N := N) hsl q fh (by rw [hlen]; exact hN)
  rw [hlen] at en
  refine body cdv A outer s H E hr ⟨rfl, passes_of rfl, S.nd⟩ a (takes_of rfl rfl rfl rfl) _ H F H F _ en ?_
  cases hg : g a with
  | ok y => rw [hg] at kd; exact kd
  | exc e => rw [hg] at kd; exact fun cls d σ' H' F' en' z => kd cls d H' F' en'.ex z
  | stuck => rw [hg] at kd; exact kd
end
end PL
end
section
set_option maxRecDepth 100000
namespace PL
open PySem L2
/-! ### iter(t), t a tuple -/
def ItT (t it : Addr) : HO := .ext fun h => h.IsTupleIter it t 0
def rIterT (K : PySem.W.Frag) : List V → Hp → VK → Prop := fun xs H Q => ∃ (t : Addr) (zs : List V), xs = [.ref t] ∧ SqT K H t zs ∧ ∀ it, H it = none → Q (.ref it) (upd H it (ItT t it))
theorem call_iter_tup {prog : Program} {w : World} {A : Around} {E : Value → Shared → Prop} {s : Shared} {t : Addr} {items : Array Value} {Q : Value → Shared → Prop} (ht : s.heap.IsTuple t items)
    (h : Q (.ref s.heap.objs.size) { s with heap := s.heap.push { cls := .type "tuple_iterator", data := .fields #[.ref t, .int 0 0] } }) : wpAny (model prog w) A (call (.builtin "iter") [.ref t]) Q E s := by
  refine Calls.call_function_entry (by decide +kernel) (by decide +kernel) PySem.W.kdk_entry_iter (PySem.W.kdk_args_iter _) ?_
  unfold Builtin.«iter»
  refine wpAny_bind (m := someArgs "iter" 1 2 _) (wpAny_of_eq (a := [Value.ref t]) (by first | rfl | kernel_rfl!) ?_)
  show wpAny _ _ (pyIter (.ref t) >>= _) _ _ _
  refine wpAny_bind (wpAny_pyIter_tuple ht ?_)
  exact wpAny_pure ⟨_, rfl, h⟩
theorem itT_ok {P : Program} {w : World} {H : Hp} {h : Heap} {t it : Addr} (e : h.IsTupleIter it t 0) : ObjOk P w H h it (ItT t it) := ⟨e, let ⟨o, z, _⟩ := e; ⟨o, z⟩, fun h1 h2 ⟨o, e, c, d⟩ k => ⟨o, k _ e, c, d⟩⟩
def rIterTN (K : PySem.W.Frag) (n : Nat) : List V → Hp → VK → Prop := fun xs H Q => ∃ (t : Addr) (zs : List V), xs = [.ref t] ∧ SqT K H t zs ∧ ∀ it, H it = none → n ≤ it → Q (.ref it) (upd H it (ItT t it))
section
variable {X : Cx}
theorem ItX.call_iterTN : CallR X (.builtin "iter") (rIterTN X.K X.s_0.heap.objs.size) := by
  intro pins s σ H xs us Q I r h
  obtain ⟨t, zs, rfl, hq, q⟩ := h
  obtain ⟨u, rfl, ru⟩ := vals1 r
  cases ru
  obtain ⟨its, rv, pl, hz⟩ := I.tuple hq
  refine call_iter_tup (show s.heap.IsTuple t its.toArray from pl) ?_
  exact ⟨.ref s.heap.objs.size, _, I.laid (t' := s.toks) (fun b u e => Heap.get?_push_of_some _ e) (Nat.le_refl _) (itT_ok ⟨_, Heap.get?_push_size _ rfl, rfl, rfl⟩), rfl, q _ (I.hok.fresh (Nat.le_refl _)) I.sz⟩
theorem cx_false {P : Program} {w : World} {outer : List Env} {H : Hp} {s s' : Shared} {e : Value} (h : L2.CX P w outer H s (fun _ _ _ => False) e s') : False := by
  obtain ⟨_, _, _, _, _, _, _, _, _, _, _, _, z⟩ := h
  exact z
theorem call_iterT : CallR X (.builtin "iter") (rIterT X.K) := by
  intro pins s σ H xs us Q I r h
  obtain ⟨t, zs, rfl, hq, q⟩ := h
  obtain ⟨u, rfl, ru⟩ := vals1 r
  cases ru
  obtain ⟨its, rv, pl, hz⟩ := I.tuple hq
  refine call_iter_tup (show s.heap.IsTuple t its.toArray from pl) ?_
  exact ⟨.ref s.heap.objs.size, _, I.laid (t' := s.toks) (fun b u e => Heap.get?_push_of_some _ e) (Nat.le_refl _) (itT_ok ⟨_, Heap.get?_push_size _ rfl, rfl, rfl⟩), rfl, q _ (I.hok.fresh (Nat.le_refl _))⟩
end
/-! ### a class whose __iter__ hands out the iterator of one of its tuples -/
/-- what is known behind its call: a new iterator of the tuple, and nothing else is touched -/
def ItNew (H : Hp) (n : Nat) (p : Addr) : VK := fun v H' => ∃ it, v = .ref it ∧ n ≤ it ∧ H it = none ∧ H' = upd H it (ItT p it)
structure OwnIt (P : Program) (w : World) (K : PySem.W.Frag) (mg : Str → Option Value) (base : Heap) (k : Nat) (C : Addr) (fld : Str) : Prop where
  ex : ∃ f, PySem.W.findIn K (.ref C) "__iter__" = some (some (.ref f)) ∧ PySem.W.isFn K (.ref f) = true ∧
    ∀ (A : Around) (outer : List Env) (s : Shared) (H : Hp) (a dx p : Addr) (fs : List (Str × V)) (us : List V), Room k A → Env0 P w K mg base A outer s H → H a = some (.ins C dx fs) → fs.lookup fld = some (.ref p) → SqT K H p us →
      codeAny (model P w) A (.call (.ref f) ⟨[.ref a], []⟩) (CR (L2.CX P w) outer P w H s (ItNew H s.heap.objs.size p) (fun _ _ _ => False)) s
theorem OwnIt.mono {P : Program} {w : World} {K : PySem.W.Frag} {mg : Str → Option Value} {base : Heap} {j k : Nat} {C : Addr} {fld : Str} (D : OwnIt P w K mg base j C fld) (h : j ≤ k) : OwnIt P w K mg base k C fld :=
  let ⟨f, a, b, c⟩ := D.ex
  ⟨f, a, b, fun A outer s H a dx p fs us hr => c A outer s H a dx p fs us (hr.mono h)⟩
/-- its body's frame -/
abbrev itX (P : Program) (w : World) (K : PySem.W.Frag) (mg : Str → Option Value) (base : Heap) (N : List Str) (qual : Str) (st : Stmt) (f : Addr) (cdv : Value) (A : Around) (outer : List Env) (s : Shared) (H : Hp) : Cx := defX P w K mg base N qual st f cdv A outer s H (fun _ _ _ => False)
theorem oi_mk {P : Program} {w : World} {K : PySem.W.Frag} {mg : Str → Option Value} {base : Heap} {k : Nat} {x qual fld : Str} {st : Stmt} {f C : Addr} {fd : FuncData} {N : List Str} {p1 p2 p3 p4 p5 : Pos} (F : Fun K x qual st f fd) (S : FnScope N ["self"] (defScope st)) (hN : N[0]? = some ("self" : Str))
    (hbd : defBody st = [.Return (some (.Call (.Name "iter" p3) [.Attribute (.Name "self" p1) fld p2] [] p4)) p5]) (cl : Cls K C) (na : NoAttr K C fld) (hit : PySem.W.findIn K (.ref C) "__iter__" = some (some (.ref f))) (hfn : PySem.W.isFn K (.ref f) = true) (hb : Binds K fd ["self"] []) (hm : mg "iter" = none)
    (hg : ∀ cdv A outer s H, Gl (itX P w K mg base N qual st f cdv A outer s H) "iter") : OwnIt P w K mg base (k + 1) C fld := by
  refine ⟨f, hit, hfn, fun A outer s H a dx p fs us hr e0 ha hl hp => ?_⟩
  obtain ⟨oc, od, kV, doc, pm, an, cdv, ct, osl, efd, lk, hcd⟩ := F.ex
  have inK : K.In s.heap := e0.mod.kin.keeps fun b o e => (e0.bs b o e).1
  have bnd := hb s [.ref a] inK rfl
  rw [efd] at lk bnd
  have one : Vals [V.ref a] [Value.ref a] := .cons rfl .nil
  have slots : ∀ y ∈ (["self"] : List Str).zip [Value.ref a], (defScope st).names.lookup y.1 = some .local ∨ ((defScope st).names.lookup y.1 = some .cell ∧ ((cellsFrom (s.heap.objs.size + 1) (defScope st).names []).lookup y.1).isSome = true) := fun y hy =>
    (S.par y.1 (List.of_mem_zip hy).1).imp id fun q => ⟨q, PySem.W.cellsFrom_some _ _ _ (.inl q)⟩
  refine codeAny_call_function hr.depth (inK _ _ lk) rfl S.co S.gen rfl (PySem.W.codeRec_of inK hcd) (bnd _ _ _ _ ?_)
  refine wpAny_newFunctionEnv_cells S.kind slots fun env he s1 x1 => ?_
  subst he
  refine ⟨(e0.mod.nolimit.keeps fun b o e => (e0.bs b o e).1).keeps x1.toInCall.keep, codeAny_func ?_⟩
  have I : Inv (itX P w K mg base N qual st f cdv A outer s H) [] (L2.start N [.ref a]) H s1 := inv_start S hr.hd e0 rfl one x1
  have vs : Vis (itX P w K mg base N qual st f cdv A outer s H).env.scope "self" := (S.par "self" (List.Mem.head _)).elim (fun z => .inl z) (fun z => .inr (.inl z))
  have wp : wB (itX P w K mg base N qual st f cdv A outer s H) (defBody st) { nx := fun _ _ => False, rt := ItNew H s.heap.objs.size p } (L2.start N [.ref a]) H := by
    rw [hbd]
    exact PSs.w (pss_one (ps_ret (pe_callB ItX.call_iterTN (hg cdv A outer s H) hm PyProof.Rows.boot_iter (pa_cons (pe_fld (pe_var (i := 0) hN vs) rfl) pa_nil rfl) (by decide) (by decide) rfl rfl)))
      ⟨.ref a, rfl, a, C, dx, fs, _, rfl, ha, cl, na, hl, p, us, rfl, hp, fun it hn hge => ⟨it, rfl, hge, hn, rfl⟩⟩
  refine wpAny_mono (wp.run [] s1 I) (fun fl s' q => ?_) fun e s' q => ?_
  · cases fl with
    | ret u =>
      obtain ⟨v, σ', H', J, rv, q⟩ := q
      exact ⟨v, H', J.os, J.bare, J.base, J.hok, rv, q⟩
    | next => obtain ⟨_, _, _, q⟩ := q; exact False.elim q
    | brk => obtain ⟨_, _, _, q⟩ := q; exact False.elim q
    | cont => obtain ⟨_, _, _, q⟩ := q; exact False.elim q
  · exact q
theorem tl_same {it : Addr} {o : HO} {H : Hp} (h : H it = none) : ItX.dropH (upd H it o) it = H := ItX.dropH_upd h
section
variable {X : Cx} {tg e : Expr} {W : WX}
def iOwnT (C : Addr) (fld : Str) (K : PySem.W.Frag) (te : TE) : TI := fun σ H R => te σ H fun x H1 => ∃ a dx fs p us, x = .ref a ∧ H1 a = some (.ins C dx fs) ∧ fs.lookup fld = some (.ref p) ∧ SqT K H1 p us ∧ R (Itt K p) H1
/-- the iterator that __iter__ handed out -/
theorem run_own {pins : List (Addr × Obj)} {σ : St} {H1 : Hp} {s1 : Shared} {A : Around} {k : Nat} {C a dx p : Addr} {fs : List (Str × V)} {us : List V} {fld : Str} {Q : Value → Shared → Prop} {E : Value → Shared → Prop} (D : OwnIt X.prog X.w X.K X.mg X.base k C fld) (hr : Room k A) (hA : A.frames = X.A.frames) (I : Inv X pins σ H1 s1)
    (ha : H1 a = some (.ins C dx fs)) (hl : fs.lookup fld = some (.ref p)) (hp : SqT X.K H1 p us) (h : ∀ it s2, s1.heap.objs.size ≤ it → Inv X pins σ (upd H1 it (ItT p it)) s2 → H1 it = none → Q (.ref it) s2) : wpAny (model X.prog X.w) A (pyIter (.ref a)) Q E s1 := by
  obtain ⟨f, hit, hfn, run⟩ := D.ex
  obtain ⟨mA, J, _⟩ := ins_get I.hok ha
  obtain ⟨od, J, _⟩ := J.look
  obtain ⟨m0, hF⟩ := I.fr
  refine PySem.W.owit_iter hF I.ok.mod.kin J hit hfn ?_
  have e0 : Env0 X.prog X.w X.K X.mg X.base A X.stack s1 H1 := by
    have e := I.env0
    exact ⟨by rw [hA]; exact e.frames, e.mod, e.bs, e.bsz, e.funs, e.frf, e.hok, e.bare⟩
  refine wpAny_call (codeAny_mono (run A X.stack s1 H1 a dx p fs us hr e0 ha hl hp) fun r s2 hq => ?_)
  obtain ⟨u, rfl, ce⟩ : ∃ u, r = .ok (.ret u) ∧ CE X.stack X.prog X.w H1 s1 (ItNew H1 s1.heap.objs.size p) u s2 := by
    cases r with
    | error er => exact False.elim (cx_false hq)
    | ok fl =>
      cases fl with
      | ret u => exact ⟨u, rfl, hq⟩
      | next => exact False.elim hq
      | brk => exact False.elim hq
      | cont => exact False.elim hq
  obtain ⟨v, H', I2, r, it, ev, hge, hn, eH⟩ := I.after ce
  subst ev
  subst eH
  obtain rfl : u = Value.ref it := r
  have st : s2.heap.IsTupleIter it p 0 := (I2.hok it _ upd_same).1
  unfold PySem.W.OwitIt
  exact wpAny_specialOf st.typeIs PySem.F.slot_tuple_iterator_next.lookup (h it s2 hge I2 hn)
theorem pi_ownT {k : Nat} {C : Addr} {fld : Str} {te : TE} (D : OwnIt X.prog X.w X.K X.mg X.base k C fld) (hr : Room k X.A) (he : PE X e te) : PI X tg e (iOwnT C fld X.K te) := by
  refine ⟨fun pins s σ H R I h => ?_⟩
  refine thn (he.run pins s σ H _ I h) fun v s1 ⟨x, H1, I1, r1, a, dx, fs, p, us, ex, ha, hl, hp, q⟩ => ?_
  subst ex
  obtain rfl : v = Value.ref a := r1
  refine run_own D hr rfl I1 ha hl hp fun it s2 hge I2 hn => ?_
  have e : (upd H1 it (ItT p it)) it = some (ItT p it) := upd_same
  have st : s2.heap.IsTupleIter it p 0 := (I2.hok it _ e).1
  have I3 : Inv X pins σ H1 s2 := by
    have := ItX.inv_drop I2 e
    rw [ItX.dropH_upd hn] at this
    exact this
  refine ⟨it, [it], _, _, H1, rfl, I3, turn_tuple p it, st, fun b hb => ?_, q⟩
  have eb : b = it := by simpa using hb
  subst eb
  have := ItX.inv_fp I2 e (Nat.le_trans I1.sz hge)
  rw [ItX.dropH_upd hn] at this
  exact this
end
section
variable {X : Cx} {W : WX} {Γ : En X.K} {α A : Type} {tg a : Expr} {g : Bool}
/-- an instance is walked: the tuple of its attribute fld -/
theorem iv_own {k : Nat} {C : Addr} {fld : Str} {rf : RF X.K A} {r : R X.K α} {gt : A → List α} {m : M A} (D : OwnIt X.prog X.w X.K X.mg X.base k C fld) (hr : Room k X.A) (at_ : rf.At fld (rVTup r) gt) (h : Ev X W Γ (rObj C rf) a m) : Iv X g W Γ r tg a (m.bind fun x => .ok (gt x)) := fun tk σ B F0 H F Q en k =>
  PI.w (pi_ownT D hr pe_w) <| h tk σ B F0 H F _ en <| KO.bnd kkI k fun x v H1 F1 e1 r1 k1 => by
    obtain ⟨a, dx, fs, ev, ha, hf⟩ := r1
    subst ev
    obtain ⟨w, hl, p, vs, ew, hp, hr⟩ := at_.run hf
    subst ew
    exact ⟨a, dx, fs, p, vs, rfl, e1.fh _ _ ha, hl, Same.tq e1.fh hp, KI.now k1 e1.fh (en.ex.hh.trans e1.hh) (itp_tup (fun F' H' x y _ => Same.tq y (Same.tq x hp)) hr)⟩
theorem iv_ownP {k : Nat} {C : Addr} {fld : Str} {rf : RF X.K A} {r : R X.K α} {gt : A → List α} {x : A} (D : OwnIt X.prog X.w X.K X.mg X.base k C fld) (hr : Room k X.A) (at_ : rf.At fld (rVTup r) gt) (h : Ev X W Γ (rObj C rf) a (.ok x)) : Iv X g W Γ r tg a (.ok (gt x)) := iv_own D hr at_ h
end
end PL
end
section
set_option maxRecDepth 100000
namespace PL
open PySem L2
/-! ### list(o) of an instance whose __iter__ hands out a tuple's iterator -/
structure NoLen (K : PySem.W.Frag) (C : Addr) : Prop where
  nolen : PySem.W.findIn K (.ref C) "__len__" = some none
  nohint : PySem.W.findIn K (.ref C) "__length_hint__" = some none
def rListIt (K : PySem.W.Frag) (C : Addr) (fld : Str) : List V → Hp → VK → Prop := fun xs H Q => ∃ a dx fs p us, xs = [.ref a] ∧ H a = some (.ins C dx fs) ∧ fs.lookup fld = some (.ref p) ∧ SqT K H p us ∧ ∀ q, H q = none → Q (.ref q) (upd H q (.lst us))
section
variable {X : Cx} {pins : List (Addr × Obj)} {σ : St} {k : Nat} {C : Addr} {fld : Str}
/-- the turns: from place i on -/
theorem tl_loop {A1 : Around} {H : Hp} {q it p : Addr} {us : List V} {Rs : Result → Shared → Prop} (hh : A1.in1.handled = none) (hp : SqT X.K H p us) (hq : H q = none) (hqi : it ≠ q) (hz : us.length ≤ sizeLine)
    (hdone : ∀ s', Inv X pins σ (upd H q (.lst us)) s' → Rs (.ok (.ret .none)) s') : ∀ (m i : Nat) (s : Shared), m = us.length - i → i ≤ us.length → Inv X pins σ (upd H q (.lst (us.take i))) s → FpOk X pins (upd H q (.lst (us.take i))) it → s.heap.IsTupleIter it p i →
      codeAny (model X.prog X.w) A1 (.builtin "list.extend.loop" ⟨[.ref q, .ref it, .none], []⟩) Rs s := by
  intro m
  induction m with
  | zero =>
    intro i s hm hi I fp st
    have e : i = us.length := by omega
    subst e
    have hp' : SqT X.K (upd H q (.lst (us.take us.length))) p us := Same.tq (same_upd hq) hp
    obtain ⟨its, rv, pl, hz'⟩ := I.tuple hp'
    obtain ⟨f0, f1, f2, f3, f4, f5⟩ := fp
    refine codeAny_builtin PySem.F.entry_extend_loop ?_
    rw [Around.under_plainId PySem.F.plain_extend_loop _]
    show wpAny _ A1.in1 (pyNext (.ref it) >>= _) _ _ s
    refine wpAny_bind ?_
    refine wpAny_pyNext_tuple_end hh st (show s.heap.IsTuple p its.toArray from pl) (by have := rv.length; simp; omega) fun h' eb => ?_
    refine wpAny_pure (hdone _ ?_)
    have := I.turned (t' := s.toks) (fun b o hb e => eb b o hb e) f0 f1 f3 f4 f5
    rwa [List.take_length] at this
  | succ m ih =>
    intro i s hm hi I fp st
    have hlt : i < us.length := by omega
    have hp' : SqT X.K (upd H q (.lst (us.take i))) p us := Same.tq (same_upd hq) hp
    obtain ⟨its, rv, pl, hz'⟩ := I.tuple hp'
    obtain ⟨u, hu, ru⟩ := rv.get (List.getElem?_eq_getElem hlt)
    obtain ⟨f0, f1, f2, f3, f4, f5⟩ := id fp
    refine codeAny_builtin PySem.F.entry_extend_loop ?_
    rw [Around.under_plainId PySem.F.plain_extend_loop _]
    show wpAny _ A1.in1 (pyNext (.ref it) >>= _) _ _ s
    refine wpAny_bind ?_
    refine wpAny_pyNext_tuple_item st (show s.heap.IsTuple p its.toArray from pl) (x := u) (by simpa using hu) fun h' st' sb => ?_
    have I1 : Inv X pins σ (upd H q (.lst (us.take i))) { s with heap := h' } := I.turned (t' := s.toks) (fun b o hb e => (sb.2 b hb).trans e) f0 f1 f3 f4 f5
    show wpAny _ A1.in1 (updateSeq q (·.push u) >>= _) _ _ _
    obtain ⟨z, its2, n2, r2, hl, e⟩ := I1.lstM (upd_same (H := H) (a := q) (o := .lst (us.take i)))
    have hlen : its2.length = i := by rw [← r2.length, List.length_take]; omega
    have etk : us.take i ++ [us[i]] = us.take (i + 1) := by rw [List.take_add_one, List.getElem?_eq_getElem hlt]; rfl
    refine wpAny_bind (wpAny_updateSeq e rfl (wpAny_pure ⟨plainId_quiet PySem.F.plain_extend_loop _, ?_⟩) (by rw [List.size_toArray]; omega) (by show (its2.toArray.push u).size ≤ sizeLine + 1; rw [Array.size_push, List.size_toArray]; omega))
    have I2 := I1.lset (f := (·.push u)) (its' := its2 ++ [u]) (ys := us.take (i + 1)) (t' := s.toks) upd_same e (by simp) (by rw [← etk]; exact r2.append (.cons ru .nil)) (by rw [List.length_take]; omega)
    rw [upd_upd] at I2
    refine ih (i + 1) _ (by omega) (by omega) I2 ⟨by rw [upd_ne hqi]; rw [upd_ne hqi] at f0; exact f0, f1, f2, f3, f4, f5⟩ ?_
    obtain ⟨oi, hoi, hc, hd⟩ := st'
    exact ⟨oi, (Heap.get?_update_other _ _ (Ne.symm hqi)).trans hoi, hc, hd⟩
theorem call_listIt (D : OwnIt X.prog X.w X.K X.mg X.base k C fld) (nl : NoLen X.K C) (hc : X.calm = true) (hr : Room (k + 4) X.A) : CallR X (.type "list") (rListIt X.K C fld) := by
  intro pins s σ H xs us0 Q I rv h
  obtain ⟨a, dx, fs, p, us, rfl, ha, hl, hp, hq⟩ := h
  obtain ⟨u, rfl, ru⟩ := rv.one
  cases ru
  refine callType_codes (Q₁ := fun obj s₁ => obj = .ref s.heap.objs.size ∧ s₁ = { s with heap := s.heap.push { cls := .type "list", data := .seq #[] } }) PySem.F.called_list (PySem.F.typeCall_list_1 _) PySem.F.entry_list_init
    (code_list_new _ ⟨rfl, rfl⟩) fun obj s₁ h₁ => ?_
  obtain ⟨rfl, rfl⟩ := h₁
  have hS : (s.heap.push { cls := .type "list", data := .seq #[] }).get? s.heap.objs.size = some { cls := .type "list", data := .seq #[] } := Heap.get?_push_size _ rfl
  refine ⟨⟨_, hS, rfl⟩, PySem.F.args_list_init_2 _ _, ?_⟩
  have fr : H s.heap.objs.size = none := I.hok.fresh (Nat.le_refl _)
  have hne : s.heap.objs.size ≠ a := Ne.symm (ne_of_none ha fr)
  have I1 : Inv X pins σ (upd H s.heap.objs.size (.lst [])) { s with heap := s.heap.push { cls := .type "list", data := .seq #[] } } := I.lnew (its := []) (t' := s.toks) .nil (Nat.zero_le _)
  show wpAny _ _ (do let old ← Builtin.List.listItems (.ref s.heap.objs.size); Builtin.List.listUpdate (.ref s.heap.objs.size) (fun _ => #[]); letGo old.toList.reverse; Builtin.List.listExtendWith (.ref s.heap.objs.size) (.ref a) .none) _ _ _
  refine wpAny_bind ?_
  unfold Builtin.List.listItems
  refine wpAny_bind (wpAny_seqItems hS rfl (wpAny_pure ?_))
  show wpAny _ _ (updateSeq s.heap.objs.size (fun _ => #[]) >>= fun _ => letGo (#[] : Array Value).toList.reverse >>= fun _ => Builtin.List.listExtendWith (.ref s.heap.objs.size) (.ref a) .none) _ _ _
  refine wpAny_bind (wpAny_updateSeq hS rfl ?_)
  have I2 := I1.lset (f := fun _ => #[]) (its := []) (its' := []) (ys := []) (t' := s.toks) upd_same hS rfl .nil (Nat.zero_le _)
  rw [upd_upd] at I2
  refine wpAny_bind (wpAny_letGo ?_)
  have ha2 : upd H s.heap.objs.size (.lst []) a = some (.ins C dx fs) := by rw [upd_ne (Ne.symm hne)]; exact ha
  have hp2 : SqT X.K (upd H s.heap.objs.size (.lst [])) p us := Same.tq (same_upd fr) hp
  unfold Builtin.List.listExtendWith
  obtain ⟨mA, J, _⟩ := ins_get I2.hok ha2
  obtain ⟨od, J, _⟩ := J.look
  refine wpAny_bind (J.type.here ?_)
  have h1 : Builtin.List.listSameRef (.ref s.heap.objs.size) (.ref a) = false := by simp [Builtin.List.listSameRef, hne]
  have h2 : (Value.ref C == Value.type "list") = false := rfl
  have h3 : (Value.ref C == Value.type "tuple") = false := rfl
  simp only [h1, h2, h3, Bool.or_false, Bool.false_eq_true, if_false]
  have hr2 : Room k X.A.in1.in1 := by
    have := hr.in1
    exact (Room.mono (Room.in1 this) (by omega))
  refine wpAny_bind (run_own D hr2 rfl I2 ha2 hl hp2 fun it s2 hge I3 hn => ?_)
  have e3 : (upd (upd H s.heap.objs.size (.lst [])) it (ItT p it)) it = some (ItT p it) := upd_same
  have st : s2.heap.IsTupleIter it p 0 := (I3.hok it _ e3).1
  have hsz := I2.sz
  have fp : FpOk X pins (upd H s.heap.objs.size (.lst [])) it := by
    have := ItX.inv_fp I3 e3 (Nat.le_trans hsz hge)
    rwa [ItX.dropH_upd hn] at this
  have I4 : Inv X pins σ (upd H s.heap.objs.size (.lst [])) s2 := by
    have := ItX.inv_drop I3 e3
    rwa [ItX.dropH_upd hn] at this
  have hqi : it ≠ s.heap.objs.size := fun z => by rw [z, upd_same] at hn; cases hn
  obtain ⟨mA', J', _⟩ := ins_get I4.hok ha2
  obtain ⟨od', J', _⟩ := J'.look
  refine wpAny_bind (wpAny_holding ?_)
  unfold Builtin.List.listLengthHint
  refine wpAny_bind (wpAny_bind (J'.type.here ((PySem.W.looks_findIn I4.kIn nl.nolen).here ?_)))
  refine PySem.W.KFB.if_not rfl ?_
  refine PySem.W.KFB.if_not rfl ?_
  refine wpAny_bind (wpAny_bind (J'.type.here ((PySem.W.looks_findIn I4.kIn nl.nohint).here ?_)))
  refine wpAny_pure ?_
  obtain ⟨z, its, n4, r4, hl4, e4⟩ := I4.lstM (upd_same (H := H) (a := s.heap.objs.size) (o := .lst []))
  cases r4
  have hz : us.length ≤ sizeLine := by
    obtain ⟨its5, rv5, pl5, hz5⟩ := I.tuple hp
    have := rv5.length
    omega
  have fin : ∀ s3, Inv X pins σ (upd H s.heap.objs.size (.lst us)) s3 → wants (fun r s₂ => r = .none ∧ EP X pins σ Q (.ref s.heap.objs.size) s₂) X.xe (.ok (.ret .none)) s3 := fun s3 I5 => ⟨rfl, .ref s.heap.objs.size, _, I5, rfl, hq _ fr⟩
  have hh : X.A.in1.in1.handled = none := I.ok.hd hc
  refine wpAny_ite_split (fun _ => ?_) (fun _ => wpAny_pure ⟨plainId_quiet PySem.F.plain_extend_loop _, tl_loop (A1 := X.A.in1) hh hp fr hqi hz fin us.length 0 s2 rfl (Nat.zero_le _) (by rw [List.take_zero]; exact I4) (by rw [List.take_zero]; exact fp) st⟩)
  refine wpAny_bind (wpAny_rule ?_)
  refine wpAny_bind ?_
  show wpAny _ _ (updateSeq s.heap.objs.size (·.push .none) >>= fun _ => updateSeq s.heap.objs.size (·.pop)) _ _ _
  refine wpAny_bind (wpAny_updateSeq e4 rfl ?_)
  have I5 := I4.lset (f := (·.push Value.none)) (its' := [Value.none]) (ys := [.non]) (t' := s2.toks) upd_same e4 (by simp) (.cons rfl .nil) (by rw [List.length_singleton, sizeLine_eq]; decide)
  obtain ⟨z6, its6, k6, r6, hl6, e6⟩ := I5.lstM upd_same
  obtain ⟨u6, rfl, ru6⟩ := r6.one
  refine wpAny_updateSeq e6 rfl ?_ (by show 1 ≤ sizeLine; rw [sizeLine_eq]; decide) (by show 0 ≤ sizeLine + 1; exact Nat.zero_le _)
  refine wpAny_pure ⟨plainId_quiet PySem.F.plain_extend_loop _, ?_⟩
  have I7 := I5.lset (f := (·.pop)) (its := [u6]) (its' := []) (ys := []) (t' := s2.toks) upd_same e6 (by rfl) .nil (Nat.zero_le _)
  rw [upd_upd, upd_upd] at I7
  refine tl_loop (A1 := X.A.in1) hh hp fr hqi hz fin us.length 0 _ rfl (Nat.zero_le _) (by rw [List.take_zero]; exact I7) (by rw [List.take_zero]; exact fp) ?_
  obtain ⟨oi, hoi, hci, hdi⟩ := st
  exact ⟨oi, (Heap.get?_update_other _ _ (Ne.symm hqi)).trans ((Heap.get?_update_other _ _ (Ne.symm hqi)).trans hoi), hci, hdi⟩
end
section
variable {X : Cx} {W : WX} {Γ : En X.K} {α A : Type} {a : Expr} {p0 pos : Pos}
theorem nw_listO {k : Nat} {C : Addr} {fld : Str} {rf : RF X.K A} {r : R X.K α} {gt : A → List α} {m : M A} (D : OwnIt X.prog X.w X.K X.mg X.base k C fld) (nl : NoLen X.K C) (hc : X.calm = true) (hr : Room (k + 4) X.A) (at_ : rf.At fld (rVTup r) gt) (hm : X.mg "list" = none) (h : Ev X W Γ (rObj C rf) a m) (hg : Gl X "list" := by rfl)
    (hs : starEach [a] X.env = (false, eval a X.env) :: starEach [] X.env := by exact star_ns rfl) : Nw X W Γ r (.Call (.Name "list" p0) [a] [] pos) (m.bind fun x => .ok (gt x)) :=
  nw_y1 (f := fun x => .ok (gt x)) (call_listIt D nl hc hr) PyProof.Rows.boot_list (by decide) (fun {_ _ _ _ _ v y} s r k => by
    obtain ⟨a, dx, fs, rfl, ha, hf⟩ := r
    obtain ⟨w, hl, p, vs, ew, hp, hr⟩ := at_.run hf
    subst ew
    exact ⟨a, dx, fs, p, vs, rfl, s _ _ ha, hl, Same.tq s hp, fun q hq => KN.now k s hq hr⟩) h hm hg (by decide) hs
theorem nw_listOP {k : Nat} {C : Addr} {fld : Str} {rf : RF X.K A} {r : R X.K α} {gt : A → List α} {x : A} (D : OwnIt X.prog X.w X.K X.mg X.base k C fld) (nl : NoLen X.K C) (hc : X.calm = true) (hr : Room (k + 4) X.A) (at_ : rf.At fld (rVTup r) gt) (hm : X.mg "list" = none) (h : Ev X W Γ (rObj C rf) a (.ok x)) (hg : Gl X "list" := by rfl)
    (hs : starEach [a] X.env = (false, eval a X.env) :: starEach [] X.env := by exact star_ns rfl) : Nw X W Γ r (.Call (.Name "list" p0) [a] [] pos) (.ok (gt x)) := nw_listO D nl hc hr at_ hm h hg hs
end
end PL
end
section
set_option maxRecDepth 100000
namespace PL
open PySem L2
/-! ### generator defs -/
section
variable {α β S S1 A ρ L : Type} {X : Cx}
/-- goes on, having handed out -/
def KG (X : Cx) (r : R X.K β) (B F0 : Hp) (Γ' : S → En X.K) (D : GEnds) (ys : List V) : M (S × List β) → Prop
  | .ok p => ys.length + p.2.length ≤ sizeLine ∧ ∀ σ' H' F' ws, EnOk (Γ' p.1) σ' B F0 H' F' → Paired (r.rep F') ws p.2 → D.nx (ys ++ ws) σ' H'
  | _ => False
def Gb (X : Cx) (r : R X.K β) (Γ : En X.K) (Γ' : S → En X.K) (ss : List Stmt) (m : M (S × List β)) : Prop :=
  ∃ t, GSs X ss t ∧ ∀ σ B F0 H F D ys, EnOk Γ σ B F0 H F → KG X r B F0 Γ' D ys m → t D ys σ H
def Gs (X : Cx) (r : R X.K β) (Γ : En X.K) (Γ' : S → En X.K) (st : Stmt) (m : M (S × List β)) : Prop :=
  ∃ t, GS X st t ∧ ∀ σ B F0 H F D ys, EnOk Γ σ B F0 H F → KG X r B F0 Γ' D ys m → t D ys σ H
abbrev ct0 (X : Cx) : Ct X Empty Unit := ⟨W0, [], (fun l => nomatch l), rtF rNone⟩
variable {r : R X.K β} {Γ Γ1 : En X.K} {Γ' : S → En X.K} {st : Stmt} {ss : List Stmt} {e : Expr} {pos yp : Pos}
/-- behind the frozen heap F1 -/
theorem KG.up {B F0 F1 H1 H : Hp} {Γ0 : En X.K} {σ0 : St} {D : GEnds} {ys ws : List V} {out out' : List β} {s : S} (e0 : EnOk Γ0 σ0 B F0 H1 F1) (k : KG X r B F0 Γ' D ys (.ok (s, out ++ out'))) (hw : Paired (r.rep F1) ws out) : KG X r B F1 Γ' D (ys ++ ws) (.ok (s, out')) := by
  obtain ⟨k1, k2⟩ := k
  refine ⟨?_, fun σ' H' F' us en q => ?_⟩
  · have := Paired.length hw
    simp only [List.length_append] at k1 ⊢
    omega
  · rw [List.append_assoc]
    exact k2 σ' H' F' (ws ++ us) (EnOk.rebase e0.ex.ff e0.ex.nw en) (Paired.app (reps_mono en.ex.ff hw) q)
theorem gb_nil {s : S} (h : SLe Γ (Γ' s)) : Gb X r Γ Γ' [] (.ok (s, [])) := ⟨_, gss_nil, fun σ B F0 H F D ys en k => by
  have := k.2 σ H F [] (h.le en) .nil
  rwa [List.append_nil] at this⟩
theorem gb_ns {Γ1 : S1 → En X.K} {m1 : M S1} {m2 : S1 → M (S × List β)} (h : Ns X (ct0 X) Γ Γ1 st m1) (g : ∀ s, Gb X r (Γ1 s) Γ' ss (m2 s)) : Gb X r Γ Γ' (st :: ss) (m1.bind m2) := by
  cases m1 with
  | ok s =>
    obtain ⟨t, hg, ht⟩ := g s
    exact ⟨_, gss_cons (gs_ps ps_w) hg, fun σ B F0 H F D ys en k => h takes0 σ B F0 H F _ en fun σ' H' F' en' => ht σ' B F0 H' F' D ys en' k⟩
  | exc e => exact ⟨_, gss_cons (gs_ps ps_w) (gss_pss pb_w), fun σ B F0 H F D ys en k => False.elim k⟩
  | stuck => exact ⟨_, gss_cons (gs_ps ps_w) (gss_pss pb_w), fun σ B F0 H F D ys en k => False.elim k⟩
def M.then2 (m : M (S1 × List β)) (f : S1 → M (S × List β)) : M (S × List β) := m.bind fun p => (f p.1).bind fun q => .ok (q.1, p.2 ++ q.2)
theorem gb_cons {Γ1 : S1 → En X.K} {m1 : M (S1 × List β)} {m2 : S1 → M (S × List β)} (h : Gs X r Γ Γ1 st m1) (g : ∀ s, Gb X r (Γ1 s) Γ' ss (m2 s)) : Gb X r Γ Γ' (st :: ss) (M.then2 m1 m2) := by
  obtain ⟨t1, h1, h2⟩ := h
  cases m1 with
  | ok p =>
    obtain ⟨t, hg, ht⟩ := g p.1
    refine ⟨_, gss_cons h1 hg, fun σ B F0 H F D ys en k => ?_⟩
    unfold M.then2 at k
    change KG X r B F0 Γ' D ys ((m2 p.1).bind fun q => .ok (q.1, p.2 ++ q.2)) at k
    cases hm : m2 p.1 with
    | ok q =>
      rw [hm] at k ht
      have kl := k.1
      refine h2 σ B F0 H F _ ys en ⟨?_, fun σ' H' F' ws en' hw => ?_⟩
      · simp only [List.length_append] at kl; omega
      · exact ht σ' B F' H' F' D (ys ++ ws) en'.here (KG.up (H := H') en' k hw)
    | exc e => rw [hm] at k; exact False.elim k
    | stuck => rw [hm] at k; exact False.elim k
  | exc e => exact ⟨_, gss_cons h1 (gss_pss pb_w), fun σ B F0 H F D ys en k => False.elim k⟩
  | stuck => exact ⟨_, gss_cons h1 (gss_pss pb_w), fun σ B F0 H F D ys en k => False.elim k⟩
/-- yield e -/
theorem gs_yl {m : M β} (h : Ev X W0 Γ r e m) (hco : X.env.scope.isCoroutine = false := by rfl) (hi : interactive X.env = false := by rfl) : Gs X r Γ (fun _ : Unit => Γ) (.Expr (.Yield (some e) yp) pos) (m.bind fun a => .ok ((), [a])) := by
  refine ⟨_, gs_yield pe_w hco hi, fun σ B F0 H F D ys en k => ?_⟩
  cases m with
  | ok a =>
    have k1 := k.1
    refine ⟨by simp at k1; omega, h takes0 σ B F0 H F _ en fun v H' F' ex hv => k.2 σ H' F' [v] (en.ext ex) (.cons hv .nil)⟩
  | exc e => exact False.elim k
  | stuck => exact False.elim k
def M.whlG (c : S → M Bool) (f : S → M (S × List β)) : Nat → S → M (S × List β)
  | 0, _ => .stuck
  | n + 1, s => (c s).bind fun t => cond t (M.then2 (f s) (M.whlG c f n)) (.ok (s, []))
theorem gs_whl {test : Expr} {body : List Stmt} {Γh : S → En X.K} {s0 : S} {mc : S → M Bool} {f : S → M (S × List β)} (n : Nat) (po : PassesOwn (model X.prog X.w) X.A X.env X.xe) (ht : ∀ s, Tt X W0 (Γh s) test (mc s)) (hb : ∃ t, GSs X body t ∧ ∀ s σ B F0 H F D ys, EnOk (Γh s) σ B F0 H F → KG X r B F0 Γh D ys (f s) → t D ys σ H) (h0 : SLe Γ (Γh s0)) :
    Gs X r Γ Γh (.While test body [] pos) (M.whlG mc f n s0) := by
  obtain ⟨tb, hg, hb⟩ := hb
  refine ⟨_, gs_while po pt_w hg, fun σ B F0 H F D ys en k => ?_⟩
  refine ⟨fun m ys' σ' H' => ∃ s F' F2, EnOk (Γh s) σ' B F2 H' F' ∧ KG X r B F2 Γh D ys' (M.whlG mc f m s), ⟨n, s0, F, F0, h0.le en, k⟩, fun m ys' σ' H' ⟨s, F', F2, en', k'⟩ => ?_⟩
  cases m with
  | zero => exact False.elim k'
  | succ m =>
    change KG X r B F2 Γh D ys' ((mc s).bind fun t => cond t (M.then2 (f s) (M.whlG mc f m)) (.ok (s, []))) at k'
    cases hc : mc s with
    | exc er => rw [hc] at k'; exact False.elim k'
    | stuck => rw [hc] at k'; exact False.elim k'
    | ok b =>
      rw [hc] at k'
      refine ht s takes0 σ' B F2 H' F' _ en' ?_
      rw [hc]
      intro H1 F1 e1
      cases b with
      | false =>
        rw [if_neg Bool.false_ne_true]
        have := k'.2 σ' H1 F1 [] (en'.ext e1) .nil
        rwa [List.append_nil] at this
      | true =>
        rw [if_pos rfl]
        change KG X r B F2 Γh D ys' ((f s).bind fun p => (M.whlG mc f m p.1).bind fun q => .ok (q.1, p.2 ++ q.2)) at k'
        refine ⟨fun ys'' σ'' H'' => ∃ s F' F2, EnOk (Γh s) σ'' B F2 H'' F' ∧ KG X r B F2 Γh D ys'' (M.whlG mc f m s), fun ys'' σ'' H'' q => ⟨m, Nat.lt_succ_self _, q⟩, ?_⟩
        refine hb s σ' B F2 H1 F1 _ ys' (en'.ext e1) ?_
        cases hf : f s with
        | exc er => rw [hf] at k'; exact False.elim k'
        | stuck => rw [hf] at k'; exact False.elim k'
        | ok p =>
          rw [hf] at k'
          change KG X r B F2 Γh D ys' ((M.whlG mc f m p.1).bind fun q => .ok (q.1, p.2 ++ q.2)) at k'
          cases hq : M.whlG mc f m p.1 with
          | exc er => rw [hq] at k'; exact False.elim k'
          | stuck => rw [hq] at k'; exact False.elim k'
          | ok q =>
            rw [hq] at k'
            have kl := k'.1
            refine ⟨by simp only [List.length_append] at kl; omega, fun σ3 H3 F3 ws en3 hw => ⟨p.1, F3, F3, en3.here, ?_⟩⟩
            rw [hq]
            exact KG.up (H := H3) en3 k' hw
/-! the def -/
def spG {K : PySem.W.Frag} (ra : RA K A) (r : R K β) (g : A → M (List β)) : SpG := fun vs H Q E => ∃ F a out, Same F H ∧ ra.rep H F vs a ∧ g a = .ok out ∧ out.length ≤ sizeLine ∧ ∀ ws H' F', Ext H F H' F' → Paired (r.rep F') ws out → Q ws H'
structure DfG (P : Program) (w : World) (K : PySem.W.Frag) (mg : Str → Option Value) (base : Heap) (k : Nat) (x : Str) (ra : RA K A) (r : R K β) (g : A → M (List β)) : Prop where
  ex : ∃ f fd ps, GFn P w K mg base k f fd ps (spG ra r g) ∧ mg x = some (.ref f) ∧ PySem.W.keepIn K (.ref f) = true ∧ Binds K fd ps []
theorem GFn.mono {P : Program} {w : World} {K : PySem.W.Frag} {mg : Str → Option Value} {base : Heap} {j k : Nat} {f : Addr} {fd : FuncData} {ps : List Str} {sp : SpG} (F : GFn P w K mg base j f fd ps sp) (h : j ≤ k) : True := trivial
abbrev gX (P : Program) (w : World) (K : PySem.W.Frag) (mg : Str → Option Value) (base : Heap) (N : List Str) (qual : Str) (st : Stmt) (f : Addr) (cdv : Value) (A : Around) (outer : List Env) (s : Shared) (H : Hp) (E : XK) (pn : List (Addr × Obj)) : Cx := gcxOf P w K mg base N qual (defScope st) f cdv A outer s H E pn
theorem dg_mk {P : Program} {w : World} {K : PySem.W.Frag} {mg : Str → Option Value} {base : Heap} {x qual : Str} {st : Stmt} {f : Addr} {fd : FuncData} {N ps : List Str} {k : Nat} {ra : RA K A} {r : R K β} {g : A → M (List β)} {sl : A → En K} (F : Fun K x qual st f fd) (S : GScope N ps (defScope st)) (hm : mg x = some (.ref f)) (hb : Binds K fd ps []) (hsl : ra.Fill sl)
    (hlen : ∀ a, (sl a).length = ps.length) (hN : ps.length ≤ N.length)
    (body : ∀ (cdv : Value) (A : Around) (outer : List Env) (s : Shared) (H : Hp) (E : XK) (pn : List (Addr × Obj)), Room k (gX P w K mg base N qual st f cdv A outer s H E pn).A → Cok (gX P w K mg base N qual st f cdv A outer s H E pn) → ∀ a,
      Gb (gX P w K mg base N qual st f cdv A outer s H E pn) r (sl a ++ List.replicate (N.length - ps.length) .no) (fun _ : Unit => []) (defBody st) ((g a).bind fun out => .ok ((), out))) : DfG P w K mg base (k + 1) x ra r g := by
  obtain ⟨oc, od, kV, doc, pm, an, cdv, ct, osl, efd, lk, hcd⟩ := F.ex
  refine ⟨f, fd, ps, ?_, hm, F.kp, hb⟩
  subst efd
  refine gfn_of lk hcd S (fun vs H Q E ⟨F, a, out, _, q, _⟩ => by rw [hsl.len q, hlen]) (fun A outer s H vs Q E pn hr ⟨F, a, out, fh, q, ho, hl, kd⟩ => ?_)
  have en := start_ok (N := N) hsl q fh (by rw [hlen]; exact hN)
  rw [hlen] at en
  obtain ⟨t, ht, hk⟩ := body cdv A outer s H E pn hr ⟨rfl, owns_gcx, S.nd⟩ a
  refine ⟨t, ht, hk _ H F H F _ [] en ?_⟩
  rw [ho]
  exact ⟨by simpa using hl, fun σ' H' F' ws en' hw => kd ws H' F' en'.ex hw⟩
end
section
variable {α β A : Type} {X : Cx} {W : WX} {Γ : En X.K} {e : Expr} {es : List Expr} {pos pos2 p0 p1 : Pos}
def gOut : M (List β) → M (List β)
  | .ok out => M.grd (lenOk out.length) (.ok out)
  | _ => .stuck
/-- list(f(e, ..)) of a generator def -/
theorem nw_listG {x : Str} {k : Nat} {ra : RA X.K A} {r : R X.K β} {g : A → M (List β)} {m : M A} (D : DfG X.prog X.w X.K X.mg X.base k x ra r g) (hr : Room (k + 3) X.A) (hml : X.mg "list" = none) (ha : Ag X W Γ ra (e :: es) m) (hg : Gl X x := by rfl) (hgl : Gl X "list" := by rfl)
    (hdb : (x == ("__debug__" : Str)) = false := by decide) (he : starEach (e :: es) X.env = (false, eval e X.env) :: starEach es X.env := by exact star_ns rfl) (hpl : (backTo pos (starEach es X.env)).any (·.1) = false := by exact back_ns rfl)
    (he2 : starEach [.Call (.Name x p0) (e :: es) [] pos] X.env = (false, eval (.Call (.Name x p0) (e :: es) [] pos) X.env) :: starEach [] X.env := by exact star_ns rfl) :
    Nw X W Γ r (.Call (.Name "list" p1) [.Call (.Name x p0) (e :: es) [] pos] [] pos2) (m.bind fun a => gOut (g a)) := fun tk σ B F0 H F Q en k => by
  obtain ⟨f, fd, ps, Fn, hm, hk, hb⟩ := D.ex
  have hno : NoStop X.K (fun _ _ _ => False) := fun _ _ _ z => False.elim z
  have hps : L2.Passes (L2.CX X.prog X.w) X (fun _ _ _ => False) := fun _ _ _ _ _ _ _ z => False.elim (cx_false z)
  refine PE.w (pe_listG (pgen_call (dvs := []) (ds := []) (E := fun _ _ _ => False) Fn (Room.mono hr (by omega)) hg hm hk hb .nil pa_w hdb he hpl) hps hno hr hgl hml PyProof.Rows.boot_list (by decide) (by decide) he2) ?_
  refine ha tk σ B F0 H F _ en <| KA.bnd kkN k fun a vs H1 F1 e1 r1 k1 => ?_
  cases hga : g a with
  | ok out =>
    rw [hga] at k1
    change KN X r W σ H1 F1 Q (M.grd (lenOk out.length) (.ok out)) at k1
    obtain ⟨c, k1⟩ := KN.grd k1
    refine ⟨F1, a, out, e1.fh, by rw [List.append_nil]; exact r1, hga, lenOk_le c, fun ws H' F' ex hw => ?_⟩
    exact fun p hp => KN.now (KN.ext k1 ex) ex.fh hp hw
  | exc er => rw [hga] at k1; exact False.elim k1
  | stuck => rw [hga] at k1; exact False.elim k1
theorem nw_listGP {x : Str} {k : Nat} {ra : RA X.K A} {r : R X.K β} {g : A → M (List β)} {a : A} (D : DfG X.prog X.w X.K X.mg X.base k x ra r g) (hr : Room (k + 3) X.A) (hml : X.mg "list" = none) (ha : Ag X W Γ ra (e :: es) (.ok a)) (hg : Gl X x := by rfl) (hgl : Gl X "list" := by rfl)
    (hdb : (x == ("__debug__" : Str)) = false := by decide) (he : starEach (e :: es) X.env = (false, eval e X.env) :: starEach es X.env := by exact star_ns rfl) (hpl : (backTo pos (starEach es X.env)).any (·.1) = false := by exact back_ns rfl)
    (he2 : starEach [.Call (.Name x p0) (e :: es) [] pos] X.env = (false, eval (.Call (.Name x p0) (e :: es) [] pos) X.env) :: starEach [] X.env := by exact star_ns rfl) :
    Nw X W Γ r (.Call (.Name "list" p1) [.Call (.Name x p0) (e :: es) [] pos] [] pos2) (gOut (g a)) := nw_listG D hr hml ha hg hgl hdb he hpl he2
end
end PL
end
section
set_option maxRecDepth 100000
namespace PL
open PySem L2
theorem bt_int : bootBuiltins "int" = some (.type "int") := PySem.Pv.boot_int
theorem bt_bool : bootBuiltins "bool" = some (.type "bool") := PySem.Pv.boot_bool
theorem bt_str : bootBuiltins "str" = some (.type "str") := PySem.Pv.boot_str
theorem bt_list : bootBuiltins "list" = some (.type "list") := PyProof.Rows.boot_list
theorem bt_tuple : bootBuiltins "tuple" = some (.type "tuple") := PyProof.Rows.boot_tuple
theorem bt_dict : bootBuiltins "dict" = some (.type "dict") := by decide +kernel
section
variable {X : Cx} {W : WX} {Γ : En X.K} {α β A ρ S S1 L : Type} {pos p0 p1 p2 : Pos} {a b e : Expr} {rest : List Expr} {c : Ct X L ρ} {Γ' : S → En X.K} {ss : List Stmt} {st : Stmt}
theorem tw_andF (h : Tt X W Γ a (.ok false)) : Tw X W Γ (.BoolOp .And (a :: b :: rest) pos) (.ok false) := fun tk σ B F0 H F Q en k =>
  PW.w (pw_and pt_w pw_w) <| h tk σ B F0 H F _ en fun H1 F1 e1 => by rw [if_neg Bool.false_ne_true]; exact k H1 F1 e1
theorem tw_orT (h : Tt X W Γ a (.ok true)) : Tw X W Γ (.BoolOp .Or (a :: b :: rest) pos) (.ok true) := fun tk σ B F0 H F Q en k =>
  PW.w (pw_or pt_w pw_w) <| h tk σ B F0 H F _ en fun H1 F1 e1 => by rw [if_pos rfl]; exact k H1 F1 e1
theorem ev_andF (h : Ev X W Γ rBool a (.ok false)) : Ev X W Γ rBool (.BoolOp .And (a :: b :: rest) pos) (.ok false) := fun tk σ B F0 H F Q en k =>
  PE.w (pe_and pe_w pe_w) <| h tk σ B F0 H F _ en fun v H1 F1 e1 r1 => ⟨false, r1, by rw [if_neg Bool.false_ne_true]; exact k _ H1 F1 e1 rfl⟩
theorem ev_orT (h : Ev X W Γ rBool a (.ok true)) : Ev X W Γ rBool (.BoolOp .Or (a :: b :: rest) pos) (.ok true) := fun tk σ B F0 H F Q en k =>
  PE.w (pe_or pe_w pe_w) <| h tk σ B F0 H F _ en fun v H1 F1 e1 r1 => ⟨true, r1, by rw [if_pos rfl]; exact k _ H1 F1 e1 rfl⟩
theorem nb_stk : Nb X c Γ Γ' ss .stuck := fun tk σ B F0 H F D en k => False.elim k
theorem rb_stk : Rb X c Γ ss .stuck := fun tk σ B F0 H F D en k => False.elim k
theorem bk_stk : Bk X c Γ Γ' ss .stuck := fun tk σ B F0 H F D en k => False.elim k
theorem nw_ec {e : Expr} {r : R X.K α} {m m' : M (List α)} (h : Nw X W Γ r e m) (q : m = m') : Nw X W Γ r e m' := q ▸ h
theorem el_ec {e : Expr} {r : R X.K α} {m m' : M (List α)} (h : El X W Γ r e m) (q : m = m') : El X W Γ r e m' := q ▸ h
theorem no_makeP {es : List Expr} {A1 : Type} {x : Str} {C : Addr} {k : Nat} {ra : RA X.K A} {rf : RF X.K A1} {g : A → M A1} {u : A} (D : DfI X.prog X.w X.K X.mg X.base k C ra rf g) (hm : X.mg x = some (.ref C)) (hr : Room (k + 1) X.A) (ha : Ag X W Γ ra (e :: es) (.ok u)) (hg : Gl X x := by rfl)
    (hdb : (x == ("__debug__" : Str)) = false := by decide) (he : starEach (e :: es) X.env = (false, eval e X.env) :: starEach es X.env := by exact star_ns rfl) (hpl : (backTo pos (starEach es X.env)).any (·.1) = false := by exact back_ns rfl) :
    No X W Γ C rf (.Call (.Name x p0) (e :: es) [] pos) (g u) := no_make D hm hr ha hg hdb he hpl
theorem ev_meth {B : Type} {m : Str} {C : Addr} {k : Nat} {rf : RF X.K A} {ra : RA X.K B} {rr : R X.K ρ} {g : A × B → M ρ} {mo : M A} {ma : M B} {o : Expr} {es : List Expr} (D : Dm X.prog X.w X.K X.mg X.base k C m (raC (rObj C rf) ra) (rtF rr) g) (cl : Cls X.K C) (hr : Room k X.A) (ho : Ev X W Γ (rObj C rf) o mo) (ha : Ag X W Γ ra (e :: es) ma)
    {pl : Sem Bool} (hn : m ∉ rf.names := by decide) (hst : starEach (e :: es) X.env = (false, eval e X.env) :: starEach es X.env := by exact star_ns rfl) (hpl : (backTo pos (starEach es X.env)).any (·.1) = false := by exact back_ns rfl)
    (ht : eval (.Call (.Attribute o m p2) (e :: es) [] pos) X.env = (do
      let ov ← eval o X.env
      standAt p2.atName
      let (f, first) ← holding [ov] (getMethod ov m pl)
      callWith pos f first (backTo pos (starEach (e :: es) X.env)) (backToKw pos (keywordEach [] X.env))) := by rfl) : Ev X W Γ rr (.Call (.Attribute o m p2) (e :: es) [] pos) (mo.bind fun x => ma.bind fun y => g (x, y)) := fun tk σ B F0 H F Q en k =>
  meth_w D cl hn hr ho ha hst hpl ht kkO tk en k fun y H1 F1 e1 k1 v H' F' ex hr' => k1 v H' F' ex hr'
theorem ev_meth0 {m : Str} {C : Addr} {k : Nat} {rf : RF X.K A} {rr : R X.K ρ} {g : A × Unit → M ρ} {mo : M A} {o : Expr} (D : Dm X.prog X.w X.K X.mg X.base k C m (raC (rObj C rf) raN) (rtF rr) g) (cl : Cls X.K C) (hr : Room k X.A) (ho : Ev X W Γ (rObj C rf) o mo)
    {pl : Sem Bool} (hn : m ∉ rf.names := by decide)
    (ht : eval (.Call (.Attribute o m p2) [] [] pos) X.env = (do
      let ov ← eval o X.env
      standAt p2.atName
      let (f, first) ← holding [ov] (getMethod ov m pl)
      callWith pos f first (backTo pos (starEach [] X.env)) (backToKw pos (keywordEach [] X.env))) := by rfl) : Ev X W Γ rr (.Call (.Attribute o m p2) [] [] pos) (mo.bind fun x => g (x, ())) := fun tk σ B F0 H F Q en k =>
  meth_w0 D cl hn hr ho ht kkO tk en k fun y H1 F1 e1 k1 v H' F' ex hr' => k1 v H' F' ex hr'
theorem gs_ylP {r : R X.K β} {yp : Pos} {a : β} (h : Ev X W0 Γ r e (.ok a)) (hco : X.env.scope.isCoroutine = false := by rfl) (hi : interactive X.env = false := by rfl) : Gs X r Γ (fun _ : Unit => Γ) (.Expr (.Yield (some e) yp) pos) (.ok ((), [a])) := gs_yl h hco hi
def wGSs (X : Cx) (ss : List Stmt) : TGn := fun D ys σ H => ∃ t, GSs X ss t ∧ t D ys σ H
theorem gss_w {ss : List Stmt} : GSs X ss (wGSs X ss) := ⟨fun A S ip R n ys s₀ c fs K J gd lv s σ H D g hn k hI ⟨t, h, q⟩ => h.run A S ip R n ys s₀ c fs K J gd lv s σ H D g hn k hI q⟩
theorem gs_whlB {r : R X.K β} {test : Expr} {body : List Stmt} {Γh : S → En X.K} {s0 : S} {mc : S → M Bool} {f : S → M (S × List β)} (n : Nat) (po : PassesOwn (model X.prog X.w) X.A X.env X.xe) (ht : ∀ s, Tt X W0 (Γh s) test (mc s)) (hb : ∀ s, Gb X r (Γh s) Γh body (f s)) (h0 : SLe Γ (Γh s0)) :
    Gs X r Γ Γh (.While test body [] pos) (M.whlG mc f n s0) := gs_whl n po ht ⟨_, gss_w, fun s σ B F0 H F D ys en k => let ⟨t, h, q⟩ := hb s; ⟨t, h, q σ B F0 H F D ys en k⟩⟩ h0
def M.outs (m : M (S × List β)) : M (List β) := m.bind fun p => .ok p.2
theorem gb_out {r : R X.K β} {m : M (Unit × List β)} (h : Gb X r Γ (fun _ : Unit => []) ss m) : Gb X r Γ (fun _ : Unit => []) ss ((M.outs m).bind fun out => .ok ((), out)) := by
  cases m <;> exact h
theorem gb_ec {r : R X.K β} {m m' : M (S × List β)} (h : Gb X r Γ Γ' ss m) (q : m = m') : Gb X r Γ Γ' ss m' := q ▸ h
end
end PL
end
section
set_option maxRecDepth 100000
namespace PL
open PySem L2
section
variable {A ρ α : Type} {P : Program} {w : World} {K : PySem.W.Frag} {mg : Str → Option Value} {base : Heap}
/-- a def's promise by its body -/
theorem df_fn {x qual : Str} {st : Stmt} {f : Addr} {fd : FuncData} {N ps : List Str} {k : Nat} {ra : RA K A} {rt : Rt K ρ} {g : A → M ρ} {sl : A → En K} (F : Fun K x qual st f fd) (S : FnScope N ps (defScope st)) (hsl : ra.Fill sl)
    (hlen : ∀ a, (sl a).length = ps.length) (hN : ps.length ≤ N.length)
    (body : ∀ (cdv : Value) (A : Around) (outer : List Env) (s : Shared) (H : Hp) (E : XK), Room k (defX P w K mg base N qual st f cdv A outer s H E).A → Cok (defX P w K mg base N qual st f cdv A outer s H E) → ∀ a,
      Rb (defX P w K mg base N qual st f cdv A outer s H E) (ctD (defX P w K mg base N qual st f cdv A outer s H E) E rt) (sl a ++ List.replicate (N.length - ps.length) .no) (defBody st) (g a)) : FnOk P w K mg base (L2.CX P w) (k + 1) f fd ps (spM mg ra rt g) := by
  refine F.okX S (fun vs H Q E ⟨F, a, _, q, _⟩ => by rw [hsl.len q, hlen]) (fun cdv A outer s H vs Q E hr ⟨F, a, fh, q, kd⟩ => ⟨_, pb_w, ?_⟩)
  have en := start_ok (N := N) hsl q fh (by rw [hlen]; exact hN)
  rw [hlen] at en
  refine body cdv A outer s H E hr ⟨rfl, passes_of rfl, S.nd⟩ a (takes_of rfl rfl rfl rfl) _ H F H F _ en ?_
  cases hg : g a with
  | ok y => rw [hg] at kd; exact kd
  | exc e => rw [hg] at kd; exact fun cls d σ' H' F' en' z => kd cls d H' F' en'.ex z
  | stuck => rw [hg] at kd; exact kd
/-- what is wanted of the law -/
def spLaw (K : PySem.W.Frag) : Sp := fun vs H Q _ => ∃ (a : Addr) (ns : List Int), vs = [.ref a] ∧ ns.length ≤ 63 ∧ SqL K H a (ns.map V.int) ∧ ∀ H', Q (.bl true) H'
theorem law_end {k : Nat} {fa : Addr} {fd : FuncData} {g : List Int → M Bool} (F : FnOk P w K mg base (L2.CX P w) k fa fd ["script"] (spM (K := K) mg (raC rScr raN) (rtF rBool) (fun a => g a.1))) (hg : ∀ ns : List Int, ns.length ≤ 63 → g ns = .ok true) : FnOk P w K mg base (L2.CX P w) k fa fd ["script"] (spLaw K) :=
  F.imp fun vs H Q E ⟨a, ns, e, hl, hS, q⟩ => by
    subst e
    refine ⟨H, (ns, ()), Same.refl _, ⟨.ref a, [], rfl, ⟨a, rfl, hS⟩, rfl⟩, ?_⟩
    show KD K mg (rtF rBool) H H Q E (g ns)
    rw [hg ns hl]
    exact fun v H' F' ex hv => by
      have hv : v = .bl true := hv
      rw [hv]
      exact q H'
end
end PL
end
section
set_option maxRecDepth 100000
namespace PL
open PySem L2 StX
/-! ### stars in displays -/
theorem star_sd {e : Expr} {es : List Expr} {p : Pos} {env : Env} : starEach (.Starred e p :: es) env = (true, eval e env) :: starEach es env := rfl
section
variable {X : Cx} {W : WX} {Γ : En X.K} {α : Type} {pos : Pos} {e : Expr} {es : List Expr}
theorem ah_sL {r : R X.K α} {m n : M (List α)} (h : El X W Γ r e m) (g : Ag X W Γ (raH r) es n) : Ag X W Γ (raH r) (.Starred e pos :: es) (m.bind fun x => n.bind fun y => .ok (x ++ y)) := fun tk σ B F0 H F Q en k =>
  PA.w (pa_star pe_w pa_w star_sd) <| h tk σ B F0 H F _ en <| KL.bnd kkA k fun x p vs H1 F1 e1 q1 r1 k1 => ⟨p, vs, rfl, .inr (.of q1),
    g tk σ B F0 H1 F1 _ (en.ext e1) <| KA.bnd kkA k1 fun y ws H2 F2 e2 r2 k2 => k2 (vs ++ ws) H2 F2 (Ext.refl e2.fh) (Paired.app (reps_mono e2.ff r1) r2)⟩
theorem ah_sT {r : R X.K α} {m n : M (List α)} (h : Ev X W Γ (rVTup r) e m) (g : Ag X W Γ (raH r) es n) : Ag X W Γ (raH r) (.Starred e pos :: es) (m.bind fun x => n.bind fun y => .ok (x ++ y)) := fun tk σ B F0 H F Q en k =>
  PA.w (pa_star pe_w pa_w star_sd) <| h tk σ B F0 H F _ en <| KO.bnd kkA k fun x v H1 F1 e1 r1 k1 => by
    obtain ⟨p, vs, rfl, q1, r1⟩ := r1
    exact ⟨p, vs, rfl, .inl (Same.tq e1.fh q1), g tk σ B F0 H1 F1 _ (en.ext e1) <| KA.bnd kkA k1 fun y ws H2 F2 e2 r2 k2 => k2 (vs ++ ws) H2 F2 (Ext.refl e2.fh) (Paired.app (reps_mono e2.ff r1) r2)⟩
end
/-! ### a slot that is known better -/
section
variable {K : PySem.W.Frag} {α β : Type}
theorem EnOk.nar {Γ : En K} {σ : St} {B F0 H F : Hp} {i : Nat} {r : R K α} {s : R K β} {x : α} {y : β} (en : EnOk Γ σ B F0 H F) (hΓ : Γ[i]? = some (.va r x)) (h : ∀ F v, r.rep F v x → s.rep F v y) : EnOk (Γ.set i (.va s y)) σ B F0 H F := by
  refine ⟨en.ex, fun j t q => ?_, fun j k t u p n q1 q2 o1 o2 z1 z2 => ?_⟩
  · rcases get_set q with ⟨rfl, rfl, _⟩ | ⟨hj, q⟩
    · obtain ⟨o, a, v, e, b⟩ := en.sl _ _ hΓ
      exact ⟨o, a, v, e, h F v b⟩
    · exact en.sl j t q
  · rcases get_set q1 with ⟨rfl, rfl, _⟩ | ⟨_, q1⟩
    · exact False.elim o1
    · rcases get_set q2 with ⟨rfl, rfl, _⟩ | ⟨_, q2⟩
      · exact False.elim o2
      · exact en.ap j k t u p n q1 q2 o1 o2 z1 z2
end
/-! ### list(range(..)), tuple(range(..)) -/
def lstR (a b : Int) : M (List Int) := M.grd (rgOk a && rgOk b && decide ((b - a).toNat ≤ 16777216)) (.ok (rng a b))
theorem rgV_rep {K : PySem.W.Frag} {F : Hp} {a b : Int} : Paired ((rInt (K := K)).rep F) (rgV a b) (rng a b) := by
  unfold rgV rng
  generalize List.range (b - a).toNat = ns
  induction ns with
  | nil => exact .nil
  | cons n ns ih => exact .cons rfl ih
theorem rgOk2 {a b : Int} (h : (rgOk a && rgOk b && decide ((b - a).toNat ≤ 16777216)) = true) : RgOk a b := by
  unfold rgOk at h
  simp only [Bool.and_eq_true, decide_eq_true_eq] at h
  unfold RgOk
  have e : (2 : Int) ^ 62 = 4611686018427387904 := by decide
  have e2 : (2 : Nat) ^ 24 = 16777216 := by decide
  rw [e, e2]
  omega
section
variable {X : Cx} {W : WX} {Γ : En X.K} {pos p1 p2 p3 : Pos} {a b : Expr}
theorem nw_listR1 {m : M Int} (hc : X.calm = true) (hl : X.mg "list" = none) (hr : X.mg "range" = none) (h : Ev X W Γ rInt a m) (hg : Gl X "list" := by rfl) (hg2 : Gl X "range" := by rfl) (hs : starEach [a] X.env = (false, eval a X.env) :: starEach [] X.env := by exact star_ns rfl) (hq : starEach [Expr.Call (.Name "range" p2) [a] [] p3] X.env = (false, eval (Expr.Call (.Name "range" p2) [a] [] p3) X.env) :: starEach [] X.env := by exact star_ns rfl) : Nw X W Γ rInt (.Call (.Name "list" p1) [.Call (.Name "range" p2) [a] [] p3] [] pos) (m.bind fun n => lstR 0 n) := fun tk σ B F0 H F Q en k =>
  PE.w (pe_listRg hc hg hl (prg_1 hg2 hr pe_w hs) hq) <| h tk σ B F0 H F _ en <| KO.bnd kkN k fun n v H1 F1 e1 r1 k1 => by
    obtain ⟨c, k1⟩ := KN.grd k1
    exact ⟨n, r1, rgOk2 c, fun q hn => KN.now k1 e1.fh hn rgV_rep⟩
theorem nw_listR2 {m n : M Int} (hc : X.calm = true) (hl : X.mg "list" = none) (hr : X.mg "range" = none) (h : Ev X W Γ rInt a m) (h2 : Ev X W Γ rInt b n) (hg : Gl X "list" := by rfl) (hg2 : Gl X "range" := by rfl) (hs : starEach [a, b] X.env = (false, eval a X.env) :: starEach [b] X.env := by exact star_ns rfl) (hs2 : starEach [b] X.env = (false, eval b X.env) :: starEach [] X.env := by exact star_ns rfl) (hp : (backTo p3 (starEach [b] X.env)).any (·.1) = false := by exact back_ns rfl) (hq : starEach [Expr.Call (.Name "range" p2) [a, b] [] p3] X.env = (false, eval (Expr.Call (.Name "range" p2) [a, b] [] p3) X.env) :: starEach [] X.env := by exact star_ns rfl) : Nw X W Γ rInt (.Call (.Name "list" p1) [.Call (.Name "range" p2) [a, b] [] p3] [] pos) (m.bind fun i => n.bind fun j => lstR i j) := fun tk σ B F0 H F Q en k =>
  PE.w (pe_listRg hc hg hl (prg_2 hg2 hr pe_w pe_w hs hs2 hp) hq) <| h tk σ B F0 H F _ en <| KO.bnd kkN k fun i v H1 F1 e1 r1 k1 => h2 tk σ B F0 H1 F1 _ (en.ext e1) <| KO.bnd kkN k1 fun j w H2 F2 e2 r2 k2 => by
    obtain ⟨c, k2⟩ := KN.grd k2
    exact ⟨i, j, r1, r2, rgOk2 c, fun q hn => KN.now k2 e2.fh hn rgV_rep⟩
theorem ev_tupR1 {m : M Int} (hc : X.calm = true) (hl : X.mg "tuple" = none) (hr : X.mg "range" = none) (h : Ev X W Γ rInt a m) (hg : Gl X "tuple" := by rfl) (hg2 : Gl X "range" := by rfl) (hs : starEach [a] X.env = (false, eval a X.env) :: starEach [] X.env := by exact star_ns rfl) (hq : starEach [Expr.Call (.Name "range" p2) [a] [] p3] X.env = (false, eval (Expr.Call (.Name "range" p2) [a] [] p3) X.env) :: starEach [] X.env := by exact star_ns rfl) : Ev X W Γ (rVTup rInt) (.Call (.Name "tuple" p1) [.Call (.Name "range" p2) [a] [] p3] [] pos) (m.bind fun n => lstR 0 n) := fun tk σ B F0 H F Q en k =>
  PE.w (pe_tupRg hc hg hl (prg_1 hg2 hr pe_w hs) hq) <| h tk σ B F0 H F _ en <| KO.bnd kkO k fun n v H1 F1 e1 r1 k1 => by
    obtain ⟨c, k1⟩ := KO.grd k1
    refine ⟨n, r1, rgOk2 c, fun q hn => ?_⟩
    have ex := Ext.new e1.fh hn (o := .tup (rgV 0 n))
    exact k1 (.ref q) _ _ ex ⟨q, _, rfl, sq_new, rgV_rep⟩
theorem ev_tupR2 {m n : M Int} (hc : X.calm = true) (hl : X.mg "tuple" = none) (hr : X.mg "range" = none) (h : Ev X W Γ rInt a m) (h2 : Ev X W Γ rInt b n) (hg : Gl X "tuple" := by rfl) (hg2 : Gl X "range" := by rfl) (hs : starEach [a, b] X.env = (false, eval a X.env) :: starEach [b] X.env := by exact star_ns rfl) (hs2 : starEach [b] X.env = (false, eval b X.env) :: starEach [] X.env := by exact star_ns rfl) (hp : (backTo p3 (starEach [b] X.env)).any (·.1) = false := by exact back_ns rfl) (hq : starEach [Expr.Call (.Name "range" p2) [a, b] [] p3] X.env = (false, eval (Expr.Call (.Name "range" p2) [a, b] [] p3) X.env) :: starEach [] X.env := by exact star_ns rfl) : Ev X W Γ (rVTup rInt) (.Call (.Name "tuple" p1) [.Call (.Name "range" p2) [a, b] [] p3] [] pos) (m.bind fun i => n.bind fun j => lstR i j) := fun tk σ B F0 H F Q en k =>
  PE.w (pe_tupRg hc hg hl (prg_2 hg2 hr pe_w pe_w hs hs2 hp) hq) <| h tk σ B F0 H F _ en <| KO.bnd kkO k fun i v H1 F1 e1 r1 k1 => h2 tk σ B F0 H1 F1 _ (en.ext e1) <| KO.bnd kkO k1 fun j w H2 F2 e2 r2 k2 => by
    obtain ⟨c, k2⟩ := KO.grd k2
    refine ⟨i, j, r1, r2, rgOk2 c, fun q hn => ?_⟩
    have ex := Ext.new e2.fh hn (o := .tup (rgV i j))
    exact k2 (.ref q) _ _ ex ⟨q, _, rfl, sq_new, rgV_rep⟩
end
section
variable {X : Cx} {W : WX} {Γ : En X.K} {pos p0 : Pos} {a : Expr} {α β γ : Type}
theorem ev_lenP2 {r : R X.K α} {s : R X.K β} {m : M (α × β)} (hm : X.mg "len" = none) (ha : Ev X W Γ (rTup2 r s) a m) (hg : Gl X "len" := by rfl) (hs : starEach [a] X.env = (false, eval a X.env) :: starEach [] X.env := by exact star_ns rfl) : Ev X W Γ rInt (.Call (.Name "len" p0) [a] [] pos) (m.bind fun _ => .ok 2) :=
  ev_b1 (f := fun _ => .ok 2) call_len_seq PySem.boot_len (by decide) (fun {_ _ _ _ _ v y} s r k => by
    obtain ⟨p, a, b, rfl, q, r⟩ := r
    exact ⟨p, [a, b], rfl, .inr (Same.tq s q), KO.now k s rfl⟩) ha hm hg (by decide) hs
theorem ev_lenP3 {r : R X.K α} {s : R X.K β} {t : R X.K γ} {m : M (α × β × γ)} (hm : X.mg "len" = none) (ha : Ev X W Γ (rTup3 r s t) a m) (hg : Gl X "len" := by rfl) (hs : starEach [a] X.env = (false, eval a X.env) :: starEach [] X.env := by exact star_ns rfl) : Ev X W Γ rInt (.Call (.Name "len" p0) [a] [] pos) (m.bind fun _ => .ok 3) :=
  ev_b1 (f := fun _ => .ok 3) call_len_seq PySem.boot_len (by decide) (fun {_ _ _ _ _ v y} s r k => by
    obtain ⟨p, a, b, c, rfl, q, r⟩ := r
    exact ⟨p, [a, b, c], rfl, .inr (Same.tq s q), KO.now k s rfl⟩) ha hm hg (by decide) hs
end
theorem nn_obj {K : PySem.W.Frag} {A : Type} {C : Addr} {rf : RF K A} : NoN (rObj C rf) := fun ⟨a, _, _, e, _⟩ => by rw [e]; exact fun z => nomatch z
/-- goes on only with something -/
def M.nar {α β : Type} : Option α → (α → M β) → M β
  | some x, f => f x
  | none, _ => .stuck
section
variable {X : Cx} {α L ρ S : Type} {c : Ct X L ρ} {Γ : En X.K} {Γ' : S → En X.K} {ss : List Stmt}
theorem rb_nar (i : Nat) {r : R X.K α} {o : Option α} {f : α → M ρ} (hΓ : Γ[i]? = some (.va (rOpt r) o)) (h : ∀ x, Rb X c (Γ.set i (.va r x)) ss (f x)) : Rb X c Γ ss (M.nar o f) := fun tk σ B F0 H F D en k => by
  cases o with
  | none => exact False.elim k
  | some x => exact h x tk σ B F0 H F D (en.nar hΓ fun F v q => q.2) k
theorem nb_nar (i : Nat) {r : R X.K α} {o : Option α} {f : α → M S} (hΓ : Γ[i]? = some (.va (rOpt r) o)) (h : ∀ x, Nb X c (Γ.set i (.va r x)) Γ' ss (f x)) : Nb X c Γ Γ' ss (M.nar o f) := fun tk σ B F0 H F D en k => by
  cases o with
  | none => exact False.elim k
  | some x => exact h x tk σ B F0 H F D (en.nar hΓ fun F v q => q.2) k
theorem bk_nar (i : Nat) {r : R X.K α} {o : Option α} {f : α → M (Fl S L ρ)} (hΓ : Γ[i]? = some (.va (rOpt r) o)) (h : ∀ x, Bk X c (Γ.set i (.va r x)) Γ' ss (f x)) : Bk X c Γ Γ' ss (M.nar o f) := fun tk σ B F0 H F D en k => by
  cases o with
  | none => exact False.elim k
  | some x => exact h x tk σ B F0 H F D (en.nar hΓ fun F v q => q.2) k
end
end PL
end
section
set_option maxRecDepth 100000
namespace PL
open PySem L2
/-! ### sorted, max, min -/
def sortI (xs : List Int) : List Int := xs.mergeSort (fun a b => decide (a ≤ b))
theorem sortI_perm (xs : List Int) : (sortI xs).Perm xs := List.mergeSort_perm _ _
theorem sortI_sorted (xs : List Int) : (sortI xs).Pairwise (· ≤ ·) := by
  have := List.pairwise_mergeSort (le := fun (a b : Int) => decide (a ≤ b)) (fun a b c h1 h2 => by simp at *; omega) (fun a b => by simp; omega) xs
  exact this.imp fun h => by simpa using h
theorem sortI_uniq {xs ys : List Int} (h : ys.Perm xs) (g : ys.Pairwise (· ≤ ·)) : ys = sortI xs :=
  (h.trans (sortI_perm xs).symm).eq_of_pairwise (le := (· ≤ ·)) (fun a b _ _ h1 h2 => by omega) g (sortI_sorted xs)
def maxL (xs : List Int) : M Int := match xs with
  | [] => .stuck
  | x :: r => .ok (r.foldl max x)
def minL (xs : List Int) : M Int := match xs with
  | [] => .stuck
  | x :: r => .ok (r.foldl min x)
theorem foldl_max (r : List Int) (x : Int) : (r.foldl max x = x ∨ r.foldl max x ∈ r) ∧ x ≤ r.foldl max x ∧ ∀ y ∈ r, y ≤ r.foldl max x := by
  induction r generalizing x with
  | nil => exact ⟨.inl rfl, Int.le_refl _, fun y h => by cases h⟩
  | cons z r ih =>
    obtain ⟨h1, h2, h3⟩ := ih (max x z)
    rw [List.foldl_cons]
    refine ⟨?_, by omega, fun y hy => ?_⟩
    · rcases h1 with h | h
      · by_cases e : x ≤ z
        · have : max x z = z := by omega
          exact .inr (by rw [h, this]; exact List.mem_cons_self ..)
        · have : max x z = x := by omega
          exact .inl (by rw [h, this])
      · exact .inr (List.mem_cons_of_mem _ h)
    · rcases List.mem_cons.mp hy with rfl | hy
      · omega
      · exact h3 y hy
theorem foldl_min (r : List Int) (x : Int) : (r.foldl min x = x ∨ r.foldl min x ∈ r) ∧ r.foldl min x ≤ x ∧ ∀ y ∈ r, r.foldl min x ≤ y := by
  induction r generalizing x with
  | nil => exact ⟨.inl rfl, Int.le_refl _, fun y h => by cases h⟩
  | cons z r ih =>
    obtain ⟨h1, h2, h3⟩ := ih (min x z)
    rw [List.foldl_cons]
    refine ⟨?_, by omega, fun y hy => ?_⟩
    · rcases h1 with h | h
      · by_cases e : x ≤ z
        · have : min x z = x := by omega
          exact .inl (by rw [h, this])
        · have : min x z = z := by omega
          exact .inr (by rw [h, this]; exact List.mem_cons_self ..)
      · exact .inr (List.mem_cons_of_mem _ h)
    · rcases List.mem_cons.mp hy with rfl | hy
      · omega
      · exact h3 y hy
section
variable {X : Cx} {W : WX} {Γ : En X.K} {pos p0 : Pos} {a b : Expr} {α β γ : Type}
theorem nw_bl1 {x : Str} {id : String} {rr : List V → Hp → VK → Prop} {ra : R X.K α} {rc : R X.K γ} {m : M (List α)} {f : List α → M (List γ)} (hc : CallR X (.builtin id) rr) (hv : bootBuiltins x = some (.builtin id)) (hn : x ≠ "__name__")
    (hf : ∀ {W σ H F Q p vs y}, Same F H → H p = some (.lst vs) → Paired (ra.rep F) vs y → KN X rc W σ H F Q (f y) → rr [.ref p] H Q) (ha : El X W Γ ra a m) (hm : X.mg x = none) (hg : Gl X x) (hdb : (x == ("__debug__" : Str)) = false) (hs : starEach [a] X.env = (false, eval a X.env) :: starEach [] X.env) :
    Nw X W Γ rc (.Call (.Name x p0) [a] [] pos) (m.bind fun y => f y) := fun tk σ B F0 H F Q en k =>
  PE.w (pe_callB hc hg hm hv (pa_cons pe_w pa_nil hs) hn hdb hs) <| ha tk σ B F0 H F _ en <| KL.bnd kkN k fun y p vs H1 F1 e1 q1 r1 k1 => hf e1.fh q1 r1 k1
theorem ints_rep {K : PySem.W.Frag} {F : Hp} : ∀ {xs : List Int}, Paired ((rInt (K := K)).rep F) (xs.map V.int) xs
  | [] => .nil
  | _ :: _ => .cons rfl ints_rep
theorem nw_sorted {m : M (List Int)} (hm : X.mg "sorted" = none) (ha : El X W Γ rInt a m) (hg : Gl X "sorted" := by rfl) (hs : starEach [a] X.env = (false, eval a X.env) :: starEach [] X.env := by exact star_ns rfl) : Nw X W Γ rInt (.Call (.Name "sorted" p0) [a] [] pos) (m.bind fun xs => .ok (sortI xs)) :=
  nw_bl1 (f := fun xs => .ok (sortI xs)) cr_sortedI PyProof.Rows.boot_sorted (by decide) (fun {_ _ _ _ _ p vs y} s q r k => ⟨p, y, rfl, .of (by rw [q, ints_of r]), fun ns l h1 h2 hl => by
    rw [sortI_uniq h1 h2]
    exact KN.now k s hl ints_rep⟩) ha hm hg (by decide) hs
theorem ev_maxL {m : M (List Int)} (hc : X.calm = true) (hm : X.mg "max" = none) (ha : El X W Γ rInt a m) (hg : Gl X "max" := by rfl) (hs : starEach [a] X.env = (false, eval a X.env) :: starEach [] X.env := by exact star_ns rfl) : Ev X W Γ rInt (.Call (.Name "max" p0) [a] [] pos) (m.bind fun xs => maxL xs) :=
  ev_bl1 (f := fun xs => maxL xs) (cr_max hc) PyProof.Rows.boot_max (by decide) (fun {_ _ _ _ _ p vs y} s q r k => by
    cases y with
    | nil => exact False.elim k
    | cons x r' =>
      obtain ⟨h1, h2, h3⟩ := foldl_max r' x
      refine ⟨p, x :: r', rfl, .of (by rw [q, ints_of r]), by simp, fun v hv hy => ?_⟩
      have e : v = r'.foldl max x := by
        have a1 := hy (r'.foldl max x) (by rcases h1 with h | h; rw [h]; exact List.mem_cons_self ..; exact List.mem_cons_of_mem _ h)
        have a2 : v ≤ r'.foldl max x := by
          rcases List.mem_cons.mp hv with rfl | hv
          · exact h2
          · exact h3 v hv
        omega
      rw [e]
      exact KO.now k s rfl) ha hm hg (by decide) hs
theorem ev_minL {m : M (List Int)} (hc : X.calm = true) (hm : X.mg "min" = none) (ha : El X W Γ rInt a m) (hg : Gl X "min" := by rfl) (hs : starEach [a] X.env = (false, eval a X.env) :: starEach [] X.env := by exact star_ns rfl) : Ev X W Γ rInt (.Call (.Name "min" p0) [a] [] pos) (m.bind fun xs => minL xs) :=
  ev_bl1 (f := fun xs => minL xs) (cr_min hc) PyProof.Rows.boot_min (by decide) (fun {_ _ _ _ _ p vs y} s q r k => by
    cases y with
    | nil => exact False.elim k
    | cons x r' =>
      obtain ⟨h1, h2, h3⟩ := foldl_min r' x
      refine ⟨p, x :: r', rfl, .of (by rw [q, ints_of r]), by simp, fun v hv hy => ?_⟩
      have e : v = r'.foldl min x := by
        have a1 := hy (r'.foldl min x) (by rcases h1 with h | h; rw [h]; exact List.mem_cons_self ..; exact List.mem_cons_of_mem _ h)
        have a2 : r'.foldl min x ≤ v := by
          rcases List.mem_cons.mp hv with rfl | hv
          · exact h2
          · exact h3 v hv
        omega
      rw [e]
      exact KO.now k s rfl) ha hm hg (by decide) hs
/-- a built-in of two arguments -/
theorem ev_b2 {x : Str} {id : String} {rr : List V → Hp → VK → Prop} {ra : R X.K α} {rb : R X.K β} {rc : R X.K γ} {m : M α} {n : M β} {f : α → β → M γ} (hc : CallR X (.builtin id) rr) (hv : bootBuiltins x = some (.builtin id)) (hn : x ≠ "__name__")
    (hf : ∀ {W σ H F Q v w y z}, Same F H → ra.rep F v y → rb.rep F w z → KO X rc W σ H F Q (f y z) → rr [v, w] H Q) (ha : Ev X W Γ ra a m) (hb : Ev X W Γ rb b n) (hm : X.mg x = none) (hg : Gl X x) (hdb : (x == ("__debug__" : Str)) = false) (hs : starEach [a, b] X.env = (false, eval a X.env) :: starEach [b] X.env) (hs2 : starEach [b] X.env = (false, eval b X.env) :: starEach [] X.env) (hp : (backTo pos (starEach [b] X.env)).any (·.1) = false) :
    Ev X W Γ rc (.Call (.Name x p0) [a, b] [] pos) (m.bind fun y => n.bind fun z => f y z) := fun tk σ B F0 H F Q en k =>
  PE.w (pe_callB hc hg hm hv (pa_cons pe_w (pa_cons pe_w pa_nil hs2) hs) hn hdb hs hp) <| ha tk σ B F0 H F _ en <| KO.bnd kkO k fun y v H1 F1 e1 r1 k1 =>
    hb tk σ B F0 H1 F1 _ (en.ext e1) <| KO.bnd kkO k1 fun z w H2 F2 e2 r2 k2 => hf e2.fh (ra.mono e2.ff r1) r2 k2
theorem ev_max2 {m n : M Int} (hc : X.calm = true) (hm : X.mg "max" = none) (ha : Ev X W Γ rInt a m) (hb : Ev X W Γ rInt b n) (hg : Gl X "max" := by rfl) (hs : starEach [a, b] X.env = (false, eval a X.env) :: starEach [b] X.env := by exact star_ns rfl) (hs2 : starEach [b] X.env = (false, eval b X.env) :: starEach [] X.env := by exact star_ns rfl) (hp : (backTo pos (starEach [b] X.env)).any (·.1) = false := by exact back_ns rfl) :
    Ev X W Γ rInt (.Call (.Name "max" p0) [a, b] [] pos) (m.bind fun i => n.bind fun j => .ok (max i j)) :=
  ev_b2 (f := fun i j => .ok (max i j)) (call_max2 hc) PyProof.Rows.boot_max (by decide) (fun {_ _ _ _ _ v w y z} s r q k => ⟨y, z, by rw [show v = .int y from r, show w = .int z from q], by
    have e : (if z > y then z else y) = max y z := by split <;> omega
    rw [e]
    exact KO.now k s rfl⟩) ha hb hm hg (by decide) hs hs2 hp
theorem ev_min2 {m n : M Int} (hc : X.calm = true) (hm : X.mg "min" = none) (ha : Ev X W Γ rInt a m) (hb : Ev X W Γ rInt b n) (hg : Gl X "min" := by rfl) (hs : starEach [a, b] X.env = (false, eval a X.env) :: starEach [b] X.env := by exact star_ns rfl) (hs2 : starEach [b] X.env = (false, eval b X.env) :: starEach [] X.env := by exact star_ns rfl) (hp : (backTo pos (starEach [b] X.env)).any (·.1) = false := by exact back_ns rfl) :
    Ev X W Γ rInt (.Call (.Name "min" p0) [a, b] [] pos) (m.bind fun i => n.bind fun j => .ok (min i j)) :=
  ev_b2 (f := fun i j => .ok (min i j)) (call_min2 hc) PyProof.Rows.boot_min (by decide) (fun {_ _ _ _ _ v w y z} s r q k => ⟨y, z, by rw [show v = .int y from r, show w = .int z from q], by
    have e : (if z < y then z else y) = min y z := by split <;> omega
    rw [e]
    exact KO.now k s rfl⟩) ha hb hm hg (by decide) hs hs2 hp
/-! reversed(range(..)) -/
variable {g : Bool} {tg : Expr} {p1 p2 : Pos}
theorem itp_rev_rng {K : PySem.W.Frag} {G F1 : Hp} {lo hi : Int} : Itp (K := K) G F1 (Itc (lo + (((hi - lo).toNat : Nat) : Int) - 1) (-1) (hi - lo).toNat) rInt (rng lo hi).reverse := fun i H' F' a b c => by
  have hl : (rng lo hi).reverse.length = (hi - lo).toNat := by unfold rng; rw [List.length_reverse, List.length_map, List.length_range]
  refine ⟨fun h => by rw [hl] at h; exact h, fun x hx => ?_⟩
  have hi' : i < (hi - lo).toNat := by rw [← hl]; exact (List.getElem?_eq_some_iff.mp hx).1
  have e : x = lo + (((hi - lo).toNat : Nat) : Int) - 1 + (i : Nat) * (-1) := by
    have hl2 : (rng lo hi).length = (hi - lo).toNat := by rw [← hl, List.length_reverse]
    rw [List.getElem?_reverse (by rw [hl2]; exact hi'), hl2] at hx
    unfold rng at hx
    rw [List.getElem?_map, List.getElem?_range (by omega)] at hx
    have this : lo + (((hi - lo).toNat - 1 - i : Nat) : Int) = x := Option.some.inj hx
    omega
  exact ⟨hi', fun v H'' ⟨e1, e2⟩ => ⟨F', by rw [e1]; exact Ext.refl b, by rw [e2, e]; rfl⟩⟩
theorem iv_revR1 {m : M Int} (hr : X.mg "reversed" = none) (hm : X.mg "range" = none) (h : Ev X W Γ rInt a m) (hg2 : Gl X "reversed" := by rfl) (hg : Gl X "range" := by rfl) (hs : starEach [a] X.env = (false, eval a X.env) :: starEach [] X.env := by exact star_ns rfl) (hq : starEach [Expr.Call (.Name "range" p1) [a] [] p2] X.env = (false, eval (Expr.Call (.Name "range" p1) [a] [] p2) X.env) :: starEach [] X.env := by exact star_ns rfl) :
    Iv X g W Γ rInt tg (.Call (.Name "reversed" p0) [.Call (.Name "range" p1) [a] [] p2] [] pos) (m.bind fun n => M.grd (rgOk n) (.ok (rng 0 n).reverse)) := fun tk σ B F0 H F Q en k =>
  PI.w (pi_revR hg2 hr (prg_1 hg hm pe_w hs) hq) <| h tk σ B F0 H F _ en <| KO.bnd kkI k fun n v H1 F1 e1 r1 k1 => by
    obtain ⟨c, k1⟩ := KI.grd k1
    obtain ⟨c1, c2⟩ := rgOk_of c
    exact ⟨n, r1, by decide, by decide, c1, c2, KI.now k1 e1.fh (en.ex.hh.trans e1.hh) itp_rev_rng⟩
theorem iv_revR2 {m n : M Int} (hr : X.mg "reversed" = none) (hm : X.mg "range" = none) (h : Ev X W Γ rInt a m) (h2 : Ev X W Γ rInt b n) (hg2 : Gl X "reversed" := by rfl) (hg : Gl X "range" := by rfl) (hs : starEach [a, b] X.env = (false, eval a X.env) :: starEach [b] X.env := by exact star_ns rfl) (hs2 : starEach [b] X.env = (false, eval b X.env) :: starEach [] X.env := by exact star_ns rfl) (hp : (backTo p2 (starEach [b] X.env)).any (·.1) = false := by exact back_ns rfl) (hq : starEach [Expr.Call (.Name "range" p1) [a, b] [] p2] X.env = (false, eval (Expr.Call (.Name "range" p1) [a, b] [] p2) X.env) :: starEach [] X.env := by exact star_ns rfl) :
    Iv X g W Γ rInt tg (.Call (.Name "reversed" p0) [.Call (.Name "range" p1) [a, b] [] p2] [] pos) (m.bind fun i => n.bind fun j => M.grd (rgOk i && rgOk j) (.ok (rng i j).reverse)) := fun tk σ B F0 H F Q en k =>
  PI.w (pi_revR hg2 hr (prg_2 hg hm pe_w pe_w hs hs2 hp) hq) <| h tk σ B F0 H F _ en <| KO.bnd kkI k fun i v H1 F1 e1 r1 k1 => h2 tk σ B F0 H1 F1 _ (en.ext e1) <| KO.bnd kkI k1 fun j w H2 F2 e2 r2 k2 => by
    obtain ⟨c, k2⟩ := KI.grd k2
    obtain ⟨c1, c2⟩ := Bool.and_eq_true_iff.mp c
    obtain ⟨c1, c3⟩ := rgOk_of c1
    obtain ⟨c2, c4⟩ := rgOk_of c2
    exact ⟨i, j, r1, r2, c1, c3, c2, c4, KI.now k2 e2.fh (en.ex.hh.trans (e1.hh.trans e2.hh)) itp_rev_rng⟩
end
/-! ### a keyword-only parameter whose default is None -/
structure RA.Snoc {K : PySem.W.Frag} {A A' α : Type} (t : RA K A') (r : R K α) (u : RA K A) (j : A' → α → A) : Prop where
  to : ∀ {H F vs a v x}, t.rep H F vs a → r.rep F v x → u.rep H F (vs ++ [v]) (j a x)
theorem sn_n {K : PySem.W.Frag} {α : Type} {r : R K α} : RA.Snoc (raN (K := K)) r (raC r raN) (fun _ x => (x, ())) := ⟨fun {_ _ vs _ v _} h k => by
  have h : vs = [] := h
  subst h
  exact ⟨v, [], rfl, k, rfl⟩⟩
theorem sn_c {K : PySem.W.Frag} {α β A A' : Type} {q : R K β} {r : R K α} {t : RA K A'} {u : RA K A} {j : A' → α → A} (s : RA.Snoc t r u j) : RA.Snoc (raC q t) r (raC q u) (fun a x => (a.1, j a.2 x)) := ⟨fun ⟨w, ws, e, h1, h2⟩ k => by
  subst e
  exact ⟨w, ws ++ [_], rfl, h1, s.to h2 k⟩⟩
theorem sn_l {K : PySem.W.Frag} {α β A A' : Type} {q : R K β} {r : R K α} {t : RA K A'} {u : RA K A} {j : A' → α → A} (s : RA.Snoc t r u j) : RA.Snoc (raL q t) r (raL q u) (fun a x => (a.1, j a.2 x)) := ⟨fun ⟨p, us, ws, e, h0, h1, h2⟩ k => by
  subst e
  exact ⟨p, us, ws ++ [_], rfl, h0, h1, s.to h2 k⟩⟩
structure DfK (P : Program) (w : World) (K : PySem.W.Frag) (mg : Str → Option Value) (base : Heap) (k : Nat) (x kw : Str) (n : Nat) {A ρ : Type} (ra : RA K A) (rt : Rt K ρ) (g : A → M ρ) : Prop where
  ex : ∃ f fd ps, FnOk P w K mg base (L2.CX P w) k f fd ps (spM mg ra rt g) ∧ mg x = some (.ref f) ∧ PySem.W.keepIn K (.ref f) = true ∧ Binds K fd ps [.none] ∧ KBn K fd ps n [kw] (fun us ws => us ++ ws) (fun vs zs => vs ++ zs)
def tCallNS (n m : Nat) (sp : Sp) (E : St → XK) (t tk : TA) : TE := fun σ H Q => t σ H fun vs H1 => tk σ H1 fun zs H2 => vs.length = n ∧ zs.length = m ∧ sp (vs ++ zs) H2 Q (E σ)
section
variable {X : Cx} {CX : CXT} {k n : Nat} {f : Addr} {fd : FuncData} {ps ks : List Str} {sp : Sp} {E : St → XK} {x : Str} {p pos : Pos} {e : Expr} {es : List Expr} {kws : List Keyword} {t tk : TA}
theorem run_fnNS {pins : List (Addr × Obj)} {σ : St} {H : Hp} {s : Shared} {Q : VK} {us ws : List Value} {vs zs : List V} (F : FnOk X.prog X.w X.K X.mg X.base CX k f fd ps sp) (hr : Room k X.A) (hb : KBn X.K fd ps n ks (fun us ws => us ++ ws) (fun vs zs => vs ++ zs)) (hx : PassesAt CX X σ (E σ))
    (I : Inv X pins σ H s) (r : Vals vs us) (rz : Vals zs ws) (l1 : vs.length = n) (l2 : zs.length = ks.length) (h : sp (vs ++ zs) H Q (E σ)) : wpAny (model X.prog X.w) X.A (call (.ref f) us (ks.zip ws)) (EP X pins σ Q) X.xe s := by
  have r2 := hb.rel r rz
  refine wpAny_call (codeAny_mono (F.run X.A X.stack s H ⟨us, ks.zip ws⟩ (us ++ ws) (vs ++ zs) Q (E σ) hr I.env0 (hb.to s us ws I.kIn (r.length.symm.trans l1) (rz.length.symm.trans l2)) r2 h) fun r s' hq => ?_)
  cases r with
  | error e => exact hx pins H s e s' I hq
  | ok fl =>
    cases fl with
    | ret u => exact I.after hq
    | next => exact False.elim hq
    | brk => exact False.elim hq
    | cont => exact False.elim hq
theorem pe_callNS (F : FnOk X.prog X.w X.K X.mg X.base CX k f fd ps sp) (hr : Room k X.A) (hg : Gl X x) (hm : X.mg x = some (.ref f)) (hk : PySem.W.keepIn X.K (.ref f) = true) (hb : KBn X.K fd ps n ks (fun us ws => us ++ ws) (fun vs zs => vs ++ zs)) (hx : ∀ σ, PassesAt CX X σ (E σ))
    (ha : PA X (e :: es) t) (hkw : PK X kws tk) (hall : (backToKw pos (keywordEach kws X.env)).all (·.1.isSome) = true) (hks : (backToKw pos (keywordEach kws X.env)).filterMap (·.1) = ks)
    (hdb : (x == ("__debug__" : Str)) = false) (he : starEach (e :: es) X.env = (false, eval e X.env) :: starEach es X.env)
    (hpl : ((backTo pos (starEach (e :: es) X.env)).any (·.1) || (backToKw pos (keywordEach kws X.env)).any (·.1.isNone)) = false) :
    PE X (.Call (.Name x p) (e :: es) kws pos) (tCallNS n ks.length sp E t tk) := by
  refine ⟨fun pins s σ H Q I h => ?_⟩
  refine wpAny_Call_Name_kw (ld_glob I hg hm ?_ hdb)
  refine PySem.W.callWith_KW (h₀ := X.base) I.ok.mod.kin hk hall (thn (ha.run pos pins s σ H _ I h) fun us s1 ⟨vs, H1, I1, r, q⟩ => ?_) hpl he
  refine thn (hkw.run pos pins s1 σ H1 _ I1 q) fun ws s2 ⟨zs, H2, I2, rz, l1, l2, q2⟩ => ⟨I2.kIn, ?_⟩
  rw [hks]
  exact run_fnNS F hr hb (hx σ) I2 r rz l1 l2 q2
end
section
variable {X : Cx} {W : WX} {Γ : En X.K} {pos p0 kpos : Pos} {A A' ρ α : Type} {x kw : Str} {k n : Nat} {ra : RA X.K A} {ra' : RA X.K A'} {j : A' → Option α → A} {r : R X.K α} {e v : Expr} {es : List Expr}
theorem dk0_w {rt : Rt X.K ρ} {g : A → M ρ} {m : M A'} (D : DfK X.prog X.w X.K X.mg X.base k x kw n ra rt g) (sn : RA.Snoc ra' (rOpt r) ra j) (hr : Room k X.A) (ha : Ag X W Γ ra' (e :: es) m) (hg : Gl X x)
    (hdb : (x == ("__debug__" : Str)) = false) (he : starEach (e :: es) X.env = (false, eval e X.env) :: starEach es X.env) (hpl : (backTo pos (starEach es X.env)).any (·.1) = false)
    {P : Hp → Hp → M ρ → Prop} {σ : St} {B F0 H F : Hp} {Q : VK} (kk : KK X W σ P) (tk : Takes X W) (en : EnOk Γ σ B F0 H F) (k : P H F (m.bind fun a => g (j a none))) (hP : ∀ y H1 F1, Ext H F H1 F1 → P H1 F1 (.ok y) → ∀ v H' F', Ext H1 F1 H' F' → rt.rep H1 H' F' v y → Q v H') :
    wE X (.Call (.Name x p0) (e :: es) [] pos) σ H Q := by
  obtain ⟨f, fd, ps, Fn, hm, hk, hb, _⟩ := D.ex
  refine PE.w (pe_callSD (E := fun σ => WE W σ) (dvs := [.non]) Fn hr hg hm hk hb (.cons rfl .nil) (fun σ => passAt tk σ) pa_w hdb he hpl) ?_
  refine ha tk σ B F0 H F _ en <| KA.bnd kk k fun a vs H1 F1 e1 r1 k1 => ⟨F1, j a none, e1.fh, sn.to r1 rfl, ?_⟩
  cases hga : g (j a none) with
  | ok y => rw [hga] at k1; exact fun v H' F' ex hr' => hP y H1 F1 e1 k1 v H' F' ex hr'
  | exc er => rw [hga] at k1; exact fun cls d H' F' ex z => kk.ofexc k1 cls d H' F' ex z
  | stuck => rw [hga] at k1; exact kk.ofstk k1
theorem dk1_w {rt : Rt X.K ρ} {g : A → M ρ} {m : M A'} {mv : M (Option α)} (D : DfK X.prog X.w X.K X.mg X.base k x kw n ra rt g) (sn : RA.Snoc ra' (rOpt r) ra j) (ln : ra'.Len n) (hr : Room k X.A) (ha : Ag X W Γ ra' (e :: es) m) (hv : Ev X W Γ (rOpt r) v mv) (hg : Gl X x)
    (hdb : (x == ("__debug__" : Str)) = false) (he : starEach (e :: es) X.env = (false, eval e X.env) :: starEach es X.env) (hpl : (backTo pos (starEach es X.env)).any (·.1) = false)
    {P : Hp → Hp → M ρ → Prop} {σ : St} {B F0 H F : Hp} {Q : VK} (kk : KK X W σ P) (tk : Takes X W) (en : EnOk Γ σ B F0 H F) (k : P H F (m.bind fun a => mv.bind fun o => g (j a o))) (hP : ∀ y H1 F1, Ext H F H1 F1 → P H1 F1 (.ok y) → ∀ v H' F', Ext H1 F1 H' F' → rt.rep H1 H' F' v y → Q v H') :
    wE X (.Call (.Name x p0) (e :: es) [⟨some kw, v, kpos⟩] pos) σ H Q := by
  obtain ⟨f, fd, ps, Fn, hm, hk, _, hb⟩ := D.ex
  refine PE.w (pe_callNS (E := fun σ => WE W σ) Fn hr hg hm hk hb (fun σ => passAt tk σ) pa_w (pk_cons pe_w pk_nil) rfl rfl hdb he ?_) ?_
  · rw [he]
    show ((backTo pos (starEach es X.env)).any (·.1) || false) = false
    rw [hpl]; rfl
  refine ha tk σ B F0 H F _ en <| KA.bnd kk k fun a vs H1 F1 e1 r1 k1 => hv tk σ B F0 H1 F1 _ (en.ext e1) <| KO.bnd kk k1 fun o u H2 F2 e2 r2 k2 => ⟨ln _ _ _ _ r1, rfl, F2, j a o, e2.fh, sn.to (ra'.mono e2 r1) r2, ?_⟩
  cases hga : g (j a o) with
  | ok y => rw [hga] at k2; exact fun v H' F' ex hr' => hP y H2 F2 (e1.trans e2) k2 v H' F' ex hr'
  | exc er => rw [hga] at k2; exact fun cls d H' F' ex z => kk.ofexc k2 cls d H' F' ex z
  | stuck => rw [hga] at k2; exact kk.ofstk k2
theorem ev_callK0 {rr : R X.K ρ} {g : A → M ρ} {m : M A'} (D : DfK X.prog X.w X.K X.mg X.base k x kw n ra (rtF rr) g) (sn : RA.Snoc ra' (rOpt r) ra j) (hr : Room k X.A) (ha : Ag X W Γ ra' (e :: es) m) (hg : Gl X x := by rfl)
    (hdb : (x == ("__debug__" : Str)) = false := by decide) (he : starEach (e :: es) X.env = (false, eval e X.env) :: starEach es X.env := by exact star_ns rfl) (hpl : (backTo pos (starEach es X.env)).any (·.1) = false := by exact back_ns rfl) :
    Ev X W Γ rr (.Call (.Name x p0) (e :: es) [] pos) (m.bind fun a => g (j a none)) := fun tk σ B F0 H F Q en k =>
  dk0_w D sn hr ha hg hdb he hpl kkO tk en k fun y H1 F1 e1 k1 v H' F' ex hr' => k1 v H' F' ex hr'
theorem nw_callK0 {rr : R X.K ρ} {g : A → M (List ρ)} {m : M A'} (D : DfK X.prog X.w X.K X.mg X.base k x kw n ra (rtN rr) g) (sn : RA.Snoc ra' (rOpt r) ra j) (hr : Room k X.A) (ha : Ag X W Γ ra' (e :: es) m) (hg : Gl X x := by rfl)
    (hdb : (x == ("__debug__" : Str)) = false := by decide) (he : starEach (e :: es) X.env = (false, eval e X.env) :: starEach es X.env := by exact star_ns rfl) (hpl : (backTo pos (starEach es X.env)).any (·.1) = false := by exact back_ns rfl) :
    Nw X W Γ rr (.Call (.Name x p0) (e :: es) [] pos) (m.bind fun a => g (j a none)) := fun tk σ B F0 H F Q en k =>
  dk0_w D sn hr ha hg hdb he hpl kkN tk en k fun y H1 F1 e1 k1 v H' F' ex ⟨p, vs, e, hn, hf, hp, hr'⟩ => by subst e; exact k1 p vs H' F' ex hn hf hp hr'
theorem ev_callK1 {rr : R X.K ρ} {g : A → M ρ} {m : M A'} {mv : M (Option α)} (D : DfK X.prog X.w X.K X.mg X.base k x kw n ra (rtF rr) g) (sn : RA.Snoc ra' (rOpt r) ra j) (ln : ra'.Len n) (hr : Room k X.A) (ha : Ag X W Γ ra' (e :: es) m) (hv : Ev X W Γ (rOpt r) v mv) (hg : Gl X x := by rfl)
    (hdb : (x == ("__debug__" : Str)) = false := by decide) (he : starEach (e :: es) X.env = (false, eval e X.env) :: starEach es X.env := by exact star_ns rfl) (hpl : (backTo pos (starEach es X.env)).any (·.1) = false := by exact back_ns rfl) :
    Ev X W Γ rr (.Call (.Name x p0) (e :: es) [⟨some kw, v, kpos⟩] pos) (m.bind fun a => mv.bind fun o => g (j a o)) := fun tk σ B F0 H F Q en k =>
  dk1_w D sn ln hr ha hv hg hdb he hpl kkO tk en k fun y H1 F1 e1 k1 v H' F' ex hr' => k1 v H' F' ex hr'
theorem nw_callK1 {rr : R X.K ρ} {g : A → M (List ρ)} {m : M A'} {mv : M (Option α)} (D : DfK X.prog X.w X.K X.mg X.base k x kw n ra (rtN rr) g) (sn : RA.Snoc ra' (rOpt r) ra j) (ln : ra'.Len n) (hr : Room k X.A) (ha : Ag X W Γ ra' (e :: es) m) (hv : Ev X W Γ (rOpt r) v mv) (hg : Gl X x := by rfl)
    (hdb : (x == ("__debug__" : Str)) = false := by decide) (he : starEach (e :: es) X.env = (false, eval e X.env) :: starEach es X.env := by exact star_ns rfl) (hpl : (backTo pos (starEach es X.env)).any (·.1) = false := by exact back_ns rfl) :
    Nw X W Γ rr (.Call (.Name x p0) (e :: es) [⟨some kw, v, kpos⟩] pos) (m.bind fun a => mv.bind fun o => g (j a o)) := fun tk σ B F0 H F Q en k =>
  dk1_w D sn ln hr ha hv hg hdb he hpl kkN tk en k fun y H1 F1 e1 k1 v H' F' ex ⟨p, vs, e, hn, hf, hp, hr'⟩ => by subst e; exact k1 p vs H' F' ex hn hf hp hr'
end
section
variable {A ρ α : Type} {P : Program} {w : World} {K : PySem.W.Frag} {mg : Str → Option Value} {base : Heap}
theorem dk_mk {x kw qual : Str} {st : Stmt} {f : Addr} {fd : FuncData} {N ps : List Str} {k n : Nat} {ra : RA K A} {rt : Rt K ρ} {g : A → M ρ} {sl : A → En K} (F : Fun K x qual st f fd) (S : FnScope N ps (defScope st)) (hm : mg x = some (.ref f)) (hb : Binds K fd ps [.none] ∧ KBn K fd ps n [kw] (fun us ws => us ++ ws) (fun vs zs => vs ++ zs)) (hsl : ra.Fill sl)
    (hlen : ∀ a, (sl a).length = ps.length) (hN : ps.length ≤ N.length)
    (body : ∀ (cdv : Value) (A : Around) (outer : List Env) (s : Shared) (H : Hp) (E : XK), Room k (defX P w K mg base N qual st f cdv A outer s H E).A → Cok (defX P w K mg base N qual st f cdv A outer s H E) → ∀ a,
      Rb (defX P w K mg base N qual st f cdv A outer s H E) (ctD (defX P w K mg base N qual st f cdv A outer s H E) E rt) (sl a ++ List.replicate (N.length - ps.length) .no) (defBody st) (g a)) : DfK P w K mg base (k + 1) x kw n ra rt g :=
  ⟨f, fd, ps, df_fn F S hsl hlen hN body, hm, F.kp, hb.1, hb.2⟩
/-- how it binds -/
theorem kw_mk {x kw qual : Str} {st : Stmt} {f D : Addr} {oc : Value} {od an : Option Addr} {osl : Array (Option Value)} {doc pm cdv ct : Value} {ps : List Str} {n : Nat} (l : K.lookup f = some ⟨oc, od, .func (PySem.W.fnOf x qual (defArgs st) (defBody st) (defScope st) .none (.ref D) doc pm an cdv ct), osl⟩)
    (c : PySem.W.codeIn K cdv qual = true) (k : PySem.W.keepIn K (.ref f) = true) (hd : PySem.W.nsIn K D kw = some (some .none)) (hn : n + 1 = ps.length)
    (h0 : ∀ (D : Addr) (doc pm : Value) (an : Option Addr) (cdv ct : Value) (us ks : List Value), us.length = n → ks.length = 1 →
      KwChain D ([kw].zip ks) (bindArgs (PySem.W.fnOf x qual (defArgs st) (defBody st) (defScope st) .none (.ref D) doc pm an cdv ct) ⟨us, []⟩) (ps.zip (us ++ ks)))
    (h1 : ∀ (D : Addr) (doc pm : Value) (an : Option Addr) (cdv ct : Value) (us ws : List Value), us.length = n → ws.length = 1 →
      bindArgs (PySem.W.fnOf x qual (defArgs st) (defBody st) (defScope st) .none (.ref D) doc pm an cdv ct) ⟨us, [kw].zip ws⟩ = pure (ps.zip (us ++ ws))) :
    Binds K (PySem.W.fnOf x qual (defArgs st) (defBody st) (defScope st) .none (.ref D) doc pm an cdv ct) ps [.none] ∧ KBn K (PySem.W.fnOf x qual (defArgs st) (defBody st) (defScope st) .none (.ref D) doc pm an cdv ct) ps n [kw] (fun us ws => us ++ ws) (fun vs zs => vs ++ zs) := by
  refine ⟨fun s us X hl => ?_, ⟨fun s us ws X l1 l2 => ?_, fun r1 r2 => r1.append r2⟩⟩
  · rw [List.length_append, List.length_singleton] at hl
    refine BindsTo.of_looks fun M => KwChain.looks X ?_ (h0 D doc pm an cdv ct us [.none] (by omega) rfl)
    intro q hq
    rw [List.zip_cons_cons, List.zip_nil_right, List.mem_singleton] at hq
    rw [hq]
    exact hd
  · exact .of_eq (h1 D doc pm an cdv ct us ws l1 l2)
end
/-! ### a if x is None else b -/
def M.opt {α β : Type} : Option α → M β → (α → M β) → M β
  | none, m, _ => m
  | some x, _, f => f x
section
variable {X : Cx} {W : WX} {Γ : En X.K} {pos : Pos} {α β : Type} {c a b : Expr}
theorem ev_ifN (i : Nat) {r : R X.K α} {s : R X.K β} {o : Option α} {ma : M β} {f : α → M β} {mc : M Bool} (hΓ : Γ[i]? = some (.va (rOpt r) o)) (hc : Tt X W Γ c mc) (ha : Ev X W Γ s a ma) (hb : ∀ x, Ev X W (Γ.set i (.va r x)) s b (f x)) (he : mc = .ok o.isNone := by rfl) : Ev X W Γ s (.IfExp c a b pos) (M.opt o ma f) := by
  subst he
  exact fun tk σ B F0 H F Q en k =>
  PE.w (pe_ifExp pt_w pe_w pe_w) <| hc tk σ B F0 H F _ en fun H1 F1 e1 => by
    cases o with
    | none =>
      show (if true = true then _ else _)
      rw [if_pos rfl]
      exact ha tk σ B F0 H1 F1 _ (en.ext e1) (KO.ext k e1)
    | some x =>
      show (if false = true then _ else _)
      rw [if_neg Bool.false_ne_true]
      exact hb x tk σ B F0 H1 F1 _ ((en.ext e1).nar hΓ fun F v q => q.2) (KO.ext k e1)
theorem ev_ifS (i : Nat) {r : R X.K α} {s : R X.K β} {o : Option α} {ma : M β} {f : α → M β} {mc : M Bool} (hΓ : Γ[i]? = some (.va (rOpt r) o)) (hc : Tt X W Γ c mc) (ha : Ev X W Γ s b ma) (hb : ∀ x, Ev X W (Γ.set i (.va r x)) s a (f x)) (he : mc = .ok o.isSome := by rfl) : Ev X W Γ s (.IfExp c a b pos) (M.opt o ma f) := by
  subst he
  exact fun tk σ B F0 H F Q en k =>
  PE.w (pe_ifExp pt_w pe_w pe_w) <| hc tk σ B F0 H F _ en fun H1 F1 e1 => by
    cases o with
    | none =>
      show (if false = true then _ else _)
      rw [if_neg Bool.false_ne_true]
      exact ha tk σ B F0 H1 F1 _ (en.ext e1) (KO.ext k e1)
    | some x =>
      show (if true = true then _ else _)
      rw [if_pos rfl]
      exact hb x tk σ B F0 H1 F1 _ ((en.ext e1).nar hΓ fun F v q => q.2) (KO.ext k e1)
end
section
variable {X : Cx} {α L ρ S : Type} {c : Ct X L ρ} {Γ Γ' : En X.K} {Γ1 : S → En X.K} {ss : List Stmt}
theorem rb_at {m : M ρ} (e : Γ' = Γ) (h : Rb X c Γ' ss m) : Rb X c Γ ss m := e ▸ h
theorem nb_at {m : M S} (e : Γ' = Γ) (h : Nb X c Γ' Γ1 ss m) : Nb X c Γ Γ1 ss m := e ▸ h
theorem bk_at {m : M (Fl S L ρ)} (e : Γ' = Γ) (h : Bk X c Γ' Γ1 ss m) : Bk X c Γ Γ1 ss m := e ▸ h
end
end PL
end
section
set_option maxRecDepth 100000
set_option maxHeartbeats 0
open PySem L2 PL
namespace T
def top (i : Nat) : Stmt := PySem.Challenge.pw_powersanddays_k24_whole_greatest_facts_b.main.body.getD i (.Pass ⟨0, 0, 0, 0⟩)
abbrev s_everything : Stmt := top 8
abbrev N_everything : List Str := ["n"]
theorem sc_everything : FnScope N_everything ["n"] (defScope s_everything) := ⟨rfl, rfl, rfl, by decide +kernel, rfl, by decide +kernel, by decide +kernel⟩
def m_everything (n1 : Int) : M Int := M.bind (M.bind (.ok 1) fun t2 => M.bind (shlI 1 n1) fun t3 => shlI t2 t3) fun t4 => M.bind (.ok 1) fun t5 => .ok (t4 - t5)
abbrev s_worlds_of : Stmt := top 9
abbrev N_worlds_of : List Str := ["prop", "worlds", "world"]
theorem sc_worlds_of : FnScope N_worlds_of ["prop"] (defScope s_worlds_of) := ⟨rfl, rfl, rfl, by decide +kernel, rfl, by decide +kernel, by decide +kernel⟩
def m_worlds_of (prop1 : Int) : M (List Int) := M.bind (.ok ([] : List Int)) fun worlds2 => M.bind (.ok (0 : Int)) fun world3 => M.bind (M.whl (fun (s4 : Int × (List Int) × Int) => .ok (decide (0 < s4.1))) (fun (s4 : Int × (List Int) × Int) => M.bind (cond (decide (Builtin.bitAnd s4.1 1 = 1)) (appL s4.2.1 s4.2.2) (.ok s4.2.1)) fun s6 => M.bind (shrI s4.1 1) fun prop8 => M.bind (.ok (s4.2.2 + 1 : Int)) fun world9 => .ok ((prop8, s6, world9))) (1000) ((prop1, worlds2, world3))) fun s4 => .ok s4.2.1
abbrev s_within : Stmt := top 10
abbrev N_within : List Str := ["first", "second"]
theorem sc_within : FnScope N_within ["first", "second"] (defScope s_within) := ⟨rfl, rfl, rfl, by decide +kernel, rfl, by decide +kernel, by decide +kernel⟩
def m_within (first1 : Int) (second2 : Int) : M Bool := .ok (decide (Builtin.bitAnd first1 second2 = first1))
abbrev s_is_prop : Stmt := top 11
abbrev N_is_prop : List Str := ["n", "prop"]
theorem sc_is_prop : FnScope N_is_prop ["n", "prop"] (defScope s_is_prop) := ⟨rfl, rfl, rfl, by decide +kernel, rfl, by decide +kernel, by decide +kernel⟩
def m_is_prop (n1 : Int) (prop2 : Int) : M Bool := M.bind (.ok 0) fun t3 => M.bind (.ok prop2) fun t4 => cond (decide (t3 ≤ t4)) (M.bind (m_everything n1) fun t5 => .ok (decide (t4 ≤ t5))) (.ok false)
abbrev s_switches : Stmt := top 14
abbrev N_switches : List Str := ["manner", "plain"]
theorem sc_switches : FnScope N_switches ["manner"] (defScope s_switches) := ⟨rfl, rfl, rfl, by decide +kernel, rfl, by decide +kernel, by decide +kernel⟩
def m_switches (manner1 : Str) : M (Bool × Bool × Bool) := M.bind (cond (!decide (manner1 ∈ ((["once", "cases", "steps", "both", "once+", "cases+", "steps+", "both+"] : List Str)))) .stuck (.ok (()))) fun s2 => M.bind (remSuf manner1 (("+" : Str))) fun plain3 => .ok ((decide (plain3 ∈ (([("cases" : Str), ("both" : Str)] : List Str))), decide (plain3 ∈ (([("steps" : Str), ("both" : Str)] : List Str))), !decide (plain3 = manner1)))
abbrev s_meet_heads : Stmt := top 15
abbrev N_meet_heads : List Str := ["book", "case", "prop", "body", "head"]
theorem sc_meet_heads : FnScope N_meet_heads ["book", "case"] (defScope s_meet_heads) := ⟨rfl, rfl, rfl, by decide +kernel, rfl, by decide +kernel, by decide +kernel⟩
def m_meet_heads (book1 : Int × (List (Int × Int)) × Unit) (case2 : Int) : M Int := M.bind (m_everything book1.1) fun prop3 => M.bind (M.fold (fun (s4 : Int) (x5 : Int × Int) => cond (decide (Builtin.bitAnd case2 x5.1 = case2)) (M.bind (.ok (Builtin.bitAnd s4 x5.2 : Int)) fun prop8 => .ok prop8) (.ok s4)) book1.2.1 prop3) fun s4 => .ok s4
abbrev s_is_stable : Stmt := top 16
abbrev N_is_stable : List Str := ["book", "case"]
theorem sc_is_stable : FnScope N_is_stable ["book", "case"] (defScope s_is_stable) := ⟨rfl, rfl, rfl, by decide +kernel, rfl, by decide +kernel, by decide +kernel⟩
def m_is_stable (book1 : Int × (List (Int × Int)) × Unit) (case2 : Int) : M Bool := M.bind (M.bind (.ok case2) fun t3 => M.bind (M.bind (m_meet_heads book1 case2) fun t4 => M.bind (.ok (())) fun t5 => .ok ((t4, t5))) fun t6 => .ok ((t3, t6))) fun a7 => m_within a7.1 a7.2.1
abbrev s_output : Stmt := top 17
abbrev N_output : List Str := ["book", "case", "manner", "prop"]
theorem sc_output : FnScope N_output ["book", "case", "manner"] (defScope s_output) := ⟨rfl, rfl, rfl, by decide +kernel, rfl, by decide +kernel, by decide +kernel⟩
def m_output (book1 : Int × (List (Int × Int)) × Unit) (case2 : Int) (manner3 : Str) : M Int := M.bind (m_meet_heads book1 case2) fun prop4 => M.bind (M.bind (m_switches manner3) fun t6 => .ok t6.2.2) fun t7 => cond t7 (.ok (Builtin.bitAnd prop4 case2)) (.ok prop4)
abbrev s_steps : Stmt := top 18
abbrev N_steps : List Str := ["book", "facts", "prop", "smaller"]
theorem sc_steps : GScope N_steps ["book", "facts"] (defScope s_steps) := ⟨rfl, rfl, rfl, by decide +kernel, rfl, by decide +kernel, by decide +kernel⟩
def m_steps (book1 : Int × (List (Int × Int)) × Unit) (facts2 : Int) : M (List Int) := M.outs (M.bind (.ok (facts2 : Int)) fun prop3 => M.bind (M.bind (.ok prop3) fun t4 => M.bind (m_meet_heads book1 prop3) fun t5 => .ok (Builtin.bitAnd t4 t5)) fun smaller6 => M.then2 (.ok ((), [prop3])) fun _ => M.then2 (M.whlG (fun (s7 : Int × Int) => .ok (!decide (s7.2 = s7.1))) (fun (s7 : Int × Int) => M.bind (.ok (s7.2 : Int)) fun prop8 => M.bind (M.bind (.ok prop8) fun t9 => M.bind (m_meet_heads book1 prop8) fun t10 => .ok (Builtin.bitAnd t9 t10)) fun smaller11 => M.then2 (.ok ((), [prop8])) fun _ => .ok ((prop8, smaller11), [])) (1000) ((prop3, smaller6))) fun s7 => .ok ((), []))
abbrev s_settle : Stmt := top 19
abbrev N_settle : List Str := ["book", "facts"]
theorem sc_settle : FnScope N_settle ["book", "facts"] (defScope s_settle) := ⟨rfl, rfl, rfl, by decide +kernel, rfl, by decide +kernel, by decide +kernel⟩
def m_settle (book1 : Int × (List (Int × Int)) × Unit) (facts2 : Int) : M Int := M.bind (gOut (m_steps book1 facts2)) fun t3 => M.bind (.ok (-1)) fun t4 => idx t3 t4
abbrev s_due : Stmt := top 20
abbrev N_due : List Str := ["book", "facts", "manner", "by_cases", "in_steps", "_", "case", "prop", "world"]
theorem sc_due : FnScope N_due ["book", "facts", "manner"] (defScope s_due) := ⟨rfl, rfl, rfl, by decide +kernel, rfl, by decide +kernel, by decide +kernel⟩
def m_due (book1 : Int × (List (Int × Int)) × Unit) (facts2 : Int) (manner3 : Str) : M Int := M.bind (m_switches manner3) fun p4 => cond (!p4.1) (M.bind (cond p4.2.1 (m_settle book1 facts2) (.ok facts2)) fun case5 => m_output book1 case5 manner3) (M.bind (m_output book1 0 manner3) fun prop6 => M.bind (M.bind (m_worlds_of facts2) fun t18 => M.fold (fun (s7 : Int) (world8 : Int) => M.bind (shlI 1 world8) fun case9 => M.bind (mOr (.ok (!p4.2.1)) (m_is_stable book1 case9)) fun t17 => cond t17 (M.bind (.ok s7) fun t14 => M.bind (m_output book1 case9 manner3) fun t15 => .ok (Builtin.bitOr t14 t15)) (.ok s7)) t18 prop6) fun s7 => .ok s7)
abbrev s_Book___init : Stmt := inClass (top 26) 2
abbrev N_Book___init : List Str := ["self", "n", "rules", "kept", "number", "body", "head"]
theorem sc_Book___init : FnScope N_Book___init ["self", "n", "rules"] (defScope s_Book___init) := ⟨rfl, rfl, rfl, by decide +kernel, rfl, by decide +kernel, by decide +kernel⟩
def m_Book___init (n1 : Int) (rules2 : List (Int × Int)) : M (Int × (List (Int × Int)) × Unit) := M.bind (cond (!((decide (1 ≤ n1)) && (decide (n1 ≤ 4)))) .stuck (.ok (()))) fun s3 => M.bind (cond (decide (16 < (rules2.length : Int))) .stuck (.ok (()))) fun s4 => M.bind (.ok (([] : List (Int × Int)) : List (Int × Int))) fun kept5 => M.bind (M.fold (fun (s6 : (List (Int × Int))) (x7 : Int × (Int × Int)) => M.bind (M.bind (mOr (mNot (m_is_prop n1 x7.2.1)) (mNot (m_is_prop n1 x7.2.2))) fun t9 => cond t9 .stuck (.ok (()))) fun s8 => appL s6 ((x7.2.1, x7.2.2))) (enumL rules2) kept5) fun s6 => M.bind (.ok ((n1, ()) : Int × Unit)) fun self11 => M.bind (.ok ((self11.1, s6, ()) : Int × (List (Int × Int)) × Unit)) fun self12 => .ok self12
abbrev s_is_due : Stmt := top 21
abbrev N_is_due : List Str := ["book", "facts", "claim", "manner"]
theorem sc_is_due : FnScope N_is_due ["book", "facts", "claim", "manner"] (defScope s_is_due) := ⟨rfl, rfl, rfl, by decide +kernel, rfl, by decide +kernel, by decide +kernel⟩
def m_is_due (book1 : Int × (List (Int × Int)) × Unit) (facts2 : Int) (claim3 : Int) (manner4 : Str) : M Bool := M.bind (M.bind (m_due book1 facts2 manner4) fun t5 => M.bind (M.bind (.ok claim3) fun t6 => M.bind (.ok (())) fun t7 => .ok ((t6, t7))) fun t8 => .ok ((t5, t8))) fun a9 => m_within a9.1 a9.2.1
abbrev s_greatest_facts : Stmt := top 24
abbrev N_greatest_facts : List Str := ["book", "claim", "manner", "inside", "bound", "found", "facts", "other"]
theorem sc_greatest_facts : FnScope N_greatest_facts ["book", "claim", "manner", "inside"] (defScope s_greatest_facts) := ⟨rfl, rfl, rfl, by decide +kernel, rfl, by decide +kernel, by decide +kernel⟩
def m_greatest_facts (book1 : Int × (List (Int × Int)) × Unit) (claim2 : Int) (manner3 : Str) (inside4 : Option Int) : M (List Int) := M.bind (cond (decide (3 < book1.1)) .stuck (.ok (()))) fun s5 => M.bind (M.opt inside4 (m_everything book1.1) (fun inside6 => .ok inside6)) fun bound7 => M.bind (.ok (([] : List Int) : List Int)) fun found8 => M.bind (M.bind (M.grd (rgOk (bound7 + 1)) (.ok (rng 0 (bound7 + 1)).reverse)) fun t27 => M.fold (fun (s9 : (List Int)) (facts10 : Int) => M.bind (mAnd (m_within facts10 bound7) (mNot (M.bind (M.bind (M.map (fun x19 => m_within facts10 x19) s9) fun ys20 => M.grd (lenOk ys20.length) (.ok ys20)) fun t21 => .ok (t21.any id)))) fun t26 => cond t26 (M.bind (m_is_due book1 facts10 claim2 manner3) fun t25 => cond t25 (appL s9 facts10) (.ok s9)) (.ok s9)) t27 found8) fun s9 => .ok (sortI s9)
abbrev s_law_cell : Stmt := top 28
abbrev N_law_cell : List Str := ["script", "k"]
theorem sc_law_cell : FnScope N_law_cell ["script", "k"] (defScope s_law_cell) := ⟨rfl, rfl, rfl, by decide +kernel, rfl, by decide +kernel, by decide +kernel⟩
def m_law_cell (script1 : List Int) (k2 : Int) : M Int := cond (decide (k2 < (script1.length : Int))) (M.bind (idx script1 k2) fun t3 => .ok (absI t3)) (.ok 0)
abbrev s_law_numbers : Stmt := top 29
abbrev N_law_numbers : List Str := ["script", "at", "count", "radix", "cell", "numbers", "left", "k", "mixed"]
theorem sc_law_numbers : FnScope N_law_numbers ["script", "at", "count", "radix"] (defScope s_law_numbers) := ⟨rfl, rfl, rfl, by decide +kernel, rfl, by decide +kernel, by decide +kernel⟩
def m_law_numbers (script1 : List Int) (at2 : Int) (count3 : Int) (radix4 : Int) : M (List Int) := M.bind (m_law_cell script1 at2) fun cell5 => M.bind (.ok ([] : List Int)) fun numbers6 => M.bind (.ok (cell5 : Int)) fun left7 => M.bind (M.bind (M.bind (.ok left7) fun t12 => M.bind (powI 10 18) fun t13 => .ok (decide (t12 < t13))) fun t15 => cond t15 (M.bind (.ok (0 : Int)) fun left14 => .ok left14) (.ok left7)) fun s11 => M.bind (M.bind (M.grd (rgOk count3) (.ok (rng 0 count3))) fun t63 => M.fold (fun (s16 : (List Int) × Int) (k17 : Int) => M.bind (cond (decide (0 < s16.2)) (M.bind (M.bind (modI s16.2 radix4) fun t42 => appL s16.1 t42) fun numbers41 => M.bind (fdivI s16.2 radix4) fun left43 => .ok ((numbers41, left43))) (M.bind (M.bind (M.bind (M.bind (M.bind (modI cell5 999983) fun t44 => M.bind (mulI 37 at2) fun t45 => .ok (t44 + t45)) fun t46 => M.bind (.ok 1) fun t47 => .ok (t46 + t47)) fun t52 => M.bind (M.bind (M.bind (mulI 7919 k17) fun t48 => M.bind (mulI 611 at2) fun t49 => .ok (t48 + t49)) fun t50 => M.bind (.ok 104729) fun t51 => .ok (t50 + t51)) fun t53 => mulI t52 t53) fun t54 => M.bind (.ok 1000003) fun t55 => modI t54 t55) fun mixed56 => M.bind (M.bind (M.bind (M.bind (mulI mixed56 (mixed56 + 31)) fun t57 => M.bind (.ok 1000033) fun t58 => modI t57 t58) fun t59 => M.bind (.ok radix4) fun t60 => modI t59 t60) fun t62 => appL s16.1 t62) fun numbers61 => .ok ((numbers61, s16.2)))) fun s40 => .ok ((s40.1, s40.2))) t63 ((numbers6, s11))) fun s16 => .ok s16.1
abbrev s_law_same : Stmt := top 30
abbrev N_law_same : List Str := ["answer", "expected", "k"]
theorem sc_law_same : FnScope N_law_same ["answer", "expected"] (defScope s_law_same) := ⟨rfl, rfl, rfl, by decide +kernel, rfl, by decide +kernel, by decide +kernel⟩
def m_law_same_i (answer1 : Int) (expected2 : Int) : M Bool := .ok (true && ((!false) && (decide (answer1 = expected2))))
def m_law_same_l (answer1 : List Int) (expected2 : List Int) : M Bool := cond (!decide ((answer1.length : Int) = (expected2.length : Int))) (.ok false) (M.bind (M.bind (M.grd (rgOk ((expected2.length : Int))) (.ok (rng 0 ((expected2.length : Int))))) fun t9 => M.bind (M.map (fun x3 => M.bind (M.bind (idx answer1 x3) fun t4 => M.bind (M.bind (idx expected2 x3) fun t5 => M.bind (.ok (())) fun t6 => .ok ((t5, t6))) fun t7 => .ok ((t4, t7))) fun a8 => m_law_same_i a8.1 a8.2.1) t9) fun ys10 => M.grd (lenOk ys10.length) (.ok ys10)) fun t11 => .ok (t11.all id))
abbrev s_law_by_cases : Stmt := top 31
abbrev N_law_by_cases : List Str := ["manner"]
theorem sc_law_by_cases : FnScope N_law_by_cases ["manner"] (defScope s_law_by_cases) := ⟨rfl, rfl, rfl, by decide +kernel, rfl, by decide +kernel, by decide +kernel⟩
def m_law_by_cases (manner1 : Str) : M Bool := M.bind (slS manner1 none (some 4)) fun t2 => M.bind (.ok (([("case" : Str), ("both" : Str)] : List Str))) fun t3 => .ok (decide (t2 ∈ t3))
abbrev s_law_in_steps : Stmt := top 32
abbrev N_law_in_steps : List Str := ["manner"]
theorem sc_law_in_steps : FnScope N_law_in_steps ["manner"] (defScope s_law_in_steps) := ⟨rfl, rfl, rfl, by decide +kernel, rfl, by decide +kernel, by decide +kernel⟩
def m_law_in_steps (manner1 : Str) : M Bool := M.bind (slS manner1 none (some 4)) fun t2 => M.bind (.ok (([("step" : Str), ("both" : Str)] : List Str))) fun t3 => .ok (decide (t2 ∈ t3))
abbrev s_law_meet : Stmt := top 33
abbrev N_law_meet : List Str := ["n", "rules", "case", "meet", "rule"]
theorem sc_law_meet : FnScope N_law_meet ["n", "rules", "case"] (defScope s_law_meet) := ⟨rfl, rfl, rfl, by decide +kernel, rfl, by decide +kernel, by decide +kernel⟩
def m_law_meet (n1 : Int) (rules2 : List (Int × Int)) (case3 : Int) : M Int := M.bind (M.bind (M.bind (.ok 1) fun t4 => M.bind (shlI 1 n1) fun t5 => shlI t4 t5) fun t6 => M.bind (.ok 1) fun t7 => .ok (t6 - t7)) fun meet8 => M.bind (M.fold (fun (s9 : Int) (rule10 : Int × Int) => cond (decide (Builtin.bitAnd case3 rule10.1 = case3)) (M.bind (.ok (Builtin.bitAnd s9 rule10.2 : Int)) fun meet13 => .ok meet13) (.ok s9)) rules2 meet8) fun s9 => .ok s9
abbrev s_law_due : Stmt := top 34
abbrev N_law_due : List Str := ["n", "rules", "facts", "manner", "cases", "case", "k", "join", "meet", "world"]
theorem sc_law_due : FnScope N_law_due ["n", "rules", "facts", "manner"] (defScope s_law_due) := ⟨rfl, rfl, rfl, by decide +kernel, rfl, by decide +kernel, by decide +kernel⟩
def m_law_due (n1 : Int) (rules2 : List (Int × Int)) (facts3 : Int) (manner4 : Str) : M Int := M.bind (.ok (([facts3] : List Int) : List Int)) fun cases5 => M.bind (M.bind (m_law_by_cases manner4) fun t65 => cond t65 (M.bind (.ok (([0] : List Int))) fun t46 => M.bind (M.bind (M.bind (shlI 1 n1) fun t36 => M.grd (rgOk t36) (.ok (rng 0 t36))) fun t44 => M.bind (M.lc (fun x37 => M.bind (M.bind (shrI facts3 x37) fun t38 => M.bind (.ok 1) fun t39 => .ok (Builtin.bitAnd t38 t39)) fun t42 => M.bind (.ok 1) fun t43 => .ok (decide (t42 = t43))) (fun x37 => shlI 1 x37) t44) fun ys45 => M.grd (lenOk ys45.length) (.ok ys45)) fun t47 => catL t46 t47) (M.bind (m_law_in_steps manner4) fun t64 => cond t64 (M.bind (.ok (facts3 : Int)) fun case57 => M.bind (M.fold (fun (s58 : Int) (k59 : Int) => M.bind (.ok s58) fun t60 => M.bind (m_law_meet n1 rules2 s58) fun t61 => .ok (Builtin.bitAnd t60 t61)) (rng 0 17) case57) fun s58 => M.bind (.ok (([s58] : List Int) : List Int)) fun cases63 => .ok cases63) (.ok cases5))) fun s35 => M.bind (.ok (0 : Int)) fun join66 => M.bind (M.fold (fun (s67 : Int) (case68 : Int) => M.bind (m_law_meet n1 rules2 case68) fun meet69 => M.bind (M.bind (mOr (mNot (m_law_in_steps manner4)) (.ok (decide (Builtin.bitAnd case68 meet69 = case68)))) fun t89 => cond t89 (M.bind (M.bind (M.bind (idxS manner4 (-1)) fun t84 => M.bind (.ok (("+" : Str))) fun t85 => .ok (decide (t84 = t85))) fun t87 => cond t87 (M.bind (.ok (Builtin.bitAnd meet69 case68 : Int)) fun meet86 => .ok meet86) (.ok meet69)) fun s83 => M.bind (.ok (Builtin.bitOr s67 s83 : Int)) fun join88 => .ok ((join88, s83))) (.ok ((s67, meet69)))) fun s79 => .ok s79.1) s35 join66) fun s67 => .ok s67
abbrev s_law_facts : Stmt := top 35
abbrev N_law_facts : List Str := ["script", "n", "top", "drawn", "kind"]
theorem sc_law_facts : FnScope N_law_facts ["script", "n"] (defScope s_law_facts) := ⟨rfl, rfl, rfl, by decide +kernel, rfl, by decide +kernel, by decide +kernel⟩
def m_law_facts (script1 : List Int) (n2 : Int) : M Int := M.bind (M.bind (.ok 1) fun t3 => M.bind (shlI 1 n2) fun t4 => shlI t3 t4) fun top5 => M.bind (m_law_numbers script1 6 2 top5) fun drawn6 => M.bind (M.bind (m_law_cell script1 7) fun t7 => M.bind (.ok 8) fun t8 => modI t7 t8) fun kind9 => cond (decide (kind9 < 2)) (.ok (top5 - 1)) (cond (decide (kind9 = 2)) (M.bind (idx drawn6 0) fun t10 => M.bind (idx drawn6 1) fun t11 => .ok (Builtin.bitAnd t10 t11)) (cond (decide (kind9 ∈ (([3, 4] : List Int)))) (M.bind (idx drawn6 0) fun t12 => M.bind (idx drawn6 1) fun t13 => .ok (Builtin.bitOr t12 t13)) (cond (decide (kind9 = 5)) (M.bind (.ok 1) fun t18 => M.bind (M.bind (idx drawn6 0) fun t16 => M.bind (M.bind (shlI 1 n2) fun t14 => M.bind (.ok 1) fun t15 => .ok (t14 - t15)) fun t17 => .ok (Builtin.bitAnd t16 t17)) fun t19 => shlI t18 t19) (M.bind (mAnd (.ok (decide (kind9 = 6))) (M.bind (M.bind (M.bind (m_law_cell script1 7) fun t30 => M.bind (.ok 8) fun t31 => fdivI t30 t31) fun t32 => M.bind (.ok 2) fun t33 => modI t32 t33) fun t38 => M.bind (.ok 1) fun t39 => .ok (decide (t38 = t39)))) fun t40 => cond t40 (.ok 0) (idx drawn6 0)))))
abbrev s_law_rules : Stmt := top 36
abbrev N_law_rules : List Str := ["script", "n", "count", "facts", "top", "kinds", "bodies", "heads", "more", "rules", "k", "body", "head", "kind"]
theorem sc_law_rules : FnScope N_law_rules ["script", "n", "count", "facts"] (defScope s_law_rules) := ⟨rfl, rfl, rfl, by decide +kernel, rfl, by decide +kernel, by decide +kernel⟩
def m_law_rules (script1 : List Int) (n2 : Int) (count3 : Int) (facts4 : Int) : M (List (Int × Int)) := M.bind (M.bind (.ok 1) fun t5 => M.bind (shlI 1 n2) fun t6 => shlI t5 t6) fun top7 => M.bind (m_law_numbers script1 2 count3 24) fun kinds8 => M.bind (m_law_numbers script1 3 count3 top7) fun bodies9 => M.bind (m_law_numbers script1 4 count3 top7) fun heads10 => M.bind (M.bind (M.bind (.ok script1) fun t11 => M.bind (M.bind (.ok 5) fun t12 => M.bind (M.bind (mulI 2 count3) fun t13 => M.bind (M.bind (.ok top7) fun t14 => M.bind (.ok (())) fun t15 => .ok ((t14, t15))) fun t16 => .ok ((t13, t16))) fun t17 => .ok ((t12, t17))) fun t18 => .ok ((t11, t18))) fun a19 => m_law_numbers a19.1 a19.2.1 a19.2.2.1 a19.2.2.2.1) fun more20 => M.bind (.ok (([] : List (Int × Int)) : List (Int × Int))) fun rules21 => M.bind (M.bind (M.grd (rgOk count3) (.ok (rng 0 count3))) fun t88 => M.fold (fun (s22 : (List (Int × Int))) (k23 : Int) => M.bind (idx bodies9 k23) fun body24 => M.bind (idx heads10 k23) fun head25 => M.bind (M.bind (idx kinds8 k23) fun t26 => M.bind (.ok 8) fun t27 => modI t26 t27) fun kind28 => M.bind (cond (decide (kind28 = 1)) (M.bind (.ok body24) fun t37 => M.bind (M.bind (.ok more20) fun t35 => M.bind (mulI 2 k23) fun t36 => idx t35 t36) fun t38 => .ok (Builtin.bitOr t37 t38)) (.ok body24)) fun s34 => M.bind (cond (decide (kind28 ∈ (([2, 3] : List Int)))) (M.bind (.ok (top7 - 1 : Int)) fun body42 => .ok body42) (.ok s34)) fun s41 => M.bind (cond (decide (kind28 ∈ (([4, 5] : List Int)))) (M.bind (.ok (Builtin.bitOr s41 facts4 : Int)) fun body45 => .ok body45) (.ok s41)) fun s44 => M.bind (cond ((decide (5 < kind28)) && (decide (0 < k23))) (M.bind (M.bind (idx s22 (k23 - 1)) fun t55 => .ok t55.2) fun t60 => M.bind (M.bind (.ok s44) fun t58 => M.bind (M.bind (.ok more20) fun t56 => M.bind (mulI 2 k23) fun t57 => idx t56 t57) fun t59 => .ok (Builtin.bitAnd t58 t59)) fun t61 => .ok (Builtin.bitOr t60 t61)) (.ok s44)) fun s54 => M.bind (M.bind (M.bind (M.bind (idx kinds8 k23) fun t75 => M.bind (.ok 8) fun t76 => fdivI t75 t76) fun t77 => M.bind (.ok 0) fun t78 => .ok (decide (t78 < t77))) fun t86 => cond t86 (M.bind (.ok head25) fun t83 => M.bind (M.bind (.ok more20) fun t81 => M.bind (M.bind (mulI 2 k23) fun t79 => M.bind (.ok 1) fun t80 => .ok (t79 + t80)) fun t82 => idx t81 t82) fun t84 => .ok (Builtin.bitOr t83 t84)) (.ok head25)) fun s74 => appL s22 ((s54, s74))) t88 rules21) fun s22 => .ok s22
abbrev s_law_wanted : Stmt := top 37
abbrev N_law_wanted : List Str := ["script", "at", "n", "rules", "facts", "manner", "drawn", "kind", "zero", "total"]
theorem sc_law_wanted : FnScope N_law_wanted ["script", "at", "n", "rules", "facts", "manner"] (defScope s_law_wanted) := ⟨rfl, rfl, rfl, by decide +kernel, rfl, by decide +kernel, by decide +kernel⟩
def m_law_wanted (script1 : List Int) (at2 : Int) (n3 : Int) (rules4 : List (Int × Int)) (facts5 : Int) (manner6 : Str) : M Int := M.bind (M.bind (M.bind (.ok script1) fun t9 => M.bind (M.bind (.ok at2) fun t10 => M.bind (M.bind (.ok 2) fun t11 => M.bind (M.bind (M.bind (.ok 1) fun t7 => M.bind (shlI 1 n3) fun t8 => shlI t7 t8) fun t12 => M.bind (.ok (())) fun t13 => .ok ((t12, t13))) fun t14 => .ok ((t11, t14))) fun t15 => .ok ((t10, t15))) fun t16 => .ok ((t9, t16))) fun a17 => m_law_numbers a17.1 a17.2.1 a17.2.2.1 a17.2.2.2.1) fun drawn18 => M.bind (M.bind (M.bind (.ok 1) fun t19 => M.bind (m_law_cell script1 at2) fun t20 => .ok (t19 + t20)) fun t21 => M.bind (.ok 8) fun t22 => modI t21 t22) fun kind23 => cond (decide (kind23 = 0)) (idx drawn18 0) (M.bind (m_law_due n3 rules4 0 manner6) fun zero24 => cond (decide (kind23 = 3)) (.ok zero24) (cond (decide (kind23 = 4)) (M.bind (idx drawn18 0) fun t25 => M.bind (idx drawn18 1) fun t26 => .ok (Builtin.bitOr t25 t26)) (cond (decide (kind23 = 7)) (M.bind (M.bind (M.bind (.ok 1) fun t27 => M.bind (shlI 1 n3) fun t28 => shlI t27 t28) fun t29 => M.bind (.ok 1) fun t30 => .ok (t29 - t30)) fun t31 => M.bind (.ok (Builtin.bitAnd zero24 (0 - zero24))) fun t32 => .ok (t31 - t32)) (M.bind (m_law_due n3 rules4 facts5 manner6) fun total33 => cond (decide (kind23 = 5)) (.ok (Builtin.bitAnd total33 (max 0 (total33 - 1)))) (cond (decide (kind23 ∈ (([1, 6] : List Int)))) (.ok total33) (M.bind (.ok total33) fun t36 => M.bind (M.bind (idx drawn18 0) fun t34 => M.bind (idx drawn18 1) fun t35 => .ok (Builtin.bitAnd t34 t35)) fun t37 => .ok (Builtin.bitOr t36 t37)))))))
abbrev s_law_manner : Stmt := top 38
abbrev N_law_manner : List Str := ["number"]
theorem sc_law_manner : FnScope N_law_manner ["number"] (defScope s_law_manner) := ⟨rfl, rfl, rfl, by decide +kernel, rfl, by decide +kernel, by decide +kernel⟩
def m_law_manner (number1 : Int) : M Str := M.bind (.ok (([("once" : Str), ("cases" : Str), ("steps" : Str), ("both" : Str), ("once+" : Str), ("cases+" : Str), ("steps+" : Str), ("both+" : Str)] : List Str))) fun t2 => M.bind (modI number1 8) fun t3 => idx t2 t3
abbrev s_law_limit : Stmt := top 39
abbrev N_law_limit : List Str := ["script", "at", "n", "facts", "top", "drawn", "kind"]
theorem sc_law_limit : FnScope N_law_limit ["script", "at", "n", "facts"] (defScope s_law_limit) := ⟨rfl, rfl, rfl, by decide +kernel, rfl, by decide +kernel, by decide +kernel⟩
def m_law_limit (script1 : List Int) (at2 : Int) (n3 : Int) (facts4 : Int) : M Int := M.bind (M.bind (.ok 1) fun t5 => M.bind (shlI 1 n3) fun t6 => shlI t5 t6) fun top7 => M.bind (m_law_numbers script1 at2 2 top7) fun drawn8 => M.bind (M.bind (m_law_cell script1 at2) fun t9 => M.bind (.ok 6) fun t10 => modI t9 t10) fun kind11 => cond (decide (kind11 = 1)) (.ok 0) (cond (decide (kind11 = 2)) (.ok facts4) (cond (decide (kind11 = 3)) (.ok (top7 - 1)) (cond (decide (kind11 = 4)) (M.bind (idx drawn8 0) fun t12 => M.bind (idx drawn8 1) fun t13 => .ok (Builtin.bitOr t12 t13)) (idx drawn8 0))))
abbrev s_law_given : Stmt := top 40
abbrev N_law_given : List Str := ["n", "rules", "claim", "manner", "facts", "total"]
theorem sc_law_given : FnScope N_law_given ["n", "rules", "claim", "manner", "facts"] (defScope s_law_given) := ⟨rfl, rfl, rfl, by decide +kernel, rfl, by decide +kernel, by decide +kernel⟩
def m_law_given (n1 : Int) (rules2 : List (Int × Int)) (claim3 : Int) (manner4 : Str) (facts5 : Int) : M Bool := M.bind (m_law_due n1 rules2 facts5 manner4) fun total6 => .ok (decide (Builtin.bitAnd total6 claim3 = total6))
abbrev s_law_single : Stmt := top 41
abbrev N_law_single : List Str := ["n", "rules", "claim", "manner", "limit", "worlds", "world"]
theorem sc_law_single : FnScope N_law_single ["n", "rules", "claim", "manner", "limit"] (defScope s_law_single) := ⟨rfl, rfl, rfl, by decide +kernel, rfl, by decide +kernel, by decide +kernel⟩
def m_law_single (n1 : Int) (rules2 : List (Int × Int)) (claim3 : Int) (manner4 : Str) (limit5 : Int) : M (List Int) := M.bind (mNot (m_law_given n1 rules2 claim3 manner4 0)) fun t23 => cond t23 (.ok (([] : List Int))) (M.bind (M.bind (M.bind (shlI 1 n1) fun t6 => M.grd (rgOk t6) (.ok (rng 0 t6))) fun t14 => M.bind (M.lc (fun x7 => M.bind (M.bind (shrI limit5 x7) fun t8 => M.bind (.ok 1) fun t9 => .ok (Builtin.bitAnd t8 t9)) fun t12 => M.bind (.ok 1) fun t13 => .ok (decide (t12 = t13))) (fun x7 => shlI 1 x7) t14) fun ys15 => M.grd (lenOk ys15.length) (.ok ys15)) fun worlds16 => M.bind (M.bind (M.bind (M.bind (M.lc (fun x17 => m_law_given n1 rules2 claim3 manner4 x17) (fun x17 => .ok x17) worlds16) fun ys18 => M.grd (lenOk ys18.length) (.ok ys18)) fun t19 => .ok t19.sum) fun t20 => M.bind (.ok ([])) fun t21 => .ok (t20 :: t21)) fun t22 => M.grd (lenOk t22.length) (.ok t22))
abbrev s_law_right : Stmt := top 42
abbrev N_law_right : List Str := ["n", "rules", "claim", "manner", "answer", "facts"]
theorem sc_law_right : FnScope N_law_right ["n", "rules", "claim", "manner", "answer"] (defScope s_law_right) := ⟨rfl, rfl, rfl, by decide +kernel, rfl, by decide +kernel, by decide +kernel⟩
def m_law_right (n1 : Int) (rules2 : List (Int × Int)) (claim3 : Int) (manner4 : Str) (answer5 : List Int) : M Bool := bindF (M.loop (L := Empty) (fun (s6 : Unit) (facts7 : Int) => M.bind (mOr (.ok false) (mOr (.ok false) (mNot (M.bind (.ok 0) fun t15 => M.bind (.ok facts7) fun t16 => cond (decide (t15 ≤ t16)) (M.bind (M.bind (.ok 1) fun t13 => M.bind (shlI 1 n1) fun t14 => shlI t13 t14) fun t17 => .ok (decide (t16 < t17))) (.ok false))))) fun t19 => cond t19 (.ok (.rt false)) (M.bind (mNot (m_law_given n1 rules2 claim3 manner4 facts7)) fun t18 => cond t18 (.ok (.rt false)) (.ok (.nx (()))))) answer5 (())) fun s6 => mOr (.ok (decide (0 < (answer5.length : Int)))) (mNot (m_law_given n1 rules2 claim3 manner4 0))
abbrev s_law : Stmt := top 43
abbrev N_law : List Str := ["script", "cell", "n", "count", "more", "facts", "every", "rules", "manner", "claim", "limit", "book", "greater", "top", "other", "before", "after", "one", "wider"]
theorem sc_law : FnScope N_law ["script"] (defScope s_law) := ⟨rfl, rfl, rfl, by decide +kernel, rfl, by decide +kernel, by decide +kernel⟩
def m_law (script1 : List Int) : M Bool := M.bind (m_law_cell script1 0) fun cell2 => M.bind (M.bind (.ok (([2, 1, 2, 3, 2, 1, 2, 2] : List Int))) fun t3 => M.bind (modI cell2 8) fun t4 => idx t3 t4) fun n5 => M.bind (M.bind (M.bind (.ok 3) fun t6 => M.bind (fdivI cell2 8) fun t7 => .ok (t6 + t7)) fun t8 => M.bind (.ok 6) fun t9 => modI t8 t9) fun count10 => M.bind (M.bind (M.bind (M.bind (fdivI cell2 48) fun t23 => M.bind (.ok 8) fun t24 => modI t23 t24) fun t27 => M.bind (.ok 1) fun t28 => .ok (decide (t27 = t28))) fun t34 => cond t34 (M.bind (.ok 12) fun t31 => M.bind (M.bind (fdivI cell2 384) fun t29 => M.bind (.ok 7) fun t30 => modI t29 t30) fun t32 => .ok (t31 - t32)) (.ok count10)) fun s22 => M.bind (M.bind (M.bind (.ok 2) fun t35 => M.bind (m_law_cell script1 12) fun t36 => .ok (t35 + t36)) fun t37 => M.bind (.ok 5) fun t38 => modI t37 t38) fun more39 => M.bind (m_law_facts script1 n5) fun facts40 => M.bind (m_law_rules script1 n5 (s22 + more39) facts40) fun every41 => M.bind (.ok (cut every41 none (some s22) : List (Int × Int))) fun rules42 => M.bind (M.bind (.ok (([("cases" : Str), ("both" : Str), ("cases+" : Str), ("both+" : Str)] : List Str))) fun t45 => M.bind (M.bind (m_law_cell script1 1) fun t43 => M.bind (.ok 4) fun t44 => modI t43 t44) fun t46 => idx t45 t46) fun manner47 => M.bind (m_law_wanted script1 8 n5 rules42 facts40 manner47) fun claim48 => M.bind (m_law_limit script1 9 n5 facts40) fun limit49 => M.bind (m_Book___init n5 rules42) fun book50 => M.bind (m_Book___init n5 every41) fun greater51 => M.bind (M.bind (M.bind (.ok 1) fun t52 => M.bind (shlI 1 n5) fun t53 => shlI t52 t53) fun t54 => M.bind (.ok 1) fun t55 => .ok (t54 - t55)) fun top56 => M.bind (mNot (M.bind (M.bind (m_greatest_facts book50 claim48 manner47 none) fun t62 => M.bind (M.bind (m_law_single n5 rules42 claim48 manner47 top56) fun t63 => M.bind (.ok (())) fun t64 => .ok ((t63, t64))) fun t65 => .ok ((t62, t65))) fun a66 => m_law_same_l a66.1 a66.2.1)) fun t115 => cond t115 (.ok false) (M.bind (mNot (M.bind (M.bind (m_greatest_facts greater51 claim48 manner47 none) fun t72 => M.bind (M.bind (m_law_single n5 every41 claim48 manner47 top56) fun t73 => M.bind (.ok (())) fun t74 => .ok ((t73, t74))) fun t75 => .ok ((t72, t75))) fun a76 => m_law_same_l a76.1 a76.2.1)) fun t114 => cond t114 (.ok false) (M.bind (mNot (M.bind (M.bind (m_greatest_facts book50 claim48 manner47 (some limit49)) fun t82 => M.bind (M.bind (m_law_single n5 rules42 claim48 manner47 limit49) fun t83 => M.bind (.ok (())) fun t84 => .ok ((t83, t84))) fun t85 => .ok ((t82, t85))) fun a86 => m_law_same_l a86.1 a86.2.1)) fun t113 => cond t113 (.ok false) (M.bind (mNot (M.bind (M.bind (m_greatest_facts greater51 claim48 manner47 (some limit49)) fun t92 => M.bind (M.bind (m_law_single n5 every41 claim48 manner47 limit49) fun t93 => M.bind (.ok (())) fun t94 => .ok ((t93, t94))) fun t95 => .ok ((t92, t95))) fun a96 => m_law_same_l a96.1 a96.2.1)) fun t112 => cond t112 (.ok false) (M.bind (M.bind (M.bind (M.bind (m_law_cell script1 1) fun t97 => M.bind (.ok 4) fun t98 => fdivI t97 t98) fun t99 => M.bind (.ok (())) fun t100 => .ok ((t99, t100))) fun a101 => m_law_manner a101.1) fun other102 => M.bind (m_greatest_facts book50 claim48 other102 none) fun before103 => M.bind (m_greatest_facts greater51 claim48 other102 none) fun after104 => M.bind (mOr (mNot (m_law_right n5 rules42 claim48 other102 before103)) (mNot (m_law_right n5 every41 claim48 other102 after104))) fun t111 => cond t111 (.ok false) (M.bind (M.bind (M.map (fun x105 => M.bind (M.bind (M.map (fun x106 => .ok (decide (Builtin.bitAnd x105 x106 = x105))) after104) fun ys107 => M.grd (lenOk ys107.length) (.ok ys107)) fun t108 => .ok (t108.any id)) before103) fun ys109 => M.grd (lenOk ys109.length) (.ok ys109)) fun t110 => .ok (t110.all id))))))
abbrev s_it_Book : Stmt := inClass (top 26) 3
theorem sc_it_Book : FnScope ["self"] ["self"] (defScope s_it_Book) := ⟨rfl, rfl, rfl, by decide +kernel, rfl, by decide +kernel, by decide +kernel⟩
structure Adr where
  c__ : Unit := ()
  c_Book : Addr
structure Facts (Z : Adr) (K : PySem.W.Frag) (mg : Str → Option Value) : Prop where
  mk ::
  b_abs : mg "abs" = none
  b_all : mg "all" = none
  b_any : mg "any" = none
  b_bool : mg "bool" = none
  b_enumerate : mg "enumerate" = none
  b_int : mg "int" = none
  b_isinstance : mg "isinstance" = none
  b_iter : mg "iter" = none
  b_len : mg "len" = none
  b_list : mg "list" = none
  b_max : mg "max" = none
  b_range : mg "range" = none
  b_reversed : mg "reversed" = none
  b_sorted : mg "sorted" = none
  b_str : mg "str" = none
  b_sum : mg "sum" = none
  b_tuple : mg "tuple" = none
  g_MANNERS : ∃ u v, mg "MANNERS" = some u ∧ RelV v u ∧ ∀ F, ((rVTup rStr) : R K _).rep F v ((["once", "cases", "steps", "both", "once+", "cases+", "steps+", "both+"] : List Str))
  g_LETTER_LIMIT : ∃ u v, mg "LETTER_LIMIT" = some u ∧ RelV v u ∧ ∀ F, (rInt : R K _).rep F v 3
  mg_Book : mg "Book" = some (.ref Z.c_Book)
  cls_Book : Cls K Z.c_Book
  na_Book_n : NoAttr K Z.c_Book "n"
  na_Book_rules : NoAttr K Z.c_Book "rules"
  k_Book_MOST_LETTERS : ∃ mc v u, ClX.CRead K Z.c_Book mc ∧ ClX.CVal K Z.c_Book mc "MOST_LETTERS" v u ∧ ∀ F, (rInt : R K _).rep F v 4
  k_Book_MOST_RULES : ∃ mc v u, ClX.CRead K Z.c_Book mc ∧ ClX.CVal K Z.c_Book mc "MOST_RULES" v u ∧ ∀ F, (rInt : R K _).rep F v 16
  nl_Book : NoLen K Z.c_Book
  i_Book : ∃ f fd, Fun K "__iter__" "Book.__iter__" s_it_Book f fd ∧ PySem.W.findIn K (.ref Z.c_Book) "__iter__" = some (some (.ref f)) ∧ PySem.W.isFn K (.ref f) = true ∧ Binds K fd ["self"] []
  f_everything : ∃ f fd, Fun K "everything" "everything" s_everything f fd ∧ mg "everything" = some (.ref f) ∧ Binds K fd ["n"] []
  f_worlds_of : ∃ f fd, Fun K "worlds_of" "worlds_of" s_worlds_of f fd ∧ mg "worlds_of" = some (.ref f) ∧ Binds K fd ["prop"] []
  f_within : ∃ f fd, Fun K "within" "within" s_within f fd ∧ mg "within" = some (.ref f) ∧ Binds K fd ["first", "second"] []
  f_is_prop : ∃ f fd, Fun K "is_prop" "is_prop" s_is_prop f fd ∧ mg "is_prop" = some (.ref f) ∧ Binds K fd ["n", "prop"] []
  f_switches : ∃ f fd, Fun K "switches" "switches" s_switches f fd ∧ mg "switches" = some (.ref f) ∧ Binds K fd ["manner"] []
  f_meet_heads : ∃ f fd, Fun K "meet_heads" "meet_heads" s_meet_heads f fd ∧ mg "meet_heads" = some (.ref f) ∧ Binds K fd ["book", "case"] []
  f_is_stable : ∃ f fd, Fun K "is_stable" "is_stable" s_is_stable f fd ∧ mg "is_stable" = some (.ref f) ∧ Binds K fd ["book", "case"] []
  f_output : ∃ f fd, Fun K "output" "output" s_output f fd ∧ mg "output" = some (.ref f) ∧ Binds K fd ["book", "case", "manner"] []
  f_steps : ∃ f fd, Fun K "steps" "steps" s_steps f fd ∧ mg "steps" = some (.ref f) ∧ Binds K fd ["book", "facts"] []
  f_settle : ∃ f fd, Fun K "settle" "settle" s_settle f fd ∧ mg "settle" = some (.ref f) ∧ Binds K fd ["book", "facts"] []
  f_due : ∃ f fd, Fun K "due" "due" s_due f fd ∧ mg "due" = some (.ref f) ∧ Binds K fd ["book", "facts", "manner"] []
  f_Book___init : ∃ f fd, Fun K "__init__" "Book.__init__" s_Book___init f fd ∧ Mk K Z.c_Book f ∧ Binds K fd ["self", "n", "rules"] []
  f_is_due : ∃ f fd, Fun K "is_due" "is_due" s_is_due f fd ∧ mg "is_due" = some (.ref f) ∧ Binds K fd ["book", "facts", "claim", "manner"] []
  f_greatest_facts : ∃ f fd, Fun K "greatest_facts" "greatest_facts" s_greatest_facts f fd ∧ mg "greatest_facts" = some (.ref f) ∧ (Binds K fd ["book", "claim", "manner", "inside"] [.none] ∧ KBn K fd ["book", "claim", "manner", "inside"] 3 ["inside"] (fun us ws => us ++ ws) (fun vs zs => vs ++ zs))
  f_law_cell : ∃ f fd, Fun K "_law_cell" "_law_cell" s_law_cell f fd ∧ mg "_law_cell" = some (.ref f) ∧ Binds K fd ["script", "k"] []
  f_law_numbers : ∃ f fd, Fun K "_law_numbers" "_law_numbers" s_law_numbers f fd ∧ mg "_law_numbers" = some (.ref f) ∧ Binds K fd ["script", "at", "count", "radix"] []
  f_law_same : ∃ f fd, Fun K "_law_same" "_law_same" s_law_same f fd ∧ mg "_law_same" = some (.ref f) ∧ Binds K fd ["answer", "expected"] []
  f_law_by_cases : ∃ f fd, Fun K "_law_by_cases" "_law_by_cases" s_law_by_cases f fd ∧ mg "_law_by_cases" = some (.ref f) ∧ Binds K fd ["manner"] []
  f_law_in_steps : ∃ f fd, Fun K "_law_in_steps" "_law_in_steps" s_law_in_steps f fd ∧ mg "_law_in_steps" = some (.ref f) ∧ Binds K fd ["manner"] []
  f_law_meet : ∃ f fd, Fun K "_law_meet" "_law_meet" s_law_meet f fd ∧ mg "_law_meet" = some (.ref f) ∧ Binds K fd ["n", "rules", "case"] []
  f_law_due : ∃ f fd, Fun K "_law_due" "_law_due" s_law_due f fd ∧ mg "_law_due" = some (.ref f) ∧ Binds K fd ["n", "rules", "facts", "manner"] []
  f_law_facts : ∃ f fd, Fun K "_law_facts" "_law_facts" s_law_facts f fd ∧ mg "_law_facts" = some (.ref f) ∧ Binds K fd ["script", "n"] []
  f_law_rules : ∃ f fd, Fun K "_law_rules" "_law_rules" s_law_rules f fd ∧ mg "_law_rules" = some (.ref f) ∧ Binds K fd ["script", "n", "count", "facts"] []
  f_law_wanted : ∃ f fd, Fun K "_law_wanted" "_law_wanted" s_law_wanted f fd ∧ mg "_law_wanted" = some (.ref f) ∧ Binds K fd ["script", "at", "n", "rules", "facts", "manner"] []
  f_law_manner : ∃ f fd, Fun K "_law_manner" "_law_manner" s_law_manner f fd ∧ mg "_law_manner" = some (.ref f) ∧ Binds K fd ["number"] []
  f_law_limit : ∃ f fd, Fun K "_law_limit" "_law_limit" s_law_limit f fd ∧ mg "_law_limit" = some (.ref f) ∧ Binds K fd ["script", "at", "n", "facts"] []
  f_law_given : ∃ f fd, Fun K "_law_given" "_law_given" s_law_given f fd ∧ mg "_law_given" = some (.ref f) ∧ Binds K fd ["n", "rules", "claim", "manner", "facts"] []
  f_law_single : ∃ f fd, Fun K "_law_single" "_law_single" s_law_single f fd ∧ mg "_law_single" = some (.ref f) ∧ Binds K fd ["n", "rules", "claim", "manner", "limit"] []
  f_law_right : ∃ f fd, Fun K "_law_right" "_law_right" s_law_right f fd ∧ mg "_law_right" = some (.ref f) ∧ Binds K fd ["n", "rules", "claim", "manner", "answer"] []
  f_law : ∃ f fd, Fun K "law" "law" s_law f fd ∧ mg "law" = some (.ref f) ∧ Binds K fd ["script"] []
section
variable {P : Program} {w : World} {K : PySem.W.Frag} {mg : Str → Option Value} {base : Heap} {Z : Adr}
theorem it_Book (T : Facts Z K mg) : OwnIt P w K mg base 1 Z.c_Book "rules" := by
  obtain ⟨f, fd, F, h1, h2, hb⟩ := T.i_Book
  exact oi_mk F sc_it_Book rfl rfl T.cls_Book T.na_Book_rules h1 h2 hb T.b_iter (fun _ _ _ _ _ => rfl)
theorem ok_everything (T : Facts Z K mg) : Df P w K mg base 1 "everything" (raC rInt raN) (rtF rInt) (fun a => m_everything a.1) := by
  obtain ⟨f, fd, F, hm, hb⟩ := T.f_everything
  refine df_mk F sc_everything hm hb (sl_c sl_n) (fun _ => rfl) (by decide) (fun cdv A outer s H E hr C a => ?_)
  obtain ⟨n1, a⟩ := a; exact rb_ec (m' := m_everything n1) (rb_last (rs_ret rfl (ev_sub (ev_shl ev_int (ev_shlP ev_int (ev_v 0))) ev_int) .nil)) rfl
theorem ok_worlds_of (T : Facts Z K mg) : Df P w K mg base 1 "worlds_of" (raC rInt raN) (rtF (rList rInt)) (fun a => m_worlds_of a.1) := by
  obtain ⟨f, fd, F, hm, hb⟩ := T.f_worlds_of
  refine df_mk F sc_worlds_of hm hb (sl_c sl_n) (fun _ => rfl) (by decide) (fun cdv A outer s H E hr C a => ?_)
  obtain ⟨prop1, a⟩ := a; exact rb_ec (m' := m_worlds_of prop1) (rb_cons (ns_setN (r := rInt) 1 C (nw_lstP ah_n) .nil) (fun worlds2 => (rb_cons (ns_set 2 C ev_int .nil) (fun world3 => (rb_cons (ns_whl (Γh := fun s4 => [.va rInt s4.1, .ow rInt s4.2.1, .va rInt s4.2.2]) (s0 := (prop1, worlds2, world3)) (mc := fun (s4 : Int × (List Int) × Int) => .ok (decide (0 < s4.1))) (f := fun (s4 : Int × (List Int) × Int) => M.bind (cond (decide (Builtin.bitAnd s4.1 1 = 1)) (appL s4.2.1 s4.2.2) (.ok s4.2.1)) fun s6 => M.bind (shrI s4.1 1) fun prop8 => M.bind (.ok (s4.2.2 + 1 : Int)) fun world9 => .ok ((prop8, s6, world9))) (1000) C (fun s4 => tt_ec (tt_cP cm_gt (ev_v 0) ev_int) rfl) (fun s4 => nb_ec (nb_cons (ns_ifP (S := (List Int)) (Γ' := fun s6 => [.va rInt s4.1, .ow rInt s6, .va rInt s4.2.2]) (tt_cP cm_eqI (ev_andP2 (ev_v 0) ev_int) ev_int) (nb_one (ns_appP 1 (ev_v 2) .nil) (fun worlds7 => .refl)) (nb_nil (s := s4.2.1) (.refl)) .nil) (fun s6 => (nb_cons (ns_set 0 C (ev_shrP (ev_v 0) ev_int) .nil) (fun prop8 => (nb_cons (ns_set 2 C (ev_addP (ev_v 2) ev_int) .nil) (fun world9 => (nb_nil (s := (prop8, s6, world9)) (.refl)))))))) rfl) (.refl) (fun _ => .nil)) (fun s4 => (rb_frz 1 rfl (rb_last (rs_ret rfl (ev_v 1) .nil))))))))) rfl
theorem ok_within (T : Facts Z K mg) : Df P w K mg base 1 "within" (raC rInt (raC rInt raN)) (rtF rBool) (fun a => m_within a.1 a.2.1) := by
  obtain ⟨f, fd, F, hm, hb⟩ := T.f_within
  refine df_mk F sc_within hm hb (sl_c (sl_c sl_n)) (fun _ => rfl) (by decide) (fun cdv A outer s H E hr C a => ?_)
  obtain ⟨first1, a⟩ := a; obtain ⟨second2, a⟩ := a; exact rb_ec (m' := m_within first1 second2) (rb_last (rs_ret rfl (ev_cP cm_eqI (ev_andP2 (ev_v 0) (ev_v 1)) (ev_v 0)) .nil)) rfl
theorem ok_is_prop (T : Facts Z K mg) : Df P w K mg base 2 "is_prop" (raC rInt (raC rInt raN)) (rtF rBool) (fun a => m_is_prop a.1 a.2.1) := by
  obtain ⟨f, fd, F, hm, hb⟩ := T.f_is_prop
  refine df_mk F sc_is_prop hm hb (sl_c (sl_c sl_n)) (fun _ => rfl) (by decide) (fun cdv A outer s H E hr C a => ?_)
  obtain ⟨n1, a⟩ := a; obtain ⟨prop2, a⟩ := a; exact rb_ec (m' := m_is_prop n1 prop2) (rb_last (rs_ret rfl (ev_ch cm_le cm_le ev_int (ev_v 1) (ev_callP (ok_everything T) (hr.mono (by decide)) (ag_cP (ev_v 0) ag_n))) .nil)) rfl
theorem ok_switches (T : Facts Z K mg) : Df P w K mg base 1 "switches" (raC rStr raN) (rtF (rTup3 rBool rBool rBool)) (fun a => m_switches a.1) := by
  obtain ⟨f, fd, F, hm, hb⟩ := T.f_switches
  refine df_mk F sc_switches hm hb (sl_c sl_n) (fun _ => rfl) (by decide) (fun cdv A outer s H E hr C a => ?_)
  obtain ⟨manner1, a⟩ := a; exact rb_ec (m' := m_switches manner1) (rb_cons (ns_ifP (S := Unit) (Γ' := fun s2 => [.va rStr manner1, .no]) (tt_cP cm_ninTS (ev_v 0) (ev_g T.g_MANNERS)) nb_stk (nb_nil (s := ()) (.refl)) .nil) (fun s2 => (rb_cons (ns_set 1 C (ev_remSufP (ev_v 0) ev_str) .nil) (fun plain3 => (rb_last (rs_ret rfl (ev_tup3P (ev_cP cm_inTS (ev_v 1) (ev_vtupP (r := rStr) (ah_cP ev_str (ah_cP ev_str ah_n)))) (ev_cP cm_inTS (ev_v 1) (ev_vtupP (r := rStr) (ah_cP ev_str (ah_cP ev_str ah_n)))) (ev_cP cm_neS (ev_v 1) (ev_v 0))) .nil)))))) rfl
theorem ok_meet_heads (T : Facts Z K mg) : Df P w K mg base 2 "meet_heads" (raC (rObj Z.c_Book (rfC "n" rInt (rfC "rules" (rVTup (rTup2 rInt rInt)) rfN))) (raC rInt raN)) (rtF rInt) (fun a => m_meet_heads a.1 a.2.1) := by
  obtain ⟨f, fd, F, hm, hb⟩ := T.f_meet_heads
  refine df_mk F sc_meet_heads hm hb (sl_c (sl_c sl_n)) (fun _ => rfl) (by decide) (fun cdv A outer s H E hr C a => ?_)
  obtain ⟨book1, a⟩ := a; obtain ⟨case2, a⟩ := a; exact rb_ec (m' := m_meet_heads book1 case2) (rb_cons (ns_set 2 C (ev_callP (ok_everything T) (hr.mono (by decide)) (ag_cP (ev_fldP T.cls_Book T.na_Book_n at_z (ev_v 0)) ag_n)) .nil) (fun prop3 => (rb_cons (ns_forP (vs := [3, 4]) (Γh := fun s4 => [.va (rObj Z.c_Book (rfC "n" rInt (rfC "rules" (rVTup (rTup2 rInt rInt)) rfN))) book1, .va rInt case2, .va rInt s4, .no, .no]) (Γt := fun s4 x5 => [.va (rObj Z.c_Book (rfC "n" rInt (rfC "rules" (rVTup (rTup2 rInt rInt)) rfN))) book1, .va rInt case2, .va rInt s4, .va rInt x5.1, .va rInt x5.2]) (s0 := prop3) (f := fun (s4 : Int) (x5 : Int × Int) => cond (decide (Builtin.bitAnd case2 x5.1 = case2)) (M.bind (.ok (Builtin.bitAnd s4 x5.2 : Int)) fun prop8 => .ok prop8) (.ok s4)) C (iv_ownP (it_Book T) (hr.mono (by decide)) (at_s (f := "rules") (k := "n") at_z) (ev_v 0)) (fun _ => (tg_2 C (tg_n 3 C) (fun _ => (tg_n 4 C)))) (fun s4 x5 => nb_ec (nb_one (ns_ifP (S := Int) (Γ' := fun s7 => [.va (rObj Z.c_Book (rfC "n" rInt (rfC "rules" (rVTup (rTup2 rInt rInt)) rfN))) book1, .va rInt case2, .va rInt s7, .va rInt x5.1, .va rInt x5.2]) (tt_cP cm_eqI (ev_andP2 (ev_v 1) (ev_v 3)) (ev_v 1)) (nb_cons (ns_set 2 C (ev_andP2 (ev_v 2) (ev_v 4)) .nil) (fun prop8 => (nb_nil (s := prop8) (.refl)))) (nb_nil (s := s4) (.refl)) .nil) (fun s7 => .same (.same (.same (.drop (.drop (.refl))))))) rfl) (.refl) .nil) (fun s4 => (rb_last (rs_ret rfl (ev_v 2) .nil)))))) rfl
theorem ok_is_stable (T : Facts Z K mg) : Df P w K mg base 3 "is_stable" (raC (rObj Z.c_Book (rfC "n" rInt (rfC "rules" (rVTup (rTup2 rInt rInt)) rfN))) (raC rInt raN)) (rtF rBool) (fun a => m_is_stable a.1 a.2.1) := by
  obtain ⟨f, fd, F, hm, hb⟩ := T.f_is_stable
  refine df_mk F sc_is_stable hm hb (sl_c (sl_c sl_n)) (fun _ => rfl) (by decide) (fun cdv A outer s H E hr C a => ?_)
  obtain ⟨book1, a⟩ := a; obtain ⟨case2, a⟩ := a; exact rb_ec (m' := m_is_stable book1 case2) (rb_last (rs_ret rfl (ev_call (ok_within T) (hr.mono (by decide)) (ag_c (ev_v 1) (ag_c (ev_callP (ok_meet_heads T) (hr.mono (by decide)) (ag_cP (ev_v 0) (ag_cP (ev_v 1) ag_n))) ag_n))) .nil)) rfl
theorem ok_output (T : Facts Z K mg) : Df P w K mg base 3 "output" (raC (rObj Z.c_Book (rfC "n" rInt (rfC "rules" (rVTup (rTup2 rInt rInt)) rfN))) (raC rInt (raC rStr raN))) (rtF rInt) (fun a => m_output a.1 a.2.1 a.2.2.1) := by
  obtain ⟨f, fd, F, hm, hb⟩ := T.f_output
  refine df_mk F sc_output hm hb (sl_c (sl_c (sl_c sl_n))) (fun _ => rfl) (by decide) (fun cdv A outer s H E hr C a => ?_)
  obtain ⟨book1, a⟩ := a; obtain ⟨case2, a⟩ := a; obtain ⟨manner3, a⟩ := a; exact rb_ec (m' := m_output book1 case2 manner3) (rb_cons (ns_set 3 C (ev_callP (ok_meet_heads T) (hr.mono (by decide)) (ag_cP (ev_v 0) (ag_cP (ev_v 1) ag_n))) .nil) (fun prop4 => (rb_ifr (tt_val (ev_t32 (ev_callP (ok_switches T) (hr.mono (by decide)) (ag_cP (ev_v 2) ag_n)))) (rb_last (rs_ret rfl (ev_andP2 (ev_v 3) (ev_v 1)) .nil)) (rb_last (rs_ret rfl (ev_v 3) .nil)) .nil))) rfl
theorem ok_steps (T : Facts Z K mg) : DfG P w K mg base 3 "steps" (raC (rObj Z.c_Book (rfC "n" rInt (rfC "rules" (rVTup (rTup2 rInt rInt)) rfN))) (raC rInt raN)) rInt (fun a => m_steps a.1 a.2.1) := by
  obtain ⟨f, fd, F, hm, hb⟩ := T.f_steps
  refine dg_mk F sc_steps hm hb (sl_c (sl_c sl_n)) (fun _ => rfl) (by decide) (fun cdv A outer s H E pn hr C a => ?_)
  obtain ⟨book1, a⟩ := a; obtain ⟨facts2, a⟩ := a; exact gb_ec (m' := M.bind (m_steps book1 facts2) fun out => .ok ((), out)) (gb_out (gb_ns (ns_set 2 C (ev_v 1) .nil) (fun prop3 => (gb_ns (ns_set 3 C (ev_and (ev_v 2) (ev_callP (ok_meet_heads T) (hr.mono (by decide)) (ag_cP (ev_v 0) (ag_cP (ev_v 2) ag_n)))) .nil) (fun smaller6 => (gb_cons (gs_ylP (ev_v 2)) (fun _ => (gb_cons (gs_whlB (Γh := fun s7 => [.va (rObj Z.c_Book (rfC "n" rInt (rfC "rules" (rVTup (rTup2 rInt rInt)) rfN))) book1, .va rInt facts2, .va rInt s7.1, .va rInt s7.2]) (s0 := (prop3, smaller6)) (mc := fun (s7 : Int × Int) => .ok (!decide (s7.2 = s7.1))) (f := fun (s7 : Int × Int) => M.bind (.ok (s7.2 : Int)) fun prop8 => M.bind (M.bind (.ok prop8) fun t9 => M.bind (m_meet_heads book1 prop8) fun t10 => .ok (Builtin.bitAnd t9 t10)) fun smaller11 => M.then2 (.ok ((), [prop8])) fun _ => .ok ((prop8, smaller11), [])) (1000) C.po (fun s7 => tt_ec (tt_cP cm_neI (ev_v 3) (ev_v 2)) rfl) (fun s7 => gb_ec (gb_ns (ns_set 2 C (ev_v 3) .nil) (fun prop8 => (gb_ns (ns_set 3 C (ev_and (ev_v 2) (ev_callP (ok_meet_heads T) (hr.mono (by decide)) (ag_cP (ev_v 0) (ag_cP (ev_v 2) ag_n)))) .nil) (fun smaller11 => (gb_cons (gs_ylP (ev_v 2)) (fun _ => (gb_nil (s := (prop8, smaller11)) (.refl)))))))) rfl) (.refl)) (fun s7 => (gb_nil (s := ()) .nil)))))))))) rfl
theorem ok_settle (T : Facts Z K mg) : Df P w K mg base 7 "settle" (raC (rObj Z.c_Book (rfC "n" rInt (rfC "rules" (rVTup (rTup2 rInt rInt)) rfN))) (raC rInt raN)) (rtF rInt) (fun a => m_settle a.1 a.2.1) := by
  obtain ⟨f, fd, F, hm, hb⟩ := T.f_settle
  refine df_mk F sc_settle hm hb (sl_c (sl_c sl_n)) (fun _ => rfl) (by decide) (fun cdv A outer s H E hr C a => ?_)
  obtain ⟨book1, a⟩ := a; obtain ⟨facts2, a⟩ := a; exact rb_ec (m' := m_settle book1 facts2) (rb_last (rs_ret rfl (ev_ixL (el_nw (nw_listGP (ok_steps T) (hr.mono (by decide)) T.b_list (ag_cP (ev_v 0) (ag_cP (ev_v 1) ag_n)))) (ev_negP ev_int)) .nil)) rfl
theorem ok_due (T : Facts Z K mg) : Df P w K mg base 8 "due" (raC (rObj Z.c_Book (rfC "n" rInt (rfC "rules" (rVTup (rTup2 rInt rInt)) rfN))) (raC rInt (raC rStr raN))) (rtF rInt) (fun a => m_due a.1 a.2.1 a.2.2.1) := by
  obtain ⟨f, fd, F, hm, hb⟩ := T.f_due
  refine df_mk F sc_due hm hb (sl_c (sl_c (sl_c sl_n))) (fun _ => rfl) (by decide) (fun cdv A outer s H E hr C a => ?_)
  obtain ⟨book1, a⟩ := a; obtain ⟨facts2, a⟩ := a; obtain ⟨manner3, a⟩ := a; exact rb_ec (m' := m_due book1 facts2 manner3) (rb_cons (ns_tg (vs := [3, 4, 5]) (ev_callP (ok_switches T) (hr.mono (by decide)) (ag_cP (ev_v 2) ag_n)) (tg_3 C (tg_n 3 C) (fun _ => (tg_n 4 C)) (fun _ _ => (tg_n 5 C))) .nil) (fun p4 => (rb_at (Γ' := [.va (rObj Z.c_Book (rfC "n" rInt (rfC "rules" (rVTup (rTup2 rInt rInt)) rfN))) book1, .va rInt facts2, .va rStr manner3, .va rBool p4.1, .va rBool p4.2.1, .va rBool p4.2.2, .no, .no, .no]) rfl (rb_ifrP (tt_notP (tt_val (ev_v 3))) (rb_cons (ns_set 6 C (ev_ifP (tt_val (ev_v 4)) (ev_callP (ok_settle T) (hr.mono (by decide)) (ag_cP (ev_v 0) (ag_cP (ev_v 1) ag_n))) (ev_v 1)) .nil) (fun case5 => (rb_last (rs_ret rfl (ev_callP (ok_output T) (hr.mono (by decide)) (ag_cP (ev_v 0) (ag_cP (ev_v 6) (ag_cP (ev_v 2) ag_n)))) .nil)))) (rb_cons (ns_set 7 C (ev_callP (ok_output T) (hr.mono (by decide)) (ag_cP (ev_v 0) (ag_cP ev_int (ag_cP (ev_v 2) ag_n)))) .nil) (fun prop6 => (rb_cons (ns_for (vs := [8]) (Γh := fun s7 => [.va (rObj Z.c_Book (rfC "n" rInt (rfC "rules" (rVTup (rTup2 rInt rInt)) rfN))) book1, .va rInt facts2, .va rStr manner3, .va rBool p4.1, .va rBool p4.2.1, .va rBool p4.2.2, .no, .va rInt s7, .no]) (Γt := fun s7 world8 => [.va (rObj Z.c_Book (rfC "n" rInt (rfC "rules" (rVTup (rTup2 rInt rInt)) rfN))) book1, .va rInt facts2, .va rStr manner3, .va rBool p4.1, .va rBool p4.2.1, .va rBool p4.2.2, .no, .va rInt s7, .va rInt world8]) (s0 := prop6) (f := fun (s7 : Int) (world8 : Int) => M.bind (shlI 1 world8) fun case9 => M.bind (mOr (.ok (!p4.2.1)) (m_is_stable book1 case9)) fun t17 => cond t17 (M.bind (.ok s7) fun t14 => M.bind (m_output book1 case9 manner3) fun t15 => .ok (Builtin.bitOr t14 t15)) (.ok s7)) C (iv_l (ev_callP (ok_worlds_of T) (hr.mono (by decide)) (ag_cP (ev_v 1) ag_n))) (fun _ => (tg_n 8 C)) (fun s7 world8 => nb_ec (nb_cons (ns_set 6 C (ev_shlP ev_int (ev_v 8)) .nil) (fun case9 => (nb_at (Γ' := [.va (rObj Z.c_Book (rfC "n" rInt (rfC "rules" (rVTup (rTup2 rInt rInt)) rfN))) book1, .va rInt facts2, .va rStr manner3, .va rBool p4.1, .va rBool p4.2.1, .va rBool p4.2.2, .va rInt case9, .va rInt s7, .va rInt world8]) rfl (nb_one (ns_if (S := Int) (Γ' := fun s13 => [.va (rObj Z.c_Book (rfC "n" rInt (rfC "rules" (rVTup (rTup2 rInt rInt)) rfN))) book1, .va rInt facts2, .va rStr manner3, .va rBool p4.1, .va rBool p4.2.1, .va rBool p4.2.2, .va rInt case9, .va rInt s13, .va rInt world8]) (tw_t (tw_or (tt_notP (tt_val (ev_v 4))) (tw_or1 (tt_val (ev_callP (ok_is_stable T) (hr.mono (by decide)) (ag_cP (ev_v 0) (ag_cP (ev_v 6) ag_n))))))) (nb_one (ns_set 7 C (ev_or (ev_v 7) (ev_callP (ok_output T) (hr.mono (by decide)) (ag_cP (ev_v 0) (ag_cP (ev_v 6) (ag_cP (ev_v 2) ag_n))))) .nil) (fun prop16 => .refl)) (nb_nil (s := s7) (.refl)) .nil) (fun s13 => .same (.same (.same (.same (.same (.same (.drop (.same (.drop (.refl)))))))))))))) rfl) (.refl) .nil) (fun s7 => (rb_last (rs_ret rfl (ev_v 7) .nil)))))) .nil)))) rfl
theorem ok_Book___init (T : Facts Z K mg) : DfI P w K mg base 3 Z.c_Book (raC rInt (raC (rList (rTup2 rInt rInt)) raN)) (rfC "n" rInt (rfC "rules" (rVTup (rTup2 rInt rInt)) rfN)) (fun a => m_Book___init a.1 a.2.1) := by
  obtain ⟨f, fd, F, hm, hb⟩ := T.f_Book___init
  refine df_mkI F sc_Book___init hm hb (sl_c (sl_c sl_n)) (fun _ => rfl) (by decide) (fun cdv A outer s H E a dx hr C y => ?_)
  obtain ⟨n1, y⟩ := y; obtain ⟨rules2, y⟩ := y; exact nb_ec (m' := m_Book___init n1 rules2) (nb_cons (ns_ifP (S := Unit) (Γ' := fun s3 => [.ob Z.c_Book (some (a, dx)) rfN (()), .va rInt n1, .va (rList (rTup2 rInt rInt)) rules2, .no, .no, .no, .no]) (tt_notP (tt_chP cm_le cm_le ev_int (ev_v 1) (ev_cval T.mg_Book T.k_Book_MOST_LETTERS))) nb_stk (nb_nil (s := ()) (.refl)) .nil) (fun s3 => (nb_cons (ns_ifP (S := Unit) (Γ' := fun s4 => [.ob Z.c_Book (some (a, dx)) rfN (()), .va rInt n1, .va (rList (rTup2 rInt rInt)) rules2, .no, .no, .no, .no]) (tt_cP cm_gt (ev_lenP T.b_len (el_of (ev_v 2))) (ev_cval T.mg_Book T.k_Book_MOST_RULES)) nb_stk (nb_nil (s := ()) (.refl)) .nil) (fun s4 => (nb_at (Γ' := [.ob Z.c_Book (some (a, dx)) rfN (()), .va rInt n1, .va (rList (rTup2 rInt rInt)) rules2, .no, .no, .no, .no]) rfl (nb_cons (ns_setN (r := (rTup2 rInt rInt)) 3 C (nw_lstP (r := (rTup2 rInt rInt)) ah_n) .nil) (fun kept5 => (nb_cons (ns_forP (vs := [4, 5, 6]) (Γh := fun s6 => [.ob Z.c_Book (some (a, dx)) rfN (()), .va rInt n1, .va (rList (rTup2 rInt rInt)) rules2, .ow (rTup2 rInt rInt) s6, .no, .no, .no]) (Γt := fun s6 x7 => [.ob Z.c_Book (some (a, dx)) rfN (()), .va rInt n1, .va (rList (rTup2 rInt rInt)) rules2, .ow (rTup2 rInt rInt) s6, .va rInt x7.1, .va rInt x7.2.1, .va rInt x7.2.2]) (s0 := kept5) (f := fun (s6 : (List (Int × Int))) (x7 : Int × (Int × Int)) => M.bind (M.bind (mOr (mNot (m_is_prop n1 x7.2.1)) (mNot (m_is_prop n1 x7.2.2))) fun t9 => cond t9 .stuck (.ok (()))) fun s8 => appL s6 ((x7.2.1, x7.2.2))) C (iv_enP T.b_enumerate (ev_v 2)) (fun _ => (tg_2 C (tg_n 4 C) (fun _ => (tg_2 C (tg_n 5 C) (fun _ => (tg_n 6 C)))))) (fun s6 x7 => nb_ec (nb_cons (ns_if (S := Unit) (Γ' := fun s8 => [.ob Z.c_Book (some (a, dx)) rfN (()), .va rInt n1, .va (rList (rTup2 rInt rInt)) rules2, .ow (rTup2 rInt rInt) s6, .va rInt x7.1, .va rInt x7.2.1, .va rInt x7.2.2]) (tw_t (tw_or (tt_not (tt_val (ev_callP (ok_is_prop T) (hr.mono (by decide)) (ag_cP (ev_v 1) (ag_cP (ev_v 5) ag_n))))) (tw_or1 (tt_not (tt_val (ev_callP (ok_is_prop T) (hr.mono (by decide)) (ag_cP (ev_v 1) (ag_cP (ev_v 6) ag_n)))))))) nb_stk (nb_nil (s := ()) (.refl)) .nil) (fun s8 => (nb_one (ns_appP 3 (ev_tup2P (ev_v 5) (ev_v 6)) .nil) (fun kept10 => .same (.same (.same (.same (.drop (.drop (.drop (.refl))))))))))) rfl) (.refl) .nil) (fun s6 => (nb_cons (ns_fld 0 T.cls_Book T.na_Book_n put_n (ev_v 1) .nil) (fun self11 => (nb_at (Γ' := [.ob Z.c_Book (some (a, dx)) (rfC "n" rInt rfN) self11, .va rInt n1, .va (rList (rTup2 rInt rInt)) rules2, .ow (rTup2 rInt rInt) s6, .no, .no, .no]) rfl (nb_cons (ns_fld 0 T.cls_Book T.na_Book_rules (put_s put_n) (ev_tuple T.b_tuple (el_ow 3)) .nil) (fun self12 => (nb_nil (s := self12) (.same .nil)))))))))))))))) rfl
theorem ok_is_due (T : Facts Z K mg) : Df P w K mg base 9 "is_due" (raC (rObj Z.c_Book (rfC "n" rInt (rfC "rules" (rVTup (rTup2 rInt rInt)) rfN))) (raC rInt (raC rInt (raC rStr raN)))) (rtF rBool) (fun a => m_is_due a.1 a.2.1 a.2.2.1 a.2.2.2.1) := by
  obtain ⟨f, fd, F, hm, hb⟩ := T.f_is_due
  refine df_mk F sc_is_due hm hb (sl_c (sl_c (sl_c (sl_c sl_n)))) (fun _ => rfl) (by decide) (fun cdv A outer s H E hr C a => ?_)
  obtain ⟨book1, a⟩ := a; obtain ⟨facts2, a⟩ := a; obtain ⟨claim3, a⟩ := a; obtain ⟨manner4, a⟩ := a; exact rb_ec (m' := m_is_due book1 facts2 claim3 manner4) (rb_last (rs_ret rfl (ev_call (ok_within T) (hr.mono (by decide)) (ag_c (ev_callP (ok_due T) (hr.mono (by decide)) (ag_cP (ev_v 0) (ag_cP (ev_v 1) (ag_cP (ev_v 3) ag_n)))) (ag_c (ev_v 2) ag_n))) .nil)) rfl
theorem ok_greatest_facts (T : Facts Z K mg) : DfK P w K mg base 10 "greatest_facts" "inside" 3 (raC (rObj Z.c_Book (rfC "n" rInt (rfC "rules" (rVTup (rTup2 rInt rInt)) rfN))) (raC rInt (raC rStr (raC (rOpt rInt) raN)))) (rtF (rList rInt)) (fun a => m_greatest_facts a.1 a.2.1 a.2.2.1 a.2.2.2.1) := by
  obtain ⟨f, fd, F, hm, hb⟩ := T.f_greatest_facts
  refine dk_mk F sc_greatest_facts hm hb (sl_c (sl_c (sl_c (sl_c sl_n)))) (fun _ => rfl) (by decide) (fun cdv A outer s H E hr C a => ?_)
  obtain ⟨book1, a⟩ := a; obtain ⟨claim2, a⟩ := a; obtain ⟨manner3, a⟩ := a; obtain ⟨inside4, a⟩ := a; exact rb_ec (m' := m_greatest_facts book1 claim2 manner3 inside4) (rb_cons (ns_ifP (S := Unit) (Γ' := fun s5 => [.va (rObj Z.c_Book (rfC "n" rInt (rfC "rules" (rVTup (rTup2 rInt rInt)) rfN))) book1, .va rInt claim2, .va rStr manner3, .va (rOpt rInt) inside4, .no, .no, .no, .no]) (tt_cP cm_gt (ev_fldP T.cls_Book T.na_Book_n at_z (ev_v 0)) (ev_g T.g_LETTER_LIMIT)) nb_stk (nb_nil (s := ()) (.refl)) .nil) (fun s5 => (rb_cons (ns_set 4 C (ev_ifN 3 (r := rInt) (o := inside4) rfl (tt_cP cm_isN (ev_v 3) ev_non) (ev_callP (ok_everything T) (hr.mono (by decide)) (ag_cP (ev_fldP T.cls_Book T.na_Book_n at_z (ev_v 0)) ag_n)) (fun inside6 => ev_ec (ev_v 3) rfl)) .nil) (fun bound7 => (rb_at (Γ' := [.va (rObj Z.c_Book (rfC "n" rInt (rfC "rules" (rVTup (rTup2 rInt rInt)) rfN))) book1, .va rInt claim2, .va rStr manner3, .va (rOpt rInt) inside4, .va rInt bound7, .no, .no, .no]) rfl (rb_cons (ns_setN (r := rInt) 5 C (nw_lstP (r := rInt) ah_n) .nil) (fun found8 => (rb_cons (ns_for (vs := [6]) (Γh := fun s9 => [.va (rObj Z.c_Book (rfC "n" rInt (rfC "rules" (rVTup (rTup2 rInt rInt)) rfN))) book1, .va rInt claim2, .va rStr manner3, .va (rOpt rInt) inside4, .va rInt bound7, .ow rInt s9, .no, .no]) (Γt := fun s9 facts10 => [.va (rObj Z.c_Book (rfC "n" rInt (rfC "rules" (rVTup (rTup2 rInt rInt)) rfN))) book1, .va rInt claim2, .va rStr manner3, .va (rOpt rInt) inside4, .va rInt bound7, .ow rInt s9, .va rInt facts10, .no]) (s0 := found8) (f := fun (s9 : (List Int)) (facts10 : Int) => M.bind (mAnd (m_within facts10 bound7) (mNot (M.bind (M.bind (M.map (fun x19 => m_within facts10 x19) s9) fun ys20 => M.grd (lenOk ys20.length) (.ok ys20)) fun t21 => .ok (t21.any id)))) fun t26 => cond t26 (M.bind (m_is_due book1 facts10 claim2 manner3) fun t25 => cond t25 (appL s9 facts10) (.ok s9)) (.ok s9)) C (iv_revR1 T.b_reversed T.b_range (ev_addP (ev_v 4) ev_int)) (fun _ => (tg_n 6 C)) (fun s9 facts10 => nb_ec (nb_one (ns_if (S := (List Int)) (Γ' := fun s18 => [.va (rObj Z.c_Book (rfC "n" rInt (rfC "rules" (rVTup (rTup2 rInt rInt)) rfN))) book1, .va rInt claim2, .va rStr manner3, .va (rOpt rInt) inside4, .va rInt bound7, .ow rInt s18, .va rInt facts10, .no]) (tw_t (tw_and (tt_val (ev_callP (ok_within T) (hr.mono (by decide)) (ag_cP (ev_v 6) (ag_cP (ev_v 4) ag_n)))) (tw_and1 (tt_not (tt_val (ev_any C.calm T.b_any (el_nw (nw_mapP (Γt := (fun x19 => [.va (rObj Z.c_Book (rfC "n" rInt (rfC "rules" (rVTup (rTup2 rInt rInt)) rfN))) book1, .va rInt claim2, .va rStr manner3, .va (rOpt rInt) inside4, .va rInt bound7, .bo rInt s9, .va rInt facts10, .va rInt x19])) (f := fun x19 => m_within facts10 x19) C (blkOk_by (N := N_greatest_facts) (sc := defScope s_greatest_facts) (own := [(("other" : Str), 7)]) (by decide +kernel)) (ic_l (el_ow 5)) (fun _ _ _ _ _ => (tg_n 7 (Cok.blk C _ _ _ _ _ _))) (fun _ _ _ _ _ x19 => ev_ec (ev_callP (ok_within T) (hr.mono (by decide)) (ag_cP (ev_v 6) (ag_cP (ev_v 7) ag_n))) rfl))))))))) (nb_one (ns_if (S := (List Int)) (Γ' := fun s23 => [.va (rObj Z.c_Book (rfC "n" rInt (rfC "rules" (rVTup (rTup2 rInt rInt)) rfN))) book1, .va rInt claim2, .va rStr manner3, .va (rOpt rInt) inside4, .va rInt bound7, .ow rInt s23, .va rInt facts10, .no]) (tt_val (ev_callP (ok_is_due T) (hr.mono (by decide)) (ag_cP (ev_v 0) (ag_cP (ev_v 6) (ag_cP (ev_v 1) (ag_cP (ev_v 2) ag_n)))))) (nb_one (ns_appP 5 (ev_v 6) .nil) (fun found24 => .refl)) (nb_nil (s := s9) (.refl)) .nil) (fun s23 => .refl)) (nb_nil (s := s9) (.refl)) .nil) (fun s18 => .same (.same (.same (.same (.same (.same (.drop (.refl))))))))) rfl) (.refl) .nil) (fun s9 => (rb_last (rs_ret rfl (ev_nw (nw_sorted T.b_sorted (el_ow 5))) .nil))))))))))) rfl
theorem ok_law_cell (T : Facts Z K mg) : Df P w K mg base 1 "_law_cell" (raC rScr (raC rInt raN)) (rtF rInt) (fun a => m_law_cell a.1 a.2.1) := by
  obtain ⟨f, fd, F, hm, hb⟩ := T.f_law_cell
  refine df_mk F sc_law_cell hm hb (sl_c (sl_c sl_n)) (fun _ => rfl) (by decide) (fun cdv A outer s H E hr C a => ?_)
  obtain ⟨script1, a⟩ := a; obtain ⟨k2, a⟩ := a; exact rb_ec (m' := m_law_cell script1 k2) (rb_ifrP (tt_cP cm_lt (ev_v 1) (ev_lenSP T.b_len (ev_v 0))) (rb_last (rs_ret rfl (ev_abs T.b_abs (ev_int1 T.b_int (ev_ixSP (ev_v 0) (ev_v 1)))) .nil)) (rb_last (rs_ret rfl ev_int .nil)) .nil) rfl
theorem ok_law_numbers (T : Facts Z K mg) : Df P w K mg base 2 "_law_numbers" (raC rScr (raC rInt (raC rInt (raC rInt raN)))) (rtF (rList rInt)) (fun a => m_law_numbers a.1 a.2.1 a.2.2.1 a.2.2.2.1) := by
  obtain ⟨f, fd, F, hm, hb⟩ := T.f_law_numbers
  refine df_mk F sc_law_numbers hm hb (sl_c (sl_c (sl_c (sl_c sl_n)))) (fun _ => rfl) (by decide) (fun cdv A outer s H E hr C a => ?_)
  obtain ⟨script1, a⟩ := a; obtain ⟨at2, a⟩ := a; obtain ⟨count3, a⟩ := a; obtain ⟨radix4, a⟩ := a; exact rb_ec (m' := m_law_numbers script1 at2 count3 radix4) (rb_cons (ns_set 4 C (ev_callP (ok_law_cell T) (hr.mono (by decide)) (ag_cP (ev_v 0) (ag_cP (ev_v 1) ag_n))) .nil) (fun cell5 => (rb_cons (ns_setN (r := rInt) 5 C (nw_lstP ah_n) .nil) (fun numbers6 => (rb_at (Γ' := [.va rScr script1, .va rInt at2, .va rInt count3, .va rInt radix4, .va rInt cell5, .ow rInt numbers6, .no, .no, .no]) rfl (rb_cons (ns_set 6 C (ev_v 4) .nil) (fun left7 => (rb_cons (ns_if (S := Int) (Γ' := fun s11 => [.va rScr script1, .va rInt at2, .va rInt count3, .va rInt radix4, .va rInt cell5, .ow rInt numbers6, .va rInt s11, .no, .no]) (tt_c cm_lt (ev_v 6) (ev_powP ev_int ev_int)) (nb_cons (ns_set 6 C ev_int .nil) (fun left14 => (nb_nil (s := left14) (.refl)))) (nb_nil (s := left7) (.refl)) .nil) (fun s11 => (rb_cons (ns_for (vs := [7]) (Γh := fun s16 => [.va rScr script1, .va rInt at2, .va rInt count3, .va rInt radix4, .va rInt cell5, .ow rInt s16.1, .va rInt s16.2, .no, .no]) (Γt := fun s16 k17 => [.va rScr script1, .va rInt at2, .va rInt count3, .va rInt radix4, .va rInt cell5, .ow rInt s16.1, .va rInt s16.2, .va rInt k17, .no]) (s0 := (numbers6, s11)) (f := fun (s16 : (List Int) × Int) (k17 : Int) => M.bind (cond (decide (0 < s16.2)) (M.bind (M.bind (modI s16.2 radix4) fun t42 => appL s16.1 t42) fun numbers41 => M.bind (fdivI s16.2 radix4) fun left43 => .ok ((numbers41, left43))) (M.bind (M.bind (M.bind (M.bind (M.bind (modI cell5 999983) fun t44 => M.bind (mulI 37 at2) fun t45 => .ok (t44 + t45)) fun t46 => M.bind (.ok 1) fun t47 => .ok (t46 + t47)) fun t52 => M.bind (M.bind (M.bind (mulI 7919 k17) fun t48 => M.bind (mulI 611 at2) fun t49 => .ok (t48 + t49)) fun t50 => M.bind (.ok 104729) fun t51 => .ok (t50 + t51)) fun t53 => mulI t52 t53) fun t54 => M.bind (.ok 1000003) fun t55 => modI t54 t55) fun mixed56 => M.bind (M.bind (M.bind (M.bind (mulI mixed56 (mixed56 + 31)) fun t57 => M.bind (.ok 1000033) fun t58 => modI t57 t58) fun t59 => M.bind (.ok radix4) fun t60 => modI t59 t60) fun t62 => appL s16.1 t62) fun numbers61 => .ok ((numbers61, s16.2)))) fun s40 => .ok ((s40.1, s40.2))) C (iv_r1P T.b_range (ev_v 2)) (fun _ => (tg_n 7 C)) (fun s16 k17 => nb_ec (nb_cons (ns_ifP (S := (List Int) × Int) (Γ' := fun s40 => [.va rScr script1, .va rInt at2, .va rInt count3, .va rInt radix4, .va rInt cell5, .ow rInt s40.1, .va rInt s40.2, .va rInt k17, .no]) (tt_cP cm_gt (ev_v 6) ev_int) (nb_cons (ns_app 5 (ev_modP (ev_int1 T.b_int (ev_v 6)) (ev_v 3)) .nil) (fun numbers41 => (nb_cons (ns_set 6 C (ev_fdivP (ev_v 6) (ev_v 3)) .nil) (fun left43 => (nb_nil (s := (numbers41, left43)) (.refl)))))) (nb_cons (ns_set 8 C (ev_mod (ev_int1 T.b_int (ev_mul (ev_add (ev_add (ev_modP (ev_v 4) ev_int) (ev_mulP ev_int (ev_v 1))) ev_int) (ev_add (ev_add (ev_mulP ev_int (ev_v 7)) (ev_mulP ev_int (ev_v 1))) ev_int))) ev_int) .nil) (fun mixed56 => (nb_cons (ns_app 5 (ev_mod (ev_mod (ev_int1 T.b_int (ev_mulP (ev_v 8) (ev_addP (ev_v 8) ev_int))) ev_int) (ev_v 3)) .nil) (fun numbers61 => (nb_at (Γ' := [.va rScr script1, .va rInt at2, .va rInt count3, .va rInt radix4, .va rInt cell5, .ow rInt numbers61, .va rInt s16.2, .va rInt k17, .va rInt mixed56]) rfl (nb_nil (s := (numbers61, s16.2)) (.same (.same (.same (.same (.same (.same (.same (.same (.drop (.refl)))))))))))))))) .nil) (fun s40 => (nb_nil (s := (s40.1, s40.2)) (.same (.same (.same (.same (.same (.same (.same (.drop (.refl)))))))))))) rfl) (.refl) .nil) (fun s16 => (rb_at (Γ' := [.va rScr script1, .va rInt at2, .va rInt count3, .va rInt radix4, .va rInt cell5, .ow rInt s16.1, .va rInt s16.2, .no, .no]) rfl (rb_frz 5 rfl (rb_last (rs_ret rfl (ev_v 5) .nil))))))))))))))) rfl
theorem ok_law_same_i (T : Facts Z K mg) : Df P w K mg base 1 "_law_same" (raC rInt (raC rInt raN)) (rtF rBool) (fun a => m_law_same_i a.1 a.2.1) := by
  obtain ⟨f, fd, F, hm, hb⟩ := T.f_law_same
  refine df_mk F sc_law_same hm hb (sl_c (sl_c sl_n)) (fun _ => rfl) (by decide) (fun cdv A outer s H E hr C a => ?_)
  obtain ⟨answer1, a⟩ := a; obtain ⟨expected2, a⟩ := a; exact rb_ec (m' := m_law_same_i answer1 expected2) (rb_skip (ns_ifF (tt_cP (cm_isX nn_int) (ev_v 1) ev_non) nb_nilU) (rb_skip (ns_ifF (tt_val (ev_isi (b := false) T.b_isinstance T.b_bool bt_bool ty_int (by decide +kernel) (ev_v 1))) nb_nilU) (rb_last (rs_ifT (tt_val (ev_isi (b := true) T.b_isinstance T.b_int bt_int ty_int (by decide +kernel) (ev_v 1))) (rb_last (rs_ret rfl (ev_andP (ev_isi (b := true) T.b_isinstance T.b_int bt_int ty_int (by decide +kernel) (ev_v 0)) (ev_andP (ev_notP (ev_isi (b := false) T.b_isinstance T.b_bool bt_bool ty_int (by decide +kernel) (ev_v 0))) (ev_one (ev_cP cm_eqI (ev_v 0) (ev_v 1))))) .nil)))))) rfl
theorem ok_law_same_l (T : Facts Z K mg) : Df P w K mg base 2 "_law_same" (raC (rList rInt) (raC (rList rInt) raN)) (rtF rBool) (fun a => m_law_same_l a.1 a.2.1) := by
  obtain ⟨f, fd, F, hm, hb⟩ := T.f_law_same
  refine df_mk F sc_law_same hm hb (sl_c (sl_c sl_n)) (fun _ => rfl) (by decide) (fun cdv A outer s H E hr C a => ?_)
  obtain ⟨answer1, a⟩ := a; obtain ⟨expected2, a⟩ := a; exact rb_ec (m' := m_law_same_l answer1 expected2) (rb_skip (ns_ifF (tt_cP (cm_isX nn_list) (ev_v 1) ev_non) nb_nilU) (rb_skip (ns_ifF (tt_val (ev_isi (b := false) T.b_isinstance T.b_bool bt_bool ty_list (by decide +kernel) (ev_v 1))) nb_nilU) (rb_skip (ns_ifF (tt_val (ev_isi (b := false) T.b_isinstance T.b_int bt_int ty_list (by decide +kernel) (ev_v 1))) nb_nilU) (rb_skip (ns_ifF (tt_val (ev_isi (b := false) T.b_isinstance T.b_str bt_str ty_list (by decide +kernel) (ev_v 1))) nb_nilU) (rb_skip (ns_ifF (tt_val (ev_isi (b := false) T.b_isinstance T.b_tuple bt_tuple ty_list (by decide +kernel) (ev_v 1))) (nb_skip (ns_ifF (tt_ec (tw_t (tw_orP (tt_ec (tt_notP (tt_val (ev_isi (b := true) T.b_isinstance T.b_list bt_list ty_list (by decide +kernel) (ev_v 1)))) rfl) (tw_or1 (tt_ec (tt_notP (tt_val (ev_isi (b := true) T.b_isinstance T.b_list bt_list ty_list (by decide +kernel) (ev_v 0)))) rfl)))) rfl) nb_nilU) nb_nilU)) (rb_ifrP (tt_cP cm_neI (ev_lenP T.b_len (el_of (ev_v 0))) (ev_lenP T.b_len (el_of (ev_v 1)))) (rb_last (rs_ret rfl ev_bl .nil)) (rb_last (rs_ret rfl (ev_all C.calm T.b_all (el_nw (nw_map (Γt := (fun x3 => [.va (rList rInt) answer1, .va (rList rInt) expected2, .va rInt x3])) (f := fun x3 => M.bind (M.bind (idx answer1 x3) fun t4 => M.bind (M.bind (idx expected2 x3) fun t5 => M.bind (.ok (())) fun t6 => .ok ((t5, t6))) fun t7 => .ok ((t4, t7))) fun a8 => m_law_same_i a8.1 a8.2.1) C (blkOk_by (N := N_law_same) (sc := defScope s_law_same) (own := [(("k" : Str), 2)]) (by decide +kernel)) (iv_r1P T.b_range (ev_lenP T.b_len (el_of (ev_v 1)))) (fun _ _ _ _ _ => (tg_n 2 (Cok.blk C _ _ _ _ _ _))) (fun _ _ _ _ _ x3 => ev_ec (ev_call (ok_law_same_i T) (hr.mono (by decide)) (ag_c (ev_ixLP (el_of (ev_v 0)) (ev_v 2)) (ag_c (ev_ixLP (el_of (ev_v 1)) (ev_v 2)) ag_n))) rfl)))) .nil)) .nil)))))) rfl
theorem ok_law_by_cases (T : Facts Z K mg) : Df P w K mg base 1 "_law_by_cases" (raC rStr raN) (rtF rBool) (fun a => m_law_by_cases a.1) := by
  obtain ⟨f, fd, F, hm, hb⟩ := T.f_law_by_cases
  refine df_mk F sc_law_by_cases hm hb (sl_c sl_n) (fun _ => rfl) (by decide) (fun cdv A outer s H E hr C a => ?_)
  obtain ⟨manner1, a⟩ := a; exact rb_ec (m' := m_law_by_cases manner1) (rb_last (rs_ret rfl (ev_c cm_inTS (ev_slSP (ev_v 0) po_n (po_sP ev_int)) (ev_vtupP (r := rStr) (ah_cP ev_str (ah_cP ev_str ah_n)))) .nil)) rfl
theorem ok_law_in_steps (T : Facts Z K mg) : Df P w K mg base 1 "_law_in_steps" (raC rStr raN) (rtF rBool) (fun a => m_law_in_steps a.1) := by
  obtain ⟨f, fd, F, hm, hb⟩ := T.f_law_in_steps
  refine df_mk F sc_law_in_steps hm hb (sl_c sl_n) (fun _ => rfl) (by decide) (fun cdv A outer s H E hr C a => ?_)
  obtain ⟨manner1, a⟩ := a; exact rb_ec (m' := m_law_in_steps manner1) (rb_last (rs_ret rfl (ev_c cm_inTS (ev_slSP (ev_v 0) po_n (po_sP ev_int)) (ev_vtupP (r := rStr) (ah_cP ev_str (ah_cP ev_str ah_n)))) .nil)) rfl
theorem ok_law_meet (T : Facts Z K mg) : Df P w K mg base 1 "_law_meet" (raC rInt (raC (rList (rTup2 rInt rInt)) (raC rInt raN))) (rtF rInt) (fun a => m_law_meet a.1 a.2.1 a.2.2.1) := by
  obtain ⟨f, fd, F, hm, hb⟩ := T.f_law_meet
  refine df_mk F sc_law_meet hm hb (sl_c (sl_c (sl_c sl_n))) (fun _ => rfl) (by decide) (fun cdv A outer s H E hr C a => ?_)
  obtain ⟨n1, a⟩ := a; obtain ⟨rules2, a⟩ := a; obtain ⟨case3, a⟩ := a; exact rb_ec (m' := m_law_meet n1 rules2 case3) (rb_cons (ns_set 3 C (ev_sub (ev_shl ev_int (ev_shlP ev_int (ev_v 0))) ev_int) .nil) (fun meet8 => (rb_cons (ns_forP (vs := [4]) (Γh := fun s9 => [.va rInt n1, .va (rList (rTup2 rInt rInt)) rules2, .va rInt case3, .va rInt s9, .no]) (Γt := fun s9 rule10 => [.va rInt n1, .va (rList (rTup2 rInt rInt)) rules2, .va rInt case3, .va rInt s9, .va (rTup2 rInt rInt) rule10]) (s0 := meet8) (f := fun (s9 : Int) (rule10 : Int × Int) => cond (decide (Builtin.bitAnd case3 rule10.1 = case3)) (M.bind (.ok (Builtin.bitAnd s9 rule10.2 : Int)) fun meet13 => .ok meet13) (.ok s9)) C (iv_l (ev_v 1)) (fun _ => (tg_n 4 C)) (fun s9 rule10 => nb_ec (nb_one (ns_ifP (S := Int) (Γ' := fun s12 => [.va rInt n1, .va (rList (rTup2 rInt rInt)) rules2, .va rInt case3, .va rInt s12, .va (rTup2 rInt rInt) rule10]) (tt_cP cm_eqI (ev_andP2 (ev_v 2) (ev_fstP (ev_v 4))) (ev_v 2)) (nb_cons (ns_set 3 C (ev_andP2 (ev_v 3) (ev_sndP (ev_v 4))) .nil) (fun meet13 => (nb_nil (s := meet13) (.refl)))) (nb_nil (s := s9) (.refl)) .nil) (fun s12 => .same (.same (.same (.same (.drop (.refl))))))) rfl) (.refl) .nil) (fun s9 => (rb_last (rs_ret rfl (ev_v 3) .nil)))))) rfl
theorem ok_law_due (T : Facts Z K mg) : Df P w K mg base 2 "_law_due" (raC rInt (raC (rList (rTup2 rInt rInt)) (raC rInt (raC rStr raN)))) (rtF rInt) (fun a => m_law_due a.1 a.2.1 a.2.2.1 a.2.2.2.1) := by
  obtain ⟨f, fd, F, hm, hb⟩ := T.f_law_due
  refine df_mk F sc_law_due hm hb (sl_c (sl_c (sl_c (sl_c sl_n)))) (fun _ => rfl) (by decide) (fun cdv A outer s H E hr C a => ?_)
  obtain ⟨n1, a⟩ := a; obtain ⟨rules2, a⟩ := a; obtain ⟨facts3, a⟩ := a; obtain ⟨manner4, a⟩ := a; exact rb_ec (m' := m_law_due n1 rules2 facts3 manner4) (rb_cons (ns_set 4 C (ev_nw (nw_lstP (r := rInt) (ah_cP (ev_v 2) ah_n))) .nil) (fun cases5 => (rb_cons (ns_if (S := (List Int)) (Γ' := fun s35 => [.va rInt n1, .va (rList (rTup2 rInt rInt)) rules2, .va rInt facts3, .va rStr manner4, .va (rList rInt) s35, .no, .no, .no, .no, .no]) (tt_val (ev_callP (ok_law_by_cases T) (hr.mono (by decide)) (ag_cP (ev_v 3) ag_n))) (nb_one (ns_set 4 C (ev_nw (nw_cat (el_nw (nw_lstP (r := rInt) (ah_cP ev_int ah_n))) (el_nw (nw_lc (Γt := (fun x37 => [.va rInt n1, .va (rList (rTup2 rInt rInt)) rules2, .va rInt facts3, .va rStr manner4, .va (rList rInt) cases5, .no, .no, .no, .no, .va rInt x37])) (p := fun x37 => M.bind (M.bind (shrI facts3 x37) fun t38 => M.bind (.ok 1) fun t39 => .ok (Builtin.bitAnd t38 t39)) fun t42 => M.bind (.ok 1) fun t43 => .ok (decide (t42 = t43))) (f := fun x37 => shlI 1 x37) C (blkOk_by (N := N_law_due) (sc := defScope s_law_due) (own := [(("world" : Str), 9)]) (by decide +kernel)) (iv_r1 T.b_range (ev_shlP ev_int (ev_v 0))) (fun _ _ _ _ _ => (tg_n 9 (Cok.blk C _ _ _ _ _ _))) (fun _ _ _ _ _ x37 => tt_ec (tt_c cm_eqI (ev_and (ev_shrP (ev_v 2) (ev_v 9)) ev_int) ev_int) rfl) (fun _ _ _ _ _ x37 => ev_ec (ev_shlP ev_int (ev_v 9)) rfl))))) .nil) (fun cases48 => .refl)) (nb_one (ns_if (S := (List Int)) (Γ' := fun s56 => [.va rInt n1, .va (rList (rTup2 rInt rInt)) rules2, .va rInt facts3, .va rStr manner4, .va (rList rInt) s56, .no, .no, .no, .no, .no]) (tt_val (ev_callP (ok_law_in_steps T) (hr.mono (by decide)) (ag_cP (ev_v 3) ag_n))) (nb_cons (ns_set 5 C (ev_v 2) .nil) (fun case57 => (nb_cons (ns_forP (vs := [6]) (Γh := fun s58 => [.va rInt n1, .va (rList (rTup2 rInt rInt)) rules2, .va rInt facts3, .va rStr manner4, .va (rList rInt) cases5, .va rInt s58, .no, .no, .no, .no]) (Γt := fun s58 k59 => [.va rInt n1, .va (rList (rTup2 rInt rInt)) rules2, .va rInt facts3, .va rStr manner4, .va (rList rInt) cases5, .va rInt s58, .va rInt k59, .no, .no, .no]) (s0 := case57) (f := fun (s58 : Int) (k59 : Int) => M.bind (.ok s58) fun t60 => M.bind (m_law_meet n1 rules2 s58) fun t61 => .ok (Builtin.bitAnd t60 t61)) C (iv_r1C T.b_range ev_int) (fun _ => (tg_n 6 C)) (fun s58 k59 => nb_ec (nb_one (ns_set 5 C (ev_and (ev_v 5) (ev_callP (ok_law_meet T) (hr.mono (by decide)) (ag_cP (ev_v 0) (ag_cP (ev_v 1) (ag_cP (ev_v 5) ag_n))))) .nil) (fun case62 => .same (.same (.same (.same (.same (.same (.drop (.refl))))))))) rfl) (.refl) .nil) (fun s58 => (nb_cons (ns_set 4 C (ev_nw (nw_lstP (r := rInt) (ah_cP (ev_v 5) ah_n))) .nil) (fun cases63 => (nb_at (Γ' := [.va rInt n1, .va (rList (rTup2 rInt rInt)) rules2, .va rInt facts3, .va rStr manner4, .va (rList rInt) cases63, .va rInt s58, .no, .no, .no, .no]) rfl (nb_nil (s := cases63) (.same (.same (.same (.same (.same (.drop (.refl))))))))))))))) (nb_nil (s := cases5) (.refl)) .nil) (fun s56 => .refl)) .nil) (fun s35 => (rb_at (Γ' := [.va rInt n1, .va (rList (rTup2 rInt rInt)) rules2, .va rInt facts3, .va rStr manner4, .va (rList rInt) s35, .no, .no, .no, .no, .no]) rfl (rb_cons (ns_set 7 C ev_int .nil) (fun join66 => (rb_cons (ns_forP (vs := [5]) (Γh := fun s67 => [.va rInt n1, .va (rList (rTup2 rInt rInt)) rules2, .va rInt facts3, .va rStr manner4, .va (rList rInt) s35, .no, .no, .va rInt s67, .no, .no]) (Γt := fun s67 case68 => [.va rInt n1, .va (rList (rTup2 rInt rInt)) rules2, .va rInt facts3, .va rStr manner4, .va (rList rInt) s35, .va rInt case68, .no, .va rInt s67, .no, .no]) (s0 := join66) (f := fun (s67 : Int) (case68 : Int) => M.bind (m_law_meet n1 rules2 case68) fun meet69 => M.bind (M.bind (mOr (mNot (m_law_in_steps manner4)) (.ok (decide (Builtin.bitAnd case68 meet69 = case68)))) fun t89 => cond t89 (M.bind (M.bind (M.bind (idxS manner4 (-1)) fun t84 => M.bind (.ok (("+" : Str))) fun t85 => .ok (decide (t84 = t85))) fun t87 => cond t87 (M.bind (.ok (Builtin.bitAnd meet69 case68 : Int)) fun meet86 => .ok meet86) (.ok meet69)) fun s83 => M.bind (.ok (Builtin.bitOr s67 s83 : Int)) fun join88 => .ok ((join88, s83))) (.ok ((s67, meet69)))) fun s79 => .ok s79.1) C (iv_l (ev_v 4)) (fun _ => (tg_n 5 C)) (fun s67 case68 => nb_ec (nb_cons (ns_set 8 C (ev_callP (ok_law_meet T) (hr.mono (by decide)) (ag_cP (ev_v 0) (ag_cP (ev_v 1) (ag_cP (ev_v 5) ag_n)))) .nil) (fun meet69 => (nb_at (Γ' := [.va rInt n1, .va (rList (rTup2 rInt rInt)) rules2, .va rInt facts3, .va rStr manner4, .va (rList rInt) s35, .va rInt case68, .no, .va rInt s67, .va rInt meet69, .no]) rfl (nb_cons (ns_if (S := Int × Int) (Γ' := fun s79 => [.va rInt n1, .va (rList (rTup2 rInt rInt)) rules2, .va rInt facts3, .va rStr manner4, .va (rList rInt) s35, .va rInt case68, .no, .va rInt s79.1, .va rInt s79.2, .no]) (tw_t (tw_or (tt_not (tt_val (ev_callP (ok_law_in_steps T) (hr.mono (by decide)) (ag_cP (ev_v 3) ag_n)))) (tw_or1 (tt_cP cm_eqI (ev_andP2 (ev_v 5) (ev_v 8)) (ev_v 5))))) (nb_cons (ns_if (S := Int) (Γ' := fun s83 => [.va rInt n1, .va (rList (rTup2 rInt rInt)) rules2, .va rInt facts3, .va rStr manner4, .va (rList rInt) s35, .va rInt case68, .no, .va rInt s67, .va rInt s83, .no]) (tt_c cm_eqS (ev_ixStrP (ev_v 3) (ev_negP ev_int)) ev_str) (nb_cons (ns_set 8 C (ev_andP2 (ev_v 8) (ev_v 5)) .nil) (fun meet86 => (nb_nil (s := meet86) (.refl)))) (nb_nil (s := meet69) (.refl)) .nil) (fun s83 => (nb_cons (ns_set 7 C (ev_orP2 (ev_v 7) (ev_v 8)) .nil) (fun join88 => (nb_at (Γ' := [.va rInt n1, .va (rList (rTup2 rInt rInt)) rules2, .va rInt facts3, .va rStr manner4, .va (rList rInt) s35, .va rInt case68, .no, .va rInt join88, .va rInt s83, .no]) rfl (nb_nil (s := (join88, s83)) (.refl))))))) (nb_nil (s := (s67, meet69)) (.refl)) .nil) (fun s79 => (nb_nil (s := s79.1) (.same (.same (.same (.same (.same (.drop (.same (.same (.drop (.refl)))))))))))))))) rfl) (.refl) .nil) (fun s67 => (rb_last (rs_ret rfl (ev_v 7) .nil))))))))))) rfl
theorem ok_law_facts (T : Facts Z K mg) : Df P w K mg base 3 "_law_facts" (raC rScr (raC rInt raN)) (rtF rInt) (fun a => m_law_facts a.1 a.2.1) := by
  obtain ⟨f, fd, F, hm, hb⟩ := T.f_law_facts
  refine df_mk F sc_law_facts hm hb (sl_c (sl_c sl_n)) (fun _ => rfl) (by decide) (fun cdv A outer s H E hr C a => ?_)
  obtain ⟨script1, a⟩ := a; obtain ⟨n2, a⟩ := a; exact rb_ec (m' := m_law_facts script1 n2) (rb_cons (ns_set 2 C (ev_shl ev_int (ev_shlP ev_int (ev_v 1))) .nil) (fun top5 => (rb_cons (ns_set 3 C (ev_callP (ok_law_numbers T) (hr.mono (by decide)) (ag_cP (ev_v 0) (ag_cP ev_int (ag_cP ev_int (ag_cP (ev_v 2) ag_n))))) .nil) (fun drawn6 => (rb_cons (ns_set 4 C (ev_mod (ev_callP (ok_law_cell T) (hr.mono (by decide)) (ag_cP (ev_v 0) (ag_cP ev_int ag_n))) ev_int) .nil) (fun kind9 => (rb_ifrP (tt_cP cm_lt (ev_v 4) ev_int) (rb_last (rs_ret rfl (ev_subP (ev_v 2) ev_int) .nil)) (rb_ifrP (tt_cP cm_eqI (ev_v 4) ev_int) (rb_last (rs_ret rfl (ev_and (ev_ixLP (el_of (ev_v 3)) ev_int) (ev_ixLP (el_of (ev_v 3)) ev_int)) .nil)) (rb_ifrP (tt_cP cm_inTI (ev_v 4) (ev_vtupP (r := rInt) (ah_cP ev_int (ah_cP ev_int ah_n)))) (rb_last (rs_ret rfl (ev_or (ev_ixLP (el_of (ev_v 3)) ev_int) (ev_ixLP (el_of (ev_v 3)) ev_int)) .nil)) (rb_ifrP (tt_cP cm_eqI (ev_v 4) ev_int) (rb_last (rs_ret rfl (ev_shl ev_int (ev_and (ev_ixLP (el_of (ev_v 3)) ev_int) (ev_sub (ev_shlP ev_int (ev_v 1)) ev_int))) .nil)) (rb_ifr (tw_t (tw_and (tt_cP cm_eqI (ev_v 4) ev_int) (tw_and1 (tt_c cm_eqI (ev_mod (ev_fdiv (ev_callP (ok_law_cell T) (hr.mono (by decide)) (ag_cP (ev_v 0) (ag_cP ev_int ag_n))) ev_int) ev_int) ev_int)))) (rb_last (rs_ret rfl ev_int .nil)) (rb_last (rs_ret rfl (ev_ixLP (el_of (ev_v 3)) ev_int) .nil)) .nil) .nil) .nil) .nil) .nil))))))) rfl
theorem ok_law_rules (T : Facts Z K mg) : Df P w K mg base 3 "_law_rules" (raC rScr (raC rInt (raC rInt (raC rInt raN)))) (rtF (rList (rTup2 rInt rInt))) (fun a => m_law_rules a.1 a.2.1 a.2.2.1 a.2.2.2.1) := by
  obtain ⟨f, fd, F, hm, hb⟩ := T.f_law_rules
  refine df_mk F sc_law_rules hm hb (sl_c (sl_c (sl_c (sl_c sl_n)))) (fun _ => rfl) (by decide) (fun cdv A outer s H E hr C a => ?_)
  obtain ⟨script1, a⟩ := a; obtain ⟨n2, a⟩ := a; obtain ⟨count3, a⟩ := a; obtain ⟨facts4, a⟩ := a; exact rb_ec (m' := m_law_rules script1 n2 count3 facts4) (rb_cons (ns_set 4 C (ev_shl ev_int (ev_shlP ev_int (ev_v 1))) .nil) (fun top7 => (rb_cons (ns_set 5 C (ev_callP (ok_law_numbers T) (hr.mono (by decide)) (ag_cP (ev_v 0) (ag_cP ev_int (ag_cP (ev_v 2) (ag_cP ev_int ag_n))))) .nil) (fun kinds8 => (rb_at (Γ' := [.va rScr script1, .va rInt n2, .va rInt count3, .va rInt facts4, .va rInt top7, .va (rList rInt) kinds8, .no, .no, .no, .no, .no, .no, .no, .no]) rfl (rb_cons (ns_set 6 C (ev_callP (ok_law_numbers T) (hr.mono (by decide)) (ag_cP (ev_v 0) (ag_cP ev_int (ag_cP (ev_v 2) (ag_cP (ev_v 4) ag_n))))) .nil) (fun bodies9 => (rb_cons (ns_set 7 C (ev_callP (ok_law_numbers T) (hr.mono (by decide)) (ag_cP (ev_v 0) (ag_cP ev_int (ag_cP (ev_v 2) (ag_cP (ev_v 4) ag_n))))) .nil) (fun heads10 => (rb_cons (ns_set 8 C (ev_call (ok_law_numbers T) (hr.mono (by decide)) (ag_c (ev_v 0) (ag_c ev_int (ag_c (ev_mulP ev_int (ev_v 2)) (ag_c (ev_v 4) ag_n))))) .nil) (fun more20 => (rb_at (Γ' := [.va rScr script1, .va rInt n2, .va rInt count3, .va rInt facts4, .va rInt top7, .va (rList rInt) kinds8, .va (rList rInt) bodies9, .va (rList rInt) heads10, .va (rList rInt) more20, .no, .no, .no, .no, .no]) rfl (rb_cons (ns_setN (r := (rTup2 rInt rInt)) 9 C (nw_lstP (r := (rTup2 rInt rInt)) ah_n) .nil) (fun rules21 => (rb_cons (ns_for (vs := [10]) (Γh := fun s22 => [.va rScr script1, .va rInt n2, .va rInt count3, .va rInt facts4, .va rInt top7, .va (rList rInt) kinds8, .va (rList rInt) bodies9, .va (rList rInt) heads10, .va (rList rInt) more20, .ow (rTup2 rInt rInt) s22, .no, .no, .no, .no]) (Γt := fun s22 k23 => [.va rScr script1, .va rInt n2, .va rInt count3, .va rInt facts4, .va rInt top7, .va (rList rInt) kinds8, .va (rList rInt) bodies9, .va (rList rInt) heads10, .va (rList rInt) more20, .ow (rTup2 rInt rInt) s22, .va rInt k23, .no, .no, .no]) (s0 := rules21) (f := fun (s22 : (List (Int × Int))) (k23 : Int) => M.bind (idx bodies9 k23) fun body24 => M.bind (idx heads10 k23) fun head25 => M.bind (M.bind (idx kinds8 k23) fun t26 => M.bind (.ok 8) fun t27 => modI t26 t27) fun kind28 => M.bind (cond (decide (kind28 = 1)) (M.bind (.ok body24) fun t37 => M.bind (M.bind (.ok more20) fun t35 => M.bind (mulI 2 k23) fun t36 => idx t35 t36) fun t38 => .ok (Builtin.bitOr t37 t38)) (.ok body24)) fun s34 => M.bind (cond (decide (kind28 ∈ (([2, 3] : List Int)))) (M.bind (.ok (top7 - 1 : Int)) fun body42 => .ok body42) (.ok s34)) fun s41 => M.bind (cond (decide (kind28 ∈ (([4, 5] : List Int)))) (M.bind (.ok (Builtin.bitOr s41 facts4 : Int)) fun body45 => .ok body45) (.ok s41)) fun s44 => M.bind (cond ((decide (5 < kind28)) && (decide (0 < k23))) (M.bind (M.bind (idx s22 (k23 - 1)) fun t55 => .ok t55.2) fun t60 => M.bind (M.bind (.ok s44) fun t58 => M.bind (M.bind (.ok more20) fun t56 => M.bind (mulI 2 k23) fun t57 => idx t56 t57) fun t59 => .ok (Builtin.bitAnd t58 t59)) fun t61 => .ok (Builtin.bitOr t60 t61)) (.ok s44)) fun s54 => M.bind (M.bind (M.bind (M.bind (idx kinds8 k23) fun t75 => M.bind (.ok 8) fun t76 => fdivI t75 t76) fun t77 => M.bind (.ok 0) fun t78 => .ok (decide (t78 < t77))) fun t86 => cond t86 (M.bind (.ok head25) fun t83 => M.bind (M.bind (.ok more20) fun t81 => M.bind (M.bind (mulI 2 k23) fun t79 => M.bind (.ok 1) fun t80 => .ok (t79 + t80)) fun t82 => idx t81 t82) fun t84 => .ok (Builtin.bitOr t83 t84)) (.ok head25)) fun s74 => appL s22 ((s54, s74))) C (iv_r1P T.b_range (ev_v 2)) (fun _ => (tg_n 10 C)) (fun s22 k23 => nb_ec (nb_cons (ns_set 11 C (ev_ixLP (el_of (ev_v 6)) (ev_v 10)) .nil) (fun body24 => (nb_at (Γ' := [.va rScr script1, .va rInt n2, .va rInt count3, .va rInt facts4, .va rInt top7, .va (rList rInt) kinds8, .va (rList rInt) bodies9, .va (rList rInt) heads10, .va (rList rInt) more20, .ow (rTup2 rInt rInt) s22, .va rInt k23, .va rInt body24, .no, .no]) rfl (nb_cons (ns_set 12 C (ev_ixLP (el_of (ev_v 7)) (ev_v 10)) .nil) (fun head25 => (nb_cons (ns_set 13 C (ev_mod (ev_ixLP (el_of (ev_v 5)) (ev_v 10)) ev_int) .nil) (fun kind28 => (nb_cons (ns_ifP (S := Int) (Γ' := fun s34 => [.va rScr script1, .va rInt n2, .va rInt count3, .va rInt facts4, .va rInt top7, .va (rList rInt) kinds8, .va (rList rInt) bodies9, .va (rList rInt) heads10, .va (rList rInt) more20, .ow (rTup2 rInt rInt) s22, .va rInt k23, .va rInt s34, .va rInt head25, .va rInt kind28]) (tt_cP cm_eqI (ev_v 13) ev_int) (nb_one (ns_set 11 C (ev_or (ev_v 11) (ev_ixL (el_of (ev_v 8)) (ev_mulP ev_int (ev_v 10)))) .nil) (fun body39 => .refl)) (nb_nil (s := body24) (.refl)) .nil) (fun s34 => (nb_at (Γ' := [.va rScr script1, .va rInt n2, .va rInt count3, .va rInt facts4, .va rInt top7, .va (rList rInt) kinds8, .va (rList rInt) bodies9, .va (rList rInt) heads10, .va (rList rInt) more20, .ow (rTup2 rInt rInt) s22, .va rInt k23, .va rInt s34, .va rInt head25, .va rInt kind28]) rfl (nb_cons (ns_ifP (S := Int) (Γ' := fun s41 => [.va rScr script1, .va rInt n2, .va rInt count3, .va rInt facts4, .va rInt top7, .va (rList rInt) kinds8, .va (rList rInt) bodies9, .va (rList rInt) heads10, .va (rList rInt) more20, .ow (rTup2 rInt rInt) s22, .va rInt k23, .va rInt s41, .va rInt head25, .va rInt kind28]) (tt_cP cm_inTI (ev_v 13) (ev_vtupP (r := rInt) (ah_cP ev_int (ah_cP ev_int ah_n)))) (nb_cons (ns_set 11 C (ev_subP (ev_v 4) ev_int) .nil) (fun body42 => (nb_at (Γ' := [.va rScr script1, .va rInt n2, .va rInt count3, .va rInt facts4, .va rInt top7, .va (rList rInt) kinds8, .va (rList rInt) bodies9, .va (rList rInt) heads10, .va (rList rInt) more20, .ow (rTup2 rInt rInt) s22, .va rInt k23, .va rInt body42, .va rInt head25, .va rInt kind28]) rfl (nb_nil (s := body42) (.refl))))) (nb_nil (s := s34) (.refl)) .nil) (fun s41 => (nb_cons (ns_ifP (S := Int) (Γ' := fun s44 => [.va rScr script1, .va rInt n2, .va rInt count3, .va rInt facts4, .va rInt top7, .va (rList rInt) kinds8, .va (rList rInt) bodies9, .va (rList rInt) heads10, .va (rList rInt) more20, .ow (rTup2 rInt rInt) s22, .va rInt k23, .va rInt s44, .va rInt head25, .va rInt kind28]) (tt_cP cm_inTI (ev_v 13) (ev_vtupP (r := rInt) (ah_cP ev_int (ah_cP ev_int ah_n)))) (nb_cons (ns_set 11 C (ev_orP2 (ev_v 11) (ev_v 3)) .nil) (fun body45 => (nb_nil (s := body45) (.refl)))) (nb_nil (s := s41) (.refl)) .nil) (fun s44 => (nb_cons (ns_ifP (S := Int) (Γ' := fun s54 => [.va rScr script1, .va rInt n2, .va rInt count3, .va rInt facts4, .va rInt top7, .va (rList rInt) kinds8, .va (rList rInt) bodies9, .va (rList rInt) heads10, .va (rList rInt) more20, .ow (rTup2 rInt rInt) s22, .va rInt k23, .va rInt s54, .va rInt head25, .va rInt kind28]) (tw_t (tw_andP (tt_cP cm_gt (ev_v 13) ev_int) (tw_and1 (tt_cP cm_gt (ev_v 10) ev_int)))) (nb_one (ns_set 11 C (ev_or (ev_snd (ev_ixLP (el_ow 9) (ev_subP (ev_v 10) ev_int))) (ev_and (ev_v 11) (ev_ixL (el_of (ev_v 8)) (ev_mulP ev_int (ev_v 10))))) .nil) (fun body62 => .refl)) (nb_nil (s := s44) (.refl)) .nil) (fun s54 => (nb_at (Γ' := [.va rScr script1, .va rInt n2, .va rInt count3, .va rInt facts4, .va rInt top7, .va (rList rInt) kinds8, .va (rList rInt) bodies9, .va (rList rInt) heads10, .va (rList rInt) more20, .ow (rTup2 rInt rInt) s22, .va rInt k23, .va rInt s54, .va rInt head25, .va rInt kind28]) rfl (nb_cons (ns_if (S := Int) (Γ' := fun s74 => [.va rScr script1, .va rInt n2, .va rInt count3, .va rInt facts4, .va rInt top7, .va (rList rInt) kinds8, .va (rList rInt) bodies9, .va (rList rInt) heads10, .va (rList rInt) more20, .ow (rTup2 rInt rInt) s22, .va rInt k23, .va rInt s54, .va rInt s74, .va rInt kind28]) (tt_c cm_gt (ev_fdiv (ev_ixLP (el_of (ev_v 5)) (ev_v 10)) ev_int) ev_int) (nb_one (ns_set 12 C (ev_or (ev_v 12) (ev_ixL (el_of (ev_v 8)) (ev_add (ev_mulP ev_int (ev_v 10)) ev_int))) .nil) (fun head85 => .refl)) (nb_nil (s := head25) (.refl)) .nil) (fun s74 => (nb_one (ns_appP 9 (ev_tup2P (ev_v 11) (ev_v 12)) .nil) (fun rules87 => .same (.same (.same (.same (.same (.same (.same (.same (.same (.same (.drop (.drop (.drop (.drop (.refl))))))))))))))))))))))))))))))))))) rfl) (.refl) .nil) (fun s22 => (rb_frz 9 rfl (rb_last (rs_ret rfl (ev_v 9) .nil))))))))))))))))))) rfl
theorem ok_law_wanted (T : Facts Z K mg) : Df P w K mg base 3 "_law_wanted" (raC rScr (raC rInt (raC rInt (raC (rList (rTup2 rInt rInt)) (raC rInt (raC rStr raN)))))) (rtF rInt) (fun a => m_law_wanted a.1 a.2.1 a.2.2.1 a.2.2.2.1 a.2.2.2.2.1 a.2.2.2.2.2.1) := by
  obtain ⟨f, fd, F, hm, hb⟩ := T.f_law_wanted
  refine df_mk F sc_law_wanted hm hb (sl_c (sl_c (sl_c (sl_c (sl_c (sl_c sl_n)))))) (fun _ => rfl) (by decide) (fun cdv A outer s H E hr C a => ?_)
  obtain ⟨script1, a⟩ := a; obtain ⟨at2, a⟩ := a; obtain ⟨n3, a⟩ := a; obtain ⟨rules4, a⟩ := a; obtain ⟨facts5, a⟩ := a; obtain ⟨manner6, a⟩ := a; exact rb_ec (m' := m_law_wanted script1 at2 n3 rules4 facts5 manner6) (rb_cons (ns_set 6 C (ev_call (ok_law_numbers T) (hr.mono (by decide)) (ag_c (ev_v 0) (ag_c (ev_v 1) (ag_c ev_int (ag_c (ev_shl ev_int (ev_shlP ev_int (ev_v 2))) ag_n))))) .nil) (fun drawn18 => (rb_cons (ns_set 7 C (ev_mod (ev_add ev_int (ev_callP (ok_law_cell T) (hr.mono (by decide)) (ag_cP (ev_v 0) (ag_cP (ev_v 1) ag_n)))) ev_int) .nil) (fun kind23 => (rb_at (Γ' := [.va rScr script1, .va rInt at2, .va rInt n3, .va (rList (rTup2 rInt rInt)) rules4, .va rInt facts5, .va rStr manner6, .va (rList rInt) drawn18, .va rInt kind23, .no, .no]) rfl (rb_ifrP (tt_cP cm_eqI (ev_v 7) ev_int) (rb_last (rs_ret rfl (ev_ixLP (el_of (ev_v 6)) ev_int) .nil)) (rb_cons (ns_set 8 C (ev_callP (ok_law_due T) (hr.mono (by decide)) (ag_cP (ev_v 2) (ag_cP (ev_v 3) (ag_cP ev_int (ag_cP (ev_v 5) ag_n))))) .nil) (fun zero24 => (rb_ifrP (tt_cP cm_eqI (ev_v 7) ev_int) (rb_last (rs_ret rfl (ev_v 8) .nil)) (rb_ifrP (tt_cP cm_eqI (ev_v 7) ev_int) (rb_last (rs_ret rfl (ev_or (ev_ixLP (el_of (ev_v 6)) ev_int) (ev_ixLP (el_of (ev_v 6)) ev_int)) .nil)) (rb_ifrP (tt_cP cm_eqI (ev_v 7) ev_int) (rb_last (rs_ret rfl (ev_sub (ev_sub (ev_shl ev_int (ev_shlP ev_int (ev_v 2))) ev_int) (ev_andP2 (ev_v 8) (ev_subP ev_int (ev_v 8)))) .nil)) (rb_cons (ns_set 9 C (ev_callP (ok_law_due T) (hr.mono (by decide)) (ag_cP (ev_v 2) (ag_cP (ev_v 3) (ag_cP (ev_v 4) (ag_cP (ev_v 5) ag_n))))) .nil) (fun total33 => (rb_ifrP (tt_cP cm_eqI (ev_v 7) ev_int) (rb_last (rs_ret rfl (ev_andP2 (ev_v 9) (ev_max2 C.calm T.b_max ev_int (ev_subP (ev_v 9) ev_int))) .nil)) (rb_ifrP (tt_cP cm_inTI (ev_v 7) (ev_vtupP (r := rInt) (ah_cP ev_int (ah_cP ev_int ah_n)))) (rb_last (rs_ret rfl (ev_v 9) .nil)) (rb_last (rs_ret rfl (ev_or (ev_v 9) (ev_and (ev_ixLP (el_of (ev_v 6)) ev_int) (ev_ixLP (el_of (ev_v 6)) ev_int))) .nil)) .nil) .nil))) .nil) .nil) .nil))) .nil)))))) rfl
theorem ok_law_manner (T : Facts Z K mg) : Df P w K mg base 1 "_law_manner" (raC rInt raN) (rtF rStr) (fun a => m_law_manner a.1) := by
  obtain ⟨f, fd, F, hm, hb⟩ := T.f_law_manner
  refine df_mk F sc_law_manner hm hb (sl_c sl_n) (fun _ => rfl) (by decide) (fun cdv A outer s H E hr C a => ?_)
  obtain ⟨number1, a⟩ := a; exact rb_ec (m' := m_law_manner number1) (rb_last (rs_ret rfl (ev_ixL (el_nw (nw_lstP (r := rStr) (ah_cP ev_str (ah_cP ev_str (ah_cP ev_str (ah_cP ev_str (ah_cP ev_str (ah_cP ev_str (ah_cP ev_str (ah_cP ev_str ah_n)))))))))) (ev_modP (ev_int1 T.b_int (ev_v 0)) ev_int)) .nil)) rfl
theorem ok_law_limit (T : Facts Z K mg) : Df P w K mg base 3 "_law_limit" (raC rScr (raC rInt (raC rInt (raC rInt raN)))) (rtF rInt) (fun a => m_law_limit a.1 a.2.1 a.2.2.1 a.2.2.2.1) := by
  obtain ⟨f, fd, F, hm, hb⟩ := T.f_law_limit
  refine df_mk F sc_law_limit hm hb (sl_c (sl_c (sl_c (sl_c sl_n)))) (fun _ => rfl) (by decide) (fun cdv A outer s H E hr C a => ?_)
  obtain ⟨script1, a⟩ := a; obtain ⟨at2, a⟩ := a; obtain ⟨n3, a⟩ := a; obtain ⟨facts4, a⟩ := a; exact rb_ec (m' := m_law_limit script1 at2 n3 facts4) (rb_cons (ns_set 4 C (ev_shl ev_int (ev_shlP ev_int (ev_v 2))) .nil) (fun top7 => (rb_at (Γ' := [.va rScr script1, .va rInt at2, .va rInt n3, .va rInt facts4, .va rInt top7, .no, .no]) rfl (rb_cons (ns_set 5 C (ev_callP (ok_law_numbers T) (hr.mono (by decide)) (ag_cP (ev_v 0) (ag_cP (ev_v 1) (ag_cP ev_int (ag_cP (ev_v 4) ag_n))))) .nil) (fun drawn8 => (rb_cons (ns_set 6 C (ev_mod (ev_callP (ok_law_cell T) (hr.mono (by decide)) (ag_cP (ev_v 0) (ag_cP (ev_v 1) ag_n))) ev_int) .nil) (fun kind11 => (rb_ifrP (tt_cP cm_eqI (ev_v 6) ev_int) (rb_last (rs_ret rfl ev_int .nil)) (rb_ifrP (tt_cP cm_eqI (ev_v 6) ev_int) (rb_last (rs_ret rfl (ev_v 3) .nil)) (rb_ifrP (tt_cP cm_eqI (ev_v 6) ev_int) (rb_last (rs_ret rfl (ev_subP (ev_v 4) ev_int) .nil)) (rb_ifrP (tt_cP cm_eqI (ev_v 6) ev_int) (rb_last (rs_ret rfl (ev_or (ev_ixLP (el_of (ev_v 5)) ev_int) (ev_ixLP (el_of (ev_v 5)) ev_int)) .nil)) (rb_last (rs_ret rfl (ev_ixLP (el_of (ev_v 5)) ev_int) .nil)) .nil) .nil) .nil) .nil)))))))) rfl
theorem ok_law_given (T : Facts Z K mg) : Df P w K mg base 3 "_law_given" (raC rInt (raC (rList (rTup2 rInt rInt)) (raC rInt (raC rStr (raC rInt raN))))) (rtF rBool) (fun a => m_law_given a.1 a.2.1 a.2.2.1 a.2.2.2.1 a.2.2.2.2.1) := by
  obtain ⟨f, fd, F, hm, hb⟩ := T.f_law_given
  refine df_mk F sc_law_given hm hb (sl_c (sl_c (sl_c (sl_c (sl_c sl_n))))) (fun _ => rfl) (by decide) (fun cdv A outer s H E hr C a => ?_)
  obtain ⟨n1, a⟩ := a; obtain ⟨rules2, a⟩ := a; obtain ⟨claim3, a⟩ := a; obtain ⟨manner4, a⟩ := a; obtain ⟨facts5, a⟩ := a; exact rb_ec (m' := m_law_given n1 rules2 claim3 manner4 facts5) (rb_cons (ns_set 5 C (ev_callP (ok_law_due T) (hr.mono (by decide)) (ag_cP (ev_v 0) (ag_cP (ev_v 1) (ag_cP (ev_v 4) (ag_cP (ev_v 3) ag_n))))) .nil) (fun total6 => (rb_last (rs_ret rfl (ev_cP cm_eqI (ev_andP2 (ev_v 5) (ev_v 2)) (ev_v 5)) .nil)))) rfl
theorem ok_law_single (T : Facts Z K mg) : Df P w K mg base 4 "_law_single" (raC rInt (raC (rList (rTup2 rInt rInt)) (raC rInt (raC rStr (raC rInt raN))))) (rtF (rList rInt)) (fun a => m_law_single a.1 a.2.1 a.2.2.1 a.2.2.2.1 a.2.2.2.2.1) := by
  obtain ⟨f, fd, F, hm, hb⟩ := T.f_law_single
  refine df_mk F sc_law_single hm hb (sl_c (sl_c (sl_c (sl_c (sl_c sl_n))))) (fun _ => rfl) (by decide) (fun cdv A outer s H E hr C a => ?_)
  obtain ⟨n1, a⟩ := a; obtain ⟨rules2, a⟩ := a; obtain ⟨claim3, a⟩ := a; obtain ⟨manner4, a⟩ := a; obtain ⟨limit5, a⟩ := a; exact rb_ec (m' := m_law_single n1 rules2 claim3 manner4 limit5) (rb_ifr (tt_not (tt_val (ev_callP (ok_law_given T) (hr.mono (by decide)) (ag_cP (ev_v 0) (ag_cP (ev_v 1) (ag_cP (ev_v 2) (ag_cP (ev_v 3) (ag_cP ev_int ag_n)))))))) (rb_last (rs_ret rfl (ev_nw (nw_lstP (r := rInt) ah_n)) .nil)) (rb_cons (ns_lc 5 (Γt := (fun x7 => [.va rInt n1, .va (rList (rTup2 rInt rInt)) rules2, .va rInt claim3, .va rStr manner4, .va rInt limit5, .no, .va rInt x7])) (p := fun x7 => M.bind (M.bind (shrI limit5 x7) fun t8 => M.bind (.ok 1) fun t9 => .ok (Builtin.bitAnd t8 t9)) fun t12 => M.bind (.ok 1) fun t13 => .ok (decide (t12 = t13))) (f := fun x7 => shlI 1 x7) C (blkOk_by (N := N_law_single) (sc := defScope s_law_single) (own := [(("world" : Str), 6)]) (by decide +kernel)) (iv_r1 T.b_range (ev_shlP ev_int (ev_v 0))) (fun _ _ _ _ _ => (tg_n 6 (Cok.blk C _ _ _ _ _ _))) (fun _ _ _ _ _ x7 => tt_ec (tt_c cm_eqI (ev_and (ev_shrP (ev_v 4) (ev_v 6)) ev_int) ev_int) rfl) (fun _ _ _ _ _ x7 => ev_ec (ev_shlP ev_int (ev_v 6)) rfl) .nil) (fun worlds16 => (rb_last (rs_ret rfl (ev_nw (nw_lst (ah_c (ev_sum C.calm T.b_sum (el_nw (nw_lcP (Γt := (fun x17 => [.va rInt n1, .va (rList (rTup2 rInt rInt)) rules2, .va rInt claim3, .va rStr manner4, .va rInt limit5, .bo rInt worlds16, .va rInt x17])) (p := fun x17 => m_law_given n1 rules2 claim3 manner4 x17) (f := fun x17 => .ok x17) C (blkOk_by (N := N_law_single) (sc := defScope s_law_single) (own := [(("world" : Str), 6)]) (by decide +kernel)) (ic_l (el_ow 5)) (fun _ _ _ _ _ => (tg_n 6 (Cok.blk C _ _ _ _ _ _))) (fun _ _ _ _ _ x17 => tt_ec (tt_val (ev_callP (ok_law_given T) (hr.mono (by decide)) (ag_cP (ev_v 0) (ag_cP (ev_v 1) (ag_cP (ev_v 2) (ag_cP (ev_v 3) (ag_cP (ev_v 6) ag_n))))))) rfl) (fun _ _ _ _ _ x17 => ev_ec (ev_v 6) rfl)))) ah_n))) .nil)))) .nil) rfl
theorem ok_law_right (T : Facts Z K mg) : Df P w K mg base 4 "_law_right" (raC rInt (raC (rList (rTup2 rInt rInt)) (raC rInt (raC rStr (raC (rList rInt) raN))))) (rtF rBool) (fun a => m_law_right a.1 a.2.1 a.2.2.1 a.2.2.2.1 a.2.2.2.2.1) := by
  obtain ⟨f, fd, F, hm, hb⟩ := T.f_law_right
  refine df_mk F sc_law_right hm hb (sl_c (sl_c (sl_c (sl_c (sl_c sl_n))))) (fun _ => rfl) (by decide) (fun cdv A outer s H E hr C a => ?_)
  obtain ⟨n1, a⟩ := a; obtain ⟨rules2, a⟩ := a; obtain ⟨claim3, a⟩ := a; obtain ⟨manner4, a⟩ := a; obtain ⟨answer5, a⟩ := a; exact rb_ec (m' := m_law_right n1 rules2 claim3 manner4 answer5) (rb_skip (ns_ifF (tt_ec (tt_notP (tt_val (ev_isi (b := true) T.b_isinstance T.b_list bt_list ty_list (by decide +kernel) (ev_v 4)))) rfl) nb_nilU) (rb_consF (bs_forP (vs := [5]) (Γh := fun s6 => [.va rInt n1, .va (rList (rTup2 rInt rInt)) rules2, .va rInt claim3, .va rStr manner4, .va (rList rInt) answer5, .no]) (Γt := fun s6 facts7 => [.va rInt n1, .va (rList (rTup2 rInt rInt)) rules2, .va rInt claim3, .va rStr manner4, .va (rList rInt) answer5, .va rInt facts7]) (s0 := ()) (f := fun (s6 : Unit) (facts7 : Int) => M.bind (mOr (.ok false) (mOr (.ok false) (mNot (M.bind (.ok 0) fun t15 => M.bind (.ok facts7) fun t16 => cond (decide (t15 ≤ t16)) (M.bind (M.bind (.ok 1) fun t13 => M.bind (shlI 1 n1) fun t14 => shlI t13 t14) fun t17 => .ok (decide (t16 < t17))) (.ok false))))) fun t19 => cond t19 (.ok (.rt false)) (M.bind (mNot (m_law_given n1 rules2 claim3 manner4 facts7)) fun t18 => cond t18 (.ok (.rt false)) (.ok (.nx (()))))) C (iv_l (ev_v 4)) (fun _ => (tg_n 5 C)) (fun s6 facts7 => bk_ec (bk_ifrQ (tw_t (tw_or (tt_ec (tt_notP (tt_val (ev_isi (b := true) T.b_isinstance T.b_int bt_int ty_int (by decide +kernel) (ev_v 5)))) rfl) (tw_or (tt_val (ev_isi (b := false) T.b_isinstance T.b_bool bt_bool ty_int (by decide +kernel) (ev_v 5))) (tw_or1 (tt_not (tt_ch cm_le cm_lt ev_int (ev_v 5) (ev_shl ev_int (ev_shlP ev_int (ev_v 0))))))))) (rb_last (rs_ret rfl ev_bl .nil)) (bk_ifrQ (tt_not (tt_val (ev_callP (ok_law_given T) (hr.mono (by decide)) (ag_cP (ev_v 0) (ag_cP (ev_v 1) (ag_cP (ev_v 2) (ag_cP (ev_v 3) (ag_cP (ev_v 5) ag_n)))))))) (rb_last (rs_ret rfl ev_bl .nil)) (bk_nil (s := ()) (.same (.same (.same (.same (.same (.drop (.refl)))))))) .nil) .nil) rfl) (.refl) .nil (hrt := ⟨_, rfl⟩)) (fun s6 => (rb_last (rs_ret rfl (ev_orB (ev_cP cm_gt (ev_lenP T.b_len (el_of (ev_v 4))) ev_int) (ev_one (ev_not (ev_callP (ok_law_given T) (hr.mono (by decide)) (ag_cP (ev_v 0) (ag_cP (ev_v 1) (ag_cP (ev_v 2) (ag_cP (ev_v 3) (ag_cP ev_int ag_n))))))))) .nil))))) rfl
theorem fn_law (T : Facts Z K mg) {f : Addr} {fd : FuncData} (F : Fun K "law" "law" s_law f fd) : FnOk P w K mg base (L2.CX P w) 11 f fd ["script"] (spM (K := K) mg (raC rScr raN) (rtF rBool) (fun a => m_law a.1)) := by
  refine df_fn F sc_law (sl_c sl_n) (fun _ => rfl) (by decide) (fun cdv A outer s H E hr C a => ?_)
  obtain ⟨script1, a⟩ := a; exact rb_ec (m' := m_law script1) (rb_cons (ns_set 1 C (ev_callP (ok_law_cell T) (hr.mono (by decide)) (ag_cP (ev_v 0) (ag_cP ev_int ag_n))) .nil) (fun cell2 => (rb_at (Γ' := [.va rScr script1, .va rInt cell2, .no, .no, .no, .no, .no, .no, .no, .no, .no, .no, .no, .no, .no, .no, .no, .no, .no]) rfl (rb_cons (ns_set 2 C (ev_ixL (el_nw (nw_lstP (r := rInt) (ah_cP ev_int (ah_cP ev_int (ah_cP ev_int (ah_cP ev_int (ah_cP ev_int (ah_cP ev_int (ah_cP ev_int (ah_cP ev_int ah_n)))))))))) (ev_modP (ev_v 1) ev_int)) .nil) (fun n5 => (rb_cons (ns_set 3 C (ev_mod (ev_add ev_int (ev_fdivP (ev_v 1) ev_int)) ev_int) .nil) (fun count10 => (rb_cons (ns_if (S := Int) (Γ' := fun s22 => [.va rScr script1, .va rInt cell2, .va rInt n5, .va rInt s22, .no, .no, .no, .no, .no, .no, .no, .no, .no, .no, .no, .no, .no, .no, .no]) (tt_c cm_eqI (ev_mod (ev_fdivP (ev_v 1) ev_int) ev_int) ev_int) (nb_one (ns_set 3 C (ev_sub ev_int (ev_mod (ev_fdivP (ev_v 1) ev_int) ev_int)) .nil) (fun count33 => .refl)) (nb_nil (s := count10) (.refl)) .nil) (fun s22 => (rb_at (Γ' := [.va rScr script1, .va rInt cell2, .va rInt n5, .va rInt s22, .no, .no, .no, .no, .no, .no, .no, .no, .no, .no, .no, .no, .no, .no, .no]) rfl (rb_cons (ns_set 4 C (ev_mod (ev_add ev_int (ev_callP (ok_law_cell T) (hr.mono (by decide)) (ag_cP (ev_v 0) (ag_cP ev_int ag_n)))) ev_int) .nil) (fun more39 => (rb_cons (ns_set 5 C (ev_callP (ok_law_facts T) (hr.mono (by decide)) (ag_cP (ev_v 0) (ag_cP (ev_v 2) ag_n))) .nil) (fun facts40 => (rb_cons (ns_set 6 C (ev_callP (ok_law_rules T) (hr.mono (by decide)) (ag_cP (ev_v 0) (ag_cP (ev_v 2) (ag_cP (ev_addP (ev_v 3) (ev_v 4)) (ag_cP (ev_v 5) ag_n))))) .nil) (fun every41 => (rb_at (Γ' := [.va rScr script1, .va rInt cell2, .va rInt n5, .va rInt s22, .va rInt more39, .va rInt facts40, .va (rList (rTup2 rInt rInt)) every41, .no, .no, .no, .no, .no, .no, .no, .no, .no, .no, .no, .no]) rfl (rb_cons (ns_set 7 C (ev_nw (nw_slLP (el_of (ev_v 6)) po_n (po_sP (ev_v 3)))) .nil) (fun rules42 => (rb_cons (ns_set 8 C (ev_ixL (el_nw (nw_lstP (r := rStr) (ah_cP ev_str (ah_cP ev_str (ah_cP ev_str (ah_cP ev_str ah_n)))))) (ev_mod (ev_callP (ok_law_cell T) (hr.mono (by decide)) (ag_cP (ev_v 0) (ag_cP ev_int ag_n))) ev_int)) .nil) (fun manner47 => (rb_cons (ns_set 9 C (ev_callP (ok_law_wanted T) (hr.mono (by decide)) (ag_cP (ev_v 0) (ag_cP ev_int (ag_cP (ev_v 2) (ag_cP (ev_v 7) (ag_cP (ev_v 5) (ag_cP (ev_v 8) ag_n))))))) .nil) (fun claim48 => (rb_at (Γ' := [.va rScr script1, .va rInt cell2, .va rInt n5, .va rInt s22, .va rInt more39, .va rInt facts40, .va (rList (rTup2 rInt rInt)) every41, .va (rList (rTup2 rInt rInt)) rules42, .va rStr manner47, .va rInt claim48, .no, .no, .no, .no, .no, .no, .no, .no, .no]) rfl (rb_cons (ns_set 10 C (ev_callP (ok_law_limit T) (hr.mono (by decide)) (ag_cP (ev_v 0) (ag_cP ev_int (ag_cP (ev_v 2) (ag_cP (ev_v 5) ag_n))))) .nil) (fun limit49 => (rb_cons (ns_set 11 C (ev_no (no_makeP (ok_Book___init T) T.mg_Book (hr.mono (by decide)) (ag_cP (ev_v 2) (ag_cP (ev_nw (nw_list T.b_list (el_of (ev_v 7)))) ag_n)))) .nil) (fun book50 => (rb_cons (ns_set 12 C (ev_no (no_makeP (ok_Book___init T) T.mg_Book (hr.mono (by decide)) (ag_cP (ev_v 2) (ag_cP (ev_nw (nw_list T.b_list (el_of (ev_v 6)))) ag_n)))) .nil) (fun greater51 => (rb_at (Γ' := [.va rScr script1, .va rInt cell2, .va rInt n5, .va rInt s22, .va rInt more39, .va rInt facts40, .va (rList (rTup2 rInt rInt)) every41, .va (rList (rTup2 rInt rInt)) rules42, .va rStr manner47, .va rInt claim48, .va rInt limit49, .va (rObj Z.c_Book (rfC "n" rInt (rfC "rules" (rVTup (rTup2 rInt rInt)) rfN))) book50, .va (rObj Z.c_Book (rfC "n" rInt (rfC "rules" (rVTup (rTup2 rInt rInt)) rfN))) greater51, .no, .no, .no, .no, .no, .no]) rfl (rb_cons (ns_set 13 C (ev_sub (ev_shl ev_int (ev_shlP ev_int (ev_v 2))) ev_int) .nil) (fun top56 => (rb_ifr (tt_not (tt_val (ev_call (ok_law_same_l T) (hr.mono (by decide)) (ag_c (ev_callK0 (ok_greatest_facts T) (sn_c (sn_c (sn_c sn_n))) (hr.mono (by decide)) (ag_cP (ev_v 11) (ag_cP (ev_v 9) (ag_cP (ev_v 8) ag_n)))) (ag_c (ev_callP (ok_law_single T) (hr.mono (by decide)) (ag_cP (ev_v 2) (ag_cP (ev_v 7) (ag_cP (ev_v 9) (ag_cP (ev_v 8) (ag_cP (ev_v 13) ag_n)))))) ag_n))))) (rb_last (rs_ret rfl ev_bl .nil)) (rb_ifr (tt_not (tt_val (ev_call (ok_law_same_l T) (hr.mono (by decide)) (ag_c (ev_callK0 (ok_greatest_facts T) (sn_c (sn_c (sn_c sn_n))) (hr.mono (by decide)) (ag_cP (ev_v 12) (ag_cP (ev_v 9) (ag_cP (ev_v 8) ag_n)))) (ag_c (ev_callP (ok_law_single T) (hr.mono (by decide)) (ag_cP (ev_v 2) (ag_cP (ev_v 6) (ag_cP (ev_v 9) (ag_cP (ev_v 8) (ag_cP (ev_v 13) ag_n)))))) ag_n))))) (rb_last (rs_ret rfl ev_bl .nil)) (rb_ifr (tt_not (tt_val (ev_call (ok_law_same_l T) (hr.mono (by decide)) (ag_c (ev_callK1 (ok_greatest_facts T) (sn_c (sn_c (sn_c sn_n))) (len_c (len_c (len_c len_n))) (hr.mono (by decide)) (ag_cP (ev_v 11) (ag_cP (ev_v 9) (ag_cP (ev_v 8) ag_n))) (ev_conv some (some_rep nn_int) (ev_v 10))) (ag_c (ev_callP (ok_law_single T) (hr.mono (by decide)) (ag_cP (ev_v 2) (ag_cP (ev_v 7) (ag_cP (ev_v 9) (ag_cP (ev_v 8) (ag_cP (ev_v 10) ag_n)))))) ag_n))))) (rb_last (rs_ret rfl ev_bl .nil)) (rb_ifr (tt_not (tt_val (ev_call (ok_law_same_l T) (hr.mono (by decide)) (ag_c (ev_callK1 (ok_greatest_facts T) (sn_c (sn_c (sn_c sn_n))) (len_c (len_c (len_c len_n))) (hr.mono (by decide)) (ag_cP (ev_v 12) (ag_cP (ev_v 9) (ag_cP (ev_v 8) ag_n))) (ev_conv some (some_rep nn_int) (ev_v 10))) (ag_c (ev_callP (ok_law_single T) (hr.mono (by decide)) (ag_cP (ev_v 2) (ag_cP (ev_v 6) (ag_cP (ev_v 9) (ag_cP (ev_v 8) (ag_cP (ev_v 10) ag_n)))))) ag_n))))) (rb_last (rs_ret rfl ev_bl .nil)) (rb_cons (ns_set 14 C (ev_call (ok_law_manner T) (hr.mono (by decide)) (ag_c (ev_fdiv (ev_callP (ok_law_cell T) (hr.mono (by decide)) (ag_cP (ev_v 0) (ag_cP ev_int ag_n))) ev_int) ag_n)) .nil) (fun other102 => (rb_cons (ns_set 15 C (ev_callK0 (ok_greatest_facts T) (sn_c (sn_c (sn_c sn_n))) (hr.mono (by decide)) (ag_cP (ev_v 11) (ag_cP (ev_v 9) (ag_cP (ev_v 14) ag_n)))) .nil) (fun before103 => (rb_at (Γ' := [.va rScr script1, .va rInt cell2, .va rInt n5, .va rInt s22, .va rInt more39, .va rInt facts40, .va (rList (rTup2 rInt rInt)) every41, .va (rList (rTup2 rInt rInt)) rules42, .va rStr manner47, .va rInt claim48, .va rInt limit49, .va (rObj Z.c_Book (rfC "n" rInt (rfC "rules" (rVTup (rTup2 rInt rInt)) rfN))) book50, .va (rObj Z.c_Book (rfC "n" rInt (rfC "rules" (rVTup (rTup2 rInt rInt)) rfN))) greater51, .va rInt top56, .va rStr other102, .va (rList rInt) before103, .no, .no, .no]) rfl (rb_cons (ns_set 16 C (ev_callK0 (ok_greatest_facts T) (sn_c (sn_c (sn_c sn_n))) (hr.mono (by decide)) (ag_cP (ev_v 12) (ag_cP (ev_v 9) (ag_cP (ev_v 14) ag_n)))) .nil) (fun after104 => (rb_ifr (tw_t (tw_or (tt_not (tt_val (ev_callP (ok_law_right T) (hr.mono (by decide)) (ag_cP (ev_v 2) (ag_cP (ev_v 7) (ag_cP (ev_v 9) (ag_cP (ev_v 14) (ag_cP (ev_v 15) ag_n)))))))) (tw_or1 (tt_not (tt_val (ev_callP (ok_law_right T) (hr.mono (by decide)) (ag_cP (ev_v 2) (ag_cP (ev_v 6) (ag_cP (ev_v 9) (ag_cP (ev_v 14) (ag_cP (ev_v 16) ag_n))))))))))) (rb_last (rs_ret rfl ev_bl .nil)) (rb_last (rs_ret rfl (ev_all C.calm T.b_all (el_nw (nw_mapP (Γt := (fun x105 => [.va rScr script1, .va rInt cell2, .va rInt n5, .va rInt s22, .va rInt more39, .va rInt facts40, .va (rList (rTup2 rInt rInt)) every41, .va (rList (rTup2 rInt rInt)) rules42, .va rStr manner47, .va rInt claim48, .va rInt limit49, .va (rObj Z.c_Book (rfC "n" rInt (rfC "rules" (rVTup (rTup2 rInt rInt)) rfN))) book50, .va (rObj Z.c_Book (rfC "n" rInt (rfC "rules" (rVTup (rTup2 rInt rInt)) rfN))) greater51, .va rInt top56, .va rStr other102, .va (rList rInt) before103, .va (rList rInt) after104, .va rInt x105, .no])) (f := fun x105 => M.bind (M.bind (M.map (fun x106 => .ok (decide (Builtin.bitAnd x105 x106 = x105))) after104) fun ys107 => M.grd (lenOk ys107.length) (.ok ys107)) fun t108 => .ok (t108.any id)) C (blkOk_by (N := N_law) (sc := defScope s_law) (own := [(("one" : Str), 17)]) (by decide +kernel)) (iv_l (ev_v 15)) (fun _ _ _ _ _ => (tg_n 17 (Cok.blk C _ _ _ _ _ _))) (fun _ _ _ _ _ x105 => ev_ec (ev_any (Cok.blk C _ _ _ _ _ _).calm T.b_any (el_nw (nw_mapP (Γt := (fun x106 => [.va rScr script1, .va rInt cell2, .va rInt n5, .va rInt s22, .va rInt more39, .va rInt facts40, .va (rList (rTup2 rInt rInt)) every41, .va (rList (rTup2 rInt rInt)) rules42, .va rStr manner47, .va rInt claim48, .va rInt limit49, .va (rObj Z.c_Book (rfC "n" rInt (rfC "rules" (rVTup (rTup2 rInt rInt)) rfN))) book50, .va (rObj Z.c_Book (rfC "n" rInt (rfC "rules" (rVTup (rTup2 rInt rInt)) rfN))) greater51, .va rInt top56, .va rStr other102, .va (rList rInt) before103, .va (rList rInt) after104, .va rInt x105, .va rInt x106])) (f := fun x106 => .ok (decide (Builtin.bitAnd x105 x106 = x105))) (Cok.blk C _ _ _ _ _ _) (blkOk_by (N := N_law) (sc := relS _ (defScope s_law)) (own := [(("wider" : Str), 18)]) (by decide +kernel)) (iv_l (ev_v 16)) (fun _ _ _ _ _ => (tg_n 18 (Cok.blk (Cok.blk C _ _ _ _ _ _) _ _ _ _ _ _))) (fun _ _ _ _ _ x106 => ev_ec (ev_cP cm_eqI (ev_andP2 (ev_v 17) (ev_v 18)) (ev_v 17)) rfl)))) rfl)))) .nil)) .nil)))))))) .nil) .nil) .nil) .nil)))))))))))))))))))))))))))))))))) rfl
end
theorem facts_mk {K : PySem.W.Frag} {h : Heap} {mg : Str → Option Value}
    {gt_MANNERS : Addr} {gd_MANNERS : Option Addr} {gs_MANNERS : Array (Option Value)} {gn_MANNERS : Nat} {gi_MANNERS : Array Value} {gk_MANNERS_0 gk_MANNERS_1 gk_MANNERS_2 gk_MANNERS_3 gk_MANNERS_4 gk_MANNERS_5 gk_MANNERS_6 gk_MANNERS_7 : Tok}
    {gk_LETTER_LIMIT : Tok}
    {C_Book : Addr}
    {tk_Book_MOST_LETTERS : Tok}
    {tk_Book_MOST_RULES : Tok}
    {f_it_Book : Addr} {od_it_Book an_it_Book : Option Addr} {sl_it_Book : Array (Option Value)} {oc_it_Book kV_it_Book dc_it_Book pm_it_Book cd_it_Book ct_it_Book : Value}
    {f_everything : Addr} {od_everything an_everything : Option Addr} {sl_everything : Array (Option Value)} {oc_everything kV_everything dc_everything pm_everything cd_everything ct_everything : Value}
    {f_worlds_of : Addr} {od_worlds_of an_worlds_of : Option Addr} {sl_worlds_of : Array (Option Value)} {oc_worlds_of kV_worlds_of dc_worlds_of pm_worlds_of cd_worlds_of ct_worlds_of : Value}
    {f_within : Addr} {od_within an_within : Option Addr} {sl_within : Array (Option Value)} {oc_within kV_within dc_within pm_within cd_within ct_within : Value}
    {f_is_prop : Addr} {od_is_prop an_is_prop : Option Addr} {sl_is_prop : Array (Option Value)} {oc_is_prop kV_is_prop dc_is_prop pm_is_prop cd_is_prop ct_is_prop : Value}
    {f_switches : Addr} {od_switches an_switches : Option Addr} {sl_switches : Array (Option Value)} {oc_switches kV_switches dc_switches pm_switches cd_switches ct_switches : Value}
    {f_meet_heads : Addr} {od_meet_heads an_meet_heads : Option Addr} {sl_meet_heads : Array (Option Value)} {oc_meet_heads kV_meet_heads dc_meet_heads pm_meet_heads cd_meet_heads ct_meet_heads : Value}
    {f_is_stable : Addr} {od_is_stable an_is_stable : Option Addr} {sl_is_stable : Array (Option Value)} {oc_is_stable kV_is_stable dc_is_stable pm_is_stable cd_is_stable ct_is_stable : Value}
    {f_output : Addr} {od_output an_output : Option Addr} {sl_output : Array (Option Value)} {oc_output kV_output dc_output pm_output cd_output ct_output : Value}
    {f_steps : Addr} {od_steps an_steps : Option Addr} {sl_steps : Array (Option Value)} {oc_steps kV_steps dc_steps pm_steps cd_steps ct_steps : Value}
    {f_settle : Addr} {od_settle an_settle : Option Addr} {sl_settle : Array (Option Value)} {oc_settle kV_settle dc_settle pm_settle cd_settle ct_settle : Value}
    {f_due : Addr} {od_due an_due : Option Addr} {sl_due : Array (Option Value)} {oc_due kV_due dc_due pm_due cd_due ct_due : Value}
    {f_Book___init : Addr} {od_Book___init an_Book___init : Option Addr} {sl_Book___init : Array (Option Value)} {oc_Book___init kV_Book___init dc_Book___init pm_Book___init cd_Book___init ct_Book___init : Value}
    {f_is_due : Addr} {od_is_due an_is_due : Option Addr} {sl_is_due : Array (Option Value)} {oc_is_due kV_is_due dc_is_due pm_is_due cd_is_due ct_is_due : Value}
    {f_greatest_facts : Addr} {od_greatest_facts an_greatest_facts : Option Addr} {sl_greatest_facts : Array (Option Value)} {oc_greatest_facts dc_greatest_facts pm_greatest_facts cd_greatest_facts ct_greatest_facts : Value}
    {kd_greatest_facts : Addr}
    {f_law_cell : Addr} {od_law_cell an_law_cell : Option Addr} {sl_law_cell : Array (Option Value)} {oc_law_cell kV_law_cell dc_law_cell pm_law_cell cd_law_cell ct_law_cell : Value}
    {f_law_numbers : Addr} {od_law_numbers an_law_numbers : Option Addr} {sl_law_numbers : Array (Option Value)} {oc_law_numbers kV_law_numbers dc_law_numbers pm_law_numbers cd_law_numbers ct_law_numbers : Value}
    {f_law_same : Addr} {od_law_same an_law_same : Option Addr} {sl_law_same : Array (Option Value)} {oc_law_same kV_law_same dc_law_same pm_law_same cd_law_same ct_law_same : Value}
    {f_law_by_cases : Addr} {od_law_by_cases an_law_by_cases : Option Addr} {sl_law_by_cases : Array (Option Value)} {oc_law_by_cases kV_law_by_cases dc_law_by_cases pm_law_by_cases cd_law_by_cases ct_law_by_cases : Value}
    {f_law_in_steps : Addr} {od_law_in_steps an_law_in_steps : Option Addr} {sl_law_in_steps : Array (Option Value)} {oc_law_in_steps kV_law_in_steps dc_law_in_steps pm_law_in_steps cd_law_in_steps ct_law_in_steps : Value}
    {f_law_meet : Addr} {od_law_meet an_law_meet : Option Addr} {sl_law_meet : Array (Option Value)} {oc_law_meet kV_law_meet dc_law_meet pm_law_meet cd_law_meet ct_law_meet : Value}
    {f_law_due : Addr} {od_law_due an_law_due : Option Addr} {sl_law_due : Array (Option Value)} {oc_law_due kV_law_due dc_law_due pm_law_due cd_law_due ct_law_due : Value}
    {f_law_facts : Addr} {od_law_facts an_law_facts : Option Addr} {sl_law_facts : Array (Option Value)} {oc_law_facts kV_law_facts dc_law_facts pm_law_facts cd_law_facts ct_law_facts : Value}
    {f_law_rules : Addr} {od_law_rules an_law_rules : Option Addr} {sl_law_rules : Array (Option Value)} {oc_law_rules kV_law_rules dc_law_rules pm_law_rules cd_law_rules ct_law_rules : Value}
    {f_law_wanted : Addr} {od_law_wanted an_law_wanted : Option Addr} {sl_law_wanted : Array (Option Value)} {oc_law_wanted kV_law_wanted dc_law_wanted pm_law_wanted cd_law_wanted ct_law_wanted : Value}
    {f_law_manner : Addr} {od_law_manner an_law_manner : Option Addr} {sl_law_manner : Array (Option Value)} {oc_law_manner kV_law_manner dc_law_manner pm_law_manner cd_law_manner ct_law_manner : Value}
    {f_law_limit : Addr} {od_law_limit an_law_limit : Option Addr} {sl_law_limit : Array (Option Value)} {oc_law_limit kV_law_limit dc_law_limit pm_law_limit cd_law_limit ct_law_limit : Value}
    {f_law_given : Addr} {od_law_given an_law_given : Option Addr} {sl_law_given : Array (Option Value)} {oc_law_given kV_law_given dc_law_given pm_law_given cd_law_given ct_law_given : Value}
    {f_law_single : Addr} {od_law_single an_law_single : Option Addr} {sl_law_single : Array (Option Value)} {oc_law_single kV_law_single dc_law_single pm_law_single cd_law_single ct_law_single : Value}
    {f_law_right : Addr} {od_law_right an_law_right : Option Addr} {sl_law_right : Array (Option Value)} {oc_law_right kV_law_right dc_law_right pm_law_right cd_law_right ct_law_right : Value}
    {f_law : Addr} {od_law an_law : Option Addr} {sl_law : Array (Option Value)} {oc_law kV_law dc_law pm_law cd_law ct_law : Value} (X : K.In h) (G : h.Ns mainGlobals mg)
    (zb_abs : PySem.W.nsIn K mainGlobals "abs" = some none)
    (zb_all : PySem.W.nsIn K mainGlobals "all" = some none)
    (zb_any : PySem.W.nsIn K mainGlobals "any" = some none)
    (zb_bool : PySem.W.nsIn K mainGlobals "bool" = some none)
    (zb_enumerate : PySem.W.nsIn K mainGlobals "enumerate" = some none)
    (zb_int : PySem.W.nsIn K mainGlobals "int" = some none)
    (zb_isinstance : PySem.W.nsIn K mainGlobals "isinstance" = some none)
    (zb_iter : PySem.W.nsIn K mainGlobals "iter" = some none)
    (zb_len : PySem.W.nsIn K mainGlobals "len" = some none)
    (zb_list : PySem.W.nsIn K mainGlobals "list" = some none)
    (zb_max : PySem.W.nsIn K mainGlobals "max" = some none)
    (zb_range : PySem.W.nsIn K mainGlobals "range" = some none)
    (zb_reversed : PySem.W.nsIn K mainGlobals "reversed" = some none)
    (zb_sorted : PySem.W.nsIn K mainGlobals "sorted" = some none)
    (zb_str : PySem.W.nsIn K mainGlobals "str" = some none)
    (zb_sum : PySem.W.nsIn K mainGlobals "sum" = some none)
    (zb_tuple : PySem.W.nsIn K mainGlobals "tuple" = some none)
    (ga_MANNERS : PySem.W.nsIn K mainGlobals "MANNERS" = some (some (.ref gt_MANNERS)))
    (gl_MANNERS : K.lookup gt_MANNERS = some ⟨.type "tuple", gd_MANNERS, .seq gi_MANNERS gn_MANNERS, gs_MANNERS⟩)
    (gv_MANNERS : gi_MANNERS.toList = [.str "once" gk_MANNERS_0, .str "cases" gk_MANNERS_1, .str "steps" gk_MANNERS_2, .str "both" gk_MANNERS_3, .str "once+" gk_MANNERS_4, .str "cases+" gk_MANNERS_5, .str "steps+" gk_MANNERS_6, .str "both+" gk_MANNERS_7])
    (ga_LETTER_LIMIT : PySem.W.nsIn K mainGlobals "LETTER_LIMIT" = some (some (.int 3 gk_LETTER_LIMIT)))
    (aC_Book : PySem.W.nsIn K mainGlobals "Book" = some (some (.ref C_Book)))
    (pg_Book : PySem.W.plainGet K C_Book Str.empty = true)
    (hd_Book : PySem.W.hasDictIn K C_Book = true)
    (po_Book : PySem.W.plainOver K C_Book = true)
    (sa_Book : PySem.W.findIn K (.ref C_Book) "__setattr__" = some (some (.builtin "object.__setattr__")))
    (nf_Book_n : PySem.W.findIn K (.ref C_Book) "n" = some none)
    (nf_Book_rules : PySem.W.findIn K (.ref C_Book) "rules" = some none)
    (cr1_Book : PySem.W.readsIn K C_Book (.type "type") = true)
    (cr2_Book : PySem.W.specialIn K (.ref C_Book) "__getattribute__" = some (some (.builtin "type.__getattribute__")))
    (ck_Book_MOST_LETTERS : PySem.W.findCls K (.ref C_Book) (.type "type") "MOST_LETTERS" = some (.val (.int 4 tk_Book_MOST_LETTERS)))
    (ck_Book_MOST_RULES : PySem.W.findCls K (.ref C_Book) (.type "type") "MOST_RULES" = some (.val (.int 16 tk_Book_MOST_RULES)))
    (nl1_Book : PySem.W.findIn K (.ref C_Book) "__len__" = some none)
    (nl2_Book : PySem.W.findIn K (.ref C_Book) "__length_hint__" = some none)
    (a_it_Book : PySem.W.findIn K (.ref C_Book) "__iter__" = some (some (.ref f_it_Book)))
    (i_it_Book : PySem.W.isFn K (.ref f_it_Book) = true)
    (l_it_Book : K.lookup f_it_Book = some ⟨oc_it_Book, od_it_Book, .func (PySem.W.fnOf "__iter__" "Book.__iter__" (defArgs s_it_Book) (defBody s_it_Book) (defScope s_it_Book) .none kV_it_Book dc_it_Book pm_it_Book an_it_Book cd_it_Book ct_it_Book), sl_it_Book⟩)
    (c_it_Book : PySem.W.codeIn K cd_it_Book "Book.__iter__" = true)
    (k_it_Book : PySem.W.keepIn K (.ref f_it_Book) = true)
    (a_everything : PySem.W.nsIn K mainGlobals "everything" = some (some (.ref f_everything)))
    (l_everything : K.lookup f_everything = some ⟨oc_everything, od_everything, .func (PySem.W.fnOf "everything" "everything" (defArgs s_everything) (defBody s_everything) (defScope s_everything) .none kV_everything dc_everything pm_everything an_everything cd_everything ct_everything), sl_everything⟩)
    (c_everything : PySem.W.codeIn K cd_everything "everything" = true)
    (k_everything : PySem.W.keepIn K (.ref f_everything) = true)
    (a_worlds_of : PySem.W.nsIn K mainGlobals "worlds_of" = some (some (.ref f_worlds_of)))
    (l_worlds_of : K.lookup f_worlds_of = some ⟨oc_worlds_of, od_worlds_of, .func (PySem.W.fnOf "worlds_of" "worlds_of" (defArgs s_worlds_of) (defBody s_worlds_of) (defScope s_worlds_of) .none kV_worlds_of dc_worlds_of pm_worlds_of an_worlds_of cd_worlds_of ct_worlds_of), sl_worlds_of⟩)
    (c_worlds_of : PySem.W.codeIn K cd_worlds_of "worlds_of" = true)
    (k_worlds_of : PySem.W.keepIn K (.ref f_worlds_of) = true)
    (a_within : PySem.W.nsIn K mainGlobals "within" = some (some (.ref f_within)))
    (l_within : K.lookup f_within = some ⟨oc_within, od_within, .func (PySem.W.fnOf "within" "within" (defArgs s_within) (defBody s_within) (defScope s_within) .none kV_within dc_within pm_within an_within cd_within ct_within), sl_within⟩)
    (c_within : PySem.W.codeIn K cd_within "within" = true)
    (k_within : PySem.W.keepIn K (.ref f_within) = true)
    (a_is_prop : PySem.W.nsIn K mainGlobals "is_prop" = some (some (.ref f_is_prop)))
    (l_is_prop : K.lookup f_is_prop = some ⟨oc_is_prop, od_is_prop, .func (PySem.W.fnOf "is_prop" "is_prop" (defArgs s_is_prop) (defBody s_is_prop) (defScope s_is_prop) .none kV_is_prop dc_is_prop pm_is_prop an_is_prop cd_is_prop ct_is_prop), sl_is_prop⟩)
    (c_is_prop : PySem.W.codeIn K cd_is_prop "is_prop" = true)
    (k_is_prop : PySem.W.keepIn K (.ref f_is_prop) = true)
    (a_switches : PySem.W.nsIn K mainGlobals "switches" = some (some (.ref f_switches)))
    (l_switches : K.lookup f_switches = some ⟨oc_switches, od_switches, .func (PySem.W.fnOf "switches" "switches" (defArgs s_switches) (defBody s_switches) (defScope s_switches) .none kV_switches dc_switches pm_switches an_switches cd_switches ct_switches), sl_switches⟩)
    (c_switches : PySem.W.codeIn K cd_switches "switches" = true)
    (k_switches : PySem.W.keepIn K (.ref f_switches) = true)
    (a_meet_heads : PySem.W.nsIn K mainGlobals "meet_heads" = some (some (.ref f_meet_heads)))
    (l_meet_heads : K.lookup f_meet_heads = some ⟨oc_meet_heads, od_meet_heads, .func (PySem.W.fnOf "meet_heads" "meet_heads" (defArgs s_meet_heads) (defBody s_meet_heads) (defScope s_meet_heads) .none kV_meet_heads dc_meet_heads pm_meet_heads an_meet_heads cd_meet_heads ct_meet_heads), sl_meet_heads⟩)
    (c_meet_heads : PySem.W.codeIn K cd_meet_heads "meet_heads" = true)
    (k_meet_heads : PySem.W.keepIn K (.ref f_meet_heads) = true)
    (a_is_stable : PySem.W.nsIn K mainGlobals "is_stable" = some (some (.ref f_is_stable)))
    (l_is_stable : K.lookup f_is_stable = some ⟨oc_is_stable, od_is_stable, .func (PySem.W.fnOf "is_stable" "is_stable" (defArgs s_is_stable) (defBody s_is_stable) (defScope s_is_stable) .none kV_is_stable dc_is_stable pm_is_stable an_is_stable cd_is_stable ct_is_stable), sl_is_stable⟩)
    (c_is_stable : PySem.W.codeIn K cd_is_stable "is_stable" = true)
    (k_is_stable : PySem.W.keepIn K (.ref f_is_stable) = true)
    (a_output : PySem.W.nsIn K mainGlobals "output" = some (some (.ref f_output)))
    (l_output : K.lookup f_output = some ⟨oc_output, od_output, .func (PySem.W.fnOf "output" "output" (defArgs s_output) (defBody s_output) (defScope s_output) .none kV_output dc_output pm_output an_output cd_output ct_output), sl_output⟩)
    (c_output : PySem.W.codeIn K cd_output "output" = true)
    (k_output : PySem.W.keepIn K (.ref f_output) = true)
    (a_steps : PySem.W.nsIn K mainGlobals "steps" = some (some (.ref f_steps)))
    (l_steps : K.lookup f_steps = some ⟨oc_steps, od_steps, .func (PySem.W.fnOf "steps" "steps" (defArgs s_steps) (defBody s_steps) (defScope s_steps) .none kV_steps dc_steps pm_steps an_steps cd_steps ct_steps), sl_steps⟩)
    (c_steps : PySem.W.codeIn K cd_steps "steps" = true)
    (k_steps : PySem.W.keepIn K (.ref f_steps) = true)
    (a_settle : PySem.W.nsIn K mainGlobals "settle" = some (some (.ref f_settle)))
    (l_settle : K.lookup f_settle = some ⟨oc_settle, od_settle, .func (PySem.W.fnOf "settle" "settle" (defArgs s_settle) (defBody s_settle) (defScope s_settle) .none kV_settle dc_settle pm_settle an_settle cd_settle ct_settle), sl_settle⟩)
    (c_settle : PySem.W.codeIn K cd_settle "settle" = true)
    (k_settle : PySem.W.keepIn K (.ref f_settle) = true)
    (a_due : PySem.W.nsIn K mainGlobals "due" = some (some (.ref f_due)))
    (l_due : K.lookup f_due = some ⟨oc_due, od_due, .func (PySem.W.fnOf "due" "due" (defArgs s_due) (defBody s_due) (defScope s_due) .none kV_due dc_due pm_due an_due cd_due ct_due), sl_due⟩)
    (c_due : PySem.W.codeIn K cd_due "due" = true)
    (k_due : PySem.W.keepIn K (.ref f_due) = true)
    (a_Book___init : PySem.W.findIn K (.ref C_Book) "__init__" = some (some (.ref f_Book___init)))
    (i_Book___init : PySem.W.isFn K (.ref f_Book___init) = true)
    (l_Book___init : K.lookup f_Book___init = some ⟨oc_Book___init, od_Book___init, .func (PySem.W.fnOf "__init__" "Book.__init__" (defArgs s_Book___init) (defBody s_Book___init) (defScope s_Book___init) .none kV_Book___init dc_Book___init pm_Book___init an_Book___init cd_Book___init ct_Book___init), sl_Book___init⟩)
    (c_Book___init : PySem.W.codeIn K cd_Book___init "Book.__init__" = true)
    (k_Book___init : PySem.W.keepIn K (.ref f_Book___init) = true)
    (mk_Book : PySem.W.makesIn K C_Book = true)
    (kc_Book : PySem.W.keepIn K (.ref C_Book) = true)
    (a_is_due : PySem.W.nsIn K mainGlobals "is_due" = some (some (.ref f_is_due)))
    (l_is_due : K.lookup f_is_due = some ⟨oc_is_due, od_is_due, .func (PySem.W.fnOf "is_due" "is_due" (defArgs s_is_due) (defBody s_is_due) (defScope s_is_due) .none kV_is_due dc_is_due pm_is_due an_is_due cd_is_due ct_is_due), sl_is_due⟩)
    (c_is_due : PySem.W.codeIn K cd_is_due "is_due" = true)
    (k_is_due : PySem.W.keepIn K (.ref f_is_due) = true)
    (a_greatest_facts : PySem.W.nsIn K mainGlobals "greatest_facts" = some (some (.ref f_greatest_facts)))
    (l_greatest_facts : K.lookup f_greatest_facts = some ⟨oc_greatest_facts, od_greatest_facts, .func (PySem.W.fnOf "greatest_facts" "greatest_facts" (defArgs s_greatest_facts) (defBody s_greatest_facts) (defScope s_greatest_facts) .none (.ref kd_greatest_facts) dc_greatest_facts pm_greatest_facts an_greatest_facts cd_greatest_facts ct_greatest_facts), sl_greatest_facts⟩)
    (d_greatest_facts : PySem.W.nsIn K kd_greatest_facts "inside" = some (some .none))
    (c_greatest_facts : PySem.W.codeIn K cd_greatest_facts "greatest_facts" = true)
    (k_greatest_facts : PySem.W.keepIn K (.ref f_greatest_facts) = true)
    (a_law_cell : PySem.W.nsIn K mainGlobals "_law_cell" = some (some (.ref f_law_cell)))
    (l_law_cell : K.lookup f_law_cell = some ⟨oc_law_cell, od_law_cell, .func (PySem.W.fnOf "_law_cell" "_law_cell" (defArgs s_law_cell) (defBody s_law_cell) (defScope s_law_cell) .none kV_law_cell dc_law_cell pm_law_cell an_law_cell cd_law_cell ct_law_cell), sl_law_cell⟩)
    (c_law_cell : PySem.W.codeIn K cd_law_cell "_law_cell" = true)
    (k_law_cell : PySem.W.keepIn K (.ref f_law_cell) = true)
    (a_law_numbers : PySem.W.nsIn K mainGlobals "_law_numbers" = some (some (.ref f_law_numbers)))
    (l_law_numbers : K.lookup f_law_numbers = some ⟨oc_law_numbers, od_law_numbers, .func (PySem.W.fnOf "_law_numbers" "_law_numbers" (defArgs s_law_numbers) (defBody s_law_numbers) (defScope s_law_numbers) .none kV_law_numbers dc_law_numbers pm_law_numbers an_law_numbers cd_law_numbers ct_law_numbers), sl_law_numbers⟩)
    (c_law_numbers : PySem.W.codeIn K cd_law_numbers "_law_numbers" = true)
    (k_law_numbers : PySem.W.keepIn K (.ref f_law_numbers) = true)
    (a_law_same : PySem.W.nsIn K mainGlobals "_law_same" = some (some (.ref f_law_same)))
    (l_law_same : K.lookup f_law_same = some ⟨oc_law_same, od_law_same, .func (PySem.W.fnOf "_law_same" "_law_same" (defArgs s_law_same) (defBody s_law_same) (defScope s_law_same) .none kV_law_same dc_law_same pm_law_same an_law_same cd_law_same ct_law_same), sl_law_same⟩)
    (c_law_same : PySem.W.codeIn K cd_law_same "_law_same" = true)
    (k_law_same : PySem.W.keepIn K (.ref f_law_same) = true)
    (a_law_by_cases : PySem.W.nsIn K mainGlobals "_law_by_cases" = some (some (.ref f_law_by_cases)))
    (l_law_by_cases : K.lookup f_law_by_cases = some ⟨oc_law_by_cases, od_law_by_cases, .func (PySem.W.fnOf "_law_by_cases" "_law_by_cases" (defArgs s_law_by_cases) (defBody s_law_by_cases) (defScope s_law_by_cases) .none kV_law_by_cases dc_law_by_cases pm_law_by_cases an_law_by_cases cd_law_by_cases ct_law_by_cases), sl_law_by_cases⟩)
    (c_law_by_cases : PySem.W.codeIn K cd_law_by_cases "_law_by_cases" = true)
    (k_law_by_cases : PySem.W.keepIn K (.ref f_law_by_cases) = true)
    (a_law_in_steps : PySem.W.nsIn K mainGlobals "_law_in_steps" = some (some (.ref f_law_in_steps)))
    (l_law_in_steps : K.lookup f_law_in_steps = some ⟨oc_law_in_steps, od_law_in_steps, .func (PySem.W.fnOf "_law_in_steps" "_law_in_steps" (defArgs s_law_in_steps) (defBody s_law_in_steps) (defScope s_law_in_steps) .none kV_law_in_steps dc_law_in_steps pm_law_in_steps an_law_in_steps cd_law_in_steps ct_law_in_steps), sl_law_in_steps⟩)
    (c_law_in_steps : PySem.W.codeIn K cd_law_in_steps "_law_in_steps" = true)
    (k_law_in_steps : PySem.W.keepIn K (.ref f_law_in_steps) = true)
    (a_law_meet : PySem.W.nsIn K mainGlobals "_law_meet" = some (some (.ref f_law_meet)))
    (l_law_meet : K.lookup f_law_meet = some ⟨oc_law_meet, od_law_meet, .func (PySem.W.fnOf "_law_meet" "_law_meet" (defArgs s_law_meet) (defBody s_law_meet) (defScope s_law_meet) .none kV_law_meet dc_law_meet pm_law_meet an_law_meet cd_law_meet ct_law_meet), sl_law_meet⟩)
    (c_law_meet : PySem.W.codeIn K cd_law_meet "_law_meet" = true)
    (k_law_meet : PySem.W.keepIn K (.ref f_law_meet) = true)
    (a_law_due : PySem.W.nsIn K mainGlobals "_law_due" = some (some (.ref f_law_due)))
    (l_law_due : K.lookup f_law_due = some ⟨oc_law_due, od_law_due, .func (PySem.W.fnOf "_law_due" "_law_due" (defArgs s_law_due) (defBody s_law_due) (defScope s_law_due) .none kV_law_due dc_law_due pm_law_due an_law_due cd_law_due ct_law_due), sl_law_due⟩)
    (c_law_due : PySem.W.codeIn K cd_law_due "_law_due" = true)
    (k_law_due : PySem.W.keepIn K (.ref f_law_due) = true)
    (a_law_facts : PySem.W.nsIn K mainGlobals "_law_facts" = some (some (.ref f_law_facts)))
    (l_law_facts : K.lookup f_law_facts = some ⟨oc_law_facts, od_law_facts, .func (PySem.W.fnOf "_law_facts" "_law_facts" (defArgs s_law_facts) (defBody s_law_facts) (defScope s_law_facts) .none kV_law_facts dc_law_facts pm_law_facts an_law_facts cd_law_facts ct_law_facts), sl_law_facts⟩)
    (c_law_facts : PySem.W.codeIn K cd_law_facts "_law_facts" = true)
    (k_law_facts : PySem.W.keepIn K (.ref f_law_facts) = true)
    (a_law_rules : PySem.W.nsIn K mainGlobals "_law_rules" = some (some (.ref f_law_rules)))
    (l_law_rules : K.lookup f_law_rules = some ⟨oc_law_rules, od_law_rules, .func (PySem.W.fnOf "_law_rules" "_law_rules" (defArgs s_law_rules) (defBody s_law_rules) (defScope s_law_rules) .none kV_law_rules dc_law_rules pm_law_rules an_law_rules cd_law_rules ct_law_rules), sl_law_rules⟩)
    (c_law_rules : PySem.W.codeIn K cd_law_rules "_law_rules" = true)
    (k_law_rules : PySem.W.keepIn K (.ref f_law_rules) = true)
    (a_law_wanted : PySem.W.nsIn K mainGlobals "_law_wanted" = some (some (.ref f_law_wanted)))
    (l_law_wanted : K.lookup f_law_wanted = some ⟨oc_law_wanted, od_law_wanted, .func (PySem.W.fnOf "_law_wanted" "_law_wanted" (defArgs s_law_wanted) (defBody s_law_wanted) (defScope s_law_wanted) .none kV_law_wanted dc_law_wanted pm_law_wanted an_law_wanted cd_law_wanted ct_law_wanted), sl_law_wanted⟩)
    (c_law_wanted : PySem.W.codeIn K cd_law_wanted "_law_wanted" = true)
    (k_law_wanted : PySem.W.keepIn K (.ref f_law_wanted) = true)
    (a_law_manner : PySem.W.nsIn K mainGlobals "_law_manner" = some (some (.ref f_law_manner)))
    (l_law_manner : K.lookup f_law_manner = some ⟨oc_law_manner, od_law_manner, .func (PySem.W.fnOf "_law_manner" "_law_manner" (defArgs s_law_manner) (defBody s_law_manner) (defScope s_law_manner) .none kV_law_manner dc_law_manner pm_law_manner an_law_manner cd_law_manner ct_law_manner), sl_law_manner⟩)
    (c_law_manner : PySem.W.codeIn K cd_law_manner "_law_manner" = true)
    (k_law_manner : PySem.W.keepIn K (.ref f_law_manner) = true)
    (a_law_limit : PySem.W.nsIn K mainGlobals "_law_limit" = some (some (.ref f_law_limit)))
    (l_law_limit : K.lookup f_law_limit = some ⟨oc_law_limit, od_law_limit, .func (PySem.W.fnOf "_law_limit" "_law_limit" (defArgs s_law_limit) (defBody s_law_limit) (defScope s_law_limit) .none kV_law_limit dc_law_limit pm_law_limit an_law_limit cd_law_limit ct_law_limit), sl_law_limit⟩)
    (c_law_limit : PySem.W.codeIn K cd_law_limit "_law_limit" = true)
    (k_law_limit : PySem.W.keepIn K (.ref f_law_limit) = true)
    (a_law_given : PySem.W.nsIn K mainGlobals "_law_given" = some (some (.ref f_law_given)))
    (l_law_given : K.lookup f_law_given = some ⟨oc_law_given, od_law_given, .func (PySem.W.fnOf "_law_given" "_law_given" (defArgs s_law_given) (defBody s_law_given) (defScope s_law_given) .none kV_law_given dc_law_given pm_law_given an_law_given cd_law_given ct_law_given), sl_law_given⟩)
    (c_law_given : PySem.W.codeIn K cd_law_given "_law_given" = true)
    (k_law_given : PySem.W.keepIn K (.ref f_law_given) = true)
    (a_law_single : PySem.W.nsIn K mainGlobals "_law_single" = some (some (.ref f_law_single)))
    (l_law_single : K.lookup f_law_single = some ⟨oc_law_single, od_law_single, .func (PySem.W.fnOf "_law_single" "_law_single" (defArgs s_law_single) (defBody s_law_single) (defScope s_law_single) .none kV_law_single dc_law_single pm_law_single an_law_single cd_law_single ct_law_single), sl_law_single⟩)
    (c_law_single : PySem.W.codeIn K cd_law_single "_law_single" = true)
    (k_law_single : PySem.W.keepIn K (.ref f_law_single) = true)
    (a_law_right : PySem.W.nsIn K mainGlobals "_law_right" = some (some (.ref f_law_right)))
    (l_law_right : K.lookup f_law_right = some ⟨oc_law_right, od_law_right, .func (PySem.W.fnOf "_law_right" "_law_right" (defArgs s_law_right) (defBody s_law_right) (defScope s_law_right) .none kV_law_right dc_law_right pm_law_right an_law_right cd_law_right ct_law_right), sl_law_right⟩)
    (c_law_right : PySem.W.codeIn K cd_law_right "_law_right" = true)
    (k_law_right : PySem.W.keepIn K (.ref f_law_right) = true)
    (a_law : PySem.W.nsIn K mainGlobals "law" = some (some (.ref f_law)))
    (l_law : K.lookup f_law = some ⟨oc_law, od_law, .func (PySem.W.fnOf "law" "law" (defArgs s_law) (defBody s_law) (defScope s_law) .none kV_law dc_law pm_law an_law cd_law ct_law), sl_law⟩)
    (c_law : PySem.W.codeIn K cd_law "law" = true)
    (k_law : PySem.W.keepIn K (.ref f_law) = true) : Facts ⟨(), C_Book⟩ K mg := by
  have F_it_Book := fun_mk (st := s_it_Book) l_it_Book c_it_Book k_it_Book
  have b_it_Book := F_it_Book.binds (ps := ["self"]) fun _ _ _ _ _ _ us hl => match us, hl with | [_], _ => rfl
  have F_everything := fun_mk (st := s_everything) l_everything c_everything k_everything
  have b_everything := F_everything.binds (ps := ["n"]) fun _ _ _ _ _ _ us hl => match us, hl with | [_], _ => rfl
  have F_worlds_of := fun_mk (st := s_worlds_of) l_worlds_of c_worlds_of k_worlds_of
  have b_worlds_of := F_worlds_of.binds (ps := ["prop"]) fun _ _ _ _ _ _ us hl => match us, hl with | [_], _ => rfl
  have F_within := fun_mk (st := s_within) l_within c_within k_within
  have b_within := F_within.binds (ps := ["first", "second"]) fun _ _ _ _ _ _ us hl => match us, hl with | [_, _], _ => rfl
  have F_is_prop := fun_mk (st := s_is_prop) l_is_prop c_is_prop k_is_prop
  have b_is_prop := F_is_prop.binds (ps := ["n", "prop"]) fun _ _ _ _ _ _ us hl => match us, hl with | [_, _], _ => rfl
  have F_switches := fun_mk (st := s_switches) l_switches c_switches k_switches
  have b_switches := F_switches.binds (ps := ["manner"]) fun _ _ _ _ _ _ us hl => match us, hl with | [_], _ => rfl
  have F_meet_heads := fun_mk (st := s_meet_heads) l_meet_heads c_meet_heads k_meet_heads
  have b_meet_heads := F_meet_heads.binds (ps := ["book", "case"]) fun _ _ _ _ _ _ us hl => match us, hl with | [_, _], _ => rfl
  have F_is_stable := fun_mk (st := s_is_stable) l_is_stable c_is_stable k_is_stable
  have b_is_stable := F_is_stable.binds (ps := ["book", "case"]) fun _ _ _ _ _ _ us hl => match us, hl with | [_, _], _ => rfl
  have F_output := fun_mk (st := s_output) l_output c_output k_output
  have b_output := F_output.binds (ps := ["book", "case", "manner"]) fun _ _ _ _ _ _ us hl => match us, hl with | [_, _, _], _ => rfl
  have F_steps := fun_mk (st := s_steps) l_steps c_steps k_steps
  have b_steps := F_steps.binds (ps := ["book", "facts"]) fun _ _ _ _ _ _ us hl => match us, hl with | [_, _], _ => rfl
  have F_settle := fun_mk (st := s_settle) l_settle c_settle k_settle
  have b_settle := F_settle.binds (ps := ["book", "facts"]) fun _ _ _ _ _ _ us hl => match us, hl with | [_, _], _ => rfl
  have F_due := fun_mk (st := s_due) l_due c_due k_due
  have b_due := F_due.binds (ps := ["book", "facts", "manner"]) fun _ _ _ _ _ _ us hl => match us, hl with | [_, _, _], _ => rfl
  have F_Book___init := fun_mk (st := s_Book___init) l_Book___init c_Book___init k_Book___init
  have b_Book___init := F_Book___init.binds (ps := ["self", "n", "rules"]) fun _ _ _ _ _ _ us hl => match us, hl with | [_, _, _], _ => rfl
  have F_is_due := fun_mk (st := s_is_due) l_is_due c_is_due k_is_due
  have b_is_due := F_is_due.binds (ps := ["book", "facts", "claim", "manner"]) fun _ _ _ _ _ _ us hl => match us, hl with | [_, _, _, _], _ => rfl
  have F_greatest_facts := fun_mk (st := s_greatest_facts) l_greatest_facts c_greatest_facts k_greatest_facts
  have b_greatest_facts := kw_mk (st := s_greatest_facts) (ps := ["book", "claim", "manner", "inside"]) (n := 3) l_greatest_facts c_greatest_facts k_greatest_facts d_greatest_facts rfl (fun _ _ _ _ _ _ us ks h1 h2 => match us, ks, h1, h2 with | [_, _, _], [_], _, _ => ⟨_, _, _, _, _, _, rfl, rfl, rfl⟩) (fun _ _ _ _ _ _ us ks h1 h2 => match us, ks, h1, h2 with | [_, _, _], [_], _, _ => rfl)
  have F_law_cell := fun_mk (st := s_law_cell) l_law_cell c_law_cell k_law_cell
  have b_law_cell := F_law_cell.binds (ps := ["script", "k"]) fun _ _ _ _ _ _ us hl => match us, hl with | [_, _], _ => rfl
  have F_law_numbers := fun_mk (st := s_law_numbers) l_law_numbers c_law_numbers k_law_numbers
  have b_law_numbers := F_law_numbers.binds (ps := ["script", "at", "count", "radix"]) fun _ _ _ _ _ _ us hl => match us, hl with | [_, _, _, _], _ => rfl
  have F_law_same := fun_mk (st := s_law_same) l_law_same c_law_same k_law_same
  have b_law_same := F_law_same.binds (ps := ["answer", "expected"]) fun _ _ _ _ _ _ us hl => match us, hl with | [_, _], _ => rfl
  have F_law_by_cases := fun_mk (st := s_law_by_cases) l_law_by_cases c_law_by_cases k_law_by_cases
  have b_law_by_cases := F_law_by_cases.binds (ps := ["manner"]) fun _ _ _ _ _ _ us hl => match us, hl with | [_], _ => rfl
  have F_law_in_steps := fun_mk (st := s_law_in_steps) l_law_in_steps c_law_in_steps k_law_in_steps
  have b_law_in_steps := F_law_in_steps.binds (ps := ["manner"]) fun _ _ _ _ _ _ us hl => match us, hl with | [_], _ => rfl
  have F_law_meet := fun_mk (st := s_law_meet) l_law_meet c_law_meet k_law_meet
  have b_law_meet := F_law_meet.binds (ps := ["n", "rules", "case"]) fun _ _ _ _ _ _ us hl => match us, hl with | [_, _, _], _ => rfl
  have F_law_due := fun_mk (st := s_law_due) l_law_due c_law_due k_law_due
  have b_law_due := F_law_due.binds (ps := ["n", "rules", "facts", "manner"]) fun _ _ _ _ _ _ us hl => match us, hl with | [_, _, _, _], _ => rfl
  have F_law_facts := fun_mk (st := s_law_facts) l_law_facts c_law_facts k_law_facts
  have b_law_facts := F_law_facts.binds (ps := ["script", "n"]) fun _ _ _ _ _ _ us hl => match us, hl with | [_, _], _ => rfl
  have F_law_rules := fun_mk (st := s_law_rules) l_law_rules c_law_rules k_law_rules
  have b_law_rules := F_law_rules.binds (ps := ["script", "n", "count", "facts"]) fun _ _ _ _ _ _ us hl => match us, hl with | [_, _, _, _], _ => rfl
  have F_law_wanted := fun_mk (st := s_law_wanted) l_law_wanted c_law_wanted k_law_wanted
  have b_law_wanted := F_law_wanted.binds (ps := ["script", "at", "n", "rules", "facts", "manner"]) fun _ _ _ _ _ _ us hl => match us, hl with | [_, _, _, _, _, _], _ => rfl
  have F_law_manner := fun_mk (st := s_law_manner) l_law_manner c_law_manner k_law_manner
  have b_law_manner := F_law_manner.binds (ps := ["number"]) fun _ _ _ _ _ _ us hl => match us, hl with | [_], _ => rfl
  have F_law_limit := fun_mk (st := s_law_limit) l_law_limit c_law_limit k_law_limit
  have b_law_limit := F_law_limit.binds (ps := ["script", "at", "n", "facts"]) fun _ _ _ _ _ _ us hl => match us, hl with | [_, _, _, _], _ => rfl
  have F_law_given := fun_mk (st := s_law_given) l_law_given c_law_given k_law_given
  have b_law_given := F_law_given.binds (ps := ["n", "rules", "claim", "manner", "facts"]) fun _ _ _ _ _ _ us hl => match us, hl with | [_, _, _, _, _], _ => rfl
  have F_law_single := fun_mk (st := s_law_single) l_law_single c_law_single k_law_single
  have b_law_single := F_law_single.binds (ps := ["n", "rules", "claim", "manner", "limit"]) fun _ _ _ _ _ _ us hl => match us, hl with | [_, _, _, _, _], _ => rfl
  have F_law_right := fun_mk (st := s_law_right) l_law_right c_law_right k_law_right
  have b_law_right := F_law_right.binds (ps := ["n", "rules", "claim", "manner", "answer"]) fun _ _ _ _ _ _ us hl => match us, hl with | [_, _, _, _, _], _ => rfl
  have F_law := fun_mk (st := s_law) l_law c_law k_law
  have b_law := F_law.binds (ps := ["script"]) fun _ _ _ _ _ _ us hl => match us, hl with | [_], _ => rfl
  exact {
    b_abs := PySem.W.mg_none_of X G zb_abs
    b_all := PySem.W.mg_none_of X G zb_all
    b_any := PySem.W.mg_none_of X G zb_any
    b_bool := PySem.W.mg_none_of X G zb_bool
    b_enumerate := PySem.W.mg_none_of X G zb_enumerate
    b_int := PySem.W.mg_none_of X G zb_int
    b_isinstance := PySem.W.mg_none_of X G zb_isinstance
    b_iter := PySem.W.mg_none_of X G zb_iter
    b_len := PySem.W.mg_none_of X G zb_len
    b_list := PySem.W.mg_none_of X G zb_list
    b_max := PySem.W.mg_none_of X G zb_max
    b_range := PySem.W.mg_none_of X G zb_range
    b_reversed := PySem.W.mg_none_of X G zb_reversed
    b_sorted := PySem.W.mg_none_of X G zb_sorted
    b_str := PySem.W.mg_none_of X G zb_str
    b_sum := PySem.W.mg_none_of X G zb_sum
    b_tuple := PySem.W.mg_none_of X G zb_tuple
    g_MANNERS := ⟨.ref gt_MANNERS, .ref gt_MANNERS, PySem.W.mg_of X G ga_MANNERS, rfl, fun F => ⟨gt_MANNERS, [.str "once", .str "cases", .str "steps", .str "both", .str "once+", .str "cases+", .str "steps+", .str "both+"], rfl, .inr ⟨_, gi_MANNERS, gn_MANNERS, gl_MANNERS, rfl, rfl, by rw [← Array.length_toList, gv_MANNERS]; exact small_le (Nat.le_of_ble_eq_true rfl), by rw [gv_MANNERS]; exact (.cons ⟨gk_MANNERS_0, rfl⟩ (.cons ⟨gk_MANNERS_1, rfl⟩ (.cons ⟨gk_MANNERS_2, rfl⟩ (.cons ⟨gk_MANNERS_3, rfl⟩ (.cons ⟨gk_MANNERS_4, rfl⟩ (.cons ⟨gk_MANNERS_5, rfl⟩ (.cons ⟨gk_MANNERS_6, rfl⟩ (.cons ⟨gk_MANNERS_7, rfl⟩ .nil))))))))⟩, (.cons rfl (.cons rfl (.cons rfl (.cons rfl (.cons rfl (.cons rfl (.cons rfl (.cons rfl .nil))))))))⟩⟩
    g_LETTER_LIMIT := ⟨.int 3 gk_LETTER_LIMIT, .int 3, PySem.W.mg_of X G ga_LETTER_LIMIT, ⟨_, rfl⟩, fun F => rfl⟩
    mg_Book := PySem.W.mg_of X G aC_Book
    cls_Book := ⟨pg_Book, hd_Book, po_Book, sa_Book⟩
    na_Book_n := nf_Book_n
    na_Book_rules := nf_Book_rules
    k_Book_MOST_LETTERS := ⟨.type "type", .int 4, .int 4 tk_Book_MOST_LETTERS, ⟨cr1_Book, cr2_Book⟩, ⟨ck_Book_MOST_LETTERS, ⟨_, rfl⟩⟩, fun _ => rfl⟩
    k_Book_MOST_RULES := ⟨.type "type", .int 16, .int 16 tk_Book_MOST_RULES, ⟨cr1_Book, cr2_Book⟩, ⟨ck_Book_MOST_RULES, ⟨_, rfl⟩⟩, fun _ => rfl⟩
    nl_Book := ⟨nl1_Book, nl2_Book⟩
    i_Book := ⟨f_it_Book, _, F_it_Book, a_it_Book, i_it_Book, b_it_Book⟩
    f_everything := ⟨f_everything, _, F_everything, PySem.W.mg_of X G a_everything, b_everything⟩
    f_worlds_of := ⟨f_worlds_of, _, F_worlds_of, PySem.W.mg_of X G a_worlds_of, b_worlds_of⟩
    f_within := ⟨f_within, _, F_within, PySem.W.mg_of X G a_within, b_within⟩
    f_is_prop := ⟨f_is_prop, _, F_is_prop, PySem.W.mg_of X G a_is_prop, b_is_prop⟩
    f_switches := ⟨f_switches, _, F_switches, PySem.W.mg_of X G a_switches, b_switches⟩
    f_meet_heads := ⟨f_meet_heads, _, F_meet_heads, PySem.W.mg_of X G a_meet_heads, b_meet_heads⟩
    f_is_stable := ⟨f_is_stable, _, F_is_stable, PySem.W.mg_of X G a_is_stable, b_is_stable⟩
    f_output := ⟨f_output, _, F_output, PySem.W.mg_of X G a_output, b_output⟩
    f_steps := ⟨f_steps, _, F_steps, PySem.W.mg_of X G a_steps, b_steps⟩
    f_settle := ⟨f_settle, _, F_settle, PySem.W.mg_of X G a_settle, b_settle⟩
    f_due := ⟨f_due, _, F_due, PySem.W.mg_of X G a_due, b_due⟩
    f_Book___init := ⟨f_Book___init, _, F_Book___init, ⟨mk_Book, a_Book___init, i_Book___init, kc_Book⟩, b_Book___init⟩
    f_is_due := ⟨f_is_due, _, F_is_due, PySem.W.mg_of X G a_is_due, b_is_due⟩
    f_greatest_facts := ⟨f_greatest_facts, _, F_greatest_facts, PySem.W.mg_of X G a_greatest_facts, b_greatest_facts⟩
    f_law_cell := ⟨f_law_cell, _, F_law_cell, PySem.W.mg_of X G a_law_cell, b_law_cell⟩
    f_law_numbers := ⟨f_law_numbers, _, F_law_numbers, PySem.W.mg_of X G a_law_numbers, b_law_numbers⟩
    f_law_same := ⟨f_law_same, _, F_law_same, PySem.W.mg_of X G a_law_same, b_law_same⟩
    f_law_by_cases := ⟨f_law_by_cases, _, F_law_by_cases, PySem.W.mg_of X G a_law_by_cases, b_law_by_cases⟩
    f_law_in_steps := ⟨f_law_in_steps, _, F_law_in_steps, PySem.W.mg_of X G a_law_in_steps, b_law_in_steps⟩
    f_law_meet := ⟨f_law_meet, _, F_law_meet, PySem.W.mg_of X G a_law_meet, b_law_meet⟩
    f_law_due := ⟨f_law_due, _, F_law_due, PySem.W.mg_of X G a_law_due, b_law_due⟩
    f_law_facts := ⟨f_law_facts, _, F_law_facts, PySem.W.mg_of X G a_law_facts, b_law_facts⟩
    f_law_rules := ⟨f_law_rules, _, F_law_rules, PySem.W.mg_of X G a_law_rules, b_law_rules⟩
    f_law_wanted := ⟨f_law_wanted, _, F_law_wanted, PySem.W.mg_of X G a_law_wanted, b_law_wanted⟩
    f_law_manner := ⟨f_law_manner, _, F_law_manner, PySem.W.mg_of X G a_law_manner, b_law_manner⟩
    f_law_limit := ⟨f_law_limit, _, F_law_limit, PySem.W.mg_of X G a_law_limit, b_law_limit⟩
    f_law_given := ⟨f_law_given, _, F_law_given, PySem.W.mg_of X G a_law_given, b_law_given⟩
    f_law_single := ⟨f_law_single, _, F_law_single, PySem.W.mg_of X G a_law_single, b_law_single⟩
    f_law_right := ⟨f_law_right, _, F_law_right, PySem.W.mg_of X G a_law_right, b_law_right⟩
    f_law := ⟨f_law, _, F_law, PySem.W.mg_of X G a_law, b_law⟩ }
theorem end_mk {P : Program} {w : World} {K : PySem.W.Frag} {mg : Str → Option Value} {fa : Addr} {Z : Adr} (pure : ∀ ns : List Int, ns.length ≤ 63 → m_law ns = .ok true) (T : Facts Z K mg) (hfa : mg "law" = some (.ref fa)) :
    ∃ fd : FuncData, (∀ (s : Shared) (v : Value), BindsTo s fd ⟨[v], []⟩ [("script", v)]) ∧ ∀ base : Heap, K.In base → base.Ns mainGlobals mg → FnOk P w K mg base (L2.CX P w) 11 fa fd ["script"] (spLaw K) := by
  obtain ⟨f, fd, F, hm, hb⟩ := T.f_law
  have e := hfa.symm.trans hm
  cases e
  refine ⟨fd, fun s v => ?_, fun base _ _ => law_end (fn_law T F) pure⟩
  obtain ⟨oc, od, kV, doc, pm, an, cdv, ct, osl, rfl, lk, hcd⟩ := F.ex
  exact .of_eq rfl
end T
end
section
set_option maxRecDepth 100000
namespace PL
open PySem L2
/-! ### results that are known -/
def Is {α : Type} (m : M α) (P : α → Prop) : Prop := ∃ a, m = .ok a ∧ P a
section
variable {α β γ : Type}
theorem Is.ok {a : α} {P : α → Prop} (h : P a) : Is (.ok a) P := ⟨a, rfl, h⟩
theorem Is.bind {m : M α} {f : α → M β} {P : α → Prop} {Q : β → Prop} (h : Is m P) (k : ∀ a, P a → Is (f a) Q) : Is (m.bind f) Q := by
  obtain ⟨a, rfl, p⟩ := h
  exact k a p
theorem Is.mono {m : M α} {P Q : α → Prop} (h : Is m P) (k : ∀ a, P a → Q a) : Is m Q := let ⟨a, e, p⟩ := h; ⟨a, e, k a p⟩
theorem Is.cond {c : Bool} {a b : M α} {Q : α → Prop} (h1 : c = true → Is a Q) (h2 : c = false → Is b Q) : Is (cond c a b) Q := by
  cases c with
  | true => exact h1 rfl
  | false => exact h2 rfl
theorem Is.of_eq {m : M α} {a : α} {P : α → Prop} (e : m = .ok a) (h : P a) : Is m P := ⟨a, e, h⟩
theorem Is.grd {c : Bool} {m : M α} {Q : α → Prop} (hc : c = true) (h : Is m Q) : Is (M.grd c m) Q := by subst hc; exact h
theorem bok {m : M α} {f : α → M β} {a : α} (e : m = .ok a) : m.bind f = f a := by rw [e]; rfl
theorem grd_t {c : Bool} {m : M α} (hc : c = true) : M.grd c m = m := by subst hc; rfl
/-- a walk by an invariant -/
theorem Is.fold {f : β → α → M β} {I : β → Prop} : ∀ {xs : List α} {s : β}, I s → (∀ s x, x ∈ xs → I s → Is (f s x) I) → Is (M.fold f xs s) I
  | [], s, h, _ => .ok h
  | x :: xs, s, h, k => by
    obtain ⟨t, e, ht⟩ := k s x (List.mem_cons_self ..) h
    show Is ((f s x).bind fun t => M.fold f xs t) I
    rw [bok e]
    exact Is.fold ht fun s y hy => k s y (List.mem_cons_of_mem _ hy)
/-- a walk that is a plain one -/
theorem fold_eq {f : β → α → M β} {g : β → α → β} : ∀ {xs : List α} {s : β}, (∀ s x, x ∈ xs → f s x = .ok (g s x)) → M.fold f xs s = .ok (xs.foldl g s)
  | [], s, _ => rfl
  | x :: xs, s, k => by
    show (f s x).bind (fun t => M.fold f xs t) = _
    rw [bok (k s x (List.mem_cons_self ..))]
    exact fold_eq fun s y hy => k s y (List.mem_cons_of_mem _ hy)
/-- .. told by a view g of the plain state -/
theorem fold_sim {f : β → α → M β} {xs : List γ} {g : δ → γ → δ} {e : γ → α} {v : δ → β} : ∀ {ys : List γ} {s : δ}, (∀ s x, x ∈ ys → f (v s) (e x) = .ok (v (g s x))) → M.fold f (ys.map e) (v s) = .ok (v (ys.foldl g s))
  | [], s, _ => rfl
  | x :: ys, s, k => by
    show (f (v s) (e x)).bind (fun t => M.fold f (ys.map e) t) = _
    rw [bok (k s x (List.mem_cons_self ..))]
    exact fold_sim (xs := xs) fun s y hy => k s y (List.mem_cons_of_mem _ hy)
theorem map_eq {f : α → M β} {g : α → β} : ∀ {xs : List α}, (∀ x ∈ xs, f x = .ok (g x)) → M.map f xs = .ok (xs.map g)
  | [], _ => rfl
  | x :: xs, k => by
    unfold M.map
    rw [k x (List.mem_cons_self ..), map_eq fun y hy => k y (List.mem_cons_of_mem _ hy)]
    rfl
theorem lc_eq {p : α → M Bool} {f : α → M β} {q : α → Bool} {g : α → β} : ∀ {xs : List α}, (∀ x ∈ xs, p x = .ok (q x)) → (∀ x ∈ xs, q x = true → f x = .ok (g x)) → M.lc p f xs = .ok ((xs.filter q).map g)
  | [], _, _ => rfl
  | x :: xs, h, k => by
    have ih := lc_eq (xs := xs) (fun y hy => h y (List.mem_cons_of_mem _ hy)) (fun y hy => k y (List.mem_cons_of_mem _ hy))
    unfold M.lc
    rw [h x (List.mem_cons_self ..), List.filter_cons]
    cases hq : q x with
    | true =>
      simp only [if_true, List.map_cons]
      rw [k x (List.mem_cons_self ..) hq, ih]
    | false =>
      simp only [Bool.false_eq_true, if_false]
      exact ih
end
/-! ### the operations on natural numbers -/
theorem and_nat (a b : Nat) : Builtin.bitAnd (a : Int) (b : Int) = ((a &&& b : Nat) : Int) := by rw [PyProof.Rows.bitAnd_pp (Int.natCast_nonneg a) (Int.natCast_nonneg b)]; simp
theorem or_nat (a b : Nat) : Builtin.bitOr (a : Int) (b : Int) = ((a ||| b : Nat) : Int) := by rw [L2.bitOr_nn (Int.natCast_nonneg a) (Int.natCast_nonneg b)]; simp
theorem shl_nat {n : Nat} (h : n ≤ 1000000) : shlI 1 (n : Int) = .ok ((2 ^ n : Nat) : Int) := by
  unfold shlI
  rw [grd_t]
  · simp
  · have : (n : Int) ≤ 1000000 := by omega
    simp [this]
theorem shr_nat (a n : Nat) : shrI (a : Int) (n : Int) = .ok ((a >>> n : Nat) : Int) := by
  unfold shrI
  rw [grd_t (by simp), Nat.shiftRight_eq_div_pow]
  simp
theorem mod_nat {a b : Nat} (h : 0 < b) : modI (a : Int) (b : Int) = .ok ((a % b : Nat) : Int) := by
  unfold modI
  rw [grd_t (by simpa using h)]
  simp
theorem fdiv_nat {a b : Nat} (h : 0 < b) (h2 : b < 1073741824) : fdivI (a : Int) (b : Int) = .ok ((a / b : Nat) : Int) := by
  unfold fdivI
  rw [grd_t]
  · simp
  · have : (b : Int) < 1073741824 := by omega
    simp [this]; exact h
theorem mul_nat {a b : Nat} (h : a < 18446744073709551616 ∨ b < 18446744073709551616) : mulI (a : Int) (b : Int) = .ok ((a * b : Nat) : Int) := by
  unfold mulI
  rw [grd_t]
  · simp
  · simp only [smallI, Bool.or_eq_true, Bool.and_eq_true, decide_eq_true_eq]
    omega
theorem rng_nat (n : Nat) : rng 0 (n : Int) = (List.range n).map fun (i : Nat) => (i : Int) := by
  unfold rng
  simp
theorem rgOk_nat {n : Nat} (h : n < 4611686018427387904) : rgOk (n : Int) = true := by
  unfold rgOk
  have : (n : Int) < 4611686018427387904 := by omega
  have h2 : -4611686018427387904 ≤ (n : Int) := by omega
  simp [this, h2]
theorem lenOk_nat {n : Nat} (h : n ≤ 16777216) : lenOk n = true := decide_eq_true h
theorem idx_nat {α : Type} {xs : List α} {i : Nat} {x : α} (h : xs[i]? = some x) : idx xs (i : Int) = .ok x := by
  unfold idx
  rw [L2.atI_nat h]
theorem app_nat {α : Type} {xs : List α} {a : α} (h : xs.length < 16777216) : appL xs a = .ok (xs ++ [a]) := by
  unfold appL
  rw [grd_t (lenOk_nat h)]
theorem is_nat {i : Int} (h : 0 ≤ i) : ∃ n : Nat, i = (n : Int) := ⟨i.toNat, by omega⟩
theorem absI_nat (i : Int) : ∃ n : Nat, absI i = (n : Int) := by
  unfold absI
  split
  · exact ⟨i.natAbs, by omega⟩
  · exact ⟨i.natAbs, by omega⟩
end PL
end
section
set_option maxRecDepth 100000
namespace PL
open PySem L2
section
variable {α β γ : Type}
/-- no lemma by rfl: else the kernel looks at the whole by unfolding -/
theorem M.bk (a : α) (f : α → M β) : (M.ok a).bind f = f a := Eq.trans rfl rfl
theorem M.ct {a b : α} : cond true a b = a := Eq.trans rfl rfl
theorem M.cf {a b : α} : cond false a b = b := Eq.trans rfl rfl
theorem M.gt {a : M α} : M.grd true a = a := Eq.trans rfl rfl
theorem dt {p : Prop} [Decidable p] (h : p) : decide p = true := decide_eq_true h
theorem df {p : Prop} [Decidable p] (h : ¬ p) : decide p = false := decide_eq_false h
theorem not_t : (!true) = false := Eq.trans rfl rfl
theorem not_f : (!false) = true := Eq.trans rfl rfl
theorem M.bind_assoc (m : M α) (f : α → M β) (g : β → M γ) : (m.bind f).bind g = m.bind fun a => (f a).bind g := by cases m <;> rfl
theorem M.bind_cond (c : Bool) (a b : M α) (g : α → M β) : (cond c a b).bind g = cond c (a.bind g) (b.bind g) := by cases c <;> rfl
theorem Is.b_ok {a : α} {f : α → M β} {Q : β → Prop} (k : Is (f a) Q) : Is (M.bind (.ok a) f) Q := k
theorem Is.b_as {m : M α} {f : α → M β} {g : β → M γ} {Q : γ → Prop} (k : Is (m.bind fun a => (f a).bind g) Q) : Is ((m.bind f).bind g) Q := by rw [M.bind_assoc]; exact k
theorem Is.b_cond {c : Bool} {a b : M α} {f : α → M β} {P : α → Prop} {Q : β → Prop} (h1 : c = true → Is a P) (h2 : c = false → Is b P) (k : ∀ x, P x → Is (f x) Q) : Is ((_root_.cond c a b).bind f) Q := Is.bind (Is.cond h1 h2) k
theorem Is.b_mod {a b : Int} {f : Int → M β} {Q : β → Prop} (h : 0 < b) (k : ∀ t, t = a % b → 0 ≤ t → t < b → Is (f t) Q) : Is ((modI a b).bind f) Q := by
  unfold modI
  rw [grd_t (by simpa using h)]
  exact k _ rfl (Int.emod_nonneg _ (by omega)) (Int.emod_lt_of_pos _ h)
theorem Is.b_fdiv {a b : Int} {f : Int → M β} {Q : β → Prop} (h : 0 < b ∧ b < 1073741824) (k : ∀ t, t = a / b → (0 ≤ a → 0 ≤ t) → Is (f t) Q) : Is ((fdivI a b).bind f) Q := by
  unfold fdivI
  rw [grd_t (by simpa using h)]
  exact k _ rfl (fun h0 => Int.ediv_nonneg h0 (by omega))
theorem Is.b_mul {a b : Int} {f : Int → M β} {Q : β → Prop} (h : (-18446744073709551616 < a ∧ a < 18446744073709551616) ∨ (-18446744073709551616 < b ∧ b < 18446744073709551616)) (k : ∀ t, t = a * b → (0 ≤ a → 0 ≤ b → 0 ≤ t) → Is (f t) Q) : Is ((mulI a b).bind f) Q := by
  unfold mulI
  rw [grd_t (by simpa only [smallI, Bool.or_eq_true, Bool.and_eq_true, decide_eq_true_eq] using h)]
  exact k _ rfl (fun h0 h1 => Int.mul_nonneg h0 h1)
theorem Is.b_app {xs : List α} {a : α} {f : List α → M β} {Q : β → Prop} (h : xs.length < 16777216) (k : Is (f (xs ++ [a])) Q) : Is ((appL xs a).bind f) Q := by
  rw [app_nat h]; exact k
theorem Is.lapp {xs : List α} {a : α} {Q : List α → Prop} (h : xs.length < 16777216) (k : Q (xs ++ [a])) : Is (appL xs a) Q := by
  rw [app_nat h]; exact .ok k
theorem idx_int {xs : List α} {i : Int} (h0 : 0 ≤ i) (h1 : i < xs.length) : ∃ x, idx xs i = .ok x ∧ xs[i.toNat]? = some x := by
  obtain ⟨n, rfl⟩ := is_nat h0
  have hn : n < xs.length := by omega
  exact ⟨xs[n], idx_nat (by simp [hn]), by simp [hn]⟩
theorem Is.b_idx {xs : List α} {i : Int} {f : α → M β} {P : α → Prop} {Q : β → Prop} (h : ∀ x ∈ xs, P x) (h0 : 0 ≤ i ∧ i < xs.length) (k : ∀ x, P x → Is (f x) Q) : Is ((idx xs i).bind f) Q := by
  obtain ⟨x, e, g⟩ := idx_int h0.1 h0.2
  rw [bok e]
  exact k x (h x (List.mem_of_getElem? g))
theorem Is.lidx {xs : List α} {i : Int} {P : α → Prop} {Q : α → Prop} (h : ∀ x ∈ xs, P x) (h0 : 0 ≤ i ∧ i < xs.length) (k : ∀ x, P x → Q x) : Is (idx xs i) Q := by
  obtain ⟨x, e, g⟩ := idx_int h0.1 h0.2
  rw [e]
  exact .ok (k x (h x (List.mem_of_getElem? g)))
theorem Is.b_rg {i : Int} {f : List Int → M β} {Q : β → Prop} (h : 0 ≤ i ∧ i < 4611686018427387904) (k : Is (f (rng 0 i)) Q) : Is ((M.grd (rgOk i) (.ok (rng 0 i))).bind f) Q := by
  obtain ⟨n, rfl⟩ := is_nat h.1
  rw [grd_t (rgOk_nat (by omega))]; exact k
theorem Is.b_for {f : β → Int → M β} {I : Int → β → Prop} {g : β → M γ} {Q : γ → Prop} {n : Int} {s : β} (hn : 0 ≤ n) (h0 : I 0 s) (hs : ∀ i s, 0 ≤ i → i < n → I i s → Is (f s i) (I (i + 1))) (k : ∀ s, I n s → Is (g s) Q) : Is ((M.fold f (rng 0 n) s).bind g) Q := by
  obtain ⟨m, rfl⟩ := is_nat hn
  rw [rng_nat]
  have : ∀ (m a : Nat) (s : β), I (a : Int) s → (∀ i s, (a : Int) ≤ i → i < ((a + m : Nat) : Int) → I i s → Is (f s i) (I (i + 1))) → Is (M.fold f ((List.range' a m).map fun (i : Nat) => (i : Int)) s) (I ((a + m : Nat) : Int)) := by
    intro m
    induction m with
    | zero => exact fun a s h _ => .ok h
    | succ m ih =>
      intro a s h k
      rw [List.range'_succ, List.map_cons]
      refine Is.bind (k _ _ (Int.le_refl _) (by omega) h) fun t ht => ?_
      have := ih (a + 1) t (by exact_mod_cast ht) fun i s h1 h2 h3 => k i s (by omega) (by omega) h3
      have e : a + 1 + m = a + (m + 1) := by omega
      rw [e] at this
      exact this
  have h := this m 0 s h0 fun i s h1 h2 h3 => hs i s h1 (by omega) h3
  rw [← List.range_eq_range', Nat.zero_add] at h
  exact h.bind k
theorem Is.b {m : M α} {f : α → M β} {P : α → Prop} {Q : β → Prop} (h : Is m P) (k : ∀ a, P a → Is (f a) Q) : Is (m.bind f) Q := h.bind k
theorem pow_pos2 (n : Nat) : (0 : Int) < 2 ^ n := by exact_mod_cast Nat.pow_pos (n := n) (by decide : 0 < 2)
theorem Is.b_pow {f : Int → M β} {Q : β → Prop} {a b : Int} {n : Nat} (hb : b = n) (h : n ≤ 1000000 ∧ -18446744073709551616 < a ∧ a < 18446744073709551616) (k : Is (f (a ^ n)) Q) : Is ((powI a b).bind f) Q := by
  subst hb
  unfold powI
  rw [grd_t]
  · exact k
  · simp only [Bool.and_eq_true, decide_eq_true_eq]
    omega
theorem Is.tt {m : M Bool} (h : Is m (fun b => b = true)) : m = .ok true := by
  obtain ⟨a, e, rfl⟩ := h
  exact e
theorem Is.true {m : M α} {a : α} (h : m = .ok a) : Is m (fun _ => True) := ⟨a, h, trivial⟩
section
variable {S L ρ S1 S2 δ : Type}
theorem loop_is {f : S → α → M (Fl S S ρ)} {I : S → Prop} : ∀ {xs : List α} {s : S}, I s → (∀ s x, x ∈ xs → I s → Is (f s x) (fun r => ∃ t, r = .nx t ∧ I t)) → Is (M.loop (L := L) f xs s) (fun r => ∃ t, r = .nx t ∧ I t)
  | [], s, h, _ => .ok ⟨s, rfl, h⟩
  | x :: xs, s, h, k => by
    obtain ⟨r, e, t, rfl, ht⟩ := k s x (List.mem_cons_self ..) h
    show Is ((f s x).bind _) _
    rw [e, M.bk]
    exact loop_is ht fun s y hy => k s y (List.mem_cons_of_mem _ hy)
theorem Is.bF {m : M (Fl S L ρ)} {k : S → M ρ} {I : S → Prop} {Q : ρ → Prop} (h : Is m (fun r => ∃ t, r = .nx t ∧ I t)) (g : ∀ t, I t → Is (k t) Q) : Is (bindF m k) Q := by
  obtain ⟨r, e, t, rfl, ht⟩ := h
  unfold bindF
  rw [e]
  exact g t ht
theorem Is.bB {m : M (Fl S1 L ρ)} {k : S1 → M (Fl S2 L ρ)} {I : S1 → Prop} {Q : Fl S2 L ρ → Prop} (h : Is m (fun r => ∃ t, r = .nx t ∧ I t)) (g : ∀ t, I t → Is (k t) Q) : Is (bindB m k) Q := by
  obtain ⟨r, e, t, rfl, ht⟩ := h
  unfold bindB
  rw [e]
  exact g t ht
/-- the first of the items that a test finds -/
theorem loop_find {f : Unit → α → M (Fl Unit Unit ρ)} {p : γ → Bool} {g : γ → ρ} {e : γ → α} : ∀ {xs : List γ}, (∀ x ∈ xs, f () (e x) = .ok (if p x = Bool.true then .rt (g x) else .nx ())) → M.loop (L := L) f (xs.map e) () = .ok (match xs.find? p with | some x => .rt (g x) | none => .nx ())
  | [], _ => rfl
  | x :: xs, h => by
    show (f () (e x)).bind _ = _
    rw [h x (List.mem_cons_self ..), M.bk, List.find?_cons]
    cases p x with
    | true => rfl
    | false => exact loop_find fun y hy => h y (List.mem_cons_of_mem _ hy)
theorem Is.lc {p : α → M Bool} {f : α → M β} {P : β → Prop} : ∀ {xs : List α}, (∀ x ∈ xs, Is (p x) (fun _ => True)) → (∀ x ∈ xs, Is (f x) P) → Is (M.lc p f xs) (fun ys => ys.length ≤ xs.length ∧ ∀ y ∈ ys, P y)
  | [], _, _ => .ok (by simp)
  | x :: xs, h, k => by
    obtain ⟨ys, e, hl, hy⟩ := Is.lc (xs := xs) (fun y hy => h y (List.mem_cons_of_mem _ hy)) (fun y hy => k y (List.mem_cons_of_mem _ hy))
    obtain ⟨b, eb, _⟩ := h x (List.mem_cons_self ..)
    obtain ⟨z, ez, hz⟩ := k x (List.mem_cons_self ..)
    unfold M.lc
    rw [eb, e, ez]
    cases b with
    | true => exact .ok ⟨by simp; omega, fun y q => by
        rcases List.mem_cons.mp q with rfl | q
        · exact hz
        · exact hy y q⟩
    | false => exact .ok ⟨by simp; omega, hy⟩
theorem Is.map {f : α → M β} {P : β → Prop} : ∀ {xs : List α}, (∀ x ∈ xs, Is (f x) P) → Is (M.map f xs) (fun ys => ys.length = xs.length ∧ ∀ y ∈ ys, P y)
  | [], _ => .ok (by simp)
  | x :: xs, k => by
    obtain ⟨ys, e, hl, hy⟩ := Is.map (xs := xs) (fun y hy => k y (List.mem_cons_of_mem _ hy))
    obtain ⟨z, ez, hz⟩ := k x (List.mem_cons_self ..)
    unfold M.map
    rw [ez, e]
    exact .ok ⟨by simp; omega, fun y q => by
        rcases List.mem_cons.mp q with rfl | q
        · exact hz
        · exact hy y q⟩
theorem fold_nat {f : Int → Int → M Int} {g : Nat → Nat → Nat} {ys : List Nat} {z : Int} (s : Nat) (hz : z = (s : Int)) (h : ∀ (s x : Nat), x ∈ ys → f (s : Int) (x : Int) = .ok ((g s x : Nat) : Int)) : M.fold f (ys.map fun (i : Nat) => (i : Int)) z = .ok ((ys.foldl g s : Nat) : Int) := by
  subst hz
  exact fold_sim (xs := ([] : List Nat)) (v := fun (i : Nat) => (i : Int)) (e := fun (i : Nat) => (i : Int)) h
/-- a walk told by a view v of a plain state, with an invariant J of the items that are left -/
theorem fold_st {τ : Type} {f : S → α → M S} {v : τ → S} {e : γ → α} {g : τ → γ → τ} {J : Nat → τ → Prop} : ∀ {ys : List γ} {s0 : S} (t : τ), s0 = v t → J ys.length t → (∀ t y k, y ∈ ys → J (k + 1) t → f (v t) (e y) = .ok (v (g t y)) ∧ J k (g t y)) → M.fold f (ys.map e) s0 = .ok (v (ys.foldl g t))
  | [], s0, t, h, _, _ => by subst h; rfl
  | y :: ys, s0, t, h, hJ, k => by
    subst h
    obtain ⟨h1, h2⟩ := k t y ys.length (List.mem_cons_self ..) hJ
    show (f (v t) (e y)).bind (fun s => M.fold f (ys.map e) s) = _
    rw [h1, M.bk]
    exact fold_st _ rfl h2 fun t z j hz => k t z j (List.mem_cons_of_mem _ hz)
theorem fold_down {f : β → Int → M β} {I : Nat → β → Prop} {k : Int} {s : β} {n : Nat} (hk : k = n) (h0 : I n s) (hs : ∀ i s, i < n → I (i + 1) s → Is (f s (i : Int)) (I i)) : Is (M.fold f (rng 0 k).reverse s) (I 0) := by
  subst hk
  rw [rng_nat]
  induction n generalizing s with
  | zero => exact .ok h0
  | succ n ih =>
    rw [List.range_succ, List.map_append, List.reverse_append]
    show Is ((f s (n : Int)).bind fun t => M.fold f ((List.range n).map fun (i : Nat) => (i : Int)).reverse t) _
    exact (hs n s (by omega) h0).bind fun t ht => ih ht fun i s hi => hs i s (by omega)
theorem M.nb {m : M Bool} {f : Bool → M β} : (mNot m).bind f = m.bind fun c => f (!c) := by unfold mNot; rw [M.bind_assoc]; rfl
theorem M.ab {m n : M Bool} {f : Bool → M β} : (mAnd m n).bind f = m.bind fun c => cond c (n.bind f) (f Bool.false) := by cases m with
  | ok c => cases c <;> rfl
  | exc e => rfl
  | stuck => rfl
theorem M.ob {m n : M Bool} {f : Bool → M β} : (mOr m n).bind f = m.bind fun c => cond c (f Bool.true) (n.bind f) := by cases m with
  | ok c => cases c <;> rfl
  | exc e => rfl
  | stuck => rfl
end
end
end PL
end
section
set_option maxRecDepth 100000
namespace T
open PySem L2 PL
abbrev RN := List (Nat × Nat)
def cI (p : Nat × Nat) : Int × Int := ((p.1 : Int), (p.2 : Int))
abbrev cR (rs : RN) : List (Int × Int) := rs.map cI
def topN (n : Nat) : Nat := 2 ^ (2 ^ n)
def whole (n : Nat) : Nat := topN n - 1
theorem top_pos (n : Nat) : 0 < topN n := Nat.pow_pos (n := 2 ^ n) (by decide : 0 < 2)
theorem pow_small {n : Nat} (h : n ≤ 4) : 2 ^ n ≤ 16 := by
  have : n = 0 ∨ n = 1 ∨ n = 2 ∨ n = 3 ∨ n = 4 := by omega
  rcases this with rfl | rfl | rfl | rfl | rfl <;> decide
theorem top_small {n : Nat} (h : n ≤ 4) : topN n ≤ 65536 := by
  have : n = 0 ∨ n = 1 ∨ n = 2 ∨ n = 3 ∨ n = 4 := by omega
  rcases this with rfl | rfl | rfl | rfl | rfl <;> decide
theorem shl2 {n : Nat} (h : n ≤ 4) : (shlI 1 (n : Int)).bind (fun t => shlI 1 t) = .ok ((topN n : Nat) : Int) := by
  rw [bok (shl_nat (by omega)), shl_nat (by have := pow_small h; omega)]
  rfl
theorem everything_eq {n : Nat} (h : n ≤ 4) : m_everything (n : Int) = .ok ((whole n : Nat) : Int) := by
  unfold m_everything
  show ((shlI 1 (n : Int)).bind fun t3 => shlI 1 t3).bind _ = _
  rw [bok (shl2 h)]
  show M.ok (((topN n : Nat) : Int) - 1) = _
  have := top_pos n
  unfold whole
  congr 1
  omega
theorem top_is {n : Nat} (hn : n ≤ 4) : (M.bind (shlI 1 (n : Int)) fun t => shlI 1 t) = .ok ((topN n : Nat) : Int) := shl2 hn
theorem top_b {α : Type} {n : Nat} {f : Int → M α} (hn : n ≤ 4) : (M.bind (shlI 1 (n : Int)) fun t => M.bind (shlI 1 t) f) = f ((topN n : Nat) : Int) := by
  rw [← M.bind_assoc, bok (shl2 hn)]
def InR (r : Int) (x : Int) : Prop := 0 ≤ x ∧ x < r
theorem all_app {α : Type} {P : α → Prop} {xs : List α} {a : α} (h : ∀ x ∈ xs, P x) (ha : P a) : ∀ x ∈ xs ++ [a], P x := by
  intro x hx
  rcases List.mem_append.mp hx with h1 | h1
  · exact h x h1
  · rw [List.mem_singleton.mp h1]; exact ha
theorem inR_nat {r : Nat} {x : Int} (h : InR r x) : ∃ a : Nat, x = a ∧ a < r := ⟨x.toNat, by unfold InR at h; omega, by unfold InR at h; omega⟩
theorem inR_and {r a b : Int} (ha : InR r a) (hb : InR r b) : InR r (Builtin.bitAnd a b) := by
  obtain ⟨x, rfl⟩ := is_nat ha.1
  obtain ⟨y, rfl⟩ := is_nat hb.1
  rw [and_nat]
  have := Nat.and_le_left (n := x) (m := y)
  unfold InR at *
  omega
theorem inR_or {k : Nat} {a b : Int} (ha : InR ((2 ^ k : Nat) : Int) a) (hb : InR ((2 ^ k : Nat) : Int) b) : InR ((2 ^ k : Nat) : Int) (Builtin.bitOr a b) := by
  obtain ⟨x, rfl, hx⟩ := inR_nat ha
  obtain ⟨y, rfl, hy⟩ := inR_nat hb
  rw [or_nat]
  have := Nat.or_lt_two_pow hx hy
  unfold InR at *
  omega
def InP (r : Int) (p : Int × Int) : Prop := InR r p.1 ∧ InR r p.2
def RnOk (n : Nat) (rs : RN) : Prop := ∀ r ∈ rs, r.1 < topN n ∧ r.2 < topN n
theorem rn_of {n : Nat} : ∀ {rs : List (Int × Int)}, (∀ r ∈ rs, InP (topN n : Nat) r) → ∃ qs : RN, rs = cR qs ∧ RnOk n qs
  | [], _ => ⟨[], rfl, by unfold RnOk; simp⟩
  | r :: rs, h => by
    obtain ⟨qs, e, hq⟩ := rn_of (rs := rs) fun x hx => h x (List.mem_cons_of_mem _ hx)
    obtain ⟨h1, h2⟩ := h r (List.mem_cons_self ..)
    obtain ⟨a, ea, ha⟩ := inR_nat h1
    obtain ⟨b, eb, hb⟩ := inR_nat h2
    refine ⟨(a, b) :: qs, ?_, fun x hx => ?_⟩
    · rw [e]
      show r :: cR qs = ((a : Int), (b : Int)) :: cR qs
      rw [← ea, ← eb]
    · rcases List.mem_cons.mp hx with rfl | hx
      · exact ⟨ha, hb⟩
      · exact hq x hx
theorem dec_nat (a b : Nat) : decide ((a : Int) = (b : Int)) = decide (a = b) := by
  by_cases h : a = b
  · rw [h]; simp
  · rw [decide_eq_false h, decide_eq_false (fun z => h (by exact_mod_cast z))]
theorem eq_of_bits {a b : Nat} (h : ∀ i, a.testBit i = true ↔ b.testBit i = true) : a = b := Nat.eq_of_testBit_eq fun i => by
  have := h i
  cases h1 : a.testBit i <;> cases h2 : b.testBit i <;> simp_all
theorem sub_iff {a b : Nat} : a &&& b = a ↔ ∀ i, a.testBit i = true → b.testBit i = true := by
  constructor
  · intro h i hi
    rw [← h, Nat.testBit_and, Bool.and_eq_true] at hi
    exact hi.2
  · intro h
    refine eq_of_bits fun i => ?_
    rw [Nat.testBit_and, Bool.and_eq_true]
    exact ⟨fun z => z.1, fun z => ⟨z, h i z⟩⟩
theorem idx_range {α : Type} {f : Nat → α} {N i : Nat} (h : i < N) : idx ((List.range N).map f) (i : Int) = .ok (f i) := idx_nat (by simp [h])
theorem enumL_eq {α : Type} (xs : List α) : enumL xs = xs.zipIdx.map fun p => ((p.2 : Int), p.1) := by
  unfold enumL
  rw [List.zipIdx_eq_zip_range', ← List.range_eq_range']
  apply List.ext_getElem
  · simp
  · intro i h1 h2; simp
theorem loop_nx {α L ρ : Type} {f : Unit → α → M (Fl Unit Unit ρ)} : ∀ {xs : List α}, (∀ x ∈ xs, f () x = .ok (.nx ())) → M.loop (L := L) f xs () = .ok (.nx ())
  | [], _ => rfl
  | x :: xs, h => by
    show (f () x).bind _ = _
    rw [h x (List.mem_cons_self ..), M.bk]
    exact loop_nx fun y hy => h y (List.mem_cons_of_mem _ hy)
theorem map_range {f : Int → M Int} {g : Nat → Int} {N : Nat} (h : ∀ w, w < N → f (w : Int) = .ok (g w)) : M.map f ((List.range N).map fun (i : Nat) => (i : Int)) = .ok ((List.range N).map g) := by
  have : ∀ (ys : List Nat), (∀ i ∈ ys, i < N) → M.map f (ys.map fun (i : Nat) => (i : Int)) = .ok (ys.map g) := fun ys => by
    induction ys with
    | nil => intro _; rfl
    | cons y ys ih =>
      intro hy
      rw [List.map_cons, List.map_cons]
      unfold M.map
      rw [h y (hy y (List.mem_cons_self ..)), ih fun i hi => hy i (List.mem_cons_of_mem _ hi)]
  exact this _ fun i hi => List.mem_range.mp hi
end T
end
section
set_option maxRecDepth 100000
namespace T
open PySem L2 PL
def meetN (n : Nat) (rs : RN) (c : Nat) : Nat := rs.foldl (fun s r => if c &&& r.1 = c then s &&& r.2 else s) (whole n)
theorem meet_fold {c : Nat} : ∀ (rs : RN) (s : Nat), M.fold (fun (s4 : Int) (x5 : Int × Int) => cond (decide (Builtin.bitAnd (c : Int) x5.1 = (c : Int))) (M.bind (.ok (Builtin.bitAnd s4 x5.2 : Int)) fun prop8 => .ok prop8) (.ok s4)) (cR rs) (s : Int) = .ok ((rs.foldl (fun s r => if c &&& r.1 = c then s &&& r.2 else s) s : Nat) : Int)
  | [], s => rfl
  | r :: rs, s => by
    have h : (cond (decide (Builtin.bitAnd (c : Int) (cI r).1 = (c : Int))) (M.bind (.ok (Builtin.bitAnd (s : Int) (cI r).2 : Int)) fun prop8 => .ok prop8) (.ok (s : Int)) : M Int) = .ok (((if c &&& r.1 = c then s &&& r.2 else s : Nat)) : Int) := by
      unfold cI
      simp only [and_nat]
      by_cases e : c &&& r.1 = c
      · rw [if_pos e, e]; simp
      · rw [if_neg e, decide_eq_false (fun z => e (by exact_mod_cast z))]; rfl
    rw [List.foldl_cons, ← meet_fold rs]
    show M.bind _ _ = _
    rw [bok h]
theorem meet_heads_eq {n c : Nat} {rs : RN} (h : n ≤ 4) : m_meet_heads ((n : Int), cR rs, ()) (c : Int) = .ok ((meetN n rs c : Nat) : Int) := by
  unfold m_meet_heads
  rw [bok (everything_eq h)]
  show (M.fold _ (cR rs) _).bind _ = _
  rw [bok (meet_fold rs (whole n))]
  rfl
theorem within_eq (a b : Nat) : m_within (a : Int) (b : Int) = .ok (decide (a &&& b = a)) := by
  unfold m_within
  rw [and_nat]
  congr 1
  by_cases e : a &&& b = a
  · rw [e]; simp
  · rw [decide_eq_false e, decide_eq_false (fun z => e (by exact_mod_cast z))]
def stableN (n : Nat) (rs : RN) (c : Nat) : Bool := decide (c &&& meetN n rs c = c)
theorem is_stable_eq {n c : Nat} {rs : RN} (h : n ≤ 4) : m_is_stable ((n : Int), cR rs, ()) (c : Int) = .ok (stableN n rs c) := by
  unfold m_is_stable
  show (M.bind (M.bind (m_meet_heads _ _) _) _).bind _ = _
  rw [meet_heads_eq h]
  exact within_eq c _
theorem meet_bit {n c : Nat} {i : Nat} : ∀ (rs : RN) (s : Nat), (rs.foldl (fun s r => if c &&& r.1 = c then s &&& r.2 else s) s).testBit i = true ↔ s.testBit i = true ∧ ∀ r ∈ rs, c &&& r.1 = c → r.2.testBit i = true
  | [], s => by simp
  | r :: rs, s => by
    rw [List.foldl_cons, meet_bit (n := n) rs]
    constructor
    · rintro ⟨h1, h2⟩
      by_cases e : c &&& r.1 = c
      · rw [if_pos e, Nat.testBit_and, Bool.and_eq_true] at h1
        refine ⟨h1.1, fun q hq => ?_⟩
        rcases List.mem_cons.mp hq with rfl | hq
        · exact fun _ => h1.2
        · exact h2 q hq
      · rw [if_neg e] at h1
        refine ⟨h1, fun q hq => ?_⟩
        rcases List.mem_cons.mp hq with rfl | hq
        · exact fun z => absurd z e
        · exact h2 q hq
    · rintro ⟨h1, h2⟩
      refine ⟨?_, fun q hq => h2 q (List.mem_cons_of_mem _ hq)⟩
      by_cases e : c &&& r.1 = c
      · rw [if_pos e, Nat.testBit_and, h1, h2 r (List.mem_cons_self ..) e]; rfl
      · rw [if_neg e]; exact h1
theorem meetN_bit {n c i : Nat} {rs : RN} : (meetN n rs c).testBit i = true ↔ (whole n).testBit i = true ∧ ∀ r ∈ rs, c &&& r.1 = c → r.2.testBit i = true := meet_bit (n := n) rs _
theorem meetN_anti {n c d : Nat} {rs : RN} (h : c &&& d = c) : meetN n rs c &&& meetN n rs d = meetN n rs c := by
  rw [sub_iff]
  intro i hi
  rw [meetN_bit] at hi ⊢
  refine ⟨hi.1, fun r hr e => hi.2 r hr ?_⟩
  rw [sub_iff] at h e ⊢
  exact fun i hi => e i (h i hi)
end T
end
section
set_option maxRecDepth 100000
namespace T
open PySem L2 PL
structure Mn (m : Str) (byc ins plus : Bool) : Prop where
  sw : m_switches m = .ok (byc, ins, plus)
  s4 : ∃ x, slS m none (some 4) = .ok x ∧ decide (x ∈ ([("case" : Str), ("both" : Str)] : List Str)) = byc ∧ decide (x = ("step" : Str)) = (ins && !byc) ∧ decide (x ∈ ([("step" : Str), ("both" : Str)] : List Str)) = ins
  ls : ∃ x, idxS m (-1) = .ok x ∧ decide (x = ("+" : Str)) = plus
  once : decide (m = ("once" : Str)) = (!byc && !ins && !plus)
  onceP : decide (m = ("once+" : Str)) = (!byc && !ins && plus)
theorem mn1 : Mn "once" false false false := ⟨by rfl, ⟨_, rfl, by decide, by decide, by decide⟩, ⟨_, rfl, by decide⟩, by decide, by decide⟩
theorem mn2 : Mn "cases" true false false := ⟨by rfl, ⟨_, rfl, by decide, by decide, by decide⟩, ⟨_, rfl, by decide⟩, by decide, by decide⟩
theorem mn3 : Mn "steps" false true false := ⟨by rfl, ⟨_, rfl, by decide, by decide, by decide⟩, ⟨_, rfl, by decide⟩, by decide, by decide⟩
theorem mn4 : Mn "both" true true false := ⟨by rfl, ⟨_, rfl, by decide, by decide, by decide⟩, ⟨_, rfl, by decide⟩, by decide, by decide⟩
theorem mn5 : Mn "once+" false false true := ⟨by rfl, ⟨_, rfl, by decide, by decide, by decide⟩, ⟨_, rfl, by decide⟩, by decide, by decide⟩
theorem mn6 : Mn "cases+" true false true := ⟨by rfl, ⟨_, rfl, by decide, by decide, by decide⟩, ⟨_, rfl, by decide⟩, by decide, by decide⟩
theorem mn7 : Mn "steps+" false true true := ⟨by rfl, ⟨_, rfl, by decide, by decide, by decide⟩, ⟨_, rfl, by decide⟩, by decide, by decide⟩
theorem mn8 : Mn "both+" true true true := ⟨by rfl, ⟨_, rfl, by decide, by decide, by decide⟩, ⟨_, rfl, by decide⟩, by decide, by decide⟩
theorem mn_all {m : Str} (h : m ∈ (["once", "cases", "steps", "both", "once+", "cases+", "steps+", "both+"] : List Str)) : ∃ a b c, Mn m a b c := by
  simp only [List.mem_cons, List.not_mem_nil, or_false] at h
  rcases h with rfl | rfl | rfl | rfl | rfl | rfl | rfl | rfl
  · exact ⟨_, _, _, mn1⟩
  · exact ⟨_, _, _, mn2⟩
  · exact ⟨_, _, _, mn3⟩
  · exact ⟨_, _, _, mn4⟩
  · exact ⟨_, _, _, mn5⟩
  · exact ⟨_, _, _, mn6⟩
  · exact ⟨_, _, _, mn7⟩
  · exact ⟨_, _, _, mn8⟩
end T
end
section
set_option maxRecDepth 100000
namespace T
open PySem L2 PL
def outN (n : Nat) (rs : RN) (plus : Bool) (c : Nat) : Nat := if plus then meetN n rs c &&& c else meetN n rs c
theorem output_eq {n c : Nat} {rs : RN} {m : Str} {a b p : Bool} (h : n ≤ 4) (hm : Mn m a b p) : m_output ((n : Int), cR rs, ()) (c : Int) m = .ok ((outN n rs p c : Nat) : Int) := by
  unfold m_output
  rw [bok (meet_heads_eq h), hm.sw]
  show cond p _ _ = _
  unfold outN
  cases p with
  | true => simp only [cond_true, if_true, and_nat]
  | false => rfl
theorem out_sub {n c : Nat} {rs : RN} {p : Bool} {i : Nat} (h : (outN n rs p c).testBit i = true) : (meetN n rs c).testBit i = true ∧ (p = true → c.testBit i = true) := by
  unfold outN at h
  cases p with
  | false => exact ⟨h, fun z => by cases z⟩
  | true =>
    rw [if_pos rfl, Nat.testBit_and, Bool.and_eq_true] at h
    exact ⟨h.1, fun _ => h.2⟩
end T
end
section
set_option maxRecDepth 100000
namespace T
open PySem L2 PL
def bits (k a : Nat) : List Nat := (List.range k).filter fun i => a.testBit i
theorem whl_stop {S : Type} {c : S → M Bool} {f : S → M S} {k : Nat} {s : S} (h : c s = .ok false) : M.whl c f (k + 1) s = .ok s := by
  show (c s).bind _ = _
  rw [bok h]
  rfl
theorem whl_go {S : Type} {c : S → M Bool} {f : S → M S} {k : Nat} {s t : S} (h : c s = .ok true) (g : f s = .ok t) : M.whl c f (k + 1) s = M.whl c f k t := by
  show (c s).bind _ = _
  rw [bok h]
  show (f s).bind _ = _
  rw [bok g]
theorem bits_succ (k a : Nat) : bits (k + 1) a = (if a.testBit 0 then [0] else []) ++ (bits k (a >>> 1)).map (· + 1) := by
  unfold bits
  rw [List.range_succ_eq_map, List.filter_cons, List.filter_map, ]
  have e : (fun i => a.testBit i) ∘ Nat.succ = fun i => (a >>> 1).testBit i := by
    funext i
    simp [Nat.testBit_shiftRight, Nat.add_comm]
  rw [e]
  by_cases h : a.testBit 0
  · rw [if_pos h, if_pos h]; rfl
  · rw [if_neg h, if_neg h]; rfl
theorem bits_zero (k : Nat) : bits k 0 = [] := by
  unfold bits
  rw [List.filter_eq_nil_iff]
  intro i _
  simp
theorem bits_lt {k a i : Nat} (h : i ∈ bits k a) : i < k := by
  unfold bits at h
  exact List.mem_range.mp (List.mem_filter.mp h).1
def wc : Int × (List Int) × Int → M Bool := fun s4 => .ok (decide (0 < s4.1))
def wf : Int × (List Int) × Int → M (Int × (List Int) × Int) := fun s4 => M.bind (cond (decide (Builtin.bitAnd s4.1 1 = 1)) (appL s4.2.1 s4.2.2) (.ok s4.2.1)) fun s6 => M.bind (shrI s4.1 1) fun prop8 => M.bind (.ok (s4.2.2 + 1 : Int)) fun world9 => .ok ((prop8, s6, world9))
theorem shr1 (a : Nat) : shrI (a : Int) 1 = .ok ((a >>> 1 : Nat) : Int) := shr_nat a 1
theorem and1 (a : Nat) : Builtin.bitAnd (a : Int) 1 = ((a &&& 1 : Nat) : Int) := and_nat a 1
theorem wf_eq {a w : Nat} {ws : List Int} (hl : ws.length < 1000) : wf ((a : Int), ws, (w : Int)) = .ok (((a >>> 1 : Nat) : Int), (if a.testBit 0 then ws ++ [(w : Int)] else ws), ((w + 1 : Nat) : Int)) := by
  have hb : (a &&& 1 = 1) ↔ a.testBit 0 = true := by
    rw [Nat.testBit_zero, Nat.and_one_is_mod]
    simp
  unfold wf
  show M.bind (cond (decide (Builtin.bitAnd (a : Int) 1 = 1)) (appL ws (w : Int)) (.ok ws)) (fun s6 => M.bind (shrI (a : Int) 1) fun prop8 => M.bind (.ok ((w : Int) + 1 : Int)) fun world9 => .ok ((prop8, s6, world9))) = _
  rw [and1, shr1]
  by_cases ht : a.testBit 0 = true
  · rw [if_pos ht, hb.mpr ht]
    show M.bind (appL ws (w : Int)) _ = _
    rw [bok (app_nat (by omega))]
    rfl
  · rw [if_neg ht, decide_eq_false (fun z => ht (hb.mp (by exact_mod_cast z)))]
    rfl
theorem worlds_loop : ∀ (k : Nat) (fuel a w : Nat) (ws : List Int), a < 2 ^ k → k < fuel → ws.length + k < 1000 → ∃ w', M.whl wc wf fuel ((a : Int), ws, (w : Int)) = .ok (0, ws ++ (bits k a).map (fun i => ((w + i : Nat) : Int)), w')
  | 0, fuel, a, w, ws, ha, hf, hl => by
    have : a = 0 := by simpa using ha
    subst this
    obtain ⟨m, rfl⟩ : ∃ m, fuel = m + 1 := ⟨fuel - 1, by omega⟩
    refine ⟨w, (whl_stop (c := wc) (f := wf) rfl).trans ?_⟩
    simp [bits]
  | k + 1, fuel, a, w, ws, ha, hf, hl => by
    obtain ⟨m, rfl⟩ : ∃ m, fuel = m + 1 := ⟨fuel - 1, by omega⟩
    by_cases h0 : a = 0
    · subst h0
      refine ⟨w, (whl_stop (c := wc) (f := wf) rfl).trans ?_⟩
      rw [bits_zero]
      simp
    · have hs : a >>> 1 < 2 ^ k := by
        rw [Nat.shiftRight_eq_div_pow]
        have := Nat.pow_succ 2 k
        omega
      have c1 : wc ((a : Int), ws, (w : Int)) = .ok true := by
        unfold wc
        congr 1
        exact decide_eq_true (by show (0 : Int) < (a : Int); omega)
      by_cases ht : a.testBit 0 = true
      · obtain ⟨w', ih⟩ := worlds_loop k m (a >>> 1) (w + 1) (ws ++ [(w : Int)]) hs (by omega) (by simp; omega)
        have hf' := wf_eq (a := a) (w := w) (ws := ws) (by omega)
        rw [if_pos ht] at hf'
        refine ⟨w', (whl_go c1 hf').trans (ih.trans ?_)⟩
        rw [bits_succ, if_pos ht]
        simp [Function.comp_def, Nat.add_assoc, Nat.add_comm 1]
      · obtain ⟨w', ih⟩ := worlds_loop k m (a >>> 1) (w + 1) ws hs (by omega) (by omega)
        have hf' := wf_eq (a := a) (w := w) (ws := ws) (by omega)
        rw [if_neg ht] at hf'
        refine ⟨w', (whl_go c1 hf').trans (ih.trans ?_)⟩
        rw [bits_succ, if_neg ht]
        simp [Function.comp_def, Nat.add_assoc, Nat.add_comm 1]
theorem worlds_of_eq {k a : Nat} (ha : a < 2 ^ k) (hk : k < 900) : m_worlds_of (a : Int) = .ok ((bits k a).map fun (i : Nat) => (i : Int)) := by
  obtain ⟨w', e⟩ := worlds_loop k 1000 a 0 [] ha (by omega) (by simp; omega)
  have e2 : M.whl wc wf 1000 ((a : Int), [], 0) = _ := e
  show (M.whl wc wf 1000 ((a : Int), [], 0)).bind _ = _
  rw [bok e2]
  simp
theorem mem_bits {k a w : Nat} : w ∈ bits k a ↔ w < k ∧ a.testBit w = true := by
  unfold bits
  rw [List.mem_filter, List.mem_range]
theorem bits_ne {n a : Nat} (ha : a < topN n) (h0 : 0 < a) : ∃ w, w ∈ bits (2 ^ n) a := by
  refine Classical.byContradiction fun z => ?_
  have : a = 0 := by
    refine Nat.eq_of_testBit_eq fun i => ?_
    rw [Nat.zero_testBit]
    by_cases hi : i < 2 ^ n
    · cases q : a.testBit i with
      | false => rfl
      | true => exact absurd ⟨i, mem_bits.mpr ⟨hi, q⟩⟩ z
    · exact Nat.testBit_lt_two_pow (Nat.lt_of_lt_of_le ha (Nat.pow_le_pow_right (by decide) (by omega)))
  omega
theorem tb_eq (a i : Nat) : (M.bind (shrI (a : Int) (i : Int)) fun t => .ok (decide (Builtin.bitAnd t 1 = 1)) : M Bool) = .ok (a.testBit i) := by
  rw [bok (shr_nat a i), and1, Nat.and_one_is_mod]
  congr 1
  rw [Nat.testBit_eq_decide_div_mod_eq, Nat.shiftRight_eq_div_pow]
  by_cases z : a / 2 ^ i % 2 = 1
  · rw [z]; simp
  · rw [decide_eq_false z, decide_eq_false (fun w => z (by exact_mod_cast w))]
end T
end
section
set_option maxRecDepth 100000
namespace T
open PySem L2 PL
def gN (n : Nat) (rs : RN) (c : Nat) : Nat := c &&& meetN n rs c
def pop (a : Nat) : Nat := (bits 16 a).length
theorem filter_lt {α : Type} {p q : α → Bool} (h : ∀ x, p x = true → q x = true) : ∀ {xs : List α} {x : α}, x ∈ xs → q x = true → p x = false → (xs.filter p).length < (xs.filter q).length
  | y :: xs, x, hx, hq, hp => by
    have le : ∀ ys : List α, (ys.filter p).length ≤ (ys.filter q).length := fun ys => by
      induction ys with
      | nil => exact Nat.le_refl _
      | cons z zs ih =>
        rw [List.filter_cons, List.filter_cons]
        cases hz : p z with
        | true => rw [h z hz]; simpa using ih
        | false =>
          cases q z with
          | true => simp; omega
          | false => simpa using ih
    rw [List.filter_cons, List.filter_cons]
    rcases List.mem_cons.mp hx with rfl | hx
    · rw [hq, hp]
      have := le xs
      simp; omega
    · have ih := filter_lt h hx hq hp
      cases hz : p y with
      | true => rw [h y hz]; simpa using ih
      | false =>
        cases q y with
        | true => simp; omega
        | false => simpa using ih
theorem pop_lt {a m : Nat} (ha : a < 65536) (h : a &&& m ≠ a) : pop (a &&& m) < pop a := by
  have : ∃ i, (a &&& m).testBit i ≠ a.testBit i := by
    refine Classical.byContradiction fun z => h (Nat.eq_of_testBit_eq fun i => ?_)
    exact Classical.byContradiction fun w => z ⟨i, w⟩
  obtain ⟨i, hi⟩ := this
  rw [Nat.testBit_and] at hi
  have h1 : a.testBit i = true := by
    cases q : a.testBit i with
    | true => rfl
    | false => rw [q] at hi; simp at hi
  have h2 : m.testBit i = false := by
    cases q : m.testBit i with
    | false => rfl
    | true => rw [h1, q] at hi; simp at hi
  have h3 : i < 16 := by
    refine Classical.byContradiction fun z => ?_
    have : a.testBit i = false := Nat.testBit_lt_two_pow (Nat.lt_of_lt_of_le ha (by
      show 2 ^ 16 ≤ 2 ^ i
      exact Nat.pow_le_pow_right (by decide) (by omega)))
    rw [h1] at this; cases this
  unfold pop bits
  refine filter_lt (fun x hx => ?_) (List.mem_range.mpr h3) h1 ?_
  · rw [Nat.testBit_and, Bool.and_eq_true] at hx
    exact hx.1
  · rw [Nat.testBit_and, h1, h2]; rfl
theorem pop_le (a : Nat) : pop a ≤ 16 := by
  unfold pop bits
  exact Nat.le_trans (List.length_filter_le _ _) (by simp)
def it (g : Nat → Nat) : Nat → Nat → Nat
  | 0, a => a
  | k + 1, a => it g k (g a)
theorem it_fix {g : Nat → Nat} {a : Nat} (h : g a = a) : ∀ k, it g k a = a
  | 0 => rfl
  | k + 1 => by unfold it; rw [h]; exact it_fix h k
theorem it_add {g : Nat → Nat} : ∀ (j k a : Nat), it g (j + k) a = it g k (it g j a)
  | 0, k, a => by rw [Nat.zero_add]; rfl
  | j + 1, k, a => by rw [Nat.succ_add]; exact it_add j k (g a)
theorem gN_lt {n a : Nat} {rs : RN} (ha : a < 65536) : gN n rs a < 65536 := Nat.lt_of_le_of_lt Nat.and_le_left ha
def gc : Int × Int → M Bool := fun s7 => .ok (!decide (s7.2 = s7.1))
def gf (b : Int × List (Int × Int) × Unit) : Int × Int → M ((Int × Int) × List Int) := fun s7 => M.bind (.ok (s7.2 : Int)) fun prop8 => M.bind (M.bind (.ok prop8) fun t9 => M.bind (m_meet_heads b prop8) fun t10 => .ok (Builtin.bitAnd t9 t10)) fun smaller11 => M.then2 (.ok ((), [prop8])) fun _ => .ok ((prop8, smaller11), [])
theorem gf_eq {n a p : Nat} {rs : RN} (hn : n ≤ 4) : gf ((n : Int), cR rs, ()) ((p : Int), (a : Int)) = .ok ((((a : Nat) : Int), ((gN n rs a : Nat) : Int)), [(a : Int)]) := by
  unfold gf
  show M.bind (M.bind (m_meet_heads ((n : Int), cR rs, ()) (a : Int)) fun t10 => .ok (Builtin.bitAnd (a : Int) t10)) _ = _
  rw [bok (meet_heads_eq hn)]
  show M.then2 (.ok ((), [(a : Int)])) (fun _ => .ok (((a : Int), Builtin.bitAnd (a : Int) ((meetN n rs a : Nat) : Int)), [])) = _
  rw [and_nat]
  rfl
theorem whlG_stop {S β : Type} {c : S → M Bool} {f : S → M (S × List β)} {k : Nat} {s : S} (h : c s = .ok false) : M.whlG c f (k + 1) s = .ok (s, []) := by
  show (c s).bind _ = _
  rw [bok h]
  rfl
theorem whlG_go {S β : Type} {c : S → M Bool} {f : S → M (S × List β)} {k : Nat} {s t u : S} {o o' : List β} (h : c s = .ok true) (g : f s = .ok (t, o)) (e : M.whlG c f k t = .ok (u, o')) : M.whlG c f (k + 1) s = .ok (u, o ++ o') := by
  show (c s).bind _ = _
  rw [bok h]
  show M.then2 (f s) _ = _
  unfold M.then2
  rw [bok g]
  show (M.whlG c f k t).bind _ = _
  rw [bok e]
theorem steps_loop {n : Nat} {rs : RN} (hn : n ≤ 4) : ∀ (m a fuel : Nat), pop a ≤ m → m < fuel → a < 65536 →
    ∃ (k : Nat) (out : List Nat), k ≤ m ∧ gN n rs (it (gN n rs) k a) = it (gN n rs) k a ∧ out.length ≤ m ∧ (a :: out).getLast? = some (it (gN n rs) k a) ∧
      M.whlG gc (gf ((n : Int), cR rs, ())) fuel ((a : Int), ((gN n rs a : Nat) : Int)) = .ok ((((it (gN n rs) k a : Nat) : Int), ((it (gN n rs) k a : Nat) : Int)), out.map fun (i : Nat) => (i : Int)) := by
  intro m
  induction m with
  | zero =>
    intro a fuel hp hf ha
    obtain ⟨f, rfl⟩ : ∃ f, fuel = f + 1 := ⟨fuel - 1, by omega⟩
    have hg : gN n rs a = a := by
      refine Classical.byContradiction fun z => ?_
      have := pop_lt ha z
      omega
    refine ⟨0, [], Nat.le_refl _, hg, Nat.le_refl _, rfl, ?_⟩
    rw [hg]
    exact whlG_stop (by unfold gc; simp)
  | succ m ih =>
    intro a fuel hp hf ha
    obtain ⟨f, rfl⟩ : ∃ f, fuel = f + 1 := ⟨fuel - 1, by omega⟩
    by_cases hg : gN n rs a = a
    · refine ⟨0, [], Nat.zero_le _, hg, Nat.zero_le _, rfl, ?_⟩
      rw [hg]
      exact whlG_stop (by unfold gc; simp)
    · have hlt := pop_lt ha hg
      obtain ⟨k, out, h1, h2, h3, h4, h5⟩ := ih (gN n rs a) f (by unfold gN; omega) (by omega) (gN_lt ha)
      refine ⟨k + 1, gN n rs a :: out, by omega, h2, by simp; omega, ?_, ?_⟩
      · rw [List.getLast?_cons_cons]; exact h4
      · refine (whlG_go (o := [((gN n rs a : Nat) : Int)]) ?_ (gf_eq hn) h5).trans rfl
        unfold gc
        congr 1
        have : ¬ ((gN n rs a : Nat) : Int) = (a : Int) := fun z => hg (by exact_mod_cast z)
        simp [this]
theorem idx_last {xs : List Int} {x : Int} (h : xs.getLast? = some x) : idx xs (-1) = .ok x := by
  have hl : 0 < xs.length := by
    cases xs with
    | nil => cases h
    | cons y ys => simp
  have e : L2.ixN xs.length (-1) = some (xs.length - 1) := by
    unfold L2.ixN
    rw [if_neg (by omega), if_pos (by omega)]
    congr 1
    omega
  have e2 : L2.atI xs (-1) = some x := by
    unfold L2.atI
    rw [e, ← h, List.getLast?_eq_getElem?]
    rfl
  unfold idx
  rw [e2]
theorem settle_eq {n a : Nat} {rs : RN} (hn : n ≤ 4) (ha : a < 65536) : ∃ q : Nat, m_settle ((n : Int), cR rs, ()) (a : Int) = .ok (q : Int) ∧ q = it (gN n rs) 17 a ∧ gN n rs q = q := by
  obtain ⟨k, out, h1, h2, h3, h4, h5⟩ := steps_loop (rs := rs) hn 16 a 1000 (pop_le a) (by decide) ha
  refine ⟨it (gN n rs) k a, ?_, ?_, h2⟩
  · have hs : m_steps ((n : Int), cR rs, ()) (a : Int) = .ok ((a :: out).map fun (i : Nat) => (i : Int)) := by
      show M.outs (M.bind (M.bind (m_meet_heads ((n : Int), cR rs, ()) (a : Int)) fun t5 => .ok (Builtin.bitAnd (a : Int) t5)) fun smaller6 => M.then2 (.ok ((), [(a : Int)])) fun _ => M.then2 (M.whlG gc (gf ((n : Int), cR rs, ())) 1000 ((a : Int), smaller6)) fun s7 => .ok ((), [])) = _
      rw [bok (meet_heads_eq hn)]
      show M.outs (M.then2 (.ok ((), [(a : Int)])) fun _ => M.then2 (M.whlG gc (gf ((n : Int), cR rs, ())) 1000 ((a : Int), Builtin.bitAnd (a : Int) ((meetN n rs a : Nat) : Int))) fun s7 => .ok ((), [])) = _
      rw [and_nat]
      have h5' : M.whlG gc (gf ((n : Int), cR rs, ())) 1000 ((a : Int), ((a &&& meetN n rs a : Nat) : Int)) = _ := h5
      rw [h5']
      unfold M.then2 M.outs
      simp
    show (gOut (m_steps ((n : Int), cR rs, ()) (a : Int))).bind (fun t3 => idx t3 (-1)) = _
    rw [hs]
    have hl : lenOk ((a :: out).map fun (i : Nat) => (i : Int)).length = true := lenOk_nat (by simp; omega)
    show (M.grd (lenOk ((a :: out).map fun (i : Nat) => (i : Int)).length) (.ok _)).bind _ = _
    rw [grd_t hl]
    show idx ((a :: out).map fun (i : Nat) => (i : Int)) (-1) = _
    refine idx_last ?_
    rw [List.getLast?_map, h4]
    rfl
  · have : 17 = k + (17 - k) := by omega
    rw [this, it_add, it_fix h2]
theorem it_sub {n : Nat} {rs : RN} : ∀ (k a : Nat), it (gN n rs) k a &&& a = it (gN n rs) k a
  | 0, a => Nat.and_self a
  | k + 1, a => by
    have := it_sub (n := n) (rs := rs) k (gN n rs a)
    unfold it
    rw [sub_iff] at this ⊢
    intro i hi
    have := this i hi
    unfold gN at this
    rw [Nat.testBit_and, Bool.and_eq_true] at this
    exact this.1
end T
end
section
set_option maxRecDepth 100000
namespace T
open PySem L2 PL
def okN (n : Nat) (rs : RN) (ins : Bool) (c : Nat) : Bool := !ins || stableN n rs c
def stepN (n : Nat) (rs : RN) (ins plus : Bool) (t c : Nat) : Nat := if okN n rs ins c = true then t ||| outN n rs plus c else t
def casesN (n : Nat) (rs : RN) (byc ins : Bool) (a : Nat) : List Nat := if byc = true then 0 :: (bits (2 ^ n) a).map (2 ^ ·) else if ins = true then [it (gN n rs) 17 a] else [a]
def dueN (n : Nat) (rs : RN) (byc ins plus : Bool) (a : Nat) : Nat := (casesN n rs byc ins a).foldl (stepN n rs ins plus) 0
theorem okN_zero {n : Nat} {rs : RN} {ins : Bool} : okN n rs ins 0 = true := by
  unfold okN stableN
  rw [Nat.zero_and]
  cases ins <;> rfl
theorem stepN_zero {n : Nat} {rs : RN} {ins plus : Bool} : stepN n rs ins plus 0 0 = outN n rs plus 0 := by
  unfold stepN
  rw [if_pos okN_zero, Nat.zero_or]
theorem bits_small {n a w : Nat} (hn : n ≤ 4) (h : w ∈ bits (2 ^ n) a) : w ≤ 16 := by
  have := bits_lt h
  have := pow_small hn
  omega
theorem lt_top {n a : Nat} (hn : n ≤ 4) (ha : a < topN n) : a < 65536 := Nat.lt_of_lt_of_le ha (top_small hn)
theorem mOr_ok (a b : Bool) : mOr (.ok a) (.ok b) = .ok (a || b) := by cases a <;> rfl
theorem fold_or_bit {x : Nat → Nat} {i : Nat} : ∀ (l : List Nat) (s : Nat), (l.foldl (fun t c => t ||| x c) s).testBit i = true ↔ s.testBit i = true ∨ ∃ c ∈ l, (x c).testBit i = true
  | [], s => by simp
  | c :: l, s => by
    rw [List.foldl_cons, fold_or_bit l, Nat.testBit_or, Bool.or_eq_true]
    constructor
    · rintro ((h | h) | ⟨d, hd, h⟩)
      · exact .inl h
      · exact .inr ⟨c, List.mem_cons_self .., h⟩
      · exact .inr ⟨d, List.mem_cons_of_mem _ hd, h⟩
    · rintro (h | ⟨d, hd, h⟩)
      · exact .inl (.inl h)
      · rcases List.mem_cons.mp hd with rfl | hd
        · exact .inl (.inr h)
        · exact .inr ⟨d, hd, h⟩
def xN (n : Nat) (rs : RN) (ins plus : Bool) (c : Nat) : Nat := if okN n rs ins c = true then outN n rs plus c else 0
theorem stepN_eq {n : Nat} {rs : RN} {ins plus : Bool} {t c : Nat} : stepN n rs ins plus t c = t ||| xN n rs ins plus c := by
  unfold stepN xN
  split
  · rfl
  · rw [Nat.or_zero]
theorem dueN_bit {n a : Nat} {rs : RN} {byc ins plus : Bool} {i : Nat} : (dueN n rs byc ins plus a).testBit i = true ↔ ∃ c ∈ casesN n rs byc ins a, (xN n rs ins plus c).testBit i = true := by
  unfold dueN
  have : stepN n rs ins plus = fun t c => t ||| xN n rs ins plus c := by funext t c; exact stepN_eq
  rw [this, fold_or_bit]
  simp
theorem single_bit {n w : Nat} (hw : w < 2 ^ n) {rs : RN} {ins plus : Bool} {i : Nat} : (dueN n rs true ins plus (2 ^ w)).testBit i = true ↔ (xN n rs ins plus 0).testBit i = true ∨ (xN n rs ins plus (2 ^ w)).testBit i = true := by
  rw [dueN_bit]
  unfold casesN
  rw [if_pos rfl]
  constructor
  · rintro ⟨c, hc, h⟩
    rcases List.mem_cons.mp hc with rfl | hc
    · exact .inl h
    · obtain ⟨v, hv, rfl⟩ := List.mem_map.mp hc
      have hv := (mem_bits.mp hv).2
      rw [Nat.testBit_two_pow] at hv
      have : w = v := by simpa using hv
      subst this
      exact .inr h
  · rintro (h | h)
    · exact ⟨0, List.mem_cons_self .., h⟩
    · exact ⟨2 ^ w, List.mem_cons_of_mem _ (List.mem_map.mpr ⟨w, mem_bits.mpr ⟨hw, by rw [Nat.testBit_two_pow]; simp⟩, rfl⟩), h⟩
def jN (n : Nat) (rs : RN) (ins plus : Bool) (a : Nat) : Nat := (bits (2 ^ n) a).foldl (fun t w => t ||| dueN n rs true ins plus (2 ^ w)) 0
theorem jN_eq {n a : Nat} {rs : RN} {ins plus : Bool} (ha : a < topN n) (h0 : 0 < a) : jN n rs ins plus a = dueN n rs true ins plus a := by
  refine eq_of_bits fun i => ?_
  unfold jN
  rw [fold_or_bit (x := fun w => dueN n rs true ins plus (2 ^ w)), dueN_bit]
  unfold casesN
  rw [if_pos rfl]
  simp only [Nat.zero_testBit, Bool.false_eq_true, false_or]
  constructor
  · rintro ⟨w, hw, h⟩
    rcases (single_bit (mem_bits.mp hw).1).mp h with h | h
    · exact ⟨0, List.mem_cons_self .., h⟩
    · exact ⟨2 ^ w, List.mem_cons_of_mem _ (List.mem_map.mpr ⟨w, hw, rfl⟩), h⟩
  · rintro ⟨c, hc, h⟩
    rcases List.mem_cons.mp hc with rfl | hc
    · obtain ⟨w, hw⟩ := bits_ne ha h0
      exact ⟨w, hw, (single_bit (mem_bits.mp hw).1).mpr (.inl h)⟩
    · obtain ⟨w, hw, rfl⟩ := List.mem_map.mp hc
      exact ⟨w, hw, (single_bit (mem_bits.mp hw).1).mpr (.inr h)⟩
theorem due_zero {n : Nat} {rs : RN} {ins plus : Bool} : dueN n rs true ins plus 0 = outN n rs plus 0 := by
  unfold dueN casesN
  rw [if_pos rfl, bits_zero]
  exact stepN_zero
theorem due_atonce {n a : Nat} {rs : RN} {ins plus : Bool} {i : Nat} (h : (dueN n rs false ins plus a).testBit i = true) : (meetN n rs a).testBit i = true ∧ (plus = true → a.testBit i = true) := by
  obtain ⟨c, hc, hx⟩ := dueN_bit.mp h
  have hs : c &&& a = c := by
    unfold casesN at hc
    rw [if_neg Bool.false_ne_true] at hc
    cases ins with
    | false => simp at hc; rw [hc, Nat.and_self]
    | true => simp at hc; rw [hc]; exact it_sub _ _
  unfold xN at hx
  split at hx
  · obtain ⟨h1, h2⟩ := out_sub hx
    exact ⟨sub_iff.mp (meetN_anti hs) i h1, fun z => sub_iff.mp hs i (h2 z)⟩
  · simp at hx
end T
end
section
set_option maxRecDepth 100000
namespace T
open PySem L2 PL
theorem law_meet_eq {n c : Nat} {rs : RN} (h : n ≤ 4) : m_law_meet (n : Int) (cR rs) (c : Int) = .ok ((meetN n rs c : Nat) : Int) := by
  unfold m_law_meet
  show M.bind (M.bind ((shlI 1 (n : Int)).bind fun t => shlI 1 t) fun t6 => .ok (t6 - 1)) _ = _
  rw [bok (shl2 h)]
  have e : ((topN n : Nat) : Int) - 1 = ((whole n : Nat) : Int) := by
    have := top_pos n
    unfold whole
    omega
  show M.bind (M.fold _ (cR rs) (((topN n : Nat) : Int) - 1)) _ = _
  rw [e, bok (meet_fold rs (whole n))]
  rfl
end T
end
section
set_option maxRecDepth 100000
namespace T
open PySem L2 PL
section
variable {n : Nat} {rs : RN} {m : Str} {byc ins plus : Bool}
theorem law_by_cases_eq (hm : Mn m byc ins plus) : m_law_by_cases m = .ok byc := by
  obtain ⟨x, e1, e2, e3, e4⟩ := hm.s4
  unfold m_law_by_cases
  simp only [e1, M.bk, e2]
theorem law_in_steps_eq (hm : Mn m byc ins plus) : m_law_in_steps m = .ok ins := by
  obtain ⟨x, e1, e2, e3, e4⟩ := hm.s4
  unfold m_law_in_steps
  simp only [e1, M.bk, e4]
theorem lc_pow {a : Nat} (hn : n ≤ 4) : M.lc (fun x => M.bind (shrI (a : Int) x) fun t => .ok (decide (Builtin.bitAnd t 1 = 1))) (fun x => shlI 1 x) ((List.range (2 ^ n)).map fun (i : Nat) => (i : Int)) = .ok ((bits (2 ^ n) a).map fun i => ((2 ^ i : Nat) : Int)) := by
  have hp := pow_small hn
  rw [lc_eq (q := fun x => a.testBit x.toNat) (g := fun x => ((2 ^ x.toNat : Nat) : Int))]
  · unfold bits
    rw [List.filter_map, List.map_map]
    simp [Function.comp_def]
  · intro x hx
    obtain ⟨i, hi, rfl⟩ := List.mem_map.mp hx
    rw [tb_eq]; simp
  · intro x hx _
    obtain ⟨i, hi, rfl⟩ := List.mem_map.mp hx
    have := List.mem_range.mp hi
    rw [shl_nat (by omega)]; simp
theorem meet_loop (hn : n ≤ 4) : ∀ (k c : Nat) (ys : List Int), ys.length = k → M.fold (fun (s58 : Int) (k59 : Int) => M.bind (m_law_meet (n : Int) (cR rs) s58) fun t61 => .ok (Builtin.bitAnd s58 t61)) ys (c : Int) = .ok ((it (gN n rs) k c : Nat) : Int)
  | 0, c, ys, h => by
    have : ys = [] := List.length_eq_zero_iff.mp h
    subst this
    rfl
  | k + 1, c, ys, h => by
    match ys, h with
    | y :: ys, h =>
      show M.bind (M.bind (m_law_meet (n : Int) (cR rs) (c : Int)) _) _ = _
      rw [law_meet_eq hn, M.bk, M.bk, and_nat]
      exact meet_loop hn k (gN n rs c) ys (by simpa using h)
theorem pow_lt_top {w : Nat} (h : w < 2 ^ n) : 2 ^ w < topN n := Nat.pow_lt_pow_right (by decide) h
theorem law_due_eq {a : Nat} (hn : n ≤ 4) (hm : Mn m byc ins plus) (ha : a < topN n) : m_law_due (n : Int) (cR rs) (a : Int) m = .ok ((dueN n rs byc ins plus a : Nat) : Int) := by
  obtain ⟨y, f1, f2⟩ := hm.ls
  have hp := pow_small hn
  unfold m_law_due
  simp only [M.bk, M.bind_assoc, law_by_cases_eq hm, law_in_steps_eq hm, f1, f2, M.ob, M.nb]
  have hc : ∀ (b : Bool) (k : List Int → M Int), (cond b (M.bind (shlI 1 (n : Int)) fun a1 => M.bind (M.grd (rgOk a1) (.ok (rng 0 a1))) fun a2 => M.bind (M.lc (fun x => M.bind (shrI (a : Int) x) fun t => .ok (decide (Builtin.bitAnd t 1 = 1))) (fun x => shlI 1 x) a2) fun ys => M.bind (M.grd (lenOk ys.length) (.ok ys)) fun t => catL [0] t) (cond ins (M.bind (M.fold (fun (s58 : Int) (k59 : Int) => M.bind (m_law_meet (n : Int) (cR rs) s58) fun t61 => .ok (Builtin.bitAnd s58 t61)) (rng 0 17) (a : Int)) fun s => .ok [s]) (.ok [(a : Int)])) : M (List Int)).bind k = k ((casesN n rs b ins a).map fun (i : Nat) => (i : Int)) := fun b k => by
    cases b with
    | true =>
      have hl : ((bits (2 ^ n) a).map fun i => ((2 ^ i : Nat) : Int)).length ≤ 16 := by
        unfold bits
        rw [List.length_map]
        exact Nat.le_trans (List.length_filter_le _ _) (by rw [List.length_range]; exact hp)
      rw [M.ct, bok (shl_nat (by omega)), grd_t (rgOk_nat (by omega)), M.bk, rng_nat, lc_pow hn, M.bk, grd_t (lenOk_nat (by omega)), M.bk]
      unfold catL casesN
      rw [grd_t (lenOk_nat (by simp only [List.length_singleton]; omega)), M.bk, if_pos rfl]
      simp [Function.comp_def]
    | false =>
      rw [M.cf]
      unfold casesN
      rw [if_neg Bool.false_ne_true]
      cases ins with
      | true => rw [M.ct, meet_loop hn 17 a (rng 0 17) (by decide), M.bk, M.bk]; rfl
      | false => rfl
  rw [hc]
  rw [fold_nat (g := stepN n rs ins plus) (z := 0) 0 rfl]
  · rfl
  · intro s c _
    rw [law_meet_eq hn]
    simp only [M.bk, and_nat, dec_nat]
    unfold stepN okN outN stableN
    cases ins with
    | false => cases plus <;> simp only [M.ct, M.cf, M.bk, or_nat, not_f, not_t] <;> rfl
    | true =>
      cases decide (c &&& meetN n rs c = c) with
      | false => simp only [M.ct, M.cf, M.bk, or_nat, not_f, not_t]; rfl
      | true => cases plus <;> simp only [M.ct, M.cf, M.bk, or_nat, not_f, not_t] <;> rfl
end
end T
end
section
set_option maxRecDepth 100000
namespace T
open PySem L2 PL
theorem due_eq {n a : Nat} {rs : RN} {m : Str} {byc ins plus : Bool} (hn : n ≤ 4) (hm : Mn m byc ins plus) (ha : a < topN n) : m_due ((n : Int), cR rs, ()) (a : Int) m = .ok ((dueN n rs byc ins plus a : Nat) : Int) := by
  unfold m_due
  rw [bok hm.sw]
  cases byc with
  | false =>
    show M.bind (cond ins (m_settle ((n : Int), cR rs, ()) (a : Int)) (.ok (a : Int))) (fun case5 => m_output ((n : Int), cR rs, ()) case5 m) = _
    cases ins with
    | false =>
      show m_output ((n : Int), cR rs, ()) (a : Int) m = _
      rw [output_eq hn hm]
      congr 2
      show _ = stepN n rs false plus 0 a
      unfold stepN okN
      simp
    | true =>
      obtain ⟨q, e1, e2, e3⟩ := settle_eq (rs := rs) hn (lt_top hn ha)
      show M.bind (m_settle ((n : Int), cR rs, ()) (a : Int)) (fun case5 => m_output ((n : Int), cR rs, ()) case5 m) = _
      rw [bok e1, output_eq hn hm]
      congr 2
      show _ = stepN n rs true plus 0 (it (gN n rs) 17 a)
      rw [← e2]
      have : stableN n rs q = true := decide_eq_true e3
      unfold stepN okN
      rw [this]
      simp
  | true =>
    have h0 := output_eq (c := 0) (rs := rs) hn hm
    show M.bind (m_output ((n : Int), cR rs, ()) ((0 : Nat) : Int) m) _ = _
    rw [bok h0, bok (worlds_of_eq (k := 2 ^ n) (a := a) ha (by have := pow_small hn; omega))]
    have hf := fold_sim (f := fun (s7 : Int) (world8 : Int) => M.bind (shlI 1 world8) fun case9 => M.bind (mOr (.ok (!ins)) (m_is_stable ((n : Int), cR rs, ()) case9)) fun t17 => cond t17 (M.bind (.ok s7) fun t14 => M.bind (m_output ((n : Int), cR rs, ()) case9 m) fun t15 => .ok (Builtin.bitOr t14 t15)) (.ok s7))
      (xs := ([] : List Nat)) (g := fun t w => stepN n rs ins plus t (2 ^ w)) (e := fun (i : Nat) => (i : Int)) (v := fun (i : Nat) => (i : Int)) (ys := bits (2 ^ n) a) (s := outN n rs plus 0) (fun s w hw => by
        show M.bind (shlI 1 (w : Int)) _ = _
        rw [bok (shl_nat (by have := bits_small hn hw; omega)), is_stable_eq hn, mOr_ok]
        show cond (okN n rs ins (2 ^ w)) (M.bind (m_output ((n : Int), cR rs, ()) ((2 ^ w : Nat) : Int) m) fun t15 => .ok (Builtin.bitOr (s : Int) t15)) (.ok (s : Int)) = _
        rw [bok (output_eq hn hm), or_nat]
        unfold stepN
        cases okN n rs ins (2 ^ w) <;> rfl)
    show M.bind (M.fold _ ((bits (2 ^ n) a).map fun (i : Nat) => (i : Int)) ((outN n rs plus 0 : Nat) : Int)) (fun s7 => .ok s7) = _
    rw [bok hf]
    show M.ok _ = M.ok _
    congr 2
    unfold dueN casesN
    rw [if_pos rfl, List.foldl_cons, stepN_zero, List.foldl_map]
end T
end
section
set_option maxRecDepth 100000
namespace T
open PySem L2 PL
/-! ## what is due is the join of the outputs of all cases -/
structure IsCase (n : Nat) (rs : RN) (byc ins : Bool) (a c : Nat) : Prop where
  sub : c &&& a = c
  one : byc = true → c = 0 ∨ ∃ w, c = 2 ^ w
  stb : ins = true → stableN n rs c = true
theorem out_mono {n c d i : Nat} {rs : RN} {p : Bool} (h : c &&& d = c) (hc : (outN n rs p c).testBit i = true) : (outN n rs p d).testBit i = true := by
  have m := sub_iff.mp (meetN_anti (n := n) (rs := rs) h) i
  unfold outN at *
  cases p with
  | false => exact m hc
  | true =>
    rw [if_pos rfl, Nat.testBit_and, Bool.and_eq_true] at *
    exact ⟨m hc.1, sub_iff.mp h i hc.2⟩
theorem stable_iff {n c : Nat} {rs : RN} : stableN n rs c = true ↔ c &&& meetN n rs c = c := by unfold stableN; simp
theorem stable_sub {n c : Nat} {rs : RN} (hs : stableN n rs c = true) : ∀ (k a : Nat), c &&& a = c → c &&& it (gN n rs) k a = c
  | 0, a, h => h
  | k + 1, a, h => by
    refine stable_sub hs k _ ?_
    rw [sub_iff] at *
    intro i hi
    unfold gN
    rw [Nat.testBit_and, h i hi, sub_iff.mp (meetN_anti (n := n) (rs := rs) (sub_iff.mpr h)) i (sub_iff.mp (stable_iff.mp hs) i hi)]
    rfl
theorem stable_zero {n : Nat} {rs : RN} : stableN n rs 0 = true := by rw [stable_iff, Nat.zero_and]
theorem case_zero {n a : Nat} {rs : RN} {byc ins : Bool} : IsCase n rs byc ins a 0 := ⟨Nat.zero_and _, fun _ => .inl rfl, fun _ => stable_zero⟩
theorem pow_sub {w a : Nat} : 2 ^ w &&& a = 2 ^ w ↔ a.testBit w = true := by
  rw [sub_iff]
  constructor
  · exact fun h => h w (by rw [Nat.testBit_two_pow]; simp)
  · intro h i hi
    rw [Nat.testBit_two_pow] at hi
    have : w = i := by simpa using hi
    rw [← this]; exact h
theorem due_spec {n a i : Nat} {rs : RN} {byc ins plus : Bool} (hn : n ≤ 4) (ha : a < topN n) : (dueN n rs byc ins plus a).testBit i = true ↔ ∃ c, IsCase n rs byc ins a c ∧ (outN n rs plus c).testBit i = true := by
  rw [dueN_bit]
  unfold xN okN
  constructor
  · rintro ⟨c, hc, h⟩
    have hok : (!ins || stableN n rs c) = true := by
      refine Classical.byContradiction fun z => ?_
      rw [if_neg z] at h
      simp at h
    rw [if_pos hok] at h
    refine ⟨c, ⟨?_, ?_, fun e => by rw [e] at hok; simpa using hok⟩, h⟩
    · unfold casesN at hc
      cases byc with
      | true =>
        rw [if_pos rfl] at hc
        rcases List.mem_cons.mp hc with rfl | hc
        · exact Nat.zero_and _
        · obtain ⟨w, hw, rfl⟩ := List.mem_map.mp hc
          exact pow_sub.mpr (mem_bits.mp hw).2
      | false =>
        rw [if_neg Bool.false_ne_true] at hc
        cases ins with
        | true => rw [if_pos rfl, List.mem_singleton] at hc; rw [hc]; exact it_sub _ _
        | false => rw [if_neg Bool.false_ne_true, List.mem_singleton] at hc; rw [hc, Nat.and_self]
    · rintro rfl
      unfold casesN at hc
      rw [if_pos rfl] at hc
      rcases List.mem_cons.mp hc with rfl | hc
      · exact .inl rfl
      · obtain ⟨w, hw, rfl⟩ := List.mem_map.mp hc
        exact .inr ⟨w, rfl⟩
  · rintro ⟨c, ⟨h1, h2, h3⟩, h⟩
    have hok : (!ins || stableN n rs c) = true := by
      cases ins with
      | false => rfl
      | true => exact h3 rfl
    cases byc with
    | true =>
      refine ⟨c, ?_, by rw [if_pos hok]; exact h⟩
      unfold casesN
      rw [if_pos rfl]
      rcases h2 rfl with rfl | ⟨w, rfl⟩
      · exact List.mem_cons_self ..
      · have hw := pow_sub.mp h1
        refine List.mem_cons_of_mem _ (List.mem_map.mpr ⟨w, mem_bits.mpr ⟨?_, hw⟩, rfl⟩)
        refine Classical.byContradiction fun z => ?_
        have : a.testBit w = false := Nat.testBit_lt_two_pow (Nat.lt_of_lt_of_le ha (Nat.pow_le_pow_right (by decide) (by omega)))
        rw [hw] at this; cases this
    | false =>
      unfold casesN
      rw [if_neg Bool.false_ne_true]
      cases ins with
      | false =>
        refine ⟨a, by rw [if_neg Bool.false_ne_true]; exact List.mem_singleton.mpr rfl, ?_⟩
        exact out_mono h1 h
      | true =>
        refine ⟨it (gN n rs) 17 a, by rw [if_pos rfl]; exact List.mem_singleton.mpr rfl, ?_⟩
        obtain ⟨q, _, e, hq⟩ := settle_eq (rs := rs) hn (lt_top hn ha)
        rw [← e]
        have hs : stableN n rs q = true := stable_iff.mpr hq
        rw [if_pos (by rw [hs]; rfl)]
        refine out_mono ?_ h
        rw [e]
        exact stable_sub (h3 rfl) 17 a h1
end T
end
section
set_option maxRecDepth 100000
namespace T
open PySem L2 PL
section
variable {n a b : Nat} {rs : RN} {m : Str} {byc ins plus : Bool}
/-- a claim is due -/
def isDueN (n : Nat) (rs : RN) (byc ins plus : Bool) (a b : Nat) : Bool := decide (dueN n rs byc ins plus a &&& b = dueN n rs byc ins plus a)
theorem is_due_eq (hn : n ≤ 4) (hm : Mn m byc ins plus) (ha : a < topN n) : m_is_due ((n : Int), cR rs, ()) (a : Int) (b : Int) m = .ok (isDueN n rs byc ins plus a b) := by
  unfold m_is_due
  simp only [M.bk, due_eq hn hm ha, within_eq]
  rfl
theorem isDue_iff : isDueN n rs byc ins plus a b = true ↔ ∀ i, (dueN n rs byc ins plus a).testBit i = true → b.testBit i = true := by
  unfold isDueN
  rw [decide_eq_true_eq, sub_iff]
/-- more rules make less due -/
theorem due_more {qs : RN} (hn : n ≤ 4) (ha : a < topN n) (h : ∀ r ∈ rs, r ∈ qs) {i : Nat} (hi : (dueN n qs byc ins plus a).testBit i = true) : (dueN n rs byc ins plus a).testBit i = true := by
  have hm : ∀ c j, (meetN n qs c).testBit j = true → (meetN n rs c).testBit j = true := fun c j hj => by
    rw [meetN_bit] at hj ⊢
    exact ⟨hj.1, fun r hr e => hj.2 r (h r hr) e⟩
  obtain ⟨c, hc, ho⟩ := (due_spec hn ha).mp hi
  refine (due_spec hn ha).mpr ⟨c, ⟨hc.sub, hc.one, fun e => ?_⟩, ?_⟩
  · have := stable_iff.mp (hc.stb e)
    rw [stable_iff, sub_iff]
    rw [sub_iff] at this
    exact fun j hj => hm c j (this j hj)
  · unfold outN at *
    cases plus with
    | false => exact hm c i ho
    | true =>
      rw [if_pos rfl, Nat.testBit_and, Bool.and_eq_true] at *
      exact ⟨hm c i ho.1, ho.2⟩
/-- by cases: what is due under the worlds one by one -/
theorem due_bycases (hn : n ≤ 4) (ha : a < topN n) {i : Nat} : (dueN n rs true ins plus a).testBit i = true ↔ (dueN n rs true ins plus 0).testBit i = true ∨ ∃ w ∈ bits (2 ^ n) a, (dueN n rs true ins plus (2 ^ w)).testBit i = true := by
  rw [due_spec hn ha, due_spec hn (top_pos n)]
  constructor
  · rintro ⟨c, hc, ho⟩
    rcases hc.one rfl with rfl | ⟨w, rfl⟩
    · exact .inl ⟨0, case_zero, ho⟩
    · have hw := pow_sub.mp hc.sub
      have hwl : w < 2 ^ n := by
        refine Classical.byContradiction fun z => ?_
        have : a.testBit w = false := Nat.testBit_lt_two_pow (Nat.lt_of_lt_of_le ha (Nat.pow_le_pow_right (by decide) (by omega)))
        rw [hw] at this; cases this
      refine .inr ⟨w, mem_bits.mpr ⟨hwl, hw⟩, (due_spec hn (Nat.pow_lt_pow_right (by decide) hwl)).mpr ⟨2 ^ w, ⟨Nat.and_self _, hc.one, hc.stb⟩, ho⟩⟩
  · rintro (⟨c, hc, ho⟩ | ⟨w, hw, h⟩)
    · have : c = 0 := by have := hc.sub; rw [Nat.and_zero] at this; exact this.symm
      subst this
      exact ⟨0, case_zero, ho⟩
    · obtain ⟨c, hc, ho⟩ := (due_spec hn (Nat.pow_lt_pow_right (by decide) (mem_bits.mp hw).1)).mp h
      refine ⟨c, ⟨?_, hc.one, hc.stb⟩, ho⟩
      have := hc.sub
      rw [sub_iff] at this ⊢
      intro j hj
      have := this j hj
      rw [Nat.testBit_two_pow] at this
      have : w = j := by simpa using this
      rw [← this]; exact (mem_bits.mp hw).2
end
end T
end
section
set_option maxRecDepth 100000
namespace T
open PySem L2 PL
theorem cell_is (s : List Int) {k : Int} (hk : 0 ≤ k) : Is (m_law_cell s k) (fun c => 0 ≤ c) := by
  unfold m_law_cell
  refine Is.cond (fun h => ?_) (fun _ => .ok (Int.le_refl _))
  have h := of_decide_eq_true h
  obtain ⟨x, e, _⟩ := idx_int hk h
  rw [bok e]
  refine .ok ?_
  unfold absI
  split <;> omega
end T
end
section
set_option maxRecDepth 100000
namespace T
open PySem L2 PL
theorem pow18 : powI 10 18 = .ok 1000000000000000000 := rfl
theorem numbers_is (s : List Int) {at' cnt radix : Int} (ha : 0 ≤ at' ∧ at' < 1000) (hc : 0 ≤ cnt ∧ cnt < 100000) (hr : 0 < radix ∧ radix < 1073741824) : Is (m_law_numbers s at' cnt radix) (fun xs => xs.length = cnt ∧ ∀ x ∈ xs, InR radix x) := by
  unfold m_law_numbers
  refine (cell_is s ha.1).b fun c hc0 => ?_
  simp only [M.bk, pow18]
  refine Is.b (P := fun c => 0 ≤ c) (Is.cond (fun _ => .ok (Int.le_refl _)) (fun _ => .ok hc0)) fun left hl => ?_
  refine Is.b_as (Is.b_rg ⟨hc.1, by omega⟩ ?_)
  refine Is.b_for (I := fun i (s : List Int × Int) => (s.1.length : Int) = i ∧ 0 ≤ s.2 ∧ ∀ x ∈ s.1, InR radix x) hc.1 ⟨rfl, hl, by simp⟩ (fun i s h0 h1 ⟨h2, h3, h4⟩ => ?_) (fun s h => .ok ⟨h.1, h.2.2⟩)
  simp only [M.bind_assoc, M.bind_cond, M.bk]
  refine Is.cond (fun _ => ?_) (fun _ => ?_)
  · refine Is.b_mod hr.1 fun t _ a b => ?_
    refine Is.b_app (by omega) ?_
    refine Is.b_fdiv hr fun u _ c => .ok ?_
    exact ⟨by simp; omega, c h3, all_app h4 ⟨a, b⟩⟩
  · refine Is.b_mod (by omega) fun t _ a b => ?_
    refine Is.b_mul (by omega) fun t2 _ a2 => ?_
    refine Is.b_mul (by omega) fun t3 _ a3 => ?_
    refine Is.b_mul (by omega) fun t4 _ a4 => ?_
    refine Is.b_mul (by omega) fun t5 _ a5 => ?_
    refine Is.b_mod (by omega) fun t6 _ a6 b6 => ?_
    refine Is.b_mul (by omega) fun t7 _ a7 => ?_
    refine Is.b_mod (by omega) fun t8 _ a8 b8 => ?_
    refine Is.b_mod hr.1 fun t9 _ a9 b9 => ?_
    refine Is.b_app (by omega) (.ok ?_)
    exact ⟨by simp; omega, h3, all_app h4 ⟨a9, b9⟩⟩
end T
end
section
set_option maxRecDepth 100000
namespace T
open PySem L2 PL
theorem facts_is (s : List Int) {n : Nat} (hn : n ≤ 4) : Is (m_law_facts s n) (InR (topN n : Nat)) := by
  have ht := top_small hn
  have hp := top_pos n
  have hw := pow_small hn
  have hw0 : 0 < 2 ^ n := Nat.pow_pos (by decide)
  unfold m_law_facts
  simp only [M.bk, top_is hn]
  refine (numbers_is s (by omega) (by omega) (by omega)).b fun d ⟨hl, hd⟩ => ?_
  refine Is.b_as ((cell_is s (by omega)).b fun c hc => ?_)
  refine Is.b_mod (by omega) fun kind _ k0 k1 => ?_
  refine Is.cond (fun _ => .ok (by unfold InR; omega)) fun _ => ?_
  refine Is.cond (fun _ => Is.b_idx hd (by omega) fun x hx => Is.b_idx hd (by omega) fun y hy => .ok (inR_and hx hy)) fun _ => ?_
  refine Is.cond (fun _ => Is.b_idx hd (by omega) fun x hx => Is.b_idx hd (by omega) fun y hy => .ok (inR_or hx hy)) fun _ => ?_
  refine Is.cond (fun _ => ?_) fun _ => ?_
  · refine Is.b_as (Is.b_idx hd (by omega) fun x hx => ?_)
    rw [shl_nat (by omega)]
    simp only [M.bk]
    have h1 : InR (2 ^ n : Nat) (Builtin.bitAnd x (((2 ^ n : Nat) : Int) - 1)) := by
      obtain ⟨y, rfl⟩ := is_nat hx.1
      have e : ((2 ^ n : Nat) : Int) - 1 = ((2 ^ n - 1 : Nat) : Int) := by omega
      rw [e, and_nat]
      have := Nat.and_le_right (n := y) (m := 2 ^ n - 1)
      unfold InR
      omega
    obtain ⟨a, e, ha⟩ := inR_nat h1
    rw [e, shl_nat (by omega)]
    refine .ok ⟨Int.natCast_nonneg _, ?_⟩
    have : 2 ^ a < topN n := Nat.pow_lt_pow_right (by decide) ha
    omega
  · simp only [mAnd, M.bk]
    refine Is.b (P := fun _ => True) (Is.cond (fun _ => ?_) (fun _ => .ok trivial)) fun c _ => Is.cond (fun _ => .ok (by unfold InR; omega)) (fun _ => Is.lidx hd (by omega) fun x hx => hx)
    refine Is.b_as (Is.b_as ((cell_is s (by omega)).b fun c hc => ?_))
    refine Is.b_fdiv (by omega) fun t _ h => ?_
    refine Is.b_mod (by omega) fun t _ h0 h1 => .ok trivial
end T
end
section
set_option maxRecDepth 100000
namespace T
open PySem L2 PL
theorem rules_is (s : List Int) {n : Nat} {cnt facts : Int} (hn : n ≤ 4) (hc : 0 ≤ cnt ∧ cnt < 1000) (hf : InR (topN n : Nat) facts) : Is (m_law_rules s n cnt facts) (fun rs => rs.length = cnt ∧ ∀ r ∈ rs, InP (topN n : Nat) r) := by
  have ht := top_small hn
  have hp := top_pos n
  unfold m_law_rules
  simp only [M.bk, top_is hn]
  refine (numbers_is s (by omega) (by omega) (by omega)).b fun kinds ⟨hk, dk⟩ => ?_
  refine (numbers_is s (by omega) (by omega) (by omega)).b fun bodies ⟨hb, db⟩ => ?_
  refine (numbers_is s (by omega) (by omega) (by omega)).b fun heads ⟨hh, dh⟩ => ?_
  simp only [M.bind_assoc, M.bk]
  refine Is.b_mul (by omega) fun c2 hc2 _ => ?_
  refine (numbers_is s (by omega) (by omega) (by omega)).b fun more ⟨hm, dm⟩ => ?_
  refine Is.b_rg (by omega) ?_
  refine Is.b_for (I := fun i (s : List (Int × Int)) => (s.length : Int) = i ∧ ∀ x ∈ s, InP (topN n : Nat) x) hc.1 ⟨rfl, by simp⟩ (fun i rs h0 h1 ⟨h2, h3⟩ => ?_) (fun s h => .ok h)
  refine Is.b_idx db (by omega) fun body hbody => ?_
  refine Is.b_idx dh (by omega) fun head hhead => ?_
  refine Is.b_idx dk (by omega) fun kk hkk => ?_
  refine Is.b_mod (by omega) fun kind _ k0 k1 => ?_
  refine Is.b (P := InR (topN n : Nat)) (Is.cond (fun _ => Is.b_mul (by omega) fun t et _ => Is.b_idx dm (by omega) fun x hx => .ok (inR_or hbody hx)) (fun _ => .ok hbody)) fun b1 hb1 => ?_
  refine Is.b (P := InR (topN n : Nat)) (Is.cond (fun _ => .ok (by unfold InR; omega)) (fun _ => .ok hb1)) fun b2 hb2 => ?_
  refine Is.b (P := InR (topN n : Nat)) (Is.cond (fun _ => .ok (inR_or hb2 hf)) (fun _ => .ok hb2)) fun b3 hb3 => ?_
  refine Is.b (P := InR (topN n : Nat)) (Is.cond (fun h => ?_) (fun _ => .ok hb3)) fun b4 hb4 => ?_
  · have h : 0 < i := by simp at h; omega
    refine Is.b_idx h3 (by omega) fun r hr => ?_
    exact Is.b_mul (by omega) fun t et _ => Is.b_idx dm (by omega) fun x hx => .ok (inR_or hr.2 (inR_and hb3 hx))
  refine Is.b_idx dk (by omega) fun kk2 hkk2 => ?_
  refine Is.b_fdiv (by omega) fun q _ _ => ?_
  refine Is.b (P := InR (topN n : Nat)) (Is.cond (fun h => ?_) (fun _ => .ok hhead)) fun h4 hh4 => ?_
  · exact Is.b_mul (by omega) fun t et _ => Is.b_idx dm (by omega) fun x hx => .ok (inR_or hhead hx)
  exact Is.lapp (by omega) ⟨by simp; omega, all_app h3 ⟨hb4, hh4⟩⟩
end T
end
section
set_option maxRecDepth 100000
namespace T
open PySem L2 PL
theorem is_prop_eq {n : Nat} {a : Nat} (hn : n ≤ 4) (ha : a < topN n) : m_is_prop (n : Int) (a : Int) = .ok true := by
  unfold m_is_prop
  simp only [M.bk, everything_eq hn]
  have h1 : decide ((0 : Int) ≤ (a : Int)) = true := decide_eq_true (Int.natCast_nonneg a)
  have h2 : decide ((a : Int) ≤ ((whole n : Nat) : Int)) = true := decide_eq_true (by unfold whole; omega)
  rw [h1, h2]; rfl
theorem book_init_eq {n : Nat} {rs : RN} (h1 : 1 ≤ n) (hn : n ≤ 4) (hl : rs.length ≤ 16) (hr : RnOk n rs) : m_Book___init (n : Int) (cR rs) = .ok ((n : Int), cR rs, ()) := by
  have hf : ∀ (ys : List ((Nat × Nat) × Nat)) (acc : RN), (∀ y ∈ ys, y.1.1 < topN n ∧ y.1.2 < topN n) → acc.length + ys.length ≤ 1000 →
      M.fold (fun (s6 : (List (Int × Int))) (x7 : Int × (Int × Int)) => M.bind (M.bind (mOr (mNot (m_is_prop n x7.2.1)) (mNot (m_is_prop n x7.2.2))) fun t9 => cond t9 .stuck (.ok (()))) fun s8 => appL s6 ((x7.2.1, x7.2.2))) (ys.map fun p => ((p.2 : Int), cI p.1)) (cR acc) = .ok (cR (acc ++ ys.map (·.1))) := by
    intro ys
    induction ys with
    | nil => intro acc _ _; simp; rfl
    | cons y ys ih =>
      intro acc hy hl
      have h := hy y (List.mem_cons_self ..)
      have e1 := is_prop_eq hn h.1
      have e2 := is_prop_eq hn h.2
      rw [List.map_cons]
      show M.bind (M.bind (M.bind (mOr (mNot (m_is_prop n (y.1.1 : Int))) (mNot (m_is_prop n (y.1.2 : Int)))) fun t9 => cond t9 .stuck (.ok (()))) fun s8 => appL (cR acc) (cI y.1)) (fun t => M.fold _ (ys.map _) t) = _
      rw [e1, e2]
      show M.bind (appL (cR acc) (cI y.1)) _ = _
      simp only [List.length_cons] at hl
      rw [app_nat (by simp; omega), M.bk]
      have e3 : cR acc ++ [cI y.1] = cR (acc ++ [y.1]) := by simp
      rw [e3, ih _ (fun z hz => hy z (List.mem_cons_of_mem _ hz)) (by simp; omega)]
      simp
  unfold m_Book___init
  have c1 : (!((decide (1 ≤ (n : Int))) && (decide ((n : Int) ≤ 4)))) = false := by simp; omega
  have c2 : decide (16 < ((cR rs).length : Int)) = false := by simp; omega
  rw [c1, c2]
  simp only [cond_false, M.bk]
  have e0 : enumL (cR rs) = rs.zipIdx.map fun p => ((p.2 : Int), cI p.1) := by
    rw [enumL_eq]
    unfold cR
    rw [List.zipIdx_map, List.map_map]
    rfl
  have h := hf rs.zipIdx [] (fun y hy => hr _ (by
    have := List.mem_zipIdx hy
    rw [this.2.2]
    exact List.getElem_mem _)) (by simp; omega)
  rw [e0]
  show M.bind (M.fold _ _ (cR [])) _ = _
  rw [h]
  have e4 : rs.zipIdx.map (·.1) = rs := by simp
  simp only [List.nil_append, e4, M.bk]
end T
end
section
set_option maxRecDepth 100000
namespace T
open PySem L2 PL
/-- the sum of distinct powers -/
theorem sum_pow {p : Nat → Bool} : ∀ k, (∀ i, ((((List.range k).filter p).map fun i => 2 ^ i).sum).testBit i = (decide (i < k) && p i)) ∧ (((List.range k).filter p).map fun i => 2 ^ i).sum < 2 ^ k
  | 0 => ⟨fun i => by simp, by simp⟩
  | k + 1 => by
    obtain ⟨h1, h2⟩ := sum_pow (p := p) k
    rw [List.range_succ, List.filter_append, List.map_append, List.sum_append]
    have h3 : 2 ^ (k + 1) = 2 ^ k + 2 ^ k := by rw [Nat.pow_succ]; omega
    by_cases hp : p k = true
    · have e : ((List.filter p [k]).map fun i => 2 ^ i).sum = 2 ^ k := by simp [hp]
      rw [e]
      refine ⟨fun i => ?_, by omega⟩
      have e2 := Nat.two_pow_add_eq_or_of_lt h2 1
      rw [Nat.mul_one] at e2
      rw [Nat.add_comm, e2, Nat.testBit_or, h1, Nat.testBit_two_pow]
      by_cases hi : i = k
      · subst hi; simp [hp]
      · have : (decide (i < k + 1)) = decide (i < k) := by congr 1; apply propext; omega
        rw [this]
        have : decide (k = i) = false := df (fun z => hi z.symm)
        rw [this]; simp
    · have e : ((List.filter p [k]).map fun i => 2 ^ i).sum = 0 := by simp [hp]
      rw [e, Nat.add_zero]
      refine ⟨fun i => ?_, by omega⟩
      rw [h1]
      by_cases hi : i = k
      · subst hi; simp [hp]
      · have : (decide (i < k + 1)) = decide (i < k) := by congr 1; apply propext; omega
        rw [this]
theorem le_of_sub {a b : Nat} (h : a &&& b = a) : a ≤ b := by rw [← h]; exact Nat.and_le_right
section
variable {n a b : Nat} {rs : RN} {m : Str} {byc ins plus : Bool}
theorem given_eq (hn : n ≤ 4) (hm : Mn m byc ins plus) (ha : a < topN n) : m_law_given (n : Int) (cR rs) (b : Int) m (a : Int) = .ok (isDueN n rs byc ins plus a b) := by
  unfold m_law_given
  simp only [M.bk, law_due_eq hn hm ha, and_nat, dec_nat]
  rfl
/-- the greatest facts by cases -/
def bestN (n : Nat) (rs : RN) (ins plus : Bool) (l b : Nat) : Nat := (((List.range (2 ^ n)).filter fun w => l.testBit w && isDueN n rs true ins plus (2 ^ w) b).map fun i => 2 ^ i).sum
theorem best_bit {l i : Nat} : (bestN n rs ins plus l b).testBit i = (decide (i < 2 ^ n) && (l.testBit i && isDueN n rs true ins plus (2 ^ i) b)) := (sum_pow (2 ^ n)).1 i
theorem best_lt {l : Nat} : bestN n rs ins plus l b < topN n := (sum_pow (2 ^ n)).2
theorem best_sub {l : Nat} : bestN n rs ins plus l b &&& l = bestN n rs ins plus l b := sub_iff.mpr fun i hi => by
  rw [best_bit] at hi
  simp only [Bool.and_eq_true] at hi
  exact hi.2.1
theorem due_best {l f : Nat} (hn : n ≤ 4) (hf : f < topN n) (hl : f &&& l = f) : isDueN n rs true ins plus f b = true ↔ isDueN n rs true ins plus 0 b = true ∧ f &&& bestN n rs ins plus l b = f := by
  rw [isDue_iff, isDue_iff, sub_iff]
  rw [sub_iff] at hl
  have hlt : ∀ w, f.testBit w = true → w < 2 ^ n := fun w hw => Classical.byContradiction fun z => by
    have : f.testBit w = false := Nat.testBit_lt_two_pow (Nat.lt_of_lt_of_le hf (Nat.pow_le_pow_right (by decide) (by omega)))
    rw [hw] at this; cases this
  constructor
  · intro h
    refine ⟨fun i hi => h i ((due_bycases hn hf).mpr (.inl hi)), fun w hw => ?_⟩
    rw [best_bit, hl w hw, dt (hlt w hw), isDue_iff.mpr fun i hi => h i ((due_bycases hn hf).mpr (.inr ⟨w, mem_bits.mpr ⟨hlt w hw, hw⟩, hi⟩))]
    rfl
  · rintro ⟨h1, h2⟩ i hi
    rcases (due_bycases hn hf).mp hi with h | ⟨w, hw, h⟩
    · exact h1 i h
    · have := h2 w (mem_bits.mp hw).2
      rw [best_bit] at this
      simp only [Bool.and_eq_true] at this
      exact isDue_iff.mp this.2.2 i h
theorem single_eq {l : Nat} (hn : n ≤ 4) (hm : Mn m true ins plus) : m_law_single (n : Int) (cR rs) (b : Int) m (l : Int) = .ok (if isDueN n rs true ins plus 0 b = true then [((bestN n rs ins plus l b : Nat) : Int)] else []) := by
  have hp := pow_small hn
  have hg : m_law_given (n : Int) (cR rs) (b : Int) m 0 = .ok (isDueN n rs true ins plus 0 b) := given_eq (a := 0) hn hm (top_pos n)
  have hl : (bits (2 ^ n) l).length ≤ 16 := by
    unfold bits
    exact Nat.le_trans (List.length_filter_le _ _) (by rw [List.length_range]; exact hp)
  have hlc : M.lc (fun x17 => m_law_given (n : Int) (cR rs) (b : Int) m x17) (fun x17 => .ok x17) ((bits (2 ^ n) l).map fun i => ((2 ^ i : Nat) : Int)) = .ok (((bits (2 ^ n) l).filter fun w => isDueN n rs true ins plus (2 ^ w) b).map fun i => ((2 ^ i : Nat) : Int)) := by
    rw [lc_eq (q := fun x => isDueN n rs true ins plus x.toNat b) (g := fun x => x)]
    · rw [List.filter_map, List.map_map]
      rfl
    · intro x hx
      obtain ⟨i, hi, rfl⟩ := List.mem_map.mp hx
      rw [given_eq hn hm (pow_lt_top (bits_lt hi))]; rfl
    · intro x hx _; rfl
  unfold m_law_single
  simp only [M.bk, M.bind_assoc, M.nb, hg]
  cases isDueN n rs true ins plus 0 b with
  | false => rfl
  | true =>
    rw [not_t, M.cf, bok (shl_nat (by omega)), grd_t (rgOk_nat (by omega)), M.bk, rng_nat, lc_pow hn, M.bk, grd_t (lenOk_nat (by rw [List.length_map]; omega)), M.bk, hlc, M.bk, grd_t (lenOk_nat (by rw [List.length_map]; exact Nat.le_trans (List.length_filter_le _ _) (by omega))), M.bk, grd_t (by rfl), if_pos rfl]
    congr 2
    unfold bestN
    have e : ((bits (2 ^ n) l).filter fun w => isDueN n rs true ins plus (2 ^ w) b) = (List.range (2 ^ n)).filter fun w => l.testBit w && isDueN n rs true ins plus (2 ^ w) b := by
      unfold bits
      rw [List.filter_filter]
      congr 1
      funext w
      exact Bool.and_comm _ _
    rw [e]
    have : ∀ ws : List Nat, (ws.map fun i => ((2 ^ i : Nat) : Int)).sum = (((ws.map fun i => 2 ^ i).sum : Nat) : Int) := fun ws => by
      induction ws with
      | nil => rfl
      | cons w ws ih => rw [List.map_cons, List.map_cons, List.sum_cons, List.sum_cons, ih]; omega
    rw [this]
/-- what the walk over the facts keeps -/
def boundN (n : Nat) (o : Option Nat) : Nat := o.getD (whole n)
theorem any_within {f : Nat} {fs : List Nat} (hl : fs.length ≤ 1000) : (M.bind (M.map (fun x19 => m_within (f : Int) x19) (fs.map fun (i : Nat) => (i : Int))) fun ys20 => M.bind (M.grd (lenOk ys20.length) (.ok ys20)) fun t21 => .ok (t21.any id) : M Bool) = .ok (fs.any fun o => decide (f &&& o = f)) := by
  rw [map_eq (g := fun x => decide (f &&& x.toNat = f))]
  · rw [M.bk, grd_t (lenOk_nat (by simp; omega)), M.bk]
    congr 1
    rw [List.map_map, List.any_map]
    congr 1
  · intro x hx
    obtain ⟨i, hi, rfl⟩ := List.mem_map.mp hx
    rw [within_eq]; simp
def gStep (n : Nat) (rs : RN) (byc ins plus : Bool) (b bd : Nat) (fs : List Nat) (f : Nat) : List Nat := if decide (f &&& bd = f) && !(fs.any fun o => decide (f &&& o = f)) && isDueN n rs byc ins plus f b then fs ++ [f] else fs
theorem gf_fold {o : Option Nat} (hn : n ≤ 3) (hm : Mn m byc ins plus) (hb : boundN n o < topN n) : m_greatest_facts ((n : Int), cR rs, ()) (b : Int) m (o.map fun (i : Nat) => (i : Int)) = .ok (sortI (((List.range (boundN n o + 1)).reverse.foldl (gStep n rs byc ins plus b (boundN n o)) []).map fun (i : Nat) => (i : Int))) := by
  have htop : topN n ≤ 256 := by
    have : n = 0 ∨ n = 1 ∨ n = 2 ∨ n = 3 := by omega
    rcases this with rfl | rfl | rfl | rfl <;> decide
  have e1 : decide (3 < (n : Int)) = false := df (by omega)
  have e2 : M.opt (o.map fun (i : Nat) => (i : Int)) (m_everything (n : Int)) (fun x => .ok x) = .ok ((boundN n o : Nat) : Int) := by
    cases o with
    | none => exact everything_eq (by omega)
    | some x => rfl
  have e3 : ((boundN n o : Nat) : Int) + 1 = ((boundN n o + 1 : Nat) : Int) := by omega
  unfold m_greatest_facts
  simp only [e1, M.cf, M.bk, M.bind_assoc, e2, e3, M.ab, M.nb]
  rw [grd_t (rgOk_nat (by omega)), M.bk, rng_nat, ← List.map_reverse]
  have hf : ∀ (ys : List Nat) (fs : List Nat), (∀ y ∈ ys, y < topN n) → fs.length + ys.length ≤ 300 → M.fold (fun (s9 : List Int) (facts10 : Int) => M.bind (m_within facts10 ((boundN n o : Nat) : Int)) fun c => cond c (M.bind (M.map (fun x19 => m_within facts10 x19) s9) fun ys20 => M.bind (M.grd (lenOk ys20.length) (.ok ys20)) fun t21 => cond (!(t21.any id)) (M.bind (m_is_due ((n : Int), cR rs, ()) facts10 (b : Int) m) fun t25 => cond t25 (appL s9 facts10) (.ok s9)) (.ok s9)) (.ok s9)) (ys.map fun (i : Nat) => (i : Int)) (fs.map fun (i : Nat) => (i : Int)) = .ok ((ys.foldl (gStep n rs byc ins plus b (boundN n o)) fs).map fun (i : Nat) => (i : Int)) := by
    intro ys
    induction ys with
    | nil => intro fs _ _; rfl
    | cons y ys ih =>
      intro fs hy hl
      have ih' := ih (gStep n rs byc ins plus b (boundN n o) fs y) (fun z hz => hy z (List.mem_cons_of_mem _ hz)) (by
        have : (gStep n rs byc ins plus b (boundN n o) fs y).length ≤ fs.length + 1 := by unfold gStep; split <;> simp
        simp at hl; omega)
      rw [List.map_cons, List.foldl_cons, ← ih']
      show M.bind _ (fun t => M.fold _ (ys.map _) t) = _
      have key : (M.bind (m_within (y : Int) ((boundN n o : Nat) : Int)) fun c => cond c (M.bind (M.map (fun x19 => m_within (y : Int) x19) (fs.map fun (i : Nat) => (i : Int))) fun ys20 => M.bind (M.grd (lenOk ys20.length) (.ok ys20)) fun t21 => cond (!(t21.any id)) (M.bind (m_is_due ((n : Int), cR rs, ()) (y : Int) (b : Int) m) fun t25 => cond t25 (appL (fs.map fun (i : Nat) => (i : Int)) (y : Int)) (.ok (fs.map fun (i : Nat) => (i : Int)))) (.ok (fs.map fun (i : Nat) => (i : Int)))) (.ok (fs.map fun (i : Nat) => (i : Int)))) = .ok ((gStep n rs byc ins plus b (boundN n o) fs y).map fun (i : Nat) => (i : Int)) := by
        have ha := any_within (f := y) (fs := fs) (by omega)
        have ha2 : ∀ (k : Bool → M (List Int)), (M.bind (M.map (fun x19 => m_within (y : Int) x19) (fs.map fun (i : Nat) => (i : Int))) fun ys20 => M.bind (M.grd (lenOk ys20.length) (.ok ys20)) fun t21 => k (t21.any id)) = k (fs.any fun o => decide (y &&& o = y)) := fun k => by
          have := congrArg (fun m => M.bind m k) ha
          simpa only [M.bind_assoc, M.bk] using this
        rw [within_eq, M.bk, is_due_eq (by omega) hm (hy y (List.mem_cons_self ..)), ha2 fun c => cond (!c) _ _]
        unfold gStep
        cases decide (y &&& boundN n o = y) with
        | false => rfl
        | true =>
          cases fs.any fun o => decide (y &&& o = y) with
          | true => rfl
          | false =>
            rw [M.ct, not_f, M.ct, M.bk]
            cases isDueN n rs byc ins plus y b with
            | false => rfl
            | true =>
              rw [M.ct, app_nat (by simp at hl ⊢; omega)]
              simp
      exact (congrArg (fun z => M.bind z fun t => M.fold _ (ys.map fun (i : Nat) => (i : Int)) t) key).trans rfl
  have := hf (List.range (boundN n o + 1)).reverse [] (fun y hy => by
    have := List.mem_range.mp (List.mem_reverse.mp hy)
    omega) (by simp; omega)
  have this : M.fold _ _ ([] : List Int) = _ := this
  rw [this, M.bk]
theorem foldl_down {β : Type} {f : β → Nat → β} {I : Nat → β → Prop} : ∀ (k : Nat) (s : β), I k s → (∀ i s, i < k → I (i + 1) s → I i (f s i)) → I 0 ((List.range k).reverse.foldl f s)
  | 0, s, h, _ => h
  | k + 1, s, h, hs => by
    rw [List.range_succ, List.reverse_append]
    exact foldl_down k (f s k) (hs k s (by omega) h) fun i s hi => hs i s (by omega)
/-- by cases there is one greatest one -/
theorem gf_bycases {bd : Nat} (hn : n ≤ 4) (hb : bd < topN n) : (List.range (bd + 1)).reverse.foldl (gStep n rs true ins plus b bd) [] = if isDueN n rs true ins plus 0 b = true then [bestN n rs ins plus bd b] else [] := by
  have hle : bestN n rs ins plus bd b ≤ bd := le_of_sub best_sub
  have := foldl_down (f := gStep n rs true ins plus b bd) (I := fun i fs => fs = if isDueN n rs true ins plus 0 b = true ∧ i ≤ bestN n rs ins plus bd b then [bestN n rs ins plus bd b] else []) (bd + 1) [] (by
    rw [if_neg (fun z => by omega)]) (fun i s hi hI => ?_)
  · rw [this]
    by_cases h : isDueN n rs true ins plus 0 b = true
    · rw [if_pos ⟨h, Nat.zero_le _⟩, if_pos h]
    · rw [if_neg (fun z => h z.1), if_neg h]
  · have hit : i < topN n := by omega
    have yes : isDueN n rs true ins plus 0 b = true → i ≤ bestN n rs ins plus bd b → (if isDueN n rs true ins plus 0 b = true ∧ i ≤ bestN n rs ins plus bd b then [bestN n rs ins plus bd b] else []) = [bestN n rs ins plus bd b] := fun h1 h2 => if_pos ⟨h1, h2⟩
    have no : ¬ (isDueN n rs true ins plus 0 b = true ∧ i ≤ bestN n rs ins plus bd b) → (if isDueN n rs true ins plus 0 b = true ∧ i ≤ bestN n rs ins plus bd b then [bestN n rs ins plus bd b] else []) = [] := fun h => if_neg h
    unfold gStep
    by_cases h0 : isDueN n rs true ins plus 0 b = true
    · -- the same on both sides where i is not the best one
      have keep : i ≠ bestN n rs ins plus bd b → s = (if isDueN n rs true ins plus 0 b = true ∧ i ≤ bestN n rs ins plus bd b then [bestN n rs ins plus bd b] else []) := fun ne => by
        rw [hI]
        by_cases h2 : i + 1 ≤ bestN n rs ins plus bd b
        · rw [yes h0 (by omega), if_pos ⟨h0, h2⟩]
        · rw [no (fun z => h2 (by have := z.2; omega)), if_neg (fun z => h2 z.2)]
      by_cases hs : i &&& bd = i
      · have hd := due_best (rs := rs) (ins := ins) (plus := plus) (b := b) hn hit hs
        by_cases hg : i &&& bestN n rs ins plus bd b = i
        · have hile := le_of_sub hg
          by_cases he : i = bestN n rs ins plus bd b
          · have hnil : s = [] := by rw [hI, if_neg (fun z => by have := z.2; omega)]
            rw [yes h0 hile, hnil, dt hs, hd.mpr ⟨h0, hg⟩]
            show [] ++ [i] = _
            rw [← he]; rfl
          · have hone : s = [bestN n rs ins plus bd b] := by rw [hI, if_pos ⟨h0, by omega⟩]
            have : (s.any fun o => decide (i &&& o = i)) = true := by rw [hone]; simp [hg]
            rw [this, not_t, Bool.and_false, Bool.false_and]
            show s = _
            exact keep he
        · have hnd : isDueN n rs true ins plus i b = false := by
            cases q : isDueN n rs true ins plus i b with
            | false => rfl
            | true => exact absurd (hd.mp q).2 hg
          rw [hnd, Bool.and_false]
          show s = _
          exact keep fun e => hg (by rw [← e, Nat.and_self])
      · rw [df hs, Bool.false_and, Bool.false_and]
        show s = _
        exact keep fun e => hs (by rw [e]; exact best_sub)
    · have hnil : s = [] := by rw [hI, if_neg (fun z => h0 z.1)]
      have : (decide (i &&& bd = i) && !(s.any fun o => decide (i &&& o = i)) && isDueN n rs true ins plus i b) = false := by
        by_cases hs : i &&& bd = i
        · have hd := due_best (rs := rs) (ins := ins) (plus := plus) (b := b) hn hit hs
          cases q : isDueN n rs true ins plus i b with
          | false => rw [Bool.and_false]
          | true => exact absurd (hd.mp q).1 h0
        · rw [df hs]; rfl
      rw [this, no (fun z => h0 z.1), hnil]
      rfl
/-- what holds in all manners -/
theorem gf_all {bd : Nat} : (∀ f ∈ (List.range (bd + 1)).reverse.foldl (gStep n rs byc ins plus b bd) [], f ≤ bd ∧ isDueN n rs byc ins plus f b = true) ∧ (∀ f, f ≤ bd → f &&& bd = f → isDueN n rs byc ins plus f b = true → ∃ o ∈ (List.range (bd + 1)).reverse.foldl (gStep n rs byc ins plus b bd) [], f &&& o = f) := by
  have := foldl_down (f := gStep n rs byc ins plus b bd) (I := fun i fs => (∀ f ∈ fs, f ≤ bd ∧ isDueN n rs byc ins plus f b = true) ∧ (∀ f, i ≤ f → f ≤ bd → f &&& bd = f → isDueN n rs byc ins plus f b = true → ∃ o ∈ fs, f &&& o = f)) (bd + 1) [] ⟨by simp, fun f h1 h2 => by omega⟩ (fun i s hi ⟨h1, h2⟩ => ?_)
  · exact ⟨this.1, fun f => this.2 f (Nat.zero_le _)⟩
  · unfold gStep
    by_cases hc : (decide (i &&& bd = i) && !(s.any fun o => decide (i &&& o = i)) && isDueN n rs byc ins plus i b) = true
    · rw [if_pos hc]
      simp only [Bool.and_eq_true] at hc
      refine ⟨fun f hf => ?_, fun f g1 g2 g3 g4 => ?_⟩
      · rcases List.mem_append.mp hf with hf | hf
        · exact h1 f hf
        · rw [List.mem_singleton.mp hf]; exact ⟨by omega, hc.2⟩
      · by_cases e : f = i
        · exact ⟨i, by simp, by rw [e, Nat.and_self]⟩
        · obtain ⟨o, ho, q⟩ := h2 f (by omega) g2 g3 g4
          exact ⟨o, List.mem_append_left _ ho, q⟩
    · rw [if_neg hc]
      refine ⟨h1, fun f g1 g2 g3 g4 => ?_⟩
      by_cases e : f = i
      · subst e
        have : (s.any fun o => decide (f &&& o = f)) = true := by
          refine Classical.byContradiction fun z => hc ?_
          rw [dt g3, g4]
          have : (s.any fun o => decide (f &&& o = f)) = false := by simpa using z
          rw [this]; rfl
        obtain ⟨o, ho, q⟩ := List.any_eq_true.mp this
        exact ⟨o, ho, of_decide_eq_true q⟩
      · exact h2 f (by omega) g2 g3 g4
/-! ## the draws of the claim and of the limit -/
theorem bitAnd_low {x y : Int} (hx : 0 ≤ x) : 0 ≤ Builtin.bitAnd x y ∧ Builtin.bitAnd x y ≤ x := by
  by_cases hy : 0 ≤ y
  · obtain ⟨a, rfl⟩ := is_nat hx
    obtain ⟨b, rfl⟩ := is_nat hy
    rw [and_nat]
    have := Nat.and_le_left (n := a) (m := b)
    omega
  · rw [PyProof.Rows.bitAnd_pn hx hy]
    have := Nat.and_le_left (n := x.toNat) (m := (Builtin.bitNot y).toNat)
    omega
theorem dueN_lt (hn : n ≤ 4) (ha : a < topN n) : dueN n rs byc ins plus a < topN n := by
  refine Nat.lt_pow_two_of_testBit _ fun i hi => ?_
  cases q : (dueN n rs byc ins plus a).testBit i with
  | false => rfl
  | true =>
    obtain ⟨c, _, h⟩ := (due_spec hn ha).mp q
    refine absurd ?_ (Nat.not_lt.mpr hi)
    have hw : meetN n rs c ≤ whole n := by
      have : ∀ (rs : RN) (s : Nat), rs.foldl (fun s r => if c &&& r.1 = c then s &&& r.2 else s) s ≤ s := fun rs => by
        induction rs with
        | nil => intro s; exact Nat.le_refl _
        | cons r rs ih =>
          intro s
          rw [List.foldl_cons]
          refine Nat.le_trans (ih _) ?_
          split
          · exact Nat.and_le_left
          · exact Nat.le_refl _
      exact this rs _
    refine Classical.byContradiction fun z => ?_
    have := (out_sub h).1
    have h2 : (meetN n rs c).testBit i = false := Nat.testBit_lt_two_pow (Nat.lt_of_le_of_lt hw (Nat.lt_of_lt_of_le (by have := top_pos n; unfold whole; omega : whole n < topN n) (Nat.pow_le_pow_right (by decide) (by omega))))
    rw [h2] at this; cases this
theorem wanted_is (s : List Int) {at' : Int} (h0 : 0 ≤ at' ∧ at' < 1000) (hn : n ≤ 4) (hm : Mn m byc ins plus) (ha : a < topN n) : Is (m_law_wanted s at' (n : Int) (cR rs) (a : Int) m) (InR (topN n : Nat)) := by
  have ht := top_small hn
  have hp := top_pos n
  have hz : m_law_due (n : Int) (cR rs) 0 m = .ok ((dueN n rs byc ins plus 0 : Nat) : Int) := law_due_eq (a := 0) hn hm hp
  have hzl := dueN_lt (rs := rs) (byc := byc) (ins := ins) (plus := plus) hn hp
  have hal := dueN_lt (rs := rs) (byc := byc) (ins := ins) (plus := plus) hn ha
  have I1 : InR (topN n : Nat) ((dueN n rs byc ins plus a : Nat) : Int) := ⟨by omega, by omega⟩
  unfold m_law_wanted
  simp only [M.bk, M.bind_assoc]
  rw [top_b hn]
  refine (numbers_is s h0 (by omega) (by omega)).b fun d ⟨hl, hd⟩ => ?_
  refine (cell_is s h0.1).b fun c hc => ?_
  refine Is.b_mod (by omega) fun kind _ k0 k1 => ?_
  refine Is.cond (fun _ => Is.lidx hd (by omega) fun x hx => hx) fun _ => ?_
  rw [hz, M.bk]
  refine Is.cond (fun _ => .ok ⟨by omega, by omega⟩) fun _ => ?_
  refine Is.cond (fun _ => Is.b_idx hd (by omega) fun x hx => Is.b_idx hd (by omega) fun y hy => .ok (inR_or hx hy)) fun _ => ?_
  refine Is.cond (fun _ => ?_) fun _ => ?_
  · rw [top_b hn]
    obtain ⟨q1, q2⟩ := bitAnd_low (x := ((dueN n rs byc ins plus 0 : Nat) : Int)) (y := 0 - ((dueN n rs byc ins plus 0 : Nat) : Int)) (by omega)
    exact .ok ⟨by omega, by omega⟩
  rw [law_due_eq hn hm ha, M.bk]
  refine Is.cond (fun _ => ?_) fun _ => ?_
  · obtain ⟨q1, q2⟩ := bitAnd_low (x := ((dueN n rs byc ins plus a : Nat) : Int)) (y := max 0 (((dueN n rs byc ins plus a : Nat) : Int) - 1)) (by omega)
    exact .ok ⟨by omega, by omega⟩
  refine Is.cond (fun _ => .ok I1) fun _ => ?_
  exact Is.b_idx hd (by omega) fun x hx => Is.b_idx hd (by omega) fun y hy => .ok (inR_or I1 (inR_and hx hy))
theorem limit_is (s : List Int) {at' f : Int} (h0 : 0 ≤ at' ∧ at' < 1000) (hn : n ≤ 4) (hf : InR (topN n : Nat) f) : Is (m_law_limit s at' (n : Int) f) (InR (topN n : Nat)) := by
  have ht := top_small hn
  have hp := top_pos n
  unfold m_law_limit
  simp only [M.bk, M.bind_assoc]
  rw [top_b hn]
  refine (numbers_is s h0 (by omega) (by omega)).b fun d ⟨hl, hd⟩ => ?_
  refine (cell_is s h0.1).b fun c hc => ?_
  refine Is.b_mod (by omega) fun kind _ k0 k1 => ?_
  refine Is.cond (fun _ => .ok ⟨by omega, by omega⟩) fun _ => ?_
  refine Is.cond (fun _ => .ok hf) fun _ => ?_
  refine Is.cond (fun _ => .ok ⟨by omega, by omega⟩) fun _ => ?_
  refine Is.cond (fun _ => Is.b_idx hd (by omega) fun x hx => Is.b_idx hd (by omega) fun y hy => .ok (inR_or hx hy)) fun _ => ?_
  exact Is.lidx hd (by omega) fun x hx => hx
theorem same_i_eq (a b : Int) : m_law_same_i a b = .ok (decide (a = b)) := by
  unfold m_law_same_i
  simp
theorem same_l_refl {xs : List Int} (h : xs.length < 10000) : m_law_same_l xs xs = .ok true := by
  have hm : ∀ (ys : List Nat), (∀ i ∈ ys, i < xs.length) → M.map (fun x3 => M.bind (idx xs x3) fun t4 => M.bind (idx xs x3) fun t5 => m_law_same_i t4 t5) (ys.map fun (i : Nat) => (i : Int)) = .ok (ys.map fun _ => true) := fun ys hy => by
    rw [map_eq (g := fun _ => true)]
    · simp
    · intro x hx
      obtain ⟨i, hi, rfl⟩ := List.mem_map.mp hx
      have e := idx_nat (xs := xs) (i := i) (x := xs[i]'(hy i hi)) (by simp [hy i hi])
      rw [e]
      rw [M.bk, M.bk, same_i_eq, dt rfl]
  unfold m_law_same_l
  simp only [M.bk, M.bind_assoc]
  rw [dt trivial, not_t, M.cf, grd_t (rgOk_nat (by omega)), M.bk, rng_nat, hm _ fun i hi => List.mem_range.mp hi, M.bk, grd_t (lenOk_nat (by simp; omega)), M.bk]
  congr 1
  simp
/-- an answer of the function -/
structure Ans (n : Nat) (rs : RN) (byc ins plus : Bool) (b : Nat) (xs : List Int) : Prop where
  len : xs.length ≤ 1000
  due : ∀ x ∈ xs, ∃ f : Nat, x = f ∧ f < topN n ∧ isDueN n rs byc ins plus f b = true
  all : ∀ f, f < topN n → isDueN n rs byc ins plus f b = true → ∃ o : Nat, (o : Int) ∈ xs ∧ f &&& o = f
theorem whole_sub {f : Nat} (hf : f < topN n) : f &&& whole n = f := sub_iff.mpr fun i hi => by
  have hwn : (whole n).testBit i = decide (i < 2 ^ n) := Nat.testBit_two_pow_sub_one ..
  rw [hwn]
  refine decide_eq_true (Classical.byContradiction fun z => ?_)
  have : f.testBit i = false := Nat.testBit_lt_two_pow (Nat.lt_of_lt_of_le hf (Nat.pow_le_pow_right (by decide) (by omega)))
  rw [hi] at this; cases this
theorem foldl_len {bd : Nat} : ∀ (ys fs : List Nat), (ys.foldl (gStep n rs byc ins plus b bd) fs).length ≤ fs.length + ys.length
  | [], fs => Nat.le_refl _
  | y :: ys, fs => by
    have := foldl_len (bd := bd) ys (gStep n rs byc ins plus b bd fs y)
    have h2 : (gStep n rs byc ins plus b bd fs y).length ≤ fs.length + 1 := by unfold gStep; split <;> simp
    rw [List.foldl_cons, List.length_cons]
    omega
theorem answer (hn : n ≤ 3) (hm : Mn m byc ins plus) : ∃ xs, m_greatest_facts ((n : Int), cR rs, ()) (b : Int) m none = .ok xs ∧ Ans n rs byc ins plus b xs := by
  have hp := top_pos n
  have htop : topN n ≤ 256 := by
    have : n = 0 ∨ n = 1 ∨ n = 2 ∨ n = 3 := by omega
    rcases this with rfl | rfl | rfl | rfl <;> decide
  have hw : boundN n none < topN n := by show whole n < _; unfold whole; omega
  have e := gf_fold (o := none) (rs := rs) (b := b) hn hm hw
  refine ⟨_, e, ?_⟩
  obtain ⟨h1, h2⟩ := gf_all (n := n) (b := b) (rs := rs) (byc := byc) (ins := ins) (plus := plus) (bd := boundN n none)
  have mem : ∀ (fs : List Nat) (x : Int), x ∈ sortI (fs.map fun (i : Nat) => (i : Int)) ↔ ∃ f : Nat, x = f ∧ f ∈ fs := fun fs x => by
    rw [(sortI_perm _).mem_iff, List.mem_map]
    exact ⟨fun ⟨w, h, e⟩ => ⟨w, e.symm, h⟩, fun ⟨w, e, h⟩ => ⟨w, h, e.symm⟩⟩
  refine ⟨?_, fun x hx => ?_, fun f hf hd => ?_⟩
  · rw [(sortI_perm _).length_eq, List.length_map]
    have := foldl_len (n := n) (rs := rs) (byc := byc) (ins := ins) (plus := plus) (b := b) (bd := boundN n none) (List.range (boundN n none + 1)).reverse []
    rw [List.length_nil, List.length_reverse, List.length_range] at this
    omega
  · obtain ⟨f, rfl, hf⟩ := (mem _ _).mp hx
    obtain ⟨q1, q2⟩ := h1 f hf
    exact ⟨f, rfl, by omega, q2⟩
  · obtain ⟨o, ho, q⟩ := h2 f (by show f ≤ whole n; unfold whole; omega) (whole_sub hf) hd
    exact ⟨o, (mem _ _).mpr ⟨o, rfl, ho⟩, q⟩
theorem right_eq {xs : List Int} (hn : n ≤ 4) (hm : Mn m byc ins plus) (h : Ans n rs byc ins plus b xs) : m_law_right (n : Int) (cR rs) (b : Int) m xs = .ok true := by
  refine Is.tt ?_
  unfold m_law_right
  simp only [M.bk, M.bind_assoc, M.ob, M.nb]
  refine Is.bF (I := fun _ => True) (loop_is trivial fun _ x hx _ => ?_) fun _ _ => ?_
  · obtain ⟨f, rfl, hf, hd⟩ := h.due x hx
    rw [given_eq hn hm hf, hd]
    rw [dt (Int.natCast_nonneg f), M.ct, top_b hn, M.bk, dt (by omega)]
    exact .ok ⟨(), rfl, trivial⟩
  · have hg : m_law_given (n : Int) (cR rs) (b : Int) m 0 = .ok (isDueN n rs byc ins plus 0 b) := given_eq (a := 0) hn hm (top_pos n)
    rw [hg]
    by_cases h0 : isDueN n rs byc ins plus 0 b = true
    · obtain ⟨o, ho, _⟩ := h.all 0 (top_pos n) h0
      have : 0 < xs.length := List.length_pos_of_mem ho
      rw [dt (by omega)]
      exact .ok rfl
    · have : isDueN n rs byc ins plus 0 b = false := by simpa using h0
      rw [this]
      by_cases hl : (0 : Int) < xs.length
      · rw [dt hl]; exact .ok rfl
      · rw [df hl]; exact .ok rfl
theorem sortI_up (x : Option Nat) : sortI ((x.toList).map fun (i : Nat) => (i : Int)) = (x.toList).map fun (i : Nat) => (i : Int) := by
  cases x <;> simp [sortI]
theorem one_eq {o : Option Nat} (hn : n ≤ 3) (hm : Mn m true ins plus) (hb : boundN n o < topN n) : ∃ xs, m_greatest_facts ((n : Int), cR rs, ()) (b : Int) m (o.map fun (i : Nat) => (i : Int)) = .ok xs ∧ m_law_single (n : Int) (cR rs) (b : Int) m ((boundN n o : Nat) : Int) = .ok xs ∧ xs.length ≤ 1 := by
  have e := gf_fold (o := o) (rs := rs) (b := b) hn hm hb
  rw [gf_bycases (by omega) hb] at e
  refine ⟨_, e, ?_, ?_⟩
  · rw [single_eq (by omega) hm]
    by_cases h0 : isDueN n rs true ins plus 0 b = true
    · rw [if_pos h0, if_pos h0]
      exact congrArg M.ok (sortI_up (some _)).symm
    · rw [if_neg h0, if_neg h0]
      exact congrArg M.ok (sortI_up none).symm
  · rw [(sortI_perm _).length_eq, List.length_map]
    split <;> simp
end
theorem pure (s : List Int) (hs : s.length ≤ 63) : m_law s = .ok true := by
  refine Is.tt ?_
  unfold m_law
  simp only [M.bk, M.bind_assoc, M.nb, M.ob]
  refine (cell_is s (by omega)).b fun cell h0 => ?_
  refine Is.b_mod (by omega) fun n8 _ a1 a2 => ?_
  refine Is.b_idx (P := fun x => 1 ≤ x ∧ x ≤ 3) (by decide) ⟨a1, a2⟩ fun ni hni => ?_
  obtain ⟨n, rfl⟩ := is_nat (i := ni) (by omega)
  have hn : n ≤ 3 := by omega
  have hn4 : n ≤ 4 := by omega
  have hn1 : 1 ≤ n := by omega
  refine Is.b_fdiv (by omega) fun t1 _ g1 => ?_
  refine Is.b_mod (by omega) fun cnt _ b1 b2 => ?_
  refine Is.b_fdiv (by omega) fun t2 _ g2 => ?_
  refine Is.b_mod (by omega) fun t3 _ b3 b4 => ?_
  refine Is.b (P := fun k => 0 ≤ k ∧ k ≤ 12) (Is.cond (fun _ => ?_) (fun _ => .ok (by omega))) fun k hk => ?_
  · refine Is.b_fdiv (by omega) fun t4 _ _ => ?_
    exact Is.b_mod (by omega) fun t5 _ _ _ => .ok (by omega)
  refine (cell_is s (by omega)).b fun c12 h12 => ?_
  refine Is.b_mod (by omega) fun more _ d1 d2 => ?_
  have hp := top_pos n
  have ht := top_small hn4
  refine (facts_is s hn4).b fun facts hf => ?_
  refine (rules_is s hn4 (by omega) hf).b fun every ⟨hel, he⟩ => ?_
  obtain ⟨es, rfl, hE⟩ := rn_of he
  have hes : es.length ≤ 16 := by simp at hel; omega
  obtain ⟨kn, rfl⟩ := is_nat hk.1
  have hcut : cut (cR es) none (some (kn : Int)) = cR (es.take kn) := by
    unfold cut
    show ((cR es).drop 0).take (HT.sIx (cR es).length (cR es).length (some (kn : Int)) - 0) = _
    rw [show HT.sIx (cR es).length (cR es).length (some (kn : Int)) = min kn (cR es).length by
      show (if (kn : Int) < 0 then ((kn : Int) + ((cR es).length : Int)).toNat else min (kn : Int).toNat (cR es).length) = _
      rw [if_neg (by omega)]; simp]
    rw [List.drop_zero, Nat.sub_zero, ← List.map_take]
    congr 1
    rw [List.length_map]
    apply List.ext_getElem
    · simp
    · intro i h1 h2; simp
  rw [hcut]
  have hR : RnOk n (es.take kn) := fun r hr => hE r (List.mem_of_mem_take hr)
  have hrl : (es.take kn).length ≤ 16 := by rw [List.length_take]; omega
  obtain ⟨a, rfl, ha⟩ := inR_nat hf
  refine (cell_is s (by omega)).b fun c1 hc1 => ?_
  refine Is.b_mod (by omega) fun mi _ m0 m1 => ?_
  refine Is.b_idx (P := fun m => ∃ ins plus, Mn m true ins plus) (fun x hx => ?_) ⟨m0, m1⟩ fun m hm => ?_
  · simp only [List.mem_cons, List.not_mem_nil, or_false] at hx
    rcases hx with rfl | rfl | rfl | rfl
    · exact ⟨_, _, mn2⟩
    · exact ⟨_, _, mn4⟩
    · exact ⟨_, _, mn6⟩
    · exact ⟨_, _, mn8⟩
  obtain ⟨ins, plus, Hm⟩ := hm
  refine (wanted_is (rs := es.take kn) s (by omega) hn4 Hm ha).b fun claim hc => ?_
  obtain ⟨b, rfl, hb⟩ := inR_nat hc
  refine (limit_is s (by omega) hn4 ⟨by omega, by omega⟩).b fun limit hl => ?_
  obtain ⟨l, rfl, hlt⟩ := inR_nat hl
  rw [book_init_eq hn1 hn4 hrl hR, M.bk, book_init_eq hn1 hn4 hes hE, M.bk, top_b hn4]
  have hw : boundN n none < topN n := by show whole n < _; unfold whole; omega
  have ew : ((topN n : Nat) : Int) - 1 = ((boundN n none : Nat) : Int) := by show _ = ((whole n : Nat) : Int); unfold whole; omega
  obtain ⟨x1, e1, f1, l1⟩ := one_eq (o := none) (rs := es.take kn) (b := b) hn Hm hw
  obtain ⟨x2, e2, f2, l2⟩ := one_eq (o := none) (rs := es) (b := b) hn Hm hw
  obtain ⟨x3, e3, f3, l3⟩ := one_eq (o := some l) (rs := es.take kn) (b := b) hn Hm hlt
  obtain ⟨x4, e4, f4, l4⟩ := one_eq (o := some l) (rs := es) (b := b) hn Hm hlt
  have e1 : m_greatest_facts ((n : Int), cR (es.take kn), ()) (b : Int) m none = .ok x1 := e1
  have e2 : m_greatest_facts ((n : Int), cR es, ()) (b : Int) m none = .ok x2 := e2
  have e3 : m_greatest_facts ((n : Int), cR (es.take kn), ()) (b : Int) m (some (l : Int)) = .ok x3 := e3
  have e4 : m_greatest_facts ((n : Int), cR es, ()) (b : Int) m (some (l : Int)) = .ok x4 := e4
  have f3 : m_law_single (n : Int) (cR (es.take kn)) (b : Int) m (l : Int) = .ok x3 := f3
  have f4 : m_law_single (n : Int) (cR es) (b : Int) m (l : Int) = .ok x4 := f4
  rw [ew]
  simp only [e1, e2, e3, e4, f1, f2, f3, f4, M.bk, same_l_refl (show x1.length < 10000 by omega), same_l_refl (show x2.length < 10000 by omega), same_l_refl (show x3.length < 10000 by omega), same_l_refl (show x4.length < 10000 by omega), not_t, M.cf]
  refine (cell_is s (by omega)).b fun c1' hc1' => ?_
  refine Is.b_fdiv (by omega) fun t4 _ g4 => ?_
  unfold m_law_manner
  simp only [M.bk, M.bind_assoc]
  refine Is.b_mod (by omega) fun mi2 _ m2 m3 => ?_
  refine Is.b_idx (P := fun m => m ∈ (["once", "cases", "steps", "both", "once+", "cases+", "steps+", "both+"] : List Str)) (fun x hx => hx) ⟨m2, m3⟩ fun om hom => ?_
  obtain ⟨byc', ins', plus', Hm'⟩ := mn_all hom
  obtain ⟨y1, q1, A1⟩ := answer (rs := es.take kn) (b := b) hn Hm'
  obtain ⟨y2, q2, A2⟩ := answer (rs := es) (b := b) hn Hm'
  rw [q1, M.bk, q2, M.bk, right_eq hn4 Hm' A1, M.bk, not_t, M.cf, right_eq hn4 Hm' A2, M.bk, not_t, M.cf]
  have hmap : M.map (fun one => M.bind (M.map (fun wider => .ok (decide (Builtin.bitAnd one wider = one))) y2) fun ys => M.bind (M.grd (lenOk ys.length) (.ok ys)) fun t => .ok (t.any id)) y1 = .ok (y1.map fun _ => true) := by
    refine map_eq (g := fun _ => true) fun x hx => ?_
    obtain ⟨f, rfl, hf, hd⟩ := A1.due x hx
    have hd2 : isDueN n es byc' ins' plus' f b = true := by
      rw [isDue_iff] at hd ⊢
      exact fun i hi => hd i (due_more hn4 hf (fun r hr => List.mem_of_mem_take hr) hi)
    obtain ⟨o, ho, hsub⟩ := A2.all f hf hd2
    rw [map_eq (g := fun wider => decide (Builtin.bitAnd (f : Int) wider = (f : Int))) (fun _ _ => rfl), M.bk, grd_t (lenOk_nat (by have := A2.len; simp; omega)), M.bk]
    congr 1
    rw [List.any_map, List.any_eq_true]
    exact ⟨(o : Int), ho, dt (by rw [and_nat, hsub])⟩
  rw [hmap, M.bk, grd_t (lenOk_nat (by have := A1.len; simp; omega)), M.bk]
  refine .ok ?_
  simp
end T
end
open PySem PySem.W PyProof.Rows
set_option maxRecDepth 100000 in
set_option maxHeartbeats 0 in
theorem PySem.Challenge.cw_powersanddays_k24_whole_greatest_facts_b_holds : PySem.Challenge.rw_powersanddays_k24_whole_greatest_facts_b.Holds := by
  w_on; o_law; k_head; (case hw => w_witness2)
  k_fill
  refine L2.walk_of (l := PySem.Challenge.rw_powersanddays_k24_whole_greatest_facts_b) (n := 63) (k := 11) (x := "script") (CX := fun w => L2.CX (PySem.Challenge.rw_powersanddays_k24_whole_greatest_facts_b).prog w) (sp := fun w => PL.spLaw _) rfl (by decide) rfl ⟨rfl, by decide, by decide⟩ (fun w h Y => PySem.W.kIn_of Y) ?F (fun _ _ a ns hl _ hS => ⟨a, ns, rfl, hl, hS, fun _ => rfl⟩) (fun _ _ _ _ _ z => PL.cx_false z)
  case F =>
    intro w mg fa h KX G hmg
    refine' T.end_mk T.pure (T.facts_mk KX G ?zb_abs ?zb_all ?zb_any ?zb_bool ?zb_enumerate ?zb_int ?zb_isinstance ?zb_iter ?zb_len ?zb_list ?zb_max ?zb_range ?zb_reversed ?zb_sorted ?zb_str ?zb_sum ?zb_tuple ?ga_MANNERS ?gl_MANNERS ?gv_MANNERS ?ga_LETTER_LIMIT ?aC_Book ?pg_Book ?hd_Book ?po_Book ?sa_Book ?nf_Book_n ?nf_Book_rules ?cr1_Book ?cr2_Book ?ck_Book_MOST_LETTERS ?ck_Book_MOST_RULES ?nl1_Book ?nl2_Book ?a_it_Book ?i_it_Book ?l_it_Book ?c_it_Book ?k_it_Book ?a_everything ?l_everything ?c_everything ?k_everything ?a_worlds_of ?l_worlds_of ?c_worlds_of ?k_worlds_of ?a_within ?l_within ?c_within ?k_within ?a_is_prop ?l_is_prop ?c_is_prop ?k_is_prop ?a_switches ?l_switches ?c_switches ?k_switches ?a_meet_heads ?l_meet_heads ?c_meet_heads ?k_meet_heads ?a_is_stable ?l_is_stable ?c_is_stable ?k_is_stable ?a_output ?l_output ?c_output ?k_output ?a_steps ?l_steps ?c_steps ?k_steps ?a_settle ?l_settle ?c_settle ?k_settle ?a_due ?l_due ?c_due ?k_due ?a_Book___init ?i_Book___init ?l_Book___init ?c_Book___init ?k_Book___init ?mk_Book ?kc_Book ?a_is_due ?l_is_due ?c_is_due ?k_is_due ?a_greatest_facts ?l_greatest_facts ?d_greatest_facts ?c_greatest_facts ?k_greatest_facts ?a_law_cell ?l_law_cell ?c_law_cell ?k_law_cell ?a_law_numbers ?l_law_numbers ?c_law_numbers ?k_law_numbers ?a_law_same ?l_law_same ?c_law_same ?k_law_same ?a_law_by_cases ?l_law_by_cases ?c_law_by_cases ?k_law_by_cases ?a_law_in_steps ?l_law_in_steps ?c_law_in_steps ?k_law_in_steps ?a_law_meet ?l_law_meet ?c_law_meet ?k_law_meet ?a_law_due ?l_law_due ?c_law_due ?k_law_due ?a_law_facts ?l_law_facts ?c_law_facts ?k_law_facts ?a_law_rules ?l_law_rules ?c_law_rules ?k_law_rules ?a_law_wanted ?l_law_wanted ?c_law_wanted ?k_law_wanted ?a_law_manner ?l_law_manner ?c_law_manner ?k_law_manner ?a_law_limit ?l_law_limit ?c_law_limit ?k_law_limit ?a_law_given ?l_law_given ?c_law_given ?k_law_given ?a_law_single ?l_law_single ?c_law_single ?k_law_single ?a_law_right ?l_law_right ?c_law_right ?k_law_right ?a_law ?l_law ?c_law ?k_law) hmg
    (case zb_abs => k_is); (case zb_all => k_is); (case zb_any => k_is); (case zb_bool => k_is); (case zb_enumerate => k_is); (case zb_int => k_is); (case zb_isinstance => k_is); (case zb_iter => k_is); (case zb_len => k_is); (case zb_list => k_is); (case zb_max => k_is); (case zb_range => k_is); (case zb_reversed => k_is); (case zb_sorted => k_is); (case zb_str => k_is); (case zb_sum => k_is); (case zb_tuple => k_is); (case ga_MANNERS => k_is); (case gl_MANNERS => k_is); (case gv_MANNERS => rfl); (case ga_LETTER_LIMIT => k_is); (case aC_Book => k_is); (case pg_Book => k_is); (case hd_Book => k_is); (case po_Book => k_is); (case sa_Book => k_is); (case nf_Book_n => k_is); (case nf_Book_rules => k_is); (case cr1_Book => k_is); (case cr2_Book => k_is); (case ck_Book_MOST_LETTERS => k_is); (case ck_Book_MOST_RULES => k_is); (case nl1_Book => k_is); (case nl2_Book => k_is); (case a_it_Book => k_is); (case i_it_Book => k_is); (case l_it_Book => k_is); (case c_it_Book => k_is); (case k_it_Book => k_is); (case a_everything => k_is); (case l_everything => k_is); (case c_everything => k_is); (case k_everything => k_is); (case a_worlds_of => k_is); (case l_worlds_of => k_is); (case c_worlds_of => k_is); (case k_worlds_of => k_is); (case a_within => k_is); (case l_within => k_is); (case c_within => k_is); (case k_within => k_is); (case a_is_prop => k_is); (case l_is_prop => k_is); (case c_is_prop => k_is); (case k_is_prop => k_is); (case a_switches => k_is); (case l_switches => k_is); (case c_switches => k_is); (case k_switches => k_is); (case a_meet_heads => k_is); (case l_meet_heads => k_is); (case c_meet_heads => k_is); (case k_meet_heads => k_is); (case a_is_stable => k_is); (case l_is_stable => k_is); (case c_is_stable => k_is); (case k_is_stable => k_is); (case a_output => k_is); (case l_output => k_is); (case c_output => k_is); (case k_output => k_is); (case a_steps => k_is); (case l_steps => k_is); (case c_steps => k_is); (case k_steps => k_is); (case a_settle => k_is); (case l_settle => k_is); (case c_settle => k_is); (case k_settle => k_is); (case a_due => k_is); (case l_due => k_is); (case c_due => k_is); (case k_due => k_is); (case a_Book___init => k_is); (case i_Book___init => k_is); (case l_Book___init => k_is); (case c_Book___init => k_is); (case k_Book___init => k_is); (case mk_Book => k_is); (case kc_Book => k_is); (case a_is_due => k_is); (case l_is_due => k_is); (case c_is_due => k_is); (case k_is_due => k_is); (case a_greatest_facts => k_is); (case l_greatest_facts => k_is); (case d_greatest_facts => k_is); (case c_greatest_facts => k_is); (case k_greatest_facts => k_is); (case a_law_cell => k_is); (case l_law_cell => k_is); (case c_law_cell => k_is); (case k_law_cell => k_is); (case a_law_numbers => k_is); (case l_law_numbers => k_is); (case c_law_numbers => k_is); (case k_law_numbers => k_is); (case a_law_same => k_is); (case l_law_same => k_is); (case c_law_same => k_is); (case k_law_same => k_is); (case a_law_by_cases => k_is); (case l_law_by_cases => k_is); (case c_law_by_cases => k_is); (case k_law_by_cases => k_is); (case a_law_in_steps => k_is); (case l_law_in_steps => k_is); (case c_law_in_steps => k_is); (case k_law_in_steps => k_is); (case a_law_meet => k_is); (case l_law_meet => k_is); (case c_law_meet => k_is); (case k_law_meet => k_is); (case a_law_due => k_is); (case l_law_due => k_is); (case c_law_due => k_is); (case k_law_due => k_is); (case a_law_facts => k_is); (case l_law_facts => k_is); (case c_law_facts => k_is); (case k_law_facts => k_is); (case a_law_rules => k_is); (case l_law_rules => k_is); (case c_law_rules => k_is); (case k_law_rules => k_is); (case a_law_wanted => k_is); (case l_law_wanted => k_is); (case c_law_wanted => k_is); (case k_law_wanted => k_is); (case a_law_manner => k_is); (case l_law_manner => k_is); (case c_law_manner => k_is); (case k_law_manner => k_is); (case a_law_limit => k_is); (case l_law_limit => k_is); (case c_law_limit => k_is); (case k_law_limit => k_is); (case a_law_given => k_is); (case l_law_given => k_is); (case c_law_given => k_is); (case k_law_given => k_is); (case a_law_single => k_is); (case l_law_single => k_is); (case c_law_single => k_is); (case k_law_single => k_is); (case a_law_right => k_is); (case l_law_right => k_is); (case c_law_right => k_is); (case k_law_right => k_is); (case a_law => k_is); (case l_law => k_is); (case c_law => k_is); (case k_law => k_is)
