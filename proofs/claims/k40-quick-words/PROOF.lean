import PyProof.Rows.All
import Wide.All
import OpenK.AllK
import Wide.FinOn
import HandS.ForMost
import HandS.Codes
import HandS.Style
import HandS.IsInst
import HandS.DictComp
import HandS.Conv
import HandS.Ends
import PySem.Challenge.RW_lettersacross_k40_quick_words_of_great_t
set_option Elab.async false
set_option linter.all false
set_option maxRecDepth 100000
/-! PL, the pure layer: kinds of values, states, expressions and statements read as plain functions. -/
namespace PL
open PySem PySem.Spec PyProof.Rows L2
abbrev St := L2.St

/-! ## heaps: F the part that stands still, H all of it -/
structure Ext (F H F' H' : Hp) : Prop where
  ff : Same F F'
  hh : Same H H'
  fh : Same F' H'
  nw : ∀ p, F p = none → F' p ≠ none → H p = none
theorem Ext.refl {F H : Hp} (h : Same F H) : Ext F H F H := ⟨Same.refl _, Same.refl _, h, fun _ a b => absurd a b⟩
theorem Same.pull {H H' : Hp} (h : Same H H') {p : Addr} (e : H' p = none) : H p = none := h.free e
theorem Ext.trans {F H F1 H1 F2 H2 : Hp} (a : Ext F H F1 H1) (b : Ext F1 H1 F2 H2) : Ext F H F2 H2 where
  ff := a.ff.trans b.ff
  hh := a.hh.trans b.hh
  fh := b.fh
  nw := fun p e n => by
    cases q : F1 p with
    | none => exact a.hh.free (b.nw p q n)
    | some o => exact a.nw p e (by rw [q]; exact Option.some_ne_none _)
theorem same_new {H : Hp} {p : Addr} {o : HO} (h : H p = none) : Same H (upd H p o) := fun b x e => by rw [upd_ne (ne_of_none e h)]; exact e
/-- a new frozen object -/
theorem Ext.new {F H F1 H1 : Hp} {p : Addr} {o : HO} (x : Ext F H F1 H1) (h : H1 p = none) : Ext F H (upd F1 p o) (upd H1 p o) := by
  have hf : F1 p = none := x.fh.free h
  refine x.trans ⟨same_new hf, same_new h, fun b y e => ?_, fun q e n => ?_⟩
  · by_cases hb : b = p
    · subst hb; rw [upd_same] at e ⊢; exact e
    · rw [upd_ne hb] at e ⊢; exact x.fh b y e
  · by_cases hq : q = p
    · subst hq; exact h
    · rw [upd_ne hq] at n; exact absurd e n
/-- a new object that is not frozen -/
theorem Ext.newO {F H F1 H1 : Hp} {p : Addr} {o : HO} (x : Ext F H F1 H1) (h : H1 p = none) : Ext F H F1 (upd H1 p o) :=
  x.trans ⟨Same.refl _, same_new h, x.fh.trans (same_new h), fun _ a b => absurd a b⟩

/-! ## kinds of values -/
class Enc (α : Type) where
  rep : Hp → V → α → Prop
  mono : ∀ {F F' : Hp} {v : V} {a : α}, Same F F' → rep F v a → rep F' v a
abbrev rep {α : Type} [Enc α] : Hp → V → α → Prop := Enc.rep
class Flat (α : Type) [Enc α] : Prop where
  flat : ∀ {F F' : Hp} {v : V} {a : α}, rep F v a → rep F' v a
/-- never None -/
class NotNone (α : Type) [Enc α] : Prop where
  nn : ∀ {F : Hp} {a : α}, ¬ rep F V.non a
abbrev Reps {α : Type} [Enc α] (F : Hp) : List V → List α → Prop := Paired (rep F)
theorem Reps.mono {α : Type} [Enc α] {F F' : Hp} (h : Same F F') {vs : List V} {xs : List α} (r : Reps F vs xs) : Reps F' vs xs := Paired.mapP r fun _ _ q => Enc.mono h q
theorem Reps.flat {α : Type} [Enc α] [Flat α] {F F' : Hp} {vs : List V} {xs : List α} (r : Reps F vs xs) : Reps F' vs xs := Paired.mapP r fun _ _ q => Flat.flat q
theorem reps_at {α : Type} [Enc α] {F : Hp} : ∀ {vs : List V} {xs : List α} {i : Nat} {v : V}, Reps F vs xs → vs[i]? = some v → ∃ x, xs[i]? = some x ∧ rep F v x
  | _, _, _, _, .nil, e => by simp at e
  | _, _, 0, _, .cons r _, e => by simp at e; subst e; exact ⟨_, rfl, r⟩
  | _, _, i + 1, v, .cons _ t, e => by
    obtain ⟨x, h1, h2⟩ := reps_at (i := i) (v := v) t (by simpa using e)
    exact ⟨x, by simpa using h1, h2⟩
theorem reps_of {α : Type} [Enc α] {F : Hp} : ∀ {vs : List V} {xs : List α} {i : Nat} {x : α}, Reps F vs xs → xs[i]? = some x → ∃ v, vs[i]? = some v ∧ rep F v x
  | _, _, _, _, .nil, e => by simp at e
  | _, _, 0, _, .cons r _, e => by simp at e; subst e; exact ⟨_, rfl, r⟩
  | _, _, i + 1, x, .cons _ t, e => by
    obtain ⟨v, h1, h2⟩ := reps_of (i := i) (x := x) t (by simpa using e)
    exact ⟨v, by simpa using h1, h2⟩
theorem Reps.length {α : Type} [Enc α] {F : Hp} {vs : List V} {xs : List α} (r : Reps F vs xs) : vs.length = xs.length := Paired.length r
theorem reps_append {α : Type} [Enc α] {F : Hp} : ∀ {vs ws : List V} {xs ys : List α}, Reps F vs xs → Reps F ws ys → Reps F (vs ++ ws) (xs ++ ys)
  | _, _, _, _, .nil, s => s
  | _, _, _, _, .cons r t, s => .cons r (reps_append t s)
theorem reps_take {α : Type} [Enc α] {F : Hp} : ∀ {vs : List V} {xs : List α} (n : Nat), Reps F vs xs → Reps F (vs.take n) (xs.take n)
  | _, _, 0, _ => by simpa using Paired.nil
  | _, _, _ + 1, .nil => .nil
  | _, _, n + 1, .cons r t => .cons r (reps_take n t)
theorem reps_drop {α : Type} [Enc α] {F : Hp} : ∀ {vs : List V} {xs : List α} (n : Nat), Reps F vs xs → Reps F (vs.drop n) (xs.drop n)
  | _, _, 0, r => r
  | _, _, _ + 1, .nil => .nil
  | _, _, n + 1, .cons _ t => reps_drop n t
theorem reps_rev {α : Type} [Enc α] {F : Hp} : ∀ {vs : List V} {xs : List α}, Reps F vs xs → Reps F vs.reverse xs.reverse
  | _, _, .nil => .nil
  | _, _, .cons r t => by
    rw [List.reverse_cons, List.reverse_cons]
    exact reps_append (reps_rev t) (.cons r .nil)

instance : Enc Int := ⟨fun _ v i => v = .int i, fun _ h => h⟩
instance : Flat Int := ⟨fun h => h⟩
instance : NotNone Int := ⟨fun h => nomatch h⟩
instance : Enc Bool := ⟨fun _ v i => v = .bl i, fun _ h => h⟩
instance : Flat Bool := ⟨fun h => h⟩
instance : NotNone Bool := ⟨fun h => nomatch h⟩
instance : Enc Unit := ⟨fun _ v _ => v = .non, fun _ h => h⟩
instance : Flat Unit := ⟨fun h => h⟩
/-- texts -/
abbrev S := List Nat
def toS (s : S) : Str := ⟨s.toArray⟩
/-- a text that is not too long, of code points -/
structure SOk (s : S) : Prop where
  len : s.length ≤ sizeLine
  cps : ∀ c ∈ s, c < 1114112
theorem SOk.sub {s t : S} (h : SOk s) (hl : t.length ≤ sizeLine) (hs : ∀ c ∈ t, c ∈ s) : SOk t := ⟨hl, fun c hc => h.cps c (hs c hc)⟩
instance : Enc S := ⟨fun _ v s => v = .str (toS s) ∧ SOk s, fun _ h => h⟩
instance : Flat S := ⟨fun h => h⟩
instance : NotNone S := ⟨fun h => nomatch h.1⟩
instance {α : Type} [Enc α] : Enc (Option α) := ⟨fun F v o => match o with | none => v = .non | some a => rep F v a, fun {_ _ _ a} h r => by
  cases a with
  | none => exact r
  | some a => exact Enc.mono h r⟩
instance {α : Type} [Enc α] [Flat α] : Flat (Option α) := ⟨fun {_ _ _ a} r => by
  cases a with
  | none => exact r
  | some a => exact Flat.flat (α := α) r⟩
instance {α : Type} [Enc α] : Enc (List α) := ⟨fun F v xs => ∃ p vs, v = .ref p ∧ F p = some (.lst vs) ∧ vs.length ≤ sizeLine ∧ Reps F vs xs, fun h r => by
  obtain ⟨p, vs, e, f, z, q⟩ := r
  exact ⟨p, vs, e, h _ _ f, z, q.mono h⟩⟩
instance {α : Type} [Enc α] : NotNone (List α) := ⟨fun ⟨_, _, e, _⟩ => nomatch e⟩
instance {α β : Type} [Enc α] [Enc β] : Enc (α × β) := ⟨fun F v t => ∃ p x y, v = .ref p ∧ F p = some (.tup [x, y]) ∧ rep F x t.1 ∧ rep F y t.2, fun h r => by
  obtain ⟨p, x, y, e, f, a, b⟩ := r
  exact ⟨p, x, y, e, h _ _ f, Enc.mono h a, Enc.mono h b⟩⟩
instance {α β : Type} [Enc α] [Enc β] : NotNone (α × β) := ⟨fun ⟨_, _, _, e, _⟩ => nomatch e⟩
/-- tuples of three -/
structure T3 (α β γ : Type) where
  a : α
  b : β
  c : γ
  deriving DecidableEq
instance {α β γ : Type} [Enc α] [Enc β] [Enc γ] : Enc (T3 α β γ) := ⟨fun F v t => ∃ p x y z, v = .ref p ∧ F p = some (.tup [x, y, z]) ∧ rep F x t.a ∧ rep F y t.b ∧ rep F z t.c, fun h r => by
  obtain ⟨p, x, y, z, e, f, a, b, c⟩ := r
  exact ⟨p, x, y, z, e, h _ _ f, Enc.mono h a, Enc.mono h b, Enc.mono h c⟩⟩
instance {α β γ : Type} [Enc α] [Enc β] [Enc γ] : NotNone (T3 α β γ) := ⟨fun ⟨_, _, _, _, e, _⟩ => nomatch e⟩
/-- tuples of any length of one kind -/
structure Tup (α : Type) where
  l : List α
  deriving DecidableEq
instance {α : Type} [Enc α] : Enc (Tup α) := ⟨fun F v t => ∃ p vs, v = .ref p ∧ F p = some (.tup vs) ∧ vs.length ≤ sizeLine ∧ Reps F vs t.l, fun h r => by
  obtain ⟨p, vs, e, f, z, q⟩ := r
  exact ⟨p, vs, e, h _ _ f, z, q.mono h⟩⟩
instance {α : Type} [Enc α] : NotNone (Tup α) := ⟨fun ⟨_, _, e, _⟩ => nomatch e⟩
/-- the law's script -/
structure Scr where
  l : List Int
instance : Enc Scr := ⟨fun F v s => ∃ p, v = .ref p ∧ Rd F p (.lst (s.l.map V.int)) ∧ s.l.length ≤ 63, fun h r => by
  obtain ⟨p, e, q, z⟩ := r
  refine ⟨p, e, ?_, z⟩
  rcases q with q | ⟨o, q⟩
  · exact .inl (h _ _ q)
  · exact .inr ⟨o, h _ _ q⟩⟩

/-! ## slots -/
class SK (T : Type) where
  rep : Hp → Hp → List Addr → Option V → T → Prop
  mono : ∀ {F H F' H' : Hp} {os : List Addr} {x : Option V} {t : T}, Same F F' → (∀ p ∈ os, H' p = H p) → rep F H os x t → rep F' H' os x t
  wipe : ∀ {F H : Hp} {os : List Addr} {x : Option V} {t : T}, rep F H os x t → True
/-- nothing is known of the slot -/
structure No where
  deriving Inhabited
/-- an own list -/
structure Ow (α : Type) where
  l : List α
/-- an own dict with keys that are ints or texts, one whose keys are tuples of such -/
instance : SK No := ⟨fun _ _ os _ _ => os = [], fun _ _ h => h, fun _ => trivial⟩
instance (priority := low) {α : Type} [Enc α] : SK α := ⟨fun F _ os x a => os = [] ∧ ∃ v, x = some v ∧ rep F v a, fun h _ r => by
  obtain ⟨e, v, q, s⟩ := r
  exact ⟨e, v, q, Enc.mono h s⟩, fun _ => trivial⟩
instance {α : Type} [Enc α] : SK (Ow α) := ⟨fun F H os x a => ∃ p vs, os = [p] ∧ x = some (.ref p) ∧ H p = some (.lst vs) ∧ vs.length ≤ sizeLine ∧ Reps F vs a.l, fun h k r => by
  obtain ⟨p, vs, e, q, s, z, t⟩ := r
  exact ⟨p, vs, e, q, (k p (by rw [e]; exact List.mem_cons_self)).trans s, z, t.mono h⟩, fun _ => trivial⟩

class ES (E : Type) where
  rep : Hp → Hp → List Addr → St → E → Prop
  mono : ∀ {F H F' H' : Hp} {os : List Addr} {σ : St} {e : E}, Same F F' → (∀ p ∈ os, H' p = H p) → rep F H os σ e → rep F' H' os σ e
instance : ES Unit := ⟨fun _ _ os σ _ => os = [] ∧ σ = [], fun _ _ h => h⟩
instance {T E : Type} [SK T] [ES E] : ES (T × E) := ⟨fun F H os σ e => ∃ x σ' o1 o2, σ = x :: σ' ∧ os = o1 ++ o2 ∧ SK.rep F H o1 x e.1 ∧ ES.rep F H o2 σ' e.2, fun h k r => by
  obtain ⟨x, σ', o1, o2, e1, e2, a, b⟩ := r
  refine ⟨x, σ', o1, o2, e1, e2, SK.mono h (fun p q => k p ?_) a, ES.mono h (fun p q => k p ?_) b⟩
  · rw [e2]; exact List.mem_append_left _ q
  · rw [e2]; exact List.mem_append_right _ q⟩

/-- the state of a running def: F0, H0 at its entry -/
structure SR {E : Type} [ES E] (F0 H0 F H : Hp) (σ : St) (e : E) : Prop where
  ext : Ext F0 H0 F H
  st : ∃ os : List Addr, os.Nodup ∧ (∀ p ∈ os, F p = none ∧ H0 p = none ∧ H p ≠ none) ∧ ES.rep F H os σ e
theorem SR.more {E : Type} [ES E] {F0 H0 F H F' H' : Hp} {σ : St} {e : E} (s : SR F0 H0 F H σ e) (x : Ext F H F' H') : SR F0 H0 F' H' σ e := by
  obtain ⟨os, nd, fr, r⟩ := s.st
  refine ⟨s.ext.trans x, os, nd, fun p hp => ?_, ES.mono x.ff (fun p hp => ?_) r⟩
  · obtain ⟨a, b, c⟩ := fr p hp
    refine ⟨?_, b, ?_⟩
    · cases q : F' p with
      | none => rfl
      | some o => exact absurd (x.nw p a (by rw [q]; exact Option.some_ne_none _)) c
    · obtain ⟨o, q⟩ := Option.ne_none_iff_exists'.mp c
      rw [x.hh _ _ q]; exact Option.some_ne_none _
  · obtain ⟨a, b, c⟩ := fr p hp
    obtain ⟨o, q⟩ := Option.ne_none_iff_exists'.mp c
    rw [x.hh _ _ q, q]

/-! ## readings as plain functions -/
section
variable {E : Type} [ES E]
def tE {α : Type} [Enc α] (f : E → α) (ok : E → Prop) : TE := fun σ H Q => ∃ (F0 H0 F : Hp) (e : E), SR F0 H0 F H σ e ∧ ok e ∧ ∀ F' H' v, Ext F H F' H' → rep F' v (f e) → Q v H'
def tT (f : E → Bool) (ok : E → Prop) : TT := fun σ H Q => ∃ (F0 H0 F : Hp) (e : E), SR F0 H0 F H σ e ∧ ok e ∧ ∀ F' H', Ext F H F' H' → Q (f e) H'
/-- a new list of one's own -/
def tO {α : Type} [Enc α] (f : E → List α) (ok : E → Prop) : TE := fun σ H Q => ∃ (F0 H0 F : Hp) (e : E), SR F0 H0 F H σ e ∧ ok e ∧
  ∀ F' H' p vs, Ext F H F' H' → H p = none → F' p = none → H' p = some (.lst vs) → vs.length ≤ sizeLine → Reps F' vs (f e) → Q (.ref p) H'
class EA (A : Type) where
  rep : Hp → List V → A → Prop
  mono : ∀ {F F' : Hp} {vs : List V} {a : A}, Same F F' → rep F vs a → rep F' vs a
instance : EA Unit := ⟨fun _ vs _ => vs = [], fun _ h => h⟩
instance {α A : Type} [Enc α] [EA A] : EA (α × A) := ⟨fun F vs a => ∃ v ws, vs = v :: ws ∧ rep F v a.1 ∧ EA.rep F ws a.2, fun h r => by
  obtain ⟨v, ws, e, p, q⟩ := r
  exact ⟨v, ws, e, Enc.mono h p, EA.mono h q⟩⟩
def tA {A : Type} [EA A] (f : E → A) (ok : E → Prop) : TA := fun σ H Q => ∃ (F0 H0 F : Hp) (e : E), SR F0 H0 F H σ e ∧ ok e ∧ ∀ F' H' vs, Ext F H F' H' → EA.rep F' vs (f e) → Q vs H'

/-- an expression, a test, arguments that are f -/
abbrev IE (X : Cx) {α : Type} [Enc α] (e : Expr) (f : E → α) (ok : E → Prop) : Prop := PE X e (tE f ok)
abbrev IT (X : Cx) (e : Expr) (f : E → Bool) (ok : E → Prop) : Prop := PT X e (tT f ok)
abbrev IO (X : Cx) {α : Type} [Enc α] (e : Expr) (f : E → List α) (ok : E → Prop) : Prop := PE X e (tO f ok)
abbrev IA (X : Cx) {A : Type} [EA A] (es : List Expr) (f : E → A) (ok : E → Prop) : Prop := PA X es (tA f ok)
end
section
variable {X : Cx} {e : Expr}
theorem pe_imp {t t' : TE} (h : PE X e t) (i : ∀ σ H Q, t' σ H Q → t σ H Q) : PE X e t' := ⟨fun pins s σ H Q I w => h.run pins s σ H Q I (i _ _ _ w)⟩
theorem pt_imp {t t' : TT} (h : PT X e t) (i : ∀ σ H Q, t' σ H Q → t σ H Q) : PT X e t' := ⟨fun pins s σ H Q I w => h.run pins s σ H Q I (i _ _ _ w)⟩
theorem pa_imp {es : List Expr} {t t' : TA} (h : PA X es t) (i : ∀ σ H Q, t' σ H Q → t σ H Q) : PA X es t' := ⟨fun pos pins s σ H Q I w => h.run pos pins s σ H Q I (i _ _ _ w)⟩
theorem ps_imp {st : Stmt} {t t' : TS} (h : PS X st t) (i : ∀ D σ H, t' D σ H → t D σ H) : PS X st t' := ⟨fun pins s σ H D I w => h.run pins s σ H D I (i _ _ _ w)⟩
theorem pss_imp {st : List Stmt} {t t' : TS} (h : PSs X st t) (i : ∀ D σ H, t' D σ H → t D σ H) : PSs X st t' := ⟨fun pins s σ H D I w => h.run pins s σ H D I (i _ _ _ w)⟩
end

/-! ## variables -/
structure Var (E α : Type) [ES E] [Enc α] where
  i : Nat
  get : E → α
  ok : ∀ {F H : Hp} {os : List Addr} {σ : St} {e : E}, ES.rep F H os σ e → ∃ v, σ[i]? = some (some v) ∧ rep F v (get e)
@[reducible] def v0 {α E : Type} [Enc α] [ES E] : Var (α × E) α := ⟨0, fun e => e.1, fun r => by
  obtain ⟨x, σ', o1, o2, e1, e2, ⟨_, v, ex, hv⟩, b⟩ := r
  exact ⟨v, by rw [e1, ex]; rfl, hv⟩⟩
@[reducible] def vS {T E α : Type} [SK T] [ES E] [Enc α] (v : Var E α) : Var (T × E) α := ⟨v.i + 1, fun e => v.get e.2, fun r => by
  obtain ⟨x, σ', o1, o2, e1, e2, a, b⟩ := r
  obtain ⟨u, h1, h2⟩ := v.ok b
  exact ⟨u, by rw [e1]; simpa using h1, h2⟩⟩

structure Put (E T E' : Type) [ES E] [SK T] [ES E'] where
  i : Nat
  put : E → T → E'
  ok : ∀ {F H : Hp} {os o1 : List Addr} {σ : St} {e : E} {v : V} {t : T}, ES.rep F H os σ e → SK.rep F H o1 (some v) t → (∀ p ∈ o1, p ∉ os) → os.Nodup → o1.Nodup →
    ∃ os', os'.Nodup ∧ (∀ p ∈ os', p ∈ os ∨ p ∈ o1) ∧ ES.rep F H os' (σ.set i (some v)) (put e t)
@[reducible] def p0 {T0 T E : Type} [SK T0] [SK T] [ES E] : Put (T0 × E) T (T × E) := ⟨0, fun e t => (t, e.2), fun {F H os o1 σ e v t} r s d n1 n2 => by
  obtain ⟨x, σ', a, b, e1, e2, _, rb⟩ := r
  subst e1; subst e2
  refine ⟨o1 ++ b, ?_, fun p hp => ?_, some v, σ', o1, b, rfl, rfl, s, rb⟩
  · rw [List.nodup_append] at n1 ⊢
    exact ⟨n2, n1.2.1, fun p hp q hq e => d p hp (by subst e; exact List.mem_append_right _ hq)⟩
  · rcases List.mem_append.mp hp with h | h
    · exact .inr h
    · exact .inl (List.mem_append_right _ h)⟩
@[reducible] def pS {T0 T E E' : Type} [SK T0] [SK T] [ES E] [ES E'] (q : Put E T E') : Put (T0 × E) T (T0 × E') := ⟨q.i + 1, fun e t => (e.1, q.put e.2 t), fun {F H os o1 σ e v t} r s d n1 n2 => by
  obtain ⟨x, σ', a, b, e1, e2, ra, rb⟩ := r
  subst e1; subst e2
  rw [List.nodup_append] at n1
  obtain ⟨os', m1, m2, m3⟩ := q.ok rb s (fun p hp z => d p hp (List.mem_append_right _ z)) n1.2.1 n2
  refine ⟨a ++ os', ?_, fun p hp => ?_, x, _, a, os', rfl, rfl, ra, m3⟩
  · rw [List.nodup_append]
    refine ⟨n1.1, m1, fun p hp z hz e => ?_⟩
    subst e
    rcases m2 _ hz with h | h
    · exact n1.2.2 _ hp _ h rfl
    · exact d _ h (List.mem_append_left _ hp)
  · rcases List.mem_append.mp hp with h | h
    · exact .inl (List.mem_append_left _ h)
    · rcases m2 p h with h | h
      · exact .inl (List.mem_append_right _ h)
      · exact .inr h⟩
theorem SR.put {E α E' : Type} [ES E] [Enc α] [ES E'] (q : Put E α E') {F0 H0 F H : Hp} {σ : St} {e : E} {v : V} {a : α} (s : SR F0 H0 F H σ e) (r : rep F v a) : SR F0 H0 F H (σ.set q.i (some v)) (q.put e a) := by
  obtain ⟨os, nd, fr, rr⟩ := s.st
  obtain ⟨os', n', m', r'⟩ := q.ok (o1 := []) (t := a) rr ⟨rfl, v, rfl, r⟩ (fun p hp => nomatch hp) nd .nil
  exact ⟨s.ext, os', n', (fun p hp => (m' p hp).elim (fr p) fun z => nomatch z), r'⟩
theorem SR.putO {E α E' : Type} [ES E] [Enc α] [ES E'] (q : Put E (Ow α) E') {F0 H0 F H F' H' : Hp} {σ : St} {e : E} {p : Addr} {vs : List V} {xs : List α} (s : SR F0 H0 F H σ e) (x : Ext F H F' H') (hp : H p = none) (fp : F' p = none)
    (h : H' p = some (.lst vs)) (z : vs.length ≤ sizeLine) (r : Reps F' vs xs) : SR F0 H0 F' H' (σ.set q.i (some (.ref p))) (q.put e ⟨xs⟩) := by
  have s' := s.more x
  obtain ⟨os, nd, fr, rr⟩ := s.st
  obtain ⟨os', n', m', r'⟩ := q.ok (F := F') (H := H') (o1 := [p]) (t := ⟨xs⟩) (ES.mono x.ff (fun p hp => by
      obtain ⟨_, _, c⟩ := fr p hp
      obtain ⟨o, q⟩ := Option.ne_none_iff_exists'.mp c
      rw [x.hh _ _ q, q]) rr) ⟨p, vs, rfl, rfl, h, z, r⟩ (fun q hq z => by
      have e : q = p := by simpa using hq
      subst e
      exact (fr _ z).2.2 hp) nd (List.nodup_cons.mpr ⟨List.not_mem_nil, .nil⟩)
  refine ⟨s'.ext, os', n', fun q hq => ?_, r'⟩
  rcases m' q hq with h1 | h1
  · obtain ⟨a, b, c⟩ := fr q h1
    obtain ⟨o, ho⟩ := Option.ne_none_iff_exists'.mp c
    refine ⟨?_, b, by rw [x.hh _ _ ho]; exact Option.some_ne_none _⟩
    cases y : F' q with
    | none => rfl
    | some o => exact absurd (x.nw q a (by rw [y]; exact Option.some_ne_none _)) c
  · have e : q = p := by simpa using h1
    subst e
    exact ⟨fp, s.ext.hh.free hp, by rw [h]; exact Option.some_ne_none _⟩

/-- a slot that holds an own list -/
structure VarO (E α : Type) [ES E] [Enc α] where
  i : Nat
  get : E → List α
  set : E → List α → E
  ok : ∀ {F H : Hp} {os : List Addr} {σ : St} {e : E}, os.Nodup → ES.rep F H os σ e → ∃ p vs, p ∈ os ∧ σ[i]? = some (some (.ref p)) ∧ H p = some (.lst vs) ∧ vs.length ≤ sizeLine ∧ Reps F vs (get e) ∧
    ∀ F' H' vs' xs', Same F F' → (∀ q ∈ os, q ≠ p → H' q = H q) → H' p = some (.lst vs') → vs'.length ≤ sizeLine → Reps F' vs' xs' → ES.rep F' H' os σ (set e xs')
@[reducible] def o0 {α E : Type} [Enc α] [ES E] : VarO (Ow α × E) α := ⟨0, fun e => e.1.l, fun e x => (⟨x⟩, e.2), fun {F H os σ e} nd r => by
  obtain ⟨x, σ', a, b, e1, e2, ⟨p, vs, ea, ex, hp, z, rr⟩, rb⟩ := r
  subst e1; subst e2; subst ea; subst ex
  refine ⟨p, vs, List.mem_append_left _ List.mem_cons_self, rfl, hp, z, rr, fun F' H' vs' xs' sf k h' z' r' => ⟨_, σ', [p], b, rfl, rfl, ⟨p, vs', rfl, rfl, h', z', r'⟩, ES.mono sf (fun q hq => k q (List.mem_append_right _ hq) ?_) rb⟩⟩
  rintro rfl
  exact (List.nodup_cons.mp nd).1 hq⟩
@[reducible] def oS {T E α : Type} [SK T] [ES E] [Enc α] (v : VarO E α) : VarO (T × E) α := ⟨v.i + 1, fun e => v.get e.2, fun e x => (e.1, v.set e.2 x), fun {F H os σ e} nd r => by
  obtain ⟨x, σ', a, b, e1, e2, ra, rb⟩ := r
  subst e1; subst e2
  rw [List.nodup_append] at nd
  obtain ⟨p, vs, h1, h2, h3, h4, h5, h6⟩ := v.ok nd.2.1 rb
  refine ⟨p, vs, List.mem_append_right _ h1, by simpa using h2, h3, h4, h5, fun F' H' vs' xs' sf k h' z' r' => ⟨x, σ', a, b, rfl, rfl, SK.mono sf (fun q hq => k q (List.mem_append_left _ hq) fun z => nd.2.2 q hq p h1 z) ra,
    h6 F' H' vs' xs' sf (fun q hq hn => k q (List.mem_append_right _ hq) hn) h' z' r'⟩⟩⟩

/-- steps of the state alone: forgetting, freezing -/
structure Gh (E E' : Type) [ES E] [ES E'] where
  w : E → E'
  ok : ∀ {F0 H0 F H : Hp} {σ : St} {e : E}, SR F0 H0 F H σ e → ∃ F', Same F F' ∧ SR F0 H0 F' H σ (w e)
structure Tr (E E' : Type) [ES E] [ES E'] where
  w : E → E'
  ok : ∀ {F H : Hp} {os : List Addr} {σ : St} {e : E}, ES.rep F H os σ e → ∃ os', os'.Sublist os ∧ ES.rep F H os' σ (w e)
@[reducible] def trN : Tr Unit Unit := ⟨fun e => e, fun r => ⟨_, List.Sublist.refl _, r⟩⟩
/-- keep -/
@[reducible] def trK {T E E' : Type} [SK T] [ES E] [ES E'] (t : Tr E E') : Tr (T × E) (T × E') := ⟨fun e => (e.1, t.w e.2), fun r => by
  obtain ⟨x, σ', a, b, e1, e2, ra, rb⟩ := r
  obtain ⟨os', s, r'⟩ := t.ok rb
  exact ⟨a ++ os', by rw [e2]; exact List.Sublist.append (List.Sublist.refl _) s, x, σ', a, os', e1, rfl, ra, r'⟩⟩
/-- forget -/
@[reducible] def trF {T E E' : Type} [SK T] [ES E] [ES E'] (t : Tr E E') : Tr (T × E) (No × E') := ⟨fun e => (⟨⟩, t.w e.2), fun r => by
  obtain ⟨x, σ', a, b, e1, e2, ra, rb⟩ := r
  obtain ⟨os', s, r'⟩ := t.ok rb
  exact ⟨os', by rw [e2]; exact List.Sublist.trans s (List.sublist_append_right _ _), x, σ', [], os', e1, rfl, rfl, r'⟩⟩
@[reducible] def trI {E : Type} [ES E] : Tr E E := ⟨fun e => e, fun r => ⟨_, List.Sublist.refl _, r⟩⟩
theorem Tr.sr {E E' : Type} [ES E] [ES E'] (t : Tr E E') {F0 H0 F H : Hp} {σ : St} {e : E} (s : SR F0 H0 F H σ e) : SR F0 H0 F H σ (t.w e) := by
  obtain ⟨os, nd, fr, r⟩ := s.st
  obtain ⟨os', sl, r'⟩ := t.ok r
  exact ⟨s.ext, os', nd.sublist sl, fun p hp => fr p (sl.subset hp), r'⟩
@[reducible] def ghT {E E' : Type} [ES E] [ES E'] (t : Tr E E') : Gh E E' := ⟨t.w, fun s => ⟨_, Same.refl _, t.sr s⟩⟩
@[reducible] def ghI {E : Type} [ES E] : Gh E E := ⟨fun e => e, fun s => ⟨_, Same.refl _, s⟩⟩
@[reducible] def ghC {E E1 E2 : Type} [ES E] [ES E1] [ES E2] (a : Gh E E1) (b : Gh E1 E2) : Gh E E2 := ⟨fun e => b.w (a.w e), fun s => by
  obtain ⟨F1, h1, s1⟩ := a.ok s
  obtain ⟨F2, h2, s2⟩ := b.ok s1
  exact ⟨F2, h1.trans h2, s2⟩⟩
/-- an own list stands still from now on -/
structure Frz (E E' : Type) [ES E] [ES E'] where
  w : E → E'
  ok : ∀ {F H : Hp} {os : List Addr} {σ : St} {e : E}, os.Nodup → (∀ q ∈ os, F q = none) → ES.rep F H os σ e →
    ∃ p vs os', p ∈ os ∧ H p = some (.lst vs) ∧ os'.Nodup ∧ (∀ q ∈ os', q ∈ os ∧ q ≠ p) ∧ ES.rep (upd F p (.lst vs)) H os' σ (w e)
@[reducible] def f0 {α E : Type} [Enc α] [ES E] : Frz (Ow α × E) (List α × E) := ⟨fun e => (e.1.l, e.2), fun {F H os σ e} nd fn r => by
  obtain ⟨x, σ', a, b, e1, e2, ⟨p, vs, ea, ex, hp, z, rr⟩, rb⟩ := r
  subst e1; subst e2; subst ea; subst ex
  have hs : Same F (upd F p (.lst vs)) := same_new (fn p List.mem_cons_self)
  obtain ⟨n1, n2⟩ := List.nodup_cons.mp (show (p :: b).Nodup from nd)
  exact ⟨p, vs, b, List.mem_cons_self, hp, n2, fun q hq => ⟨List.mem_cons_of_mem _ hq, fun z => n1 (z ▸ hq)⟩, _, σ', [], b, rfl, rfl, ⟨rfl, _, rfl, p, vs, rfl, upd_same, z, rr.mono hs⟩, ES.mono hs (fun _ _ => rfl) rb⟩⟩
@[reducible] def fS {T E E' : Type} [SK T] [ES E] [ES E'] (f : Frz E E') : Frz (T × E) (T × E') := ⟨fun e => (e.1, f.w e.2), fun {F H os σ e} nd fn r => by
  obtain ⟨x, σ', a, b, e1, e2, ra, rb⟩ := r
  subst e1; subst e2
  rw [List.nodup_append] at nd
  obtain ⟨p, vs, os', h1, h2, h3, h4, h5⟩ := f.ok nd.2.1 (fun q hq => fn q (List.mem_append_right _ hq)) rb
  refine ⟨p, vs, a ++ os', List.mem_append_right _ h1, h2, ?_, fun q hq => ?_, x, σ', a, os', rfl, rfl, SK.mono (same_new (fn p (List.mem_append_right _ h1))) (fun _ _ => rfl) ra, h5⟩
  · rw [List.nodup_append]
    exact ⟨nd.1, h3, fun q hq z hz e => nd.2.2 q hq z (h4 z hz).1 e⟩
  · rcases List.mem_append.mp hq with h | h
    · exact ⟨List.mem_append_left _ h, fun z => nd.2.2 q h p h1 z⟩
    · exact ⟨List.mem_append_right _ (h4 q h).1, (h4 q h).2⟩⟩
theorem Frz.sr {E E' : Type} [ES E] [ES E'] (f : Frz E E') {F0 H0 F H : Hp} {σ : St} {e : E} (s : SR F0 H0 F H σ e) :
    ∃ p vs, F p = none ∧ H p = some (.lst vs) ∧ SR F0 H0 (upd F p (.lst vs)) H σ (f.w e) := by
  obtain ⟨os, nd, fr, r⟩ := s.st
  obtain ⟨p, vs, os', h1, h2, h3, h4, h5⟩ := f.ok nd (fun q hq => (fr q hq).1) r
  obtain ⟨fp, hp, _⟩ := fr p h1
  refine ⟨p, vs, fp, h2, ⟨s.ext.ff.trans (same_new fp), s.ext.hh, fun b o e => ?_, fun q e n => ?_⟩, os', h3, fun q hq => ?_, h5⟩
  · by_cases hb : b = p
    · subst hb; rw [upd_same] at e; rw [h2]; exact e
    · rw [upd_ne hb] at e; exact s.ext.fh _ _ e
  · by_cases hb : q = p
    · subst hb; exact hp
    · rw [upd_ne hb] at n; exact s.ext.nw q e n
  · obtain ⟨a, b⟩ := h4 q hq
    obtain ⟨x, y, z⟩ := fr q a
    exact ⟨by rw [upd_ne b]; exact x, y, z⟩
@[reducible] def ghF {E E' : Type} [ES E] [ES E'] (f : Frz E E') : Gh E E' := ⟨f.w, fun s => by
  obtain ⟨p, vs, fp, _, s'⟩ := f.sr s
  exact ⟨_, same_new fp, s'⟩⟩
end PL
set_option Elab.async false
set_option linter.all false
set_option maxRecDepth 100000
/-! PL2: expressions. -/
namespace PL
open PySem PySem.Spec PyProof.Rows L2
variable {X : Cx} {E : Type} [ES E] {pos p0s p1s p2s : Pos}

/-! ## operators by their functions -/
def R2S (r : R2) {α β γ : Type} [Enc α] [Enc β] [Enc γ] (g : α → β → γ) (c : α → β → Prop) : Prop :=
  ∀ F H x y a b Q, Same F H → rep F x a → rep F y b → c a b → (∀ F' H' v, Ext F H F' H' → rep F' v (g a b) → Q v H') → r x y H Q
def R2O (r : R2) {α β γ : Type} [Enc α] [Enc β] [Enc γ] (g : α → β → List γ) (c : α → β → Prop) : Prop :=
  ∀ F H x y a b Q, Same F H → rep F x a → rep F y b → c a b →
    (∀ F' H' p vs, Ext F H F' H' → H p = none → F' p = none → H' p = some (.lst vs) → vs.length ≤ sizeLine → Reps F' vs (g a b) → Q (.ref p) H') → r x y H Q
section
variable {α β γ : Type} [Enc α] [Enc β] [Enc γ] {a b c : Expr} {fa : E → α} {fb : E → β} {oka okb : E → Prop} {g : α → β → γ} {k : α → β → Prop} {r : R2}
theorem two {r : R2} (h : R2S r g k) {σ : L2.St} {H : Hp} {Q : VK} (w : tE (fun e => g (fa e) (fb e)) (fun e => oka e ∧ okb e ∧ k (fa e) (fb e)) σ H Q) : tOp r (tE fa oka) (tE fb okb) σ H Q := by
  obtain ⟨F0, H0, F, e, s, ⟨o1, o2, o3⟩, q⟩ := w
  refine ⟨F0, H0, F, e, s, o1, fun F1 H1 x X1 r1 => ⟨F0, H0, F1, e, s.more X1, o2, fun F2 H2 y X2 r2 => ?_⟩⟩
  exact h F2 H2 x y _ _ Q X2.fh (Enc.mono X2.ff r1) r2 o3 fun F' H' v X3 r3 => q F' H' v (X1.trans (X2.trans X3)) r3
theorem twoO {g : α → β → List γ} {r : R2} (h : R2O r g k) {σ : L2.St} {H : Hp} {Q : VK} (w : tO (fun e => g (fa e) (fb e)) (fun e => oka e ∧ okb e ∧ k (fa e) (fb e)) σ H Q) : tOp r (tE fa oka) (tE fb okb) σ H Q := by
  obtain ⟨F0, H0, F, e, s, ⟨o1, o2, o3⟩, q⟩ := w
  refine ⟨F0, H0, F, e, s, o1, fun F1 H1 x X1 r1 => ⟨F0, H0, F1, e, s.more X1, o2, fun F2 H2 y X2 r2 => ?_⟩⟩
  refine h F2 H2 x y _ _ Q X2.fh (Enc.mono X2.ff r1) r2 o3 fun F' H' p vs X3 hp fp h' z r3 => q F' H' p vs (X1.trans (X2.trans X3)) ?_ fp h' z r3
  exact X1.hh.free (X2.hh.free hp)
theorem ie_op {op : Operator} (ho : OpR X (binaryOp op) r) (h : R2S r g k) (ha : IE X a fa oka) (hb : IE X b fb okb) : IE X (.BinOp a op b pos) (fun e => g (fa e) (fb e)) (fun e => oka e ∧ okb e ∧ k (fa e) (fb e)) :=
  pe_imp (pe_op ho ha hb) fun _ _ _ w => two h w
theorem io_op {g : α → β → List γ} {op : Operator} (ho : OpR X (binaryOp op) r) (h : R2O r g k) (ha : IE X a fa oka) (hb : IE X b fb okb) : IO X (.BinOp a op b pos) (fun e => g (fa e) (fb e)) (fun e => oka e ∧ okb e ∧ k (fa e) (fb e)) :=
  pe_imp (pe_op ho ha hb) fun _ _ _ w => twoO h w
theorem ie_cmp {op : CmpOp} (ho : OpR X (compareOp op) r) (h : R2S r g k) (ha : IE X a fa oka) (hb : IE X b fb okb) (hm : behindInMarks op b = false) : IE X (.Compare a [op] [b] pos) (fun e => g (fa e) (fb e)) (fun e => oka e ∧ okb e ∧ k (fa e) (fb e)) :=
  pe_imp (pe_cmpR ho ha hb hm) fun _ _ _ w => two h w
theorem it_cmp {g : α → β → Bool} {op : CmpOp} (ho : OpR X (compareOp op) r) (h : R2S r g k) (ha : IE X a fa oka) (hb : IE X b fb okb) (hm : behindInMarks op b = false) : IT X (.Compare a [op] [b] pos) (fun e => g (fa e) (fb e)) (fun e => oka e ∧ okb e ∧ k (fa e) (fb e)) := by
  refine pt_imp (pt_cmpR ho ha hb hm) fun σ H Q ⟨F0, H0, F, e, s, o, q⟩ => two h ⟨F0, H0, F, e, s, o, fun F' H' v x rv => ?_⟩
  exact ⟨_, rv, q F' H' x⟩
theorem ie_imp {f f' : E → α} {ok ok' : E → Prop} (h : IE X a f ok) (hf : ∀ e, ok' e → f e = f' e) (ho : ∀ e, ok' e → ok e) : IE X a f' ok' := by
  refine pe_imp h fun σ H Q ⟨F0, H0, F, e, s, o, q⟩ => ⟨F0, H0, F, e, s, ho e o, fun F' H' v x r => q F' H' v x (hf e o ▸ r)⟩
end
/-- always safe -/
abbrev Tr2 {α β : Type} : α → β → Prop := fun _ _ => True
theorem flat_k {α : Type} [Enc α] {F H : Hp} {Q : VK} {v : V} {a : α} (h : Same F H) (r : rep F v a) (q : ∀ F' H' v, Ext F H F' H' → rep F' v a → Q v H') : Q v H := q F H v (Ext.refl h) r
theorem r2_int {g : Int → Int → Int} : R2S (rI0 fun i j => .int (g i j)) g Tr2 := fun F H x y a b Q h r1 r2 _ q => ⟨a, b, r1, r2, flat_k h rfl q⟩
theorem r2_intc {g : Int → Int → Int} {c : Int → Int → Prop} : R2S (rI c fun i j => .int (g i j)) g c := fun F H x y a b Q h r1 r2 k q => ⟨a, b, r1, r2, k, flat_k h rfl q⟩
theorem r2_intb {g : Int → Int → Bool} : R2S (rI0 fun i j => .bl (g i j)) g Tr2 := fun F H x y a b Q h r1 r2 _ q => ⟨a, b, r1, r2, flat_k h rfl q⟩
section
variable {a b c : Expr} {fa fb fc : E → Int} {oka okb okc : E → Prop}
theorem ie_add (ha : IE X a fa oka) (hb : IE X b fb okb) : IE X (.BinOp a .Add b pos) (fun e => fa e + fb e) (fun e => oka e ∧ okb e) := ie_imp (ie_op op_add r2_int ha hb) (fun _ _ => rfl) fun e o => ⟨o.1, o.2, trivial⟩
theorem ie_sub (ha : IE X a fa oka) (hb : IE X b fb okb) : IE X (.BinOp a .Sub b pos) (fun e => fa e - fb e) (fun e => oka e ∧ okb e) := ie_imp (ie_op op_sub r2_int ha hb) (fun _ _ => rfl) fun e o => ⟨o.1, o.2, trivial⟩
theorem ie_mul (ha : IE X a fa oka) (hb : IE X b fb okb) : IE X (.BinOp a .Mult b pos) (fun e => fa e * fb e) (fun e => oka e ∧ okb e ∧ CMul (fa e) (fb e)) := ie_op op_mul r2_intc ha hb
theorem ie_div (ha : IE X a fa oka) (hb : IE X b fb okb) : IE X (.BinOp a .FloorDiv b pos) (fun e => (fa e).fdiv (fb e)) (fun e => oka e ∧ okb e ∧ CDivN (fa e) (fb e)) := ie_op op_fdivN r2_intc ha hb
theorem ie_mod (ha : IE X a fa oka) (hb : IE X b fb okb) : IE X (.BinOp a .Mod b pos) (fun e => (fa e).fmod (fb e)) (fun e => oka e ∧ okb e ∧ fb e ≠ 0) := ie_op op_modN r2_intc ha hb
theorem ie_neg (ha : IE X a fa oka) : IE X (.UnaryOp .USub a pos) (fun e => - fa e) oka := by
  refine pe_imp (pe_un un_neg ha) fun σ H Q ⟨F0, H0, F, e, s, o, q⟩ => ⟨F0, H0, F, e, s, o, fun F1 H1 x X1 r1 => ⟨_, r1, q F1 H1 _ X1 rfl⟩⟩
theorem ie_lt (ha : IE X a fa oka) (hb : IE X b fb okb) : IE X (.Compare a [.Lt] [b] pos) (fun e => decide (fa e < fb e)) (fun e => oka e ∧ okb e) := ie_imp (ie_cmp op_lt r2_intb ha hb (nomark _)) (fun _ _ => rfl) fun e o => ⟨o.1, o.2, trivial⟩
theorem ie_le (ha : IE X a fa oka) (hb : IE X b fb okb) : IE X (.Compare a [.LtE] [b] pos) (fun e => decide (fa e ≤ fb e)) (fun e => oka e ∧ okb e) := ie_imp (ie_cmp op_le r2_intb ha hb (nomark _)) (fun _ _ => rfl) fun e o => ⟨o.1, o.2, trivial⟩
theorem ie_gt (ha : IE X a fa oka) (hb : IE X b fb okb) : IE X (.Compare a [.Gt] [b] pos) (fun e => decide (fb e < fa e)) (fun e => oka e ∧ okb e) := ie_imp (ie_cmp op_gt r2_intb ha hb (nomark _)) (fun _ _ => rfl) fun e o => ⟨o.1, o.2, trivial⟩
theorem ie_ge (ha : IE X a fa oka) (hb : IE X b fb okb) : IE X (.Compare a [.GtE] [b] pos) (fun e => decide (fb e ≤ fa e)) (fun e => oka e ∧ okb e) := ie_imp (ie_cmp op_ge r2_intb ha hb (nomark _)) (fun _ _ => rfl) fun e o => ⟨o.1, o.2, trivial⟩
theorem it_imp {f f' : E → Bool} {ok ok' : E → Prop} (h : IT X a f ok) (hf : ∀ e, ok' e → f e = f' e) (ho : ∀ e, ok' e → ok e) : IT X a f' ok' :=
  pt_imp h fun σ H Q ⟨F0, H0, F, e, s, o, q⟩ => ⟨F0, H0, F, e, s, ho e o, fun F' H' x => by rw [hf e o]; exact q F' H' x⟩
theorem it_lt (ha : IE X a fa oka) (hb : IE X b fb okb) : IT X (.Compare a [.Lt] [b] pos) (fun e => decide (fa e < fb e)) (fun e => oka e ∧ okb e) := it_imp (it_cmp op_lt r2_intb ha hb (nomark _)) (fun _ _ => rfl) fun e o => ⟨o.1, o.2, trivial⟩
theorem it_le (ha : IE X a fa oka) (hb : IE X b fb okb) : IT X (.Compare a [.LtE] [b] pos) (fun e => decide (fa e ≤ fb e)) (fun e => oka e ∧ okb e) := it_imp (it_cmp op_le r2_intb ha hb (nomark _)) (fun _ _ => rfl) fun e o => ⟨o.1, o.2, trivial⟩
theorem it_gt (ha : IE X a fa oka) (hb : IE X b fb okb) : IT X (.Compare a [.Gt] [b] pos) (fun e => decide (fb e < fa e)) (fun e => oka e ∧ okb e) := it_imp (it_cmp op_gt r2_intb ha hb (nomark _)) (fun _ _ => rfl) fun e o => ⟨o.1, o.2, trivial⟩
theorem it_ge (ha : IE X a fa oka) (hb : IE X b fb okb) : IT X (.Compare a [.GtE] [b] pos) (fun e => decide (fb e ≤ fa e)) (fun e => oka e ∧ okb e) := it_imp (it_cmp op_ge r2_intb ha hb (nomark _)) (fun _ _ => rfl) fun e o => ⟨o.1, o.2, trivial⟩
end

/-! ## == of flat things -/
class EqF (α : Type) [Enc α] [DecidableEq α] : Prop where
  scal : ∀ {F : Hp} {x y : V} {a b : α}, rep F x a → rep F y b → L2.scal x y = true ∧ (x = y ↔ a = b)
  flatV : ∀ {F : Hp} {x : V} {a : α}, rep F x a → L2.flatV x = true
  eqV : ∀ {F : Hp} {x y : V} {a b : α}, rep F x a → rep F y b → L2.eqV y x = decide (b = a)
theorem toS_inj {a b : S} (h : toS a = toS b) : a = b := SX.S_inj h
instance : EqF Int := ⟨fun {F x y a b} h1 h2 => by cases h1; cases h2; exact ⟨rfl, by simp⟩, fun {F x a} h => by cases h; rfl, fun {F x y a b} h1 h2 => by cases h1; cases h2; show (b == a) = _; exact Bool.beq_eq_decide_eq b a⟩
instance : EqF Bool := ⟨fun {F x y a b} h1 h2 => by cases h1; cases h2; exact ⟨rfl, by simp⟩, fun {F x a} h => by cases h; rfl, fun {F x y a b} h1 h2 => by cases h1; cases h2; show (b == a) = _; exact Bool.beq_eq_decide_eq b a⟩
instance : EqF S := ⟨fun {F x y a b} h1 h2 => by
  obtain ⟨rfl, _⟩ := h1
  obtain ⟨rfl, _⟩ := h2
  exact ⟨rfl, fun e => toS_inj (V.str.inj e), fun e => by rw [e]⟩, fun {F x a} h => by obtain ⟨rfl, _⟩ := h; rfl, fun {F x y a b} h1 h2 => by
  obtain ⟨rfl, _⟩ := h1
  obtain ⟨rfl, _⟩ := h2
  show (toS b == toS a) = _
  exact SX.S_beq_eq⟩
section
variable {α : Type} [Enc α] [DecidableEq α] [EqF α] {a b : Expr} {fa fb : E → α} {oka okb : E → Prop}
theorem r2_eq : R2S rEq (fun a b : α => decide (a = b)) Tr2 := fun F H x y a b Q h r1 r2 _ q => by
  obtain ⟨s, i⟩ := EqF.scal (α := α) r1 r2
  refine ⟨s, ?_⟩
  rw [show decide (x = y) = decide (a = b) from decide_eq_decide.mpr i]
  exact flat_k h rfl q
theorem r2_ne : R2S rNe (fun a b : α => !decide (a = b)) Tr2 := fun F H x y a b Q h r1 r2 _ q => by
  obtain ⟨s, i⟩ := EqF.scal (α := α) r1 r2
  refine ⟨s, ?_⟩
  rw [show decide (x = y) = decide (a = b) from decide_eq_decide.mpr i]
  exact flat_k h rfl q
theorem ie_eq (ha : IE X a fa oka) (hb : IE X b fb okb) : IE X (.Compare a [.Eq] [b] pos) (fun e => decide (fa e = fb e)) (fun e => oka e ∧ okb e) := ie_imp (ie_cmp op_eq r2_eq ha hb (nomark _)) (fun _ _ => rfl) fun e o => ⟨o.1, o.2, trivial⟩
theorem ie_ne (ha : IE X a fa oka) (hb : IE X b fb okb) : IE X (.Compare a [.NotEq] [b] pos) (fun e => !decide (fa e = fb e)) (fun e => oka e ∧ okb e) := ie_imp (ie_cmp op_ne r2_ne ha hb (nomark _)) (fun _ _ => rfl) fun e o => ⟨o.1, o.2, trivial⟩
theorem it_eq (ha : IE X a fa oka) (hb : IE X b fb okb) : IT X (.Compare a [.Eq] [b] pos) (fun e => decide (fa e = fb e)) (fun e => oka e ∧ okb e) := it_imp (it_cmp op_eq r2_eq ha hb (nomark _)) (fun _ _ => rfl) fun e o => ⟨o.1, o.2, trivial⟩
theorem it_ne (ha : IE X a fa oka) (hb : IE X b fb okb) : IT X (.Compare a [.NotEq] [b] pos) (fun e => !decide (fa e = fb e)) (fun e => oka e ∧ okb e) := it_imp (it_cmp op_ne r2_ne ha hb (nomark _)) (fun _ _ => rfl) fun e o => ⟨o.1, o.2, trivial⟩
/-- x in xs, of flat things -/
theorem inV_eq {F : Hp} {x : V} {a : α} (r : rep F x a) : ∀ {vs : List V} {xs : List α}, Reps F vs xs → inV x vs = decide (a ∈ xs) ∧ vs.all L2.flatV = true
  | _, _, .nil => ⟨by simp [inV], rfl⟩
  | _, _, .cons (a := v) (b := b) (l₁ := vs) (l₂ := xs) r1 t => by
    obtain ⟨h1, h2⟩ := inV_eq r t
    refine ⟨?_, by rw [List.all_cons, EqF.flatV r1, h2]; rfl⟩
    unfold inV at h1 ⊢
    rw [List.any_cons, h1, EqF.eqV r r1]
    by_cases h : b = a
    · subst h; simp
    · have h' : ¬ a = b := fun z => h z.symm
      simp [h, h']
theorem r2_in (K : PySem.W.Frag) (neg : Bool) : R2S (rIn K neg) (fun (a : α) (xs : List α) => if neg then !decide (a ∈ xs) else decide (a ∈ xs)) Tr2 := fun F H x y a b Q h r1 r2 _ q => by
  obtain ⟨p, vs, rfl, hp, z, rr⟩ := r2
  obtain ⟨h1, h2⟩ := inV_eq r1 rr
  refine ⟨p, vs, rfl, .inl (SqL.of (h _ _ hp)), EqF.flatV r1, h2, ?_⟩
  rw [h1]
  exact flat_k h rfl q
variable {fxs : E → List α}
theorem ie_in (ha : IE X a fa oka) (hb : IE X b fxs okb) (hm : behindInMarks .In b = false := by rfl) : IE X (.Compare a [.In] [b] pos) (fun e => decide (fa e ∈ fxs e)) (fun e => oka e ∧ okb e) := ie_imp (ie_cmp op_in_seq (r2_in _ false) ha hb hm) (fun _ _ => rfl) fun e o => ⟨o.1, o.2, trivial⟩
theorem ie_nin (ha : IE X a fa oka) (hb : IE X b fxs okb) (hm : behindInMarks .NotIn b = false := by rfl) : IE X (.Compare a [.NotIn] [b] pos) (fun e => !decide (fa e ∈ fxs e)) (fun e => oka e ∧ okb e) := ie_imp (ie_cmp op_notIn_seq (r2_in _ true) ha hb hm) (fun _ _ => rfl) fun e o => ⟨o.1, o.2, trivial⟩
theorem it_in (ha : IE X a fa oka) (hb : IE X b fxs okb) (hm : behindInMarks .In b = false := by rfl) : IT X (.Compare a [.In] [b] pos) (fun e => decide (fa e ∈ fxs e)) (fun e => oka e ∧ okb e) := it_imp (it_cmp op_in_seq (r2_in _ false) ha hb hm) (fun _ _ => rfl) fun e o => ⟨o.1, o.2, trivial⟩
theorem it_nin (ha : IE X a fa oka) (hb : IE X b fxs okb) (hm : behindInMarks .NotIn b = false := by rfl) : IT X (.Compare a [.NotIn] [b] pos) (fun e => !decide (fa e ∈ fxs e)) (fun e => oka e ∧ okb e) := it_imp (it_cmp op_notIn_seq (r2_in _ true) ha hb hm) (fun _ _ => rfl) fun e o => ⟨o.1, o.2, trivial⟩
end

/-! ## names, constants -/
abbrev okT : E → Prop := fun _ => True
theorem ie_var {α : Type} [Enc α] (v : Var E α) {x : Str} (hN : X.N[v.i]? = some x := by rfl) (hv : Vis X.env.scope x := by first | exact Or.inl rfl | exact Or.inr (Or.inl rfl) | exact Or.inr (Or.inr rfl))
    (hd : (x == ("__debug__" : Str)) = false := by decide) (hcd : (x == ("__classdict__" : Str)) = false := by decide) : IE X (.Name x pos) v.get okT :=
  pe_imp (pe_var hN hv hd hcd) fun σ H Q ⟨F0, H0, F, e, s, _, q⟩ => by
    obtain ⟨os, nd, fr, r⟩ := s.st
    obtain ⟨u, h1, h2⟩ := v.ok r
    exact ⟨u, h1, flat_k s.ext.fh h2 q⟩
theorem fin_flat {α : Type} [Enc α] {f : E → α} {ok : E → Prop} {σ : L2.St} {H : Hp} {Q : VK} (w : tE f ok σ H Q) : ∃ F e, Same F H ∧ ok e ∧ ∀ v, rep F v (f e) → Q v H :=
  let ⟨_, _, F, e, s, o, q⟩ := w
  ⟨F, e, s.ext.fh, o, fun v r => q F H v (Ext.refl s.ext.fh) r⟩
theorem ie_int {i : Int} {j : Nat} : IE X (.Constant (.int i) j pos) (fun _ : E => i) okT := pe_imp pe_int fun _ _ _ w => let ⟨_, _, _, _, q⟩ := fin_flat w; q _ rfl
theorem ie_bl {i : Bool} {j : Nat} : IE X (.Constant (.bool i) j pos) (fun _ : E => i) okT := pe_imp pe_bl fun _ _ _ w => let ⟨_, _, _, _, q⟩ := fin_flat w; q _ rfl
theorem ie_non {j : Nat} : IE X (.Constant .none j pos) (fun _ : E => ()) okT := pe_imp pe_non fun _ _ _ w => let ⟨_, _, _, _, q⟩ := fin_flat w; q _ rfl
theorem ie_nonO {α : Type} [Enc α] {j : Nat} : IE X (.Constant .none j pos) (fun _ : E => (none : Option α)) okT := pe_imp pe_non fun _ _ _ w => let ⟨_, _, _, _, q⟩ := fin_flat w; q _ rfl
theorem ie_str (s : S) {x : Str} {j : Nat} (h : toS s = x := by rfl) (hz : decide (s.length ≤ 1000) = true := by rfl) (hc : s.all (fun c => decide (c < 1114112)) = true := by rfl) : IE X (.Constant (.str x) j pos) (fun _ : E => s) okT :=
  pe_imp pe_str fun _ _ _ w => let ⟨_, _, _, _, q⟩ := fin_flat w; q _ ⟨by rw [h], Nat.le_trans (of_decide_eq_true hz) (by decide), fun c hm => of_decide_eq_true (List.all_eq_true.mp hc c hm)⟩
theorem ie_some {α : Type} [Enc α] {a : Expr} {f : E → α} {ok : E → Prop} (h : IE X a f ok) : IE X a (fun e => some (f e)) ok :=
  pe_imp h fun σ H Q ⟨F0, H0, F, e, s, o, q⟩ => ⟨F0, H0, F, e, s, o, fun F' H' v x r => q F' H' v x r⟩
/-- a new own list stands still -/
theorem ie_fz {α : Type} [Enc α] {a : Expr} {f : E → List α} {ok : E → Prop} (h : IO X a f ok) : IE X a f ok := by
  refine pe_imp h fun σ H Q ⟨F0, H0, F, e, s, o, q⟩ => ⟨F0, H0, F, e, s, o, fun F' H' p vs x hp fp h' z r => ?_⟩
  have sm : Same F' (upd F' p (.lst vs)) := same_new fp
  refine q (upd F' p (.lst vs)) H' (.ref p) ⟨x.ff.trans sm, x.hh, fun b y e => ?_, fun b e n => ?_⟩ ⟨p, vs, rfl, upd_same, z, r.mono sm⟩
  · by_cases hb : b = p
    · subst hb; rw [upd_same] at e; rw [h']; exact e
    · rw [upd_ne hb] at e; exact x.fh _ _ e
  · by_cases hb : b = p
    · subst hb; exact hp
    · rw [upd_ne hb] at n; exact x.nw b e n
end PL
set_option Elab.async false
set_option linter.all false
set_option maxRecDepth 100000
/-! PL3: lists, texts, calls, truth. -/
namespace PL
open PySem PySem.Spec PyProof.Rows L2
variable {X : Cx} {E : Type} [ES E] {pos p0s p1s p2s : Pos}

/-! ## places, cuts -/
def ixOk {α : Type} (xs : List α) (i : Int) : Prop := -(xs.length : Int) ≤ i ∧ i < xs.length
def ixD {α : Type} [Inhabited α] (xs : List α) (i : Int) : α := xs.getD (if 0 ≤ i then i.toNat else (i + xs.length).toNat) default
theorem atI_map {α β : Type} [Inhabited β] {xs : List α} {ys : List β} (hl : xs.length = ys.length) {i : Int} (h : ixOk ys i) : ∃ (j : Nat) (v : α), atI xs i = some v ∧ xs[j]? = some v ∧ ys[j]? = some (ixD ys i) := by
  obtain ⟨h1, h2⟩ := h
  by_cases h0 : 0 ≤ i
  · have hj : i.toNat < xs.length := by omega
    have hj2 : i.toNat < ys.length := by omega
    refine ⟨i.toNat, xs[i.toNat], ?_, by simp [hj], ?_⟩
    · unfold atI ixN; rw [if_pos h0, if_pos (by omega)]; simp [hj]
    · unfold ixD; rw [if_pos h0]; simp [hj2]
  · have hj : (i + xs.length).toNat < xs.length := by omega
    have hj2 : (i + ys.length).toNat < ys.length := by omega
    refine ⟨(i + xs.length).toNat, xs[(i + xs.length).toNat], ?_, by simp [hj], ?_⟩
    · unfold atI ixN; rw [if_neg h0, if_pos (by omega)]; simp [hj]
    · unfold ixD; rw [if_neg h0, hl]; simp [hj2]
theorem reps_atI {α : Type} [Enc α] [Inhabited α] {F : Hp} {vs : List V} {xs : List α} (r : Reps F vs xs) {i : Int} (h : ixOk xs i) : ∃ v, atI vs i = some v ∧ rep F v (ixD xs i) := by
  obtain ⟨j, v, h1, h2, h3⟩ := atI_map r.length h
  obtain ⟨x, e, rx⟩ := reps_at r h2
  rw [h3] at e
  cases e
  exact ⟨v, h1, rx⟩
def sl {α : Type} (xs : List α) (lo hi : Option Int) : List α := (xs.drop (HT.sIx xs.length 0 lo)).take (HT.sIx xs.length xs.length hi - HT.sIx xs.length 0 lo)
theorem sl_len {α : Type} (xs : List α) (lo hi : Option Int) : (sl xs lo hi).length ≤ xs.length := by
  unfold sl; rw [List.length_take, List.length_drop]; omega
theorem reps_sl {α : Type} [Enc α] {F : Hp} {vs : List V} {xs : List α} (r : Reps F vs xs) (lo hi : Option Int) : Reps F (cutV vs lo hi) (sl xs lo hi) := by
  unfold cutV sl
  rw [r.length]
  exact reps_take _ (reps_drop _ r)
section
variable {α : Type} [Enc α] {a b : Expr} {fa : E → List α} {fi : E → Int} {oka okb : E → Prop}
theorem r2_ixL [Inhabited α] (K : PySem.W.Frag) : R2S (rIxL K) (fun (xs : List α) (i : Int) => ixD xs i) ixOk := fun F H x y a b Q h r1 r2 k q => by
  obtain ⟨p, vs, rfl, hp, z, rr⟩ := r1
  obtain ⟨v, e, rv⟩ := reps_atI rr k
  exact ⟨p, vs, b, v, rfl, r2, SqL.of (h _ _ hp), e, flat_k h rv q⟩
theorem ie_ix [Inhabited α] (ha : IE X a fa oka) (hb : IE X b fi okb) (hs : PlainIx b := by exact fun _ _ => rfl) : IE X (.Subscript a b pos) (fun e => ixD (fa e) (fi e)) (fun e => oka e ∧ okb e ∧ ixOk (fa e) (fi e)) :=
  pe_imp (pe_ix ix_list ha hb hs) fun _ _ _ w => two (r2_ixL _) w
theorem r2_ixT [Inhabited α] (K : PySem.W.Frag) : R2S (rIxT K) (fun (xs : Tup α) (i : Int) => ixD xs.l i) (fun xs i => ixOk xs.l i) := fun F H x y a b Q h r1 r2 k q => by
  obtain ⟨p, vs, rfl, hp, z, rr⟩ := r1
  obtain ⟨v, e, rv⟩ := reps_atI rr k
  exact ⟨p, vs, b, v, rfl, r2, SqT.of (h _ _ hp), e, flat_k h rv q⟩
theorem ie_ixT [Inhabited α] {fa : E → Tup α} (ha : IE X a fa oka) (hb : IE X b fi okb) (hs : PlainIx b := by exact fun _ _ => rfl) : IE X (.Subscript a b pos) (fun e => ixD (fa e).l (fi e)) (fun e => oka e ∧ okb e ∧ ixOk (fa e).l (fi e)) :=
  pe_imp (pe_ix ix_tup ha hb hs) fun _ _ _ w => two (r2_ixT _) w
theorem r2_ixS : R2S rIxS (fun (s : S) (i : Int) => ([ixD s i] : S)) ixOk := fun F H x y a b Q h r1 r2 k q => by
  obtain ⟨rfl, z⟩ := r1
  obtain ⟨j, v, h1, h2, h3⟩ := atI_map (xs := a) (ys := a) rfl k
  rw [h2] at h3
  refine ⟨toS a, b, v, rfl, r2, by show (toS a).length ≤ _; rw [show (toS a).length = a.length from SX.S_len a]; exact z.len, h1, ?_⟩
  refine q F H _ (Ext.refl h) ⟨?_, z.sub (by show 1 ≤ sizeLine; decide) fun c hc => ?_⟩
  · cases h3; rfl
  · rw [List.mem_singleton.mp hc]; cases h3; exact List.mem_of_getElem? h2
theorem ie_ixS {fa : E → S} (ha : IE X a fa oka) (hb : IE X b fi okb) (hs : PlainIx b := by exact fun _ _ => rfl) : IE X (.Subscript a b pos) (fun e => ([ixD (fa e) (fi e)] : S)) (fun e => oka e ∧ okb e ∧ ixOk (fa e) (fi e)) :=
  pe_imp (pe_ix ix_str ha hb hs) fun _ _ _ w => two r2_ixS w
/-- the parts of pairs and triples -/
theorem r2_fst {α β : Type} [Enc α] [Enc β] (K : PySem.W.Frag) : R2S (rIxT K) (fun (t : α × β) (_ : Int) => t.1) (fun _ i => i = 0) := fun F H x y a b Q h r1 r2 k q => by
  obtain ⟨p, u, w, rfl, hp, ru, rw'⟩ := r1
  subst k
  exact ⟨p, [u, w], 0, u, rfl, r2, SqT.of (h _ _ hp), rfl, flat_k h ru q⟩
theorem r2_snd {α β : Type} [Enc α] [Enc β] (K : PySem.W.Frag) : R2S (rIxT K) (fun (t : α × β) (_ : Int) => t.2) (fun _ i => i = 1) := fun F H x y a b Q h r1 r2 k q => by
  obtain ⟨p, u, w, rfl, hp, ru, rw'⟩ := r1
  subst k
  exact ⟨p, [u, w], 1, w, rfl, r2, SqT.of (h _ _ hp), rfl, flat_k h rw' q⟩
theorem ie_fst {β : Type} [Enc β] {j : Nat} {a : Expr} {f : E → α × β} {ok : E → Prop} (ha : IE X a f ok) : IE X (.Subscript a (.Constant (.int 0) j p1s) pos) (fun e => (f e).1) ok :=
  ie_imp (pe_imp (pe_ix ix_tup ha (ie_int (E := E) (i := 0)) (fun _ _ => rfl)) fun _ _ _ w => two (r2_fst (α := α) (β := β) _) w) (fun _ _ => rfl) fun e o => ⟨o, trivial, rfl⟩
theorem ie_snd {β : Type} [Enc β] {j : Nat} {a : Expr} {f : E → α × β} {ok : E → Prop} (ha : IE X a f ok) : IE X (.Subscript a (.Constant (.int 1) j p1s) pos) (fun e => (f e).2) ok :=
  ie_imp (pe_imp (pe_ix ix_tup ha (ie_int (E := E) (i := 1)) (fun _ _ => rfl)) fun _ _ _ w => two (r2_snd (α := α) (β := β) _) w) (fun _ _ => rfl) fun e o => ⟨o, trivial, rfl⟩
end
/-! slices -/
def tP (f : E → Option Int) (ok : E → Prop) : TO := fun σ H Q => ∃ (F0 H0 F : Hp) (e : E), SR F0 H0 F H σ e ∧ ok e ∧ ∀ F' H', Ext F H F' H' → Q (f e) H'
abbrev IP (X : Cx) (e : Option Expr) (f : E → Option Int) (ok : E → Prop) : Prop := PO X e (tP f ok)
theorem po_imp {e : Option Expr} {t t' : TO} (h : PO X e t) (i : ∀ σ H Q, t' σ H Q → t σ H Q) : PO X e t' := ⟨fun pins s σ H Q I w => h.run pins s σ H Q I (i _ _ _ w)⟩
theorem ip_none : IP X none (fun _ : E => none) okT := po_imp po_none fun σ H Q ⟨F0, H0, F, e, s, _, q⟩ => q F H (Ext.refl s.ext.fh)
theorem ip_some {a : Expr} {f : E → Int} {ok : E → Prop} (h : IE X a f ok) : IP X (some a) (fun e => some (f e)) ok :=
  po_imp (po_some h) fun σ H Q ⟨F0, H0, F, e, s, o, q⟩ => ⟨F0, H0, F, e, s, o, fun F' H' v x r => ⟨_, r, q F' H' x⟩⟩
section
variable {α : Type} [Enc α] {a : Expr} {lo hi : Option Expr} {fa : E → List α} {fl fh : E → Option Int} {oka okl okh : E → Prop}
theorem io_slice (ha : IE X a fa oka) (hl : IP X lo fl okl) (hh : IP X hi fh okh) : IO X (.Subscript a (.Slice lo hi none p2s) pos) (fun e => sl (fa e) (fl e) (fh e)) (fun e => oka e ∧ okl e ∧ okh e) := by
  refine pe_imp (pe_slice sl_list ha hl hh) fun σ H Q ⟨F0, H0, F, e, s, ⟨o1, o2, o3⟩, q⟩ => ?_
  refine ⟨F0, H0, F, e, s, o1, fun F1 H1 x X1 r1 => ⟨F0, H0, F1, e, s.more X1, o2, fun F2 H2 X2 => ⟨F0, H0, F2, e, (s.more X1).more X2, o3, fun F3 H3 X3 => ?_⟩⟩⟩
  obtain ⟨p, vs, rfl, hp, z, rr⟩ := Enc.mono (X2.ff.trans X3.ff) r1
  refine ⟨p, vs, rfl, SqL.of (X3.fh _ _ hp), fun p' hp' => ?_⟩
  have x := (X1.trans (X2.trans X3)).newO (o := .lst (cutV vs (fl e) (fh e))) hp'
  refine q F3 _ p' _ x ((X1.trans (X2.trans X3)).hh.free hp') (X3.fh.free hp') upd_same ?_ (reps_sl rr _ _)
  exact Nat.le_trans (cutV_length vs _ _) z
theorem ie_sliceS {fa : E → S} (ha : IE X a fa oka) (hl : IP X lo fl okl) (hh : IP X hi fh okh) : IE X (.Subscript a (.Slice lo hi none p2s) pos) (fun e => (sl (fa e) (fl e) (fh e) : S)) (fun e => oka e ∧ okl e ∧ okh e) := by
  refine pe_imp (pe_slice sl_str ha hl hh) fun σ H Q ⟨F0, H0, F, e, s, ⟨o1, o2, o3⟩, q⟩ => ?_
  refine ⟨F0, H0, F, e, s, o1, fun F1 H1 x X1 r1 => ⟨F0, H0, F1, e, s.more X1, o2, fun F2 H2 X2 => ⟨F0, H0, F2, e, (s.more X1).more X2, o3, fun F3 H3 X3 => ?_⟩⟩⟩
  obtain ⟨rfl, z⟩ := r1
  have hl : (toS (fa e)).length = (fa e).length := SX.S_len _
  refine ⟨toS (fa e), rfl, by rw [hl]; exact z.len, q F3 H3 _ (X1.trans (X2.trans X3)) ⟨?_, z.sub (Nat.le_trans (sl_len _ _ _) z.len) fun c hc => List.mem_of_mem_drop (List.mem_of_mem_take hc)⟩⟩
  unfold cutS sl
  rw [hl]
  rfl
/-- s[::-1] -/
def minus1 (k : Nat) (q1 q2 : Pos) : Expr := .UnaryOp .USub (.Constant (.int 1) k q1) q2
theorem rev_places (a : List Nat) : (Builtin.Str.strSliceIndices none none (-1) (toS a).length).filterMap ((toS a).cps[·]?) = a.reverse := by
  show (sliceRange (((toS a).length : Int) - 1) (-1) (-1)).filterMap ((toS a).cps[·]?) = _
  rw [PySem.W.krv_sliceRange, PySem.W.krv_range, List.filterMap_reverse, show (toS a).length = (toS a).cps.size from rfl, PySem.W.krv_all]
  rfl
theorem ie_revS {k : Nat} {q1 q2 q3 : Pos} {fa : E → S} (ha : IE X a fa oka) : IE X (.Subscript a (.Slice none none (some (.UnaryOp .USub (.Constant (.int 1) k q1) q2)) q3) pos) (fun e => ((fa e).reverse : S)) oka := by
  refine ⟨fun pins s σ H Q I h => ?_⟩
  obtain ⟨F0, H0, F, e, sr, o, q⟩ := h
  refine Subscript_ (thn (ha.run pins s σ H (fun x H1 => rep F x (fa e) ∧ Q (.str (toS (fa e).reverse)) H1) I ⟨F0, H0, F, e, sr, o, fun F' H' v x r => ⟨r, q F' H' _ x ⟨rfl, r.2.sub (by rw [List.length_reverse]; exact r.2.len) fun c hc => List.mem_reverse.mp hc⟩⟩⟩) fun v s1 w => ?_)
  obtain ⟨x, H1, I1, r1, rx, qq⟩ := w
  obtain ⟨rfl, z⟩ := rx
  obtain ⟨t, rfl⟩ := r1
  have st : PO X (some (.UnaryOp .USub (.Constant (.int 1) k q1) q2)) (tPart (tUn (rU fun i => .int (-i)) (tC (.int 1)))) := po_some (pe_un un_neg pe_int)
  refine wpAny_Slice (thn (po_none.run pins s1 σ H1 (fun o H2 => o = none ∧ H2 = H1) I1 ⟨rfl, rfl⟩) fun vl s2 w2 => ?_)
  obtain ⟨l, H2, I2, pl, rfl, rfl⟩ := w2
  refine thn (po_none.run pins s2 σ H2 (fun o H3 => o = none ∧ H3 = H2) I2 ⟨rfl, rfl⟩) fun vu s3 w3 => ?_
  obtain ⟨u, H3, I3, pu, rfl, rfl⟩ := w3
  refine thn (st.run pins s3 σ H3 (fun o H4 => o = some (-1) ∧ H4 = H3) I3 ⟨1, rfl, -1, rfl, rfl, rfl⟩) fun vs s4 w4 => ?_
  obtain ⟨o4, H4, I4, ps, rfl, rfl⟩ := w4
  have I5 : Inv X pins σ H4 { s4 with heap := s4.heap.push { cls := .type "slice", data := .fields #[vl, vu, vs] } } := I4.kept (t' := s4.toks) fun b ob q => Heap.get?_push_of_some _ q
  obtain ⟨l', rfl, el⟩ := IsPart.raw pl
  obtain ⟨u', rfl, eu⟩ := IsPart.raw pu
  obtain ⟨w', rfl, ew⟩ := IsPart.raw ps
  refine tail_any (ops := [.ref s4.heap.objs.size, .str (toS (fa e)) t]) (typeIs_str _ _ _) (PySem.F.slot_str_getitem.lookup) ?_ (by with_unfolding_all rfl)
  refine wpAny_getItem_str_slice (l := l') (u := u') (st := w') ⟨_, Heap.get?_push_size _ rfl, rfl, rfl⟩ (by rw [ew]; rfl) ?_
  unfold sliceMade slicePicked
  rw [el, eu, ew]
  rw [if_neg (by rw [Bool.and_eq_true]; intro c; exact absurd c.1 (by decide))]
  show Made.post (Made.str ⟨((Builtin.Str.strSliceIndices none none (-1) (toS (fa e)).length).filterMap ((toS (fa e)).cps[·]?)).toArray⟩) (EP X pins σ Q) _
  rw [rev_places]
  refine ⟨?_, .str (toS (fa e).reverse), H4, I5.tok _, ⟨_, rfl⟩, qq⟩
  show (toS (fa e).reverse).length ≤ sizeLine
  rw [show (toS (fa e).reverse).length = _ from SX.S_len _, List.length_reverse]
  exact z.len
theorem io_revL {k : Nat} {q1 q2 q3 : Pos} (ha : IE X a fa oka) : IO X (.Subscript a (.Slice none none (some (.UnaryOp .USub (.Constant (.int 1) k q1) q2)) q3) pos) (fun e => (fa e).reverse) oka := by
  refine pe_imp (pe_revL ha) fun σ H Q ⟨F0, H0, F, e, s, o, q⟩ => ⟨F0, H0, F, e, s, o, fun F1 H1 x X1 r1 => ?_⟩
  obtain ⟨p, vs, rfl, hp, z, rr⟩ := r1
  refine ⟨p, vs, rfl, SqL.of (X1.fh _ _ hp), fun p' hp' => ?_⟩
  exact q F1 _ p' _ (X1.newO hp') (X1.hh.free hp') (X1.fh.free hp') upd_same (by rw [List.length_reverse]; exact z) (reps_rev rr)
end

/-! ## texts, lists put together -/
section
variable {α : Type} [Enc α] {a b : Expr} {oka okb : E → Prop}
theorem r2_addS : R2S (fun x y H Q => ∃ i j, x = .str i ∧ y = .str j ∧ i.length + j.length ≤ sizeLine ∧ Q (.str (i ++ j)) H) (fun (s t : S) => (s ++ t : S)) (fun s t => s.length + t.length ≤ sizeLine) := fun F H x y a b Q h r1 r2 k q => by
  obtain ⟨rfl, z1⟩ := r1
  obtain ⟨rfl, z2⟩ := r2
  have e1 : (toS a).length = a.length := SX.S_len a
  have e2 : (toS b).length = b.length := SX.S_len b
  refine ⟨_, _, rfl, rfl, by rw [e1, e2]; exact k, q F H _ (Ext.refl h) ⟨?_, by rw [List.length_append]; exact k, fun c hc => (List.mem_append.mp hc).elim (z1.cps c) (z2.cps c)⟩⟩
  exact congrArg V.str (SX.S_cat a b)
theorem ie_addS {fa fb : E → S} (ha : IE X a fa oka) (hb : IE X b fb okb) : IE X (.BinOp a .Add b pos) (fun e => (fa e ++ fb e : S)) (fun e => oka e ∧ okb e ∧ (fa e).length + (fb e).length ≤ sizeLine) := ie_op op_add_str r2_addS ha hb
theorem r2_cat : R2O rCat (fun (s t : List α) => s ++ t) (fun s t => s.length + t.length ≤ sizeLine) := fun F H x y a b Q h r1 r2 k q => by
  obtain ⟨p1, v1, rfl, hp1, z1, rr1⟩ := r1
  obtain ⟨p2, v2, rfl, hp2, z2, rr2⟩ := r2
  refine ⟨p1, p2, v1, v2, rfl, rfl, h _ _ hp1, h _ _ hp2, by rw [rr1.length, rr2.length]; exact k, fun p hp => ?_⟩
  exact q F _ p _ ((Ext.refl h).newO hp) hp (h.free hp) upd_same (by rw [List.length_append, rr1.length, rr2.length]; exact k) (reps_append rr1 rr2)
theorem io_cat {fa fb : E → List α} (ha : IE X a fa oka) (hb : IE X b fb okb) : IO X (.BinOp a .Add b pos) (fun e => fa e ++ fb e) (fun e => oka e ∧ okb e ∧ (fa e).length + (fb e).length ≤ sizeLine) := io_op op_cat r2_cat ha hb
/-- s * n -/
def mulS (s : S) (n : Int) : S := (List.replicate n.toNat s).flatten
theorem mulS_len (s : S) (n : Int) : (mulS s n).length = n.toNat * s.length := by
  unfold mulS
  induction n.toNat with
  | zero => simp
  | succ k ih => rw [List.replicate_succ, List.flatten_cons, List.length_append, ih, Nat.succ_mul]; omega
theorem fold_app : ∀ (k : Nat) (c acc : Array Nat), ((List.replicate k c).foldl (· ++ ·) acc).toList = acc.toList ++ (List.replicate k c.toList).flatten
  | 0, c, acc => by simp
  | k + 1, c, acc => by
    rw [List.replicate_succ, List.foldl_cons, fold_app k c, List.replicate_succ, List.flatten_cons, Array.toList_append, List.append_assoc]
theorem mul_toS (s : S) (n : Int) : Txt.mul (toS s) n = toS (mulS s n) := by
  unfold Txt.mul mulS
  by_cases h1 : n < 1
  · rw [if_pos h1, show n.toNat = 0 by omega]; rfl
  · rw [if_neg h1]
    by_cases h2 : (n == 1 || (toS s).length == 0) = true
    · rw [if_pos h2]
      rw [Bool.or_eq_true] at h2
      rcases h2 with h2 | h2
      · have : n = 1 := by simpa using h2
        subst this
        simp
      · have : s = [] := by
          have : (toS s).length = s.length := SX.S_len s
          rw [this] at h2
          simpa using h2
        subst this
        congr 1
        induction n.toNat with
        | zero => rfl
        | succ k ih => rw [List.replicate_succ, List.flatten_cons, ← ih]; rfl
    · rw [if_neg h2]
      have e := fold_app n.toNat (toS s).cps #[]
      refine TL.ext_tl ?_
      show (List.foldl (· ++ ·) #[] (List.replicate n.toNat (toS s).cps)).toList = _
      rw [e]
      show [] ++ (List.replicate n.toNat (toS s).cps.toList).flatten = _
      rfl
def MulSOk (s : S) (n : Int) : Prop := -(2 ^ 63 : Int) ≤ n ∧ n ≤ 16777216 ∧ n.toNat * s.length ≤ 16777216
theorem op_mulS : OpR X (binaryOp .Mult) (fun x y H Q => ∃ (s : S) (n : Int), x = .str (toS s) ∧ y = .int n ∧ MulSOk s n ∧ Q (.str (toS (mulS s n))) H) := by
  intro pins st σ H x y v u Q I rx ry h
  obtain ⟨s, n, rfl, rfl, ⟨h1, h2, h3⟩, q⟩ := h
  obtain ⟨t, rfl⟩ := rx
  obtain ⟨t', rfl⟩ := ry
  have hs : (toS s).length = s.length := SX.S_len s
  refine SB.mul (mulOk_of s.length n.toNat (by rw [hs]; exact Nat.le_refl _) (by omega) h1 (by omega) (by rw [Nat.mul_comm]; exact h3)) fun t2 k => ?_
  rw [mul_toS]
  exact ⟨.str _, H, I.tok _, ⟨_, rfl⟩, q⟩
theorem ie_mulS {fa : E → S} {fb : E → Int} (ha : IE X a fa oka) (hb : IE X b fb okb) : IE X (.BinOp a .Mult b pos) (fun e => mulS (fa e) (fb e)) (fun e => oka e ∧ okb e ∧ MulSOk (fa e) (fb e)) :=
  ie_op op_mulS (fun F H x y a b Q h r1 r2 k q => by
    obtain ⟨rfl, z⟩ := r1
    exact ⟨a, b, rfl, r2, k, q F H _ (Ext.refl h) ⟨rfl, z.sub (by rw [mulS_len]; exact k.2.2) fun c hc => by
      unfold mulS at hc
      obtain ⟨l, h1, h2⟩ := List.mem_flatten.mp hc
      rw [List.eq_of_mem_replicate h1] at h2
      exact h2⟩⟩) ha hb
/-- startswith, endswith -/
theorem at_list (x y : S) (i : Nat) : Builtin.Str.subAt (toS x) (toS y) i = decide ((x.drop i).take y.length = y) := by
  unfold Builtin.Str.subAt
  have hy : (toS y).length = y.length := SX.S_len y
  rw [hy]
  have e : ((toS x).cps.extract i (i + y.length)).toList = (x.drop i).take y.length := by
    rw [Array.toList_extract]
    show (x.drop i).take (i + y.length - i) = _
    rw [Nat.add_sub_cancel_left]
  by_cases h : (x.drop i).take y.length = y
  · rw [decide_eq_true h, beq_iff_eq]
    apply Array.toList_inj.mp
    rw [e, h]; rfl
  · rw [decide_eq_false h, beq_eq_false_iff_ne]
    intro z
    apply h
    rw [← e, z]; rfl
theorem starts_S (x y : S) : Txt.startswith (toS x) (toS y) = y.isPrefixOf x := by
  unfold Txt.startswith
  rw [at_list, show (toS x).length = x.length from SX.S_len x, show (toS y).length = y.length from SX.S_len y, List.drop_zero, Bool.eq_iff_iff, List.isPrefixOf_iff_prefix, Bool.and_eq_true, decide_eq_true_iff, decide_eq_true_iff]
  constructor
  · rintro ⟨_, h⟩
    exact ⟨x.drop y.length, by conv => lhs; lhs; rw [← h]
                               exact List.take_append_drop _ _⟩
  · rintro ⟨t, rfl⟩
    exact ⟨by simp, by simp⟩
theorem ends_S (x y : S) : Txt.endswith (toS x) (toS y) = y.isSuffixOf x := by
  unfold Txt.endswith
  rw [at_list, show (toS x).length = x.length from SX.S_len x, show (toS y).length = y.length from SX.S_len y, Bool.eq_iff_iff, List.isSuffixOf_iff_suffix, Bool.and_eq_true, decide_eq_true_iff, decide_eq_true_iff]
  constructor
  · rintro ⟨h1, h⟩
    refine ⟨x.take (x.length - y.length), ?_⟩
    have e : (x.drop (x.length - y.length)).take y.length = x.drop (x.length - y.length) := List.take_of_length_le (by rw [List.length_drop]; omega)
    rw [e] at h
    conv => lhs; rhs; rw [← h]
    exact List.take_append_drop _ _
  · rintro ⟨t, rfl⟩
    refine ⟨by simp, ?_⟩
    simp
theorem ie_m1 {id : String} {name : Str} {g : Str → Str → V} {β : Type} [Enc β] {k : S → S → β} {fa fb : E → S} (slot : Slot "str" name id) (ty : typeOf (.builtin id) = pure (.type "method_descriptor"))
    (rule : MtR X id (fun x xs H Q => ∃ a b, x = .str a ∧ xs = [.str b] ∧ Q (g a b) H)) (hg : ∀ F s t, rep F (g (toS s) (toS t)) (k s t)) (ha : IE X a fa oka) (hb : IE X b fb okb)
    (hs : starEach [b] X.env = [(false, eval b X.env)] := by rfl) (hbase : attributeBase a name X.env (eval a X.env) = eval a X.env := by rfl) (hline : (p1s.endLine == pos.line) = true := by rfl) :
    IE X (.Call (.Attribute a name p1s) [b] [] pos) (fun e => k (fa e) (fb e)) (fun e => oka e ∧ okb e) :=
  pe_imp (pe_m1 slot ty rule ha hb hs hbase hline) fun σ H Q ⟨F0, H0, F, e, s, ⟨o1, o2⟩, q⟩ =>
    ⟨F0, H0, F, e, s, o1, fun F1 H1 x X1 r1 => ⟨⟨_, r1.1⟩, F0, H0, F1, e, s.more X1, o2, fun F2 H2 y X2 r2 => ⟨_, _, r1.1, by rw [r2.1], q F2 H2 _ (X1.trans X2) (hg F2 _ _)⟩⟩⟩
theorem ie_starts {fa fb : E → S} (ha : IE X a fa oka) (hb : IE X b fb okb) (hs : starEach [b] X.env = [(false, eval b X.env)] := by rfl) (hbase : attributeBase a "startswith" X.env (eval a X.env) = eval a X.env := by rfl) (hline : (p1s.endLine == pos.line) = true := by rfl) :
    IE X (.Call (.Attribute a "startswith" p1s) [b] [] pos) (fun e => (fb e).isPrefixOf (fa e)) (fun e => oka e ∧ okb e) :=
  ie_m1 (k := fun s t => List.isPrefixOf t s) PySem.F.slot_str_startswith PySem.F.type_str_startswith mt_startswith (fun F s t => congrArg V.bl (starts_S s t)) ha hb hs hbase hline
theorem ie_ends {fa fb : E → S} (ha : IE X a fa oka) (hb : IE X b fb okb) (hs : starEach [b] X.env = [(false, eval b X.env)] := by rfl) (hbase : attributeBase a "endswith" X.env (eval a X.env) = eval a X.env := by rfl) (hline : (p1s.endLine == pos.line) = true := by rfl) :
    IE X (.Call (.Attribute a "endswith" p1s) [b] [] pos) (fun e => (fb e).isSuffixOf (fa e)) (fun e => oka e ∧ okb e) :=
  ie_m1 (k := fun s t => List.isSuffixOf t s) PySem.F.slot_str_endswith PySem.F.type_str_endswith mt_endswith (fun F s t => congrArg V.bl (ends_S s t)) ha hb hs hbase hline
/-- sep.join(xs) -/
theorem strs_of {F : Hp} : ∀ {vs : List V} {xs : List S}, Reps F vs xs → vs = (xs.map toS).map V.str
  | _, _, .nil => rfl
  | _, _, .cons r t => by rw [List.map_cons, List.map_cons, ← strs_of t, r.1]
def joinOk (s : S) (xs : List S) : Prop := (xs.map (·.length)).sum + xs.length * s.length ≤ 16777216
theorem joinL_len (s : S) : ∀ xs : List S, (TL.joinL s xs).length ≤ (xs.map (·.length)).sum + xs.length * s.length
  | [] => by simp [TL.joinL]
  | [p] => by simp [TL.joinL]
  | p :: q :: r => by
    have ih := joinL_len s (q :: r)
    show (p ++ (s ++ TL.joinL s (q :: r))).length ≤ _
    simp only [List.length_append, List.map_cons, List.sum_cons, List.length_cons, Nat.succ_mul] at ih ⊢
    omega
theorem joinL_mem (s : S) : ∀ (xs : List S) (c : Nat), c ∈ TL.joinL s xs → c ∈ s ∨ ∃ y ∈ xs, c ∈ y
  | [], c, h => by simp [TL.joinL] at h
  | [p], c, h => .inr ⟨p, List.mem_cons_self, h⟩
  | p :: q :: r, c, h => by
    have h' : c ∈ p ++ (s ++ TL.joinL s (q :: r)) := h
    rcases List.mem_append.mp h' with h | h
    · exact .inr ⟨p, List.mem_cons_self, h⟩
    · rcases List.mem_append.mp h with h | h
      · exact .inl h
      · rcases joinL_mem s (q :: r) c h with h | ⟨y, hy, hm⟩
        · exact .inl h
        · exact .inr ⟨y, List.mem_cons_of_mem _ hy, hm⟩
theorem reps_sok {F : Hp} : ∀ {vs : List V} {xs : List S}, Reps F vs xs → ∀ y ∈ xs, ∀ c ∈ y, c < 1114112
  | _, _, .nil, _, h => nomatch h
  | _, _, .cons r t, y, h => by
    rcases List.mem_cons.mp h with e | h
    · subst e; exact r.2.cps
    · exact reps_sok t y h
theorem ie_join {fa : E → S} {fb : E → List S} (ha : IE X a fa oka) (hb : IE X b fb okb) (hs : starEach [b] X.env = [(false, eval b X.env)] := by rfl) (hbase : attributeBase a "join" X.env (eval a X.env) = eval a X.env := by rfl) (hline : (p1s.endLine == pos.line) = true := by rfl) :
    IE X (.Call (.Attribute a "join" p1s) [b] [] pos) (fun e => (TL.joinL (fa e) (fb e) : S)) (fun e => oka e ∧ okb e ∧ joinOk (fa e) (fb e)) :=
  pe_imp (pe_join ha hb hs hbase hline) fun σ H Q ⟨F0, H0, F, e, s, ⟨o1, o2, o3⟩, q⟩ =>
    ⟨F0, H0, F, e, s, o1, fun F1 H1 x X1 r1 => ⟨⟨_, r1.1⟩, F0, H0, F1, e, s.more X1, o2, fun F2 H2 y X2 r2 => by
      obtain ⟨p, vs, rfl, hp, z, rr⟩ := r2
      refine ⟨toS (fa e), p, (fb e).map toS, r1.1, rfl, .inl (SqL.of (X2.fh _ _ (by rw [← strs_of rr]; exact hp))), ?_, q F2 H2 _ (X1.trans X2) ⟨?_, ?_⟩⟩
      · rw [show (toS (fa e)).length = (fa e).length from SX.S_len _, List.length_map, show ((fb e).map toS).map (·.length) = (fb e).map (·.length) from SX.lens _]
        exact o3
      · exact congrArg V.str (SX.join_S _ _)
      · exact ⟨Nat.le_trans (joinL_len _ _) o3, fun c hc => (joinL_mem _ _ c hc).elim (r1.2.cps c) fun ⟨y, hy, hm⟩ => reps_sok rr y hy c hm⟩⟩⟩
end
end PL
set_option Elab.async false
set_option linter.all false
set_option maxRecDepth 100000
/-! PL4: built-ins, displays, calls, truth, own lists. -/
namespace PL
open PySem PySem.Spec PyProof.Rows L2
variable {X : Cx} {E : Type} [ES E] {pos p0s p1s p2s : Pos}

/-! ## arguments -/
theorem ia_nil : IA X [] (fun _ : E => ()) okT := pa_imp pa_nil fun σ H Q ⟨F0, H0, F, e, s, _, q⟩ => q F H [] (Ext.refl s.ext.fh) rfl
theorem ia_cons {α A : Type} [Enc α] [EA A] {a : Expr} {es : List Expr} {f : E → α} {g : E → A} {ok ok' : E → Prop} (h : IE X a f ok) (t : IA X es g ok') (hs : starEach (a :: es) X.env = (false, eval a X.env) :: starEach es X.env := by rfl) :
    IA X (a :: es) (fun e => (f e, g e)) (fun e => ok e ∧ ok' e) :=
  pa_imp (pa_cons h t hs) fun σ H Q ⟨F0, H0, F, e, s, ⟨o1, o2⟩, q⟩ => ⟨F0, H0, F, e, s, o1, fun F1 H1 x X1 r1 => ⟨F0, H0, F1, e, s.more X1, o2, fun F2 H2 xs X2 r2 => q F2 H2 _ (X1.trans X2) ⟨_, _, rfl, Enc.mono X2.ff r1, r2⟩⟩⟩

/-! ## calls of defs -/
/-- the def that the module's name x holds keeps sp, at most k levels deep -/
structure Cal (P : Program) (w : World) (K : PySem.W.Frag) (mg : Str → Option Value) (base : Heap) (k : Nat) (x : Str) (sp : Sp) : Prop where
  ex : ∃ (f : Addr) (fd : FuncData) (ps : List Str), FnOk P w K mg base CX0 k f fd ps sp ∧ mg x = some (.ref f) ∧ PySem.W.keepIn K (.ref f) = true ∧ Binds K fd ps []
def spP {A β : Type} [EA A] [Enc β] (m : A → β) (ok : A → Prop) : Sp := fun vs H Q _ => ∃ (F : Hp) (a : A), Same F H ∧ EA.rep F vs a ∧ ok a ∧ ∀ F' H' r, Ext F H F' H' → rep F' r (m a) → Q r H'
/-- .. that hands back a new list -/
def spO {A β : Type} [EA A] [Enc β] (m : A → List β) (ok : A → Prop) : Sp := fun vs H Q _ => ∃ (F : Hp) (a : A), Same F H ∧ EA.rep F vs a ∧ ok a ∧
  ∀ F' H' p ws, Ext F H F' H' → H p = none → F' p = none → H' p = some (.lst ws) → ws.length ≤ sizeLine → Reps F' ws (m a) → Q (.ref p) H'
section
variable {A β : Type} [EA A] [Enc β] {e : Expr} {es : List Expr} {f : E → A} {okA : E → Prop} {ok : A → Prop} {k j : Nat} {x : Str}
theorem ie_call {m : A → β} (c : Cal X.prog X.w X.K X.mg X.base k x (spP m ok)) (hr : Room j X.A) (hk : k ≤ j) (hg : Gl X x) (ha : IA X (e :: es) f okA)
    (hdb : (x == ("__debug__" : Str)) = false := by decide) (he : starEach (e :: es) X.env = (false, eval e X.env) :: starEach es X.env := by rfl) (hpl : (backTo pos (starEach es X.env)).any (·.1) = false := by rfl) :
    IE X (.Call (.Name x p1s) (e :: es) [] pos) (fun e => m (f e)) (fun e => okA e ∧ ok (f e)) :=
  let ⟨_, _, _, F, hm, kp, b⟩ := c.ex
  pe_imp (pe_call F (hr.mono hk) hg hm kp b .nil pass0 ha hdb he hpl) fun σ H Q ⟨F0, H0, F, e, s, ⟨o1, o2⟩, q⟩ => ⟨F0, H0, F, e, s, o1, fun F1 H1 vs X1 r1 => by
    show spP m ok (vs ++ []) H1 Q E0
    rw [List.append_nil]
    exact ⟨F1, f e, X1.fh, r1, o2, fun F' H' r X2 r2 => q F' H' r (X1.trans X2) r2⟩⟩
theorem io_call {m : A → List β} (c : Cal X.prog X.w X.K X.mg X.base k x (spO m ok)) (hr : Room j X.A) (hk : k ≤ j) (hg : Gl X x) (ha : IA X (e :: es) f okA)
    (hdb : (x == ("__debug__" : Str)) = false := by decide) (he : starEach (e :: es) X.env = (false, eval e X.env) :: starEach es X.env := by rfl) (hpl : (backTo pos (starEach es X.env)).any (·.1) = false := by rfl) :
    IO X (.Call (.Name x p1s) (e :: es) [] pos) (fun e => m (f e)) (fun e => okA e ∧ ok (f e)) :=
  let ⟨_, _, _, F, hm, kp, b⟩ := c.ex
  pe_imp (pe_call F (hr.mono hk) hg hm kp b .nil pass0 ha hdb he hpl) fun σ H Q ⟨F0, H0, F, e, s, ⟨o1, o2⟩, q⟩ => ⟨F0, H0, F, e, s, o1, fun F1 H1 vs X1 r1 => by
    show spO m ok (vs ++ []) H1 Q E0
    rw [List.append_nil]
    exact ⟨F1, f e, X1.fh, r1, o2, fun F' H' p ws X2 hp fp h' z r2 => q F' H' p ws (X1.trans X2) (X1.hh.free hp) fp h' z r2⟩⟩
end

/-! ## built-ins by values -/
def CB (r : List V → Hp → VK → Prop) {A β : Type} [EA A] [Enc β] (g : A → β) (c : A → Prop) : Prop := ∀ F H vs a Q, Same F H → EA.rep F vs a → c a → (∀ F' H' v, Ext F H F' H' → rep F' v (g a) → Q v H') → r vs H Q
def CBO (r : List V → Hp → VK → Prop) {A β : Type} [EA A] [Enc β] (g : A → List β) (c : A → Prop) : Prop := ∀ F H vs a Q, Same F H → EA.rep F vs a → c a →
  (∀ F' H' p ws, Ext F H F' H' → H p = none → F' p = none → H' p = some (.lst ws) → ws.length ≤ sizeLine → Reps F' ws (g a) → Q (.ref p) H') → r vs H Q
section
variable {A β : Type} [EA A] [Enc β] {e : Expr} {es : List Expr} {f : E → A} {okA : E → Prop} {c : A → Prop} {r : List V → Hp → VK → Prop} {x : Str} {id : String}
theorem cb_of {g : A → β} (h : CB r g c) {t : TA} {σ : L2.St} {H : Hp} {Q : VK} (w : tE (fun e => g (f e)) (fun e => okA e ∧ c (f e)) σ H Q) : tCB r (tA f okA) σ H Q := by
  obtain ⟨F0, H0, F, e, s, ⟨o1, o2⟩, q⟩ := w
  exact ⟨F0, H0, F, e, s, o1, fun F1 H1 vs X1 r1 => h F1 H1 vs _ Q X1.fh r1 o2 fun F' H' v X2 rv => q F' H' v (X1.trans X2) rv⟩
theorem cbo_of {g : A → List β} (h : CBO r g c) {t : TA} {σ : L2.St} {H : Hp} {Q : VK} (w : tO (fun e => g (f e)) (fun e => okA e ∧ c (f e)) σ H Q) : tCB r (tA f okA) σ H Q := by
  obtain ⟨F0, H0, F, e, s, ⟨o1, o2⟩, q⟩ := w
  exact ⟨F0, H0, F, e, s, o1, fun F1 H1 vs X1 r1 => h F1 H1 vs _ Q X1.fh r1 o2 fun F' H' p ws X2 hp fp h' z rv => q F' H' p ws (X1.trans X2) (X1.hh.free hp) fp h' z rv⟩
theorem ie_B {g : A → β} (hc : CallR X (.builtin id) r) (h : CB r g c) (hg : Gl X x) (hm : X.mg x = none) (hv : bootBuiltins x = some (.builtin id)) (ha : IA X (e :: es) f okA) (hn : x ≠ "__name__" := by decide) (hdb : (x == ("__debug__" : Str)) = false := by decide)
    (he : starEach (e :: es) X.env = (false, eval e X.env) :: starEach es X.env := by rfl) (hpl : (backTo pos (starEach es X.env)).any (·.1) = false := by rfl) :
    IE X (.Call (.Name x p1s) (e :: es) [] pos) (fun e => g (f e)) (fun e => okA e ∧ c (f e)) := pe_imp (pe_callB hc hg hm hv ha hn hdb he hpl) fun _ _ _ w => cb_of (t := tNil) h w
theorem ie_BT {g : A → β} (hc : CallR X (.type id) r) (h : CB r g c) (hg : Gl X x) (hm : X.mg x = none) (hv : bootBuiltins x = some (.type id)) (ha : IA X (e :: es) f okA) (hn : x ≠ "__name__" := by decide) (hdb : (x == ("__debug__" : Str)) = false := by decide)
    (he : starEach (e :: es) X.env = (false, eval e X.env) :: starEach es X.env := by rfl) (hpl : (backTo pos (starEach es X.env)).any (·.1) = false := by rfl) :
    IE X (.Call (.Name x p1s) (e :: es) [] pos) (fun e => g (f e)) (fun e => okA e ∧ c (f e)) := pe_imp (pe_callTy hc hg hm hv ha hn hdb he hpl) fun _ _ _ w => cb_of (t := tNil) h w
theorem io_BT {g : A → List β} (hc : CallR X (.type id) r) (h : CBO r g c) (hg : Gl X x) (hm : X.mg x = none) (hv : bootBuiltins x = some (.type id)) (ha : IA X (e :: es) f okA) (hn : x ≠ "__name__" := by decide) (hdb : (x == ("__debug__" : Str)) = false := by decide)
    (he : starEach (e :: es) X.env = (false, eval e X.env) :: starEach es X.env := by rfl) (hpl : (backTo pos (starEach es X.env)).any (·.1) = false := by rfl) :
    IO X (.Call (.Name x p1s) (e :: es) [] pos) (fun e => g (f e)) (fun e => okA e ∧ c (f e)) := pe_imp (pe_callTy hc hg hm hv ha hn hdb he hpl) fun _ _ _ w => cbo_of (t := tNil) h w
end
/-- one argument: the clause «and nothing more» left out -/
theorem ia_one {α : Type} [Enc α] {a : Expr} {f : E → α} {ok : E → Prop} (h : IE X a f ok) (hs : starEach [a] X.env = (false, eval a X.env) :: starEach [] X.env := by rfl) : IA X [a] (fun e => (f e, ())) ok :=
  pa_imp (ia_cons h ia_nil hs) fun σ H Q ⟨F0, H0, F, e, s, o, q⟩ => ⟨F0, H0, F, e, s, ⟨o, trivial⟩, q⟩
section
variable {α : Type} [Enc α] {a b : Expr} {oka okb : E → Prop}
theorem ie_lenL {f : E → List α} (ha : IE X a f oka) (hm : X.mg "len" = none) (hg : Gl X "len" := by rfl) (he : starEach [a] X.env = (false, eval a X.env) :: starEach [] X.env := by rfl) : IE X (.Call (.Name "len" p1s) [a] [] pos) (fun e => ((f e).length : Int)) oka :=
  ie_imp (ie_B (c := fun _ => True) (g := fun (t : List α × Unit) => (t.1.length : Int)) call_len (fun F H vs a Q h r _ q => by
    obtain ⟨v, ws, rfl, ⟨p, us, rfl, hp, z, rr⟩, rfl⟩ := r
    exact ⟨_, us.length, rfl, .inl ⟨us, SqL.of (h _ _ hp), rfl⟩, q F H _ (Ext.refl h) (by rw [rr.length]; rfl)⟩) hg hm PySem.boot_len (ia_one ha he) (he := he)) (fun _ _ => rfl) fun e o => ⟨o, trivial⟩
theorem ie_lenT {f : E → Tup α} (ha : IE X a f oka) (hm : X.mg "len" = none) (hg : Gl X "len" := by rfl) (he : starEach [a] X.env = (false, eval a X.env) :: starEach [] X.env := by rfl) : IE X (.Call (.Name "len" p1s) [a] [] pos) (fun e => ((f e).l.length : Int)) oka :=
  ie_imp (ie_B (c := fun _ => True) (g := fun (t : Tup α × Unit) => (t.1.l.length : Int)) call_len (fun F H vs a Q h r _ q => by
    obtain ⟨v, ws, rfl, ⟨p, us, rfl, hp, z, rr⟩, rfl⟩ := r
    exact ⟨_, us.length, rfl, .inr ⟨us, SqT.of (h _ _ hp), rfl⟩, q F H _ (Ext.refl h) (by rw [rr.length]; rfl)⟩) hg hm PySem.boot_len (ia_one ha he) (he := he)) (fun _ _ => rfl) fun e o => ⟨o, trivial⟩
theorem ie_lenS {f : E → S} (ha : IE X a f oka) (hm : X.mg "len" = none) (hg : Gl X "len" := by rfl) (he : starEach [a] X.env = (false, eval a X.env) :: starEach [] X.env := by rfl) : IE X (.Call (.Name "len" p1s) [a] [] pos) (fun e => ((f e).length : Int)) oka :=
  ie_imp (ie_B (c := fun _ => True) (g := fun (t : S × Unit) => (t.1.length : Int)) call_len (fun F H vs a Q h r _ q => by
    obtain ⟨v, ws, rfl, ⟨rfl, z⟩, rfl⟩ := r
    have e : (toS a.1).length = a.1.length := SX.S_len a.1
    exact ⟨_, a.1.length, rfl, ⟨by rw [e]; exact z.len, e.symm⟩, q F H _ (Ext.refl h) rfl⟩) hg hm PySem.boot_len (ia_one ha he) (he := he)) (fun _ _ => rfl) fun e o => ⟨o, trivial⟩
/-- the script -/
theorem ie_lenR {f : E → Scr} (ha : IE X a f oka) (hm : X.mg "len" = none) (hg : Gl X "len" := by rfl) (he : starEach [a] X.env = (false, eval a X.env) :: starEach [] X.env := by rfl) : IE X (.Call (.Name "len" p1s) [a] [] pos) (fun e => ((f e).l.length : Int)) oka :=
  ie_imp (ie_B (c := fun _ => True) (g := fun (t : Scr × Unit) => (t.1.l.length : Int)) call_len (fun F H vs a Q h r _ q => by
    obtain ⟨v, ws, rfl, ⟨p, rfl, hp, z⟩, rfl⟩ := r
    refine ⟨_, (a.1.l.map V.int).length, rfl, .inl ⟨a.1.l.map V.int, .inl ?_, rfl⟩, q F H _ (Ext.refl h) (by rw [List.length_map]; rfl)⟩
    exact hp.elim (fun y => .inl (h _ _ y)) fun ⟨o, y⟩ => .inr ⟨o, h _ _ y⟩) hg hm PySem.boot_len (ia_one ha he) (he := he)) (fun _ _ => rfl) fun e o => ⟨o, trivial⟩
theorem ie_ixR {f : E → Scr} {fb : E → Int} (ha : IE X a f oka) (hb : IE X b fb okb) (hs : PlainIx b := by exact fun _ _ => rfl) : IE X (.Subscript a b pos) (fun e => ixD (f e).l (fb e)) (fun e => oka e ∧ okb e ∧ ixOk (f e).l (fb e)) :=
  pe_imp (pe_ix ix_list ha hb hs) fun _ _ _ w => two (k := fun (s : Scr) i => ixOk s.l i) (g := fun (s : Scr) i => ixD s.l i) (fun F H x y a b Q h r1 r2 k q => by
    obtain ⟨p, rfl, hp, z⟩ := r1
    obtain ⟨j, v, h1, h2, h3⟩ := atI_map (xs := a.l.map V.int) (List.length_map (f := V.int)) k
    rw [List.getElem?_map, h3] at h2
    cases h2
    exact ⟨p, _, b, _, rfl, r2, .inl (hp.elim (fun y => .inl (h _ _ y)) fun ⟨o, y⟩ => .inr ⟨o, h _ _ y⟩), h1, flat_k h rfl q⟩) w
theorem ints_of {F : Hp} : ∀ {vs : List V} {xs : List Int}, Reps F vs xs → vs = xs.map V.int
  | _, _, .nil => rfl
  | _, _, .cons r t => by rw [List.map_cons, ← ints_of t]; exact congrArg (· :: _) r
theorem bools_of {F : Hp} : ∀ {vs : List V} {xs : List Bool}, Reps F vs xs → vs = xs.map V.bl
  | _, _, .nil => rfl
  | _, _, .cons r t => by rw [List.map_cons, ← bools_of t]; exact congrArg (· :: _) r
theorem ie_sum {f : E → List Int} (hc : X.calm = true) (ha : IE X a f oka) (hm : X.mg "sum" = none) (hg : Gl X "sum" := by rfl) (he : starEach [a] X.env = (false, eval a X.env) :: starEach [] X.env := by rfl) : IE X (.Call (.Name "sum" p1s) [a] [] pos) (fun e => (f e).sum) oka :=
  ie_imp (ie_B (c := fun _ => True) (g := fun (t : List Int × Unit) => t.1.sum) (cr_sum hc) (fun F H vs a Q h r _ q => by
    obtain ⟨v, ws, rfl, ⟨p, us, rfl, hp, z, rr⟩, rfl⟩ := r
    have e := ints_of rr
    subst e
    exact ⟨p, a.1, rfl, SqL.of (h _ _ hp), q F H _ (Ext.refl h) rfl⟩) hg hm (by decide +kernel) (ia_one ha he) (he := he)) (fun _ _ => rfl) fun e o => ⟨o, trivial⟩
theorem ie_any {f : E → List Bool} (hc : X.calm = true) (ha : IE X a f oka) (hm : X.mg "any" = none) (hg : Gl X "any" := by rfl) (he : starEach [a] X.env = (false, eval a X.env) :: starEach [] X.env := by rfl) : IE X (.Call (.Name "any" p1s) [a] [] pos) (fun e => (f e).any id) oka :=
  ie_imp (ie_B (c := fun _ => True) (g := fun (t : List Bool × Unit) => t.1.any id) (cr_any hc) (fun F H vs a Q h r _ q => by
    obtain ⟨v, ws, rfl, ⟨p, us, rfl, hp, z, rr⟩, rfl⟩ := r
    have e := bools_of rr
    subst e
    exact ⟨p, a.1, rfl, SqL.of (h _ _ hp), q F H _ (Ext.refl h) rfl⟩) hg hm (by decide +kernel) (ia_one ha he) (he := he)) (fun _ _ => rfl) fun e o => ⟨o, trivial⟩
theorem ie_all {f : E → List Bool} (hc : X.calm = true) (ha : IE X a f oka) (hm : X.mg "all" = none) (hg : Gl X "all" := by rfl) (he : starEach [a] X.env = (false, eval a X.env) :: starEach [] X.env := by rfl) : IE X (.Call (.Name "all" p1s) [a] [] pos) (fun e => (f e).all id) oka :=
  ie_imp (ie_B (c := fun _ => True) (g := fun (t : List Bool × Unit) => t.1.all id) (cr_all hc) (fun F H vs a Q h r _ q => by
    obtain ⟨v, ws, rfl, ⟨p, us, rfl, hp, z, rr⟩, rfl⟩ := r
    have e := bools_of rr
    subst e
    exact ⟨p, a.1, rfl, SqL.of (h _ _ hp), q F H _ (Ext.refl h) rfl⟩) hg hm (by decide +kernel) (ia_one ha he) (he := he)) (fun _ _ => rfl) fun e o => ⟨o, trivial⟩
/-- the greatest, the least of some ints -/
def maxI (xs : List Int) : Int := xs.foldl max (xs.headD 0)
def minI (xs : List Int) : Int := xs.foldl min (xs.headD 0)
theorem fold_max : ∀ (xs : List Int) (a : Int), a ≤ xs.foldl max a ∧ (∀ x ∈ xs, x ≤ xs.foldl max a) ∧ (xs.foldl max a = a ∨ xs.foldl max a ∈ xs)
  | [], a => ⟨Int.le_refl _, (fun _ h => nomatch h), .inl rfl⟩
  | x :: xs, a => by
    obtain ⟨h1, h2, h3⟩ := fold_max xs (max a x)
    rw [List.foldl_cons]
    refine ⟨by omega, fun y hy => ?_, ?_⟩
    · rcases List.mem_cons.mp hy with e | hy
      · rw [e]; omega
      · exact h2 y hy
    · rcases h3 with h3 | h3
      · by_cases c : a ≤ x
        · right; rw [h3, Int.max_eq_right c]; exact List.mem_cons_self
        · left; rw [h3, Int.max_eq_left (by omega)]
      · exact .inr (List.mem_cons_of_mem _ h3)
theorem fold_min : ∀ (xs : List Int) (a : Int), xs.foldl min a ≤ a ∧ (∀ x ∈ xs, xs.foldl min a ≤ x) ∧ (xs.foldl min a = a ∨ xs.foldl min a ∈ xs)
  | [], a => ⟨Int.le_refl _, (fun _ h => nomatch h), .inl rfl⟩
  | x :: xs, a => by
    obtain ⟨h1, h2, h3⟩ := fold_min xs (min a x)
    rw [List.foldl_cons]
    refine ⟨by omega, fun y hy => ?_, ?_⟩
    · rcases List.mem_cons.mp hy with e | hy
      · rw [e]; omega
      · exact h2 y hy
    · rcases h3 with h3 | h3
      · by_cases c : a ≤ x
        · left; rw [h3, Int.min_eq_left c]
        · right; rw [h3, Int.min_eq_right (by omega)]; exact List.mem_cons_self
      · exact .inr (List.mem_cons_of_mem _ h3)
theorem maxI_mem {xs : List Int} (h : xs ≠ []) : maxI xs ∈ xs ∧ ∀ x ∈ xs, x ≤ maxI xs := by
  cases xs with
  | nil => exact absurd rfl h
  | cons x xs =>
    obtain ⟨h1, h2, h3⟩ := fold_max (x :: xs) x
    refine ⟨?_, h2⟩
    rcases h3 with h3 | h3
    · show (x :: xs).foldl max x ∈ x :: xs
      rw [h3]; exact List.mem_cons_self
    · exact h3
theorem minI_mem {xs : List Int} (h : xs ≠ []) : minI xs ∈ xs ∧ ∀ x ∈ xs, minI xs ≤ x := by
  cases xs with
  | nil => exact absurd rfl h
  | cons x xs =>
    obtain ⟨h1, h2, h3⟩ := fold_min (x :: xs) x
    refine ⟨?_, h2⟩
    rcases h3 with h3 | h3
    · show (x :: xs).foldl min x ∈ x :: xs
      rw [h3]; exact List.mem_cons_self
    · exact h3
theorem ie_maxL {f : E → List Int} (hc : X.calm = true) (ha : IE X a f oka) (hm : X.mg "max" = none) (hg : Gl X "max" := by rfl) (he : starEach [a] X.env = (false, eval a X.env) :: starEach [] X.env := by rfl) : IE X (.Call (.Name "max" p1s) [a] [] pos) (fun e => maxI (f e)) (fun e => oka e ∧ f e ≠ []) :=
  ie_B (c := fun (t : List Int × Unit) => t.1 ≠ []) (g := fun (t : List Int × Unit) => maxI t.1) (cr_max hc) (fun F H vs a Q h r k q => by
    obtain ⟨v, ws, rfl, ⟨p, us, rfl, hp, z, rr⟩, rfl⟩ := r
    have e := ints_of rr
    subst e
    refine ⟨p, a.1, rfl, SqL.of (h _ _ hp), List.length_pos_iff.mpr k, fun m hm hle => ?_⟩
    have e : m = maxI a.1 := Int.le_antisymm ((maxI_mem k).2 m hm) (hle _ (maxI_mem k).1)
    exact q F H _ (Ext.refl h) (by rw [e]; rfl)) hg hm (by decide +kernel) (ia_one ha he) (he := he)
theorem ie_minL {f : E → List Int} (hc : X.calm = true) (ha : IE X a f oka) (hm : X.mg "min" = none) (hg : Gl X "min" := by rfl) (he : starEach [a] X.env = (false, eval a X.env) :: starEach [] X.env := by rfl) : IE X (.Call (.Name "min" p1s) [a] [] pos) (fun e => minI (f e)) (fun e => oka e ∧ f e ≠ []) :=
  ie_B (c := fun (t : List Int × Unit) => t.1 ≠ []) (g := fun (t : List Int × Unit) => minI t.1) (cr_min hc) (fun F H vs a Q h r k q => by
    obtain ⟨v, ws, rfl, ⟨p, us, rfl, hp, z, rr⟩, rfl⟩ := r
    have e := ints_of rr
    subst e
    refine ⟨p, a.1, rfl, SqL.of (h _ _ hp), List.length_pos_iff.mpr k, fun m hm hle => ?_⟩
    have e : m = minI a.1 := Int.le_antisymm (hle _ (minI_mem k).1) ((minI_mem k).2 m hm)
    exact q F H _ (Ext.refl h) (by rw [e]; rfl)) hg hm (by decide +kernel) (ia_one ha he) (he := he)
theorem ie_max2 {f g : E → Int} (hc : X.calm = true) (ha : IE X a f oka) (hb : IE X b g okb) (hm : X.mg "max" = none) (hg : Gl X "max" := by rfl) (he : starEach [a, b] X.env = (false, eval a X.env) :: starEach [b] X.env := by rfl) (he2 : starEach [b] X.env = (false, eval b X.env) :: starEach [] X.env := by rfl)
    (hpl : (backTo pos (starEach [b] X.env)).any (·.1) = false := by rfl) : IE X (.Call (.Name "max" p1s) [a, b] [] pos) (fun e => max (f e) (g e)) (fun e => oka e ∧ okb e) :=
  ie_imp (ie_B (c := fun _ => True) (g := fun (t : Int × Int × Unit) => max t.1 t.2.1) (call_max2 hc) (fun F H vs a Q h r _ q => by
    obtain ⟨v, ws, rfl, r1, w, us, rfl, r2, rfl⟩ := r
    cases r1; cases r2
    refine ⟨_, _, rfl, ?_⟩
    rw [show (if a.2.1 > a.1 then a.2.1 else a.1) = max a.1 a.2.1 by split <;> omega]
    exact q F H _ (Ext.refl h) rfl) hg hm (by decide +kernel) (ia_cons ha (ia_one hb he2) he) (he := he) (hpl := hpl)) (fun _ _ => rfl) fun e o => ⟨o, trivial⟩
theorem ie_min2 {f g : E → Int} (hc : X.calm = true) (ha : IE X a f oka) (hb : IE X b g okb) (hm : X.mg "min" = none) (hg : Gl X "min" := by rfl) (he : starEach [a, b] X.env = (false, eval a X.env) :: starEach [b] X.env := by rfl) (he2 : starEach [b] X.env = (false, eval b X.env) :: starEach [] X.env := by rfl)
    (hpl : (backTo pos (starEach [b] X.env)).any (·.1) = false := by rfl) : IE X (.Call (.Name "min" p1s) [a, b] [] pos) (fun e => min (f e) (g e)) (fun e => oka e ∧ okb e) :=
  ie_imp (ie_B (c := fun _ => True) (g := fun (t : Int × Int × Unit) => min t.1 t.2.1) (call_min2 hc) (fun F H vs a Q h r _ q => by
    obtain ⟨v, ws, rfl, r1, w, us, rfl, r2, rfl⟩ := r
    cases r1; cases r2
    refine ⟨_, _, rfl, ?_⟩
    rw [show (if a.2.1 < a.1 then a.2.1 else a.1) = min a.1 a.2.1 by split <;> omega]
    exact q F H _ (Ext.refl h) rfl) hg hm (by decide +kernel) (ia_cons ha (ia_one hb he2) he) (he := he) (hpl := hpl)) (fun _ _ => rfl) fun e o => ⟨o, trivial⟩
/-- int(n), int(flag) -/
theorem ie_intI {f : E → Int} (ha : IE X a f oka) (hm : X.mg "int" = none) (hg : Gl X "int" := by rfl) (he : starEach [a] X.env = (false, eval a X.env) :: starEach [] X.env := by rfl) : IE X (.Call (.Name "int" p1s) [a] [] pos) f oka :=
  ie_imp (ie_BT (c := fun _ => True) (g := fun (t : Int × Unit) => t.1) call_int1 (fun F H vs a Q h r _ q => by
    obtain ⟨v, ws, rfl, r1, rfl⟩ := r
    cases r1
    exact .inl ⟨_, rfl, q F H _ (Ext.refl h) rfl⟩) hg hm (by decide +kernel) (ia_one ha he) (he := he)) (fun _ _ => rfl) fun e o => ⟨o, trivial⟩
def b2i (b : Bool) : Int := if b then 1 else 0
theorem ie_intB {f : E → Bool} (ha : IE X a f oka) (hm : X.mg "int" = none) (hg : Gl X "int" := by rfl) (he : starEach [a] X.env = (false, eval a X.env) :: starEach [] X.env := by rfl) : IE X (.Call (.Name "int" p1s) [a] [] pos) (fun e => b2i (f e)) oka :=
  ie_imp (ie_BT (c := fun _ => True) (g := fun (t : Bool × Unit) => b2i t.1) call_int1 (fun F H vs a Q h r _ q => by
    obtain ⟨v, ws, rfl, r1, rfl⟩ := r
    cases r1
    exact .inr ⟨_, rfl, q F H _ (Ext.refl h) rfl⟩) hg hm (by decide +kernel) (ia_one ha he) (he := he)) (fun _ _ => rfl) fun e o => ⟨o, trivial⟩
/-- list(xs) -/
theorem io_list {f : E → List α} (ha : IE X a f oka) (hm : X.mg "list" = none) (hg : Gl X "list" := by rfl) (he : starEach [a] X.env = (false, eval a X.env) :: starEach [] X.env := by rfl) : IO X (.Call (.Name "list" p1s) [a] [] pos) f oka :=
  pe_imp (io_BT (c := fun _ => True) (g := fun (t : List α × Unit) => t.1) call_list_of (fun F H vs a Q h r _ q => by
    obtain ⟨v, ws, rfl, ⟨p, us, rfl, hp, z, rr⟩, rfl⟩ := r
    exact ⟨p, us, rfl, .inl (SqL.of (h _ _ hp)), fun l hl => q F _ l us ((Ext.refl h).newO hl) hl (h.free hl) upd_same z rr⟩) hg hm (by decide +kernel) (ia_one ha he) (he := he)) fun σ H Q ⟨F0, H0, F, e, s, o, q⟩ => ⟨F0, H0, F, e, s, ⟨o, trivial⟩, q⟩
theorem io_listT {f : E → Tup α} (ha : IE X a f oka) (hm : X.mg "list" = none) (hg : Gl X "list" := by rfl) (he : starEach [a] X.env = (false, eval a X.env) :: starEach [] X.env := by rfl) : IO X (.Call (.Name "list" p1s) [a] [] pos) (fun e => (f e).l) oka :=
  pe_imp (io_BT (c := fun _ => True) (g := fun (t : Tup α × Unit) => t.1.l) call_list_of (fun F H vs a Q h r _ q => by
    obtain ⟨v, ws, rfl, ⟨p, us, rfl, hp, z, rr⟩, rfl⟩ := r
    exact ⟨p, us, rfl, .inr (SqT.of (h _ _ hp)), fun l hl => q F _ l us ((Ext.refl h).newO hl) hl (h.free hl) upd_same z rr⟩) hg hm (by decide +kernel) (ia_one ha he) (he := he)) fun σ H Q ⟨F0, H0, F, e, s, o, q⟩ => ⟨F0, H0, F, e, s, ⟨o, trivial⟩, q⟩
end

/-! ## displays -/
section
variable {α β γ : Type} [Enc α] [Enc β] [Enc γ] {a b c : Expr} {fa : E → α} {fb : E → β} {fc : E → γ} {oka okb okc : E → Prop} {i1 : Nat}
theorem ie_tup2 {k : Nat} (ha : IE X a fa oka) (hb : IE X b fb okb) (h1 : starEach [a, b] X.env = (false, eval a X.env) :: starEach [b] X.env := by rfl) (h2 : starEach [b] X.env = (false, eval b X.env) :: starEach [] X.env := by rfl) :
    IE X (.Tuple [a, b] k pos) (fun e => (fa e, fb e)) (fun e => oka e ∧ okb e) :=
  pe_imp (pe_tup (ia_cons ha (ia_one hb h2) h1)) fun σ H Q ⟨F0, H0, F, e, s, o, q⟩ => ⟨F0, H0, F, e, s, o, fun F1 H1 vs X1 r => by
    obtain ⟨v, ws, rfl, r1, w, us, rfl, r2, rfl⟩ := r
    refine ⟨by show 2 ≤ sizeLine; decide, fun p hp => q _ _ _ (X1.new hp) ⟨p, v, w, rfl, upd_same, Enc.mono (same_new (X1.fh.free hp)) r1, Enc.mono (same_new (X1.fh.free hp)) r2⟩⟩⟩
theorem ie_tup3 {k : Nat} (ha : IE X a fa oka) (hb : IE X b fb okb) (hc : IE X c fc okc) (h1 : starEach [a, b, c] X.env = (false, eval a X.env) :: starEach [b, c] X.env := by rfl) (h2 : starEach [b, c] X.env = (false, eval b X.env) :: starEach [c] X.env := by rfl)
    (h3 : starEach [c] X.env = (false, eval c X.env) :: starEach [] X.env := by rfl) : IE X (.Tuple [a, b, c] k pos) (fun e => (⟨fa e, fb e, fc e⟩ : T3 α β γ)) (fun e => oka e ∧ okb e ∧ okc e) :=
  pe_imp (pe_tup (ia_cons ha (ia_cons hb (ia_one hc h3) h2) h1)) fun σ H Q ⟨F0, H0, F, e, s, o, q⟩ => ⟨F0, H0, F, e, s, o, fun F1 H1 vs X1 r => by
    obtain ⟨v, ws, rfl, r1, w, us, rfl, r2, w3, us3, rfl, r3, rfl⟩ := r
    refine ⟨by show 3 ≤ sizeLine; decide, fun p hp => q _ _ _ (X1.new hp) ⟨p, v, w, w3, rfl, upd_same, Enc.mono (same_new (X1.fh.free hp)) r1, Enc.mono (same_new (X1.fh.free hp)) r2, Enc.mono (same_new (X1.fh.free hp)) r3⟩⟩⟩
/-- items of one kind -/
def tI (f : E → List α) (ok : E → Prop) : TA := fun σ H Q => ∃ (F0 H0 F : Hp) (e : E), SR F0 H0 F H σ e ∧ ok e ∧ ∀ F' H' vs, Ext F H F' H' → Reps F' vs (f e) → Q vs H'
structure IL (X : Cx) (es : List Expr) (f : E → List α) (ok : E → Prop) : Prop where
  pa : PA X es (tI f ok)
  len : ∀ e, (f e).length = es.length
theorem il_nil : IL X [] (fun _ : E => ([] : List α)) okT := ⟨pa_imp pa_nil fun σ H Q ⟨F0, H0, F, e, s, _, q⟩ => q F H [] (Ext.refl s.ext.fh) .nil, fun _ => rfl⟩
theorem il_cons {es : List Expr} {g : E → List α} {ok' : E → Prop} (h : IE X a fa oka) (t : IL X es g ok') (hs : starEach (a :: es) X.env = (false, eval a X.env) :: starEach es X.env := by rfl) : IL X (a :: es) (fun e => fa e :: g e) (fun e => oka e ∧ ok' e) :=
  ⟨pa_imp (pa_cons h t.pa hs) fun σ H Q ⟨F0, H0, F, e, s, ⟨o1, o2⟩, q⟩ => ⟨F0, H0, F, e, s, o1, fun F1 H1 x X1 r1 => ⟨F0, H0, F1, e, s.more X1, o2, fun F2 H2 xs X2 r2 => q F2 H2 _ (X1.trans X2) (.cons (Enc.mono X2.ff r1) r2)⟩⟩,
    fun e => by rw [List.length_cons, List.length_cons, t.len e]⟩
theorem io_lst {es : List Expr} {g : E → List α} {ok' : E → Prop} (h : IL X es g ok') (hz : decide (es.length ≤ 1000) = true := by rfl) : IO X (.List es pos) g ok' :=
  pe_imp (pe_lst h.pa) fun σ H Q ⟨F0, H0, F, e, s, o, q⟩ => ⟨F0, H0, F, e, s, o, fun F1 H1 vs X1 r => by
    have z : vs.length ≤ sizeLine := by rw [r.length, h.len e]; exact Nat.le_trans (of_decide_eq_true hz) (by decide)
    exact ⟨z, fun p hp => q F1 _ p vs (X1.newO hp) (X1.hh.free hp) (X1.fh.free hp) upd_same z r⟩⟩
end

/-! ## truth -/
section
variable {a b c : Expr} {fa fb fc : E → Bool} {oka okb okc : E → Prop}
theorem it_val (h : IE X a fa oka) (he : ∀ whole, isTrue a X.env whole = (do let v ← whole; standAt a.pos; holding [v] (truthy v)) := by intro _; rfl) : IT X a fa oka :=
  pt_imp (pt_val h he) fun σ H Q ⟨F0, H0, F, e, s, o, q⟩ => ⟨F0, H0, F, e, s, o, fun F1 H1 v X1 r => ⟨_, r, q F1 H1 X1⟩⟩
abbrev IW (X : Cx) (e : Expr) (f : E → Bool) (ok : E → Prop) : Prop := PW X e (tT f ok)
theorem pw_imp {e : Expr} {t t' : TT} (h : PW X e t) (i : ∀ σ H Q, t' σ H Q → t σ H Q) : PW X e t' := ⟨fun wh pins s σ H Q I w => h.run wh pins s σ H Q I (i _ _ _ w)⟩
theorem iw_and1 (h : IT X a fa oka) : IW X (.BoolOp .And [a] pos) fa oka := pw_and1 h
theorem iw_or1 (h : IT X a fa oka) : IW X (.BoolOp .Or [a] pos) fa oka := pw_or1 h
theorem iw_and {rest : List Expr} (h : IT X a fa oka) (t : IW X (.BoolOp .And (b :: rest) pos) fb okb) : IW X (.BoolOp .And (a :: b :: rest) pos) (fun e => fa e && fb e) (fun e => oka e ∧ (fa e = true → okb e)) :=
  pw_imp (pw_and h t) fun σ H Q ⟨F0, H0, F, e, s, ⟨o1, o2⟩, q⟩ => ⟨F0, H0, F, e, s, o1, fun F1 H1 X1 => by
    cases hc : fa e with
    | true => exact iteT ⟨F0, H0, F1, e, s.more X1, o2 hc, fun F2 H2 X2 => by have := q F2 H2 (X1.trans X2); simpa [hc] using this⟩
    | false => exact iteF (by have := q F1 H1 X1; simpa [hc] using this)⟩
theorem iw_or {rest : List Expr} (h : IT X a fa oka) (t : IW X (.BoolOp .Or (b :: rest) pos) fb okb) : IW X (.BoolOp .Or (a :: b :: rest) pos) (fun e => fa e || fb e) (fun e => oka e ∧ (fa e = false → okb e)) :=
  pw_imp (pw_or h t) fun σ H Q ⟨F0, H0, F, e, s, ⟨o1, o2⟩, q⟩ => ⟨F0, H0, F, e, s, o1, fun F1 H1 X1 => by
    cases hc : fa e with
    | true => exact iteT (by have := q F1 H1 X1; simpa [hc] using this)
    | false => exact iteF ⟨F0, H0, F1, e, s.more X1, o2 hc, fun F2 H2 X2 => by have := q F2 H2 (X1.trans X2); simpa [hc] using this⟩⟩
theorem it_w {e : Expr} (h : IW X e fa oka) : IT X e fa oka := h.pt
theorem it_not (h : IT X a fa oka) : IT X (.UnaryOp .Not a pos) (fun e => !fa e) oka :=
  pt_imp (pt_not h) fun σ H Q ⟨F0, H0, F, e, s, o, q⟩ => ⟨F0, H0, F, e, s, o, fun F1 H1 X1 => q F1 H1 X1⟩
theorem ie_one {op : BoolOp} (h : IE X a fa oka) : IE X (.BoolOp op [a] pos) fa oka := pe_one h
theorem ie_and {rest : List Expr} (h : IE X a fa oka) (t : IE X (.BoolOp .And (b :: rest) pos) fb okb) : IE X (.BoolOp .And (a :: b :: rest) pos) (fun e => fa e && fb e) (fun e => oka e ∧ (fa e = true → okb e)) :=
  pe_imp (pe_and h t) fun σ H Q ⟨F0, H0, F, e, s, ⟨o1, o2⟩, q⟩ => ⟨F0, H0, F, e, s, o1, fun F1 H1 v X1 r => ⟨fa e, r, by
    cases hc : fa e with
    | true => exact iteT ⟨F0, H0, F1, e, s.more X1, o2 hc, fun F2 H2 v X2 r2 => q F2 H2 v (X1.trans X2) (by simpa [hc] using r2)⟩
    | false => exact iteF (q F1 H1 _ X1 (show _ = _ by simp [hc]))⟩⟩
theorem ie_or {rest : List Expr} (h : IE X a fa oka) (t : IE X (.BoolOp .Or (b :: rest) pos) fb okb) : IE X (.BoolOp .Or (a :: b :: rest) pos) (fun e => fa e || fb e) (fun e => oka e ∧ (fa e = false → okb e)) :=
  pe_imp (pe_or h t) fun σ H Q ⟨F0, H0, F, e, s, ⟨o1, o2⟩, q⟩ => ⟨F0, H0, F, e, s, o1, fun F1 H1 v X1 r => ⟨fa e, r, by
    cases hc : fa e with
    | true => exact iteT (q F1 H1 _ X1 (show _ = _ by simp [hc]))
    | false => exact iteF ⟨F0, H0, F1, e, s.more X1, o2 hc, fun F2 H2 v X2 r2 => q F2 H2 v (X1.trans X2) (by simpa [hc] using r2)⟩⟩⟩
theorem ie_not (h : IE X a fa oka) : IE X (.UnaryOp .Not a pos) (fun e => !fa e) oka :=
  pe_imp (pe_not h) fun σ H Q ⟨F0, H0, F, e, s, o, q⟩ => ⟨F0, H0, F, e, s, o, fun F1 H1 v X1 r => ⟨_, r, q F1 H1 _ X1 rfl⟩⟩
theorem ie_if {α : Type} [Enc α] {g h : E → α} (hc : IT X c fc okc) (ha : IE X a g oka) (hb : IE X b h okb) : IE X (.IfExp c a b pos) (fun e => if fc e = true then g e else h e) (fun e => okc e ∧ (fc e = true → oka e) ∧ (fc e = false → okb e)) :=
  pe_imp (pe_ifExp hc ha hb) fun σ H Q ⟨F0, H0, F, e, s, ⟨o1, o2, o3⟩, q⟩ => ⟨F0, H0, F, e, s, o1, fun F1 H1 X1 => by
    cases hc : fc e with
    | true => exact iteT ⟨F0, H0, F1, e, s.more X1, o2 hc, fun F2 H2 v X2 r2 => q F2 H2 v (X1.trans X2) (by simpa [hc] using r2)⟩
    | false => exact iteF ⟨F0, H0, F1, e, s.more X1, o3 hc, fun F2 H2 v X2 r2 => q F2 H2 v (X1.trans X2) (by simpa [hc] using r2)⟩⟩
/-! is None -/
variable {α : Type} [Enc α] [NotNone α]
theorem none_iff {F : Hp} {v : V} {o : Option α} (r : rep F v o) : (v = .non) ↔ o = none := by
  cases o with
  | none => exact ⟨fun _ => rfl, fun _ => r⟩
  | some a =>
    constructor
    · intro h; subst h; exact (NotNone.nn (α := α) r).elim
    · intro h; cases h
theorem dec_none {F : Hp} {v : V} {o : Option α} (r : rep F v o) : decide (v = .non) = o.isNone := by
  have h := none_iff r
  cases o with
  | none => exact decide_eq_true (h.mpr rfl)
  | some a => exact decide_eq_false fun z => nomatch h.mp z
theorem dec_some {F : Hp} {v : V} {o : Option α} (r : rep F v o) : (!decide (v = .non)) = o.isSome := by
  rw [dec_none r]; cases o <;> rfl
theorem ie_isN {j : Nat} {f : E → Option α} (h : IE X a f oka) : IE X (.Compare a [.Is] [.Constant .none j p1s] pos) (fun e => (f e).isNone) oka :=
  pe_imp (pe_cmpR op_isN h pe_non (nomark _)) fun σ H Q ⟨F0, H0, F, e, s, o, q⟩ => ⟨F0, H0, F, e, s, o, fun F1 H1 v X1 r => ⟨rfl, q F1 H1 _ X1 (congrArg V.bl (dec_none r))⟩⟩
theorem ie_notN {j : Nat} {f : E → Option α} (h : IE X a f oka) : IE X (.Compare a [.IsNot] [.Constant .none j p1s] pos) (fun e => (f e).isSome) oka :=
  pe_imp (pe_cmpR op_notN h pe_non (nomark _)) fun σ H Q ⟨F0, H0, F, e, s, o, q⟩ => ⟨F0, H0, F, e, s, o, fun F1 H1 v X1 r => ⟨rfl, q F1 H1 _ X1 (congrArg V.bl (dec_some r))⟩⟩
theorem it_isN {j : Nat} {f : E → Option α} (h : IE X a f oka) : IT X (.Compare a [.Is] [.Constant .none j p1s] pos) (fun e => (f e).isNone) oka :=
  pt_imp (pt_cmpR op_isN h pe_non (nomark _)) fun σ H Q ⟨F0, H0, F, e, s, o, q⟩ => ⟨F0, H0, F, e, s, o, fun F1 H1 v X1 r => ⟨rfl, _, rfl, by rw [dec_none r]; exact q F1 H1 X1⟩⟩
theorem it_notN {j : Nat} {f : E → Option α} (h : IE X a f oka) : IT X (.Compare a [.IsNot] [.Constant .none j p1s] pos) (fun e => (f e).isSome) oka :=
  pt_imp (pt_cmpR op_notN h pe_non (nomark _)) fun σ H Q ⟨F0, H0, F, e, s, o, q⟩ => ⟨F0, H0, F, e, s, o, fun F1 H1 v X1 r => ⟨rfl, _, rfl, by rw [dec_some r]; exact q F1 H1 X1⟩⟩
end

/-! ## own lists looked at: e is read with the list standing still -/
section
variable {E' : Type} [ES E'] {a : Expr} {ok : E' → Prop}
theorem peek_ext {F H F'' H'' : Hp} {p : Addr} {vs : List V} (fp : F p = none) (h : Same F H) (x : Ext (upd F p (.lst vs)) H F'' H'') : Ext F H F H'' :=
  ⟨Same.refl _, x.hh, h.trans x.hh, fun _ a b => absurd a b⟩
theorem ie_peek {α : Type} [Enc α] [Flat α] (f : Frz E E') {g : E' → α} (h : IE X a g ok) : IE X a (fun e : E => g (f.w e)) (fun e => ok (f.w e)) :=
  pe_imp h fun σ H Q ⟨F0, H0, F, e, s, o, q⟩ => by
    obtain ⟨p, vs, fp, hp, s'⟩ := f.sr s
    exact ⟨F0, H0, _, f.w e, s', o, fun F' H' v x r => q F H' v (peek_ext fp s.ext.fh x) (Flat.flat r)⟩
theorem it_peek (f : Frz E E') {g : E' → Bool} (h : IT X a g ok) : IT X a (fun e : E => g (f.w e)) (fun e => ok (f.w e)) :=
  pt_imp h fun σ H Q ⟨F0, H0, F, e, s, o, q⟩ => by
    obtain ⟨p, vs, fp, hp, s'⟩ := f.sr s
    exact ⟨F0, H0, _, f.w e, s', o, fun F' H' x => q F H' (peek_ext fp s.ext.fh x)⟩
theorem io_peek {α : Type} [Enc α] [Flat α] (f : Frz E E') {g : E' → List α} (h : IO X a g ok) : IO X a (fun e : E => g (f.w e)) (fun e => ok (f.w e)) :=
  pe_imp h fun σ H Q ⟨F0, H0, F, e, s, o, q⟩ => by
    obtain ⟨p, vs, fp, hp, s'⟩ := f.sr s
    exact ⟨F0, H0, _, f.w e, s', o, fun F' H' p' ws x hp' fp' h' z r => q F H' p' ws (peek_ext fp s.ext.fh x) hp' (s.ext.fh.free hp') h' z r.flat⟩
end
theorem SR.own {α : Type} [Enc α] (v : VarO E α) {F0 H0 F H : Hp} {σ : L2.St} {e : E} (s : SR F0 H0 F H σ e) : ∃ p vs, σ[v.i]? = some (some (.ref p)) ∧ F p = none ∧ H p = some (.lst vs) ∧ vs.length ≤ sizeLine ∧ Reps F vs (v.get e) ∧
    ∀ vs' xs', vs'.length ≤ sizeLine → Reps F vs' xs' → SR F0 H0 F (upd H p (.lst vs')) σ (v.set e xs') := by
  obtain ⟨os, nd, fr, r⟩ := s.st
  obtain ⟨p, vs, h1, h2, h3, h4, h5, h6⟩ := v.ok nd r
  obtain ⟨fp, h0, _⟩ := fr p h1
  refine ⟨p, vs, h2, fp, h3, h4, h5, fun vs' xs' z r' => ⟨⟨s.ext.ff, fun b o e => ?_, fun b o e => ?_, s.ext.nw⟩, os, nd, fun q hq => ?_, h6 F _ vs' xs' (Same.refl _) (fun q hq hn => upd_ne hn) upd_same z r'⟩⟩
  · rw [upd_ne (ne_of_none e h0)]; exact s.ext.hh _ _ e
  · rw [upd_ne (ne_of_none e fp)]; exact s.ext.fh _ _ e
  · obtain ⟨a, b, c⟩ := fr q hq
    refine ⟨a, b, ?_⟩
    by_cases e : q = p
    · subst e; rw [upd_same]; exact Option.some_ne_none _
    · rw [upd_ne e]; exact c
end PL
set_option Elab.async false
set_option linter.all false
set_option maxRecDepth 100000
/-! PL5: what is walked, comprehensions. -/
namespace PL
open PySem PySem.Spec PyProof.Rows L2
variable {X : Cx} {E : Type} [ES E] {pos p0s p1s p2s : Pos}

/-! ## what is walked -/
structure JOk {α : Type} [Enc α] (J : It) (Fb : Hp) (xs : List α) : Prop where
  sz : xs.length ≤ sizeLine
  at' : ∀ (i : Nat) (F H : Hp), Same Fb F → Same F H → (∀ x, xs[i]? = some x → J.go i H ∧ ∀ v H', J.yld i H v H' → ∃ F', Ext F H F' H' ∧ rep F' v x) ∧ (i = xs.length → J.stop i H)
def tS {α : Type} [Enc α] (f : E → List α) (ok : E → Prop) : TI := fun σ H R => ∃ (F0 H0 F : Hp) (e : E), SR F0 H0 F H σ e ∧ ok e ∧ ∀ J F' H', Ext F H F' H' → JOk J F' (f e) → R J H'
abbrev IS (X : Cx) {α : Type} [Enc α] (tg iter : Expr) (f : E → List α) (ok : E → Prop) : Prop := PI X tg iter (tS f ok)
theorem pi_imp {tg e : Expr} {t t' : TI} (h : PI X tg e t) (i : ∀ σ H R, t' σ H R → t σ H R) : PI X tg e t' := ⟨fun pins s σ H R I w => h.run pins s σ H R I (i _ _ _ w)⟩
section
variable {α β : Type} [Enc α] [Enc β] {a b tg : Expr} {oka okb : E → Prop}
theorem is_list {f : E → List α} (h : IE X a f oka) : IS X tg a f oka :=
  pi_imp (pi_list h) fun σ H R ⟨F0, H0, F, e, s, o, q⟩ => ⟨F0, H0, F, e, s, o, fun F1 H1 x X1 r => by
    obtain ⟨p, vs, rfl, hp, z, rr⟩ := r
    refine ⟨p, rfl, ⟨vs, SqL.of (X1.fh _ _ hp)⟩, q _ F1 H1 X1 ⟨by rw [← rr.length]; exact z, fun i F H hb hs => ⟨fun x hx => ?_, fun hi => ?_⟩⟩⟩
    · obtain ⟨v, hv, rv⟩ := reps_of rr hx
      refine ⟨⟨vs, v, SqL.of (hs _ _ (hb _ _ hp)), hv⟩, fun v' H' y => ?_⟩
      obtain ⟨rfl, y⟩ := y
      have := y vs (SqL.of (hs _ _ (hb _ _ hp)))
      rw [hv] at this; cases this
      exact ⟨F, Ext.refl hs, Enc.mono hb rv⟩
    · exact ⟨vs, SqL.of (hs _ _ (hb _ _ hp)), by rw [hi, rr.length]; exact Nat.le_refl _⟩⟩
theorem is_tup {f : E → Tup α} (h : IE X a f oka) : IS X tg a (fun e => (f e).l) oka :=
  pi_imp (pi_tup h) fun σ H R ⟨F0, H0, F, e, s, o, q⟩ => ⟨F0, H0, F, e, s, o, fun F1 H1 x X1 r => by
    obtain ⟨p, vs, rfl, hp, z, rr⟩ := r
    refine ⟨p, rfl, ⟨vs, SqT.of (X1.fh _ _ hp)⟩, q _ F1 H1 X1 ⟨by rw [← rr.length]; exact z, fun i F H hb hs => ⟨fun x hx => ?_, fun hi => ?_⟩⟩⟩
    · obtain ⟨v, hv, rv⟩ := reps_of rr hx
      refine ⟨⟨vs, v, SqT.of (hs _ _ (hb _ _ hp)), hv⟩, fun v' H' y => ?_⟩
      obtain ⟨rfl, y⟩ := y
      have := y vs (SqT.of (hs _ _ (hb _ _ hp)))
      rw [hv] at this; cases this
      exact ⟨F, Ext.refl hs, Enc.mono hb rv⟩
    · exact ⟨vs, SqT.of (hs _ _ (hb _ _ hp)), by rw [hi, rr.length]; exact Nat.le_refl _⟩⟩
/-- a new own list -/
theorem is_new {f : E → List α} (h : IO X a f oka) : IS X tg a f oka := is_list (ie_fz h)
/-- the ints from a below b -/
def irange (a b : Int) : List Int := (List.range (b - a).toNat).map fun k => a + (k : Nat)
theorem irange_len (a b : Int) : (irange a b).length = (b - a).toNat := by unfold irange; rw [List.length_map, List.length_range]
theorem irange_at {a b : Int} {i : Nat} {x : Int} (h : (irange a b)[i]? = some x) : i < (b - a).toNat ∧ x = a + (i : Nat) := by
  unfold irange at h
  rw [List.getElem?_map] at h
  by_cases hi : i < (b - a).toNat
  · rw [List.getElem?_range hi] at h
    cases h
    exact ⟨hi, rfl⟩
  · rw [List.getElem?_eq_none (by rw [List.length_range]; omega)] at h
    cases h
theorem jok_range {lo : Int} {n : Nat} {F : Hp} {xs : List Int} (hz : n ≤ sizeLine) (hx : xs = irange lo (lo + n)) : JOk (Itr lo n) F xs := by
  subst hx
  have hl : (irange lo (lo + n)).length = n := by rw [irange_len]; omega
  refine ⟨by rw [hl]; exact hz, fun i F H hb hs => ⟨fun x hx => ?_, fun hi => ?_⟩⟩
  · obtain ⟨h1, h2⟩ := irange_at hx
    refine ⟨?_, fun v H' y => ?_⟩
    · show i < n; omega
    · obtain ⟨rfl, rfl⟩ := y
      exact ⟨F, Ext.refl hs, by rw [h2]; rfl⟩
  · show n ≤ i; omega
def rgOk (a b : Int) : Prop := -(2 ^ 40) ≤ a ∧ a ≤ 2 ^ 40 ∧ -(2 ^ 40) ≤ b ∧ b ≤ 2 ^ 40 ∧ b - a ≤ 16777216
theorem is_range1 {f : E → Int} (ha : IE X a f oka) (hm : X.mg "range" = none) (hg : Gl X "range" := by rfl) (hs : starEach [a] X.env = [(false, eval a X.env)] := by rfl) : IS X tg (.Call (.Name "range" p1s) [a] [] pos) (fun e => irange 0 (f e)) (fun e => oka e ∧ rgOk 0 (f e)) :=
  pi_imp (pi_range1 hg hm (ia_one ha hs) hs) fun σ H R ⟨F0, H0, F, e, s, ⟨o, k⟩, q⟩ => ⟨F0, H0, F, e, s, o, fun F1 H1 vs X1 r => by
    obtain ⟨v, ws, rfl, r1, rfl⟩ := r
    cases r1
    obtain ⟨k1, k2, k3, k4, k5⟩ := k
    refine ⟨f e, rfl, by omega, by omega, q _ F1 H1 X1 (jok_range ?_ ?_)⟩
    · rw [sizeLine_eq]; omega
    · show irange 0 (f e) = _
      unfold irange
      rw [show (f e - 0).toNat = (0 + ((f e).toNat : Int) - 0).toNat by omega]⟩
theorem is_range2 {f g : E → Int} (ha : IE X a f oka) (hb : IE X b g okb) (hm : X.mg "range" = none) (hg : Gl X "range" := by rfl) (hs : starEach [a, b] X.env = [(false, eval a X.env), (false, eval b X.env)] := by rfl) (hs2 : starEach [b] X.env = [(false, eval b X.env)] := by rfl) :
    IS X tg (.Call (.Name "range" p1s) [a, b] [] pos) (fun e => irange (f e) (g e)) (fun e => (oka e ∧ okb e) ∧ rgOk (f e) (g e)) :=
  pi_imp (pi_range2 hg hm (ia_cons ha (ia_one hb hs2) (by rw [hs, hs2])) hs hs2) fun σ H R ⟨F0, H0, F, e, s, ⟨o, k⟩, q⟩ => ⟨F0, H0, F, e, s, o, fun F1 H1 vs X1 r => by
    obtain ⟨v, ws, rfl, r1, w, us, rfl, r2, rfl⟩ := r
    cases r1; cases r2
    obtain ⟨k1, k2, k3, k4, k5⟩ := k
    refine ⟨f e, g e, rfl, ⟨by omega, by omega, by omega, by omega⟩, q _ F1 H1 X1 (jok_range ?_ ?_)⟩
    · rw [sizeLine_eq]; omega
    · show irange (f e) (g e) = _
      have e1 : (g e - f e).toNat = (f e + ((g e - f e).toNat : Int) - f e).toNat := by omega
      exact congrArg (fun n => (List.range n).map fun k : Nat => f e + (k : Int)) e1⟩
/-- the signs of a text -/
def chars (s : S) : List S := s.map fun c => [c]
theorem is_str {f : E → S} (h : IE X a f oka) : IS X tg a (fun e => chars (f e)) oka :=
  pi_imp (pi_str h) fun σ H R ⟨F0, H0, F, e, s, o, q⟩ => ⟨F0, H0, F, e, s, o, fun F1 H1 x X1 r => by
    obtain ⟨rfl, z⟩ := r
    refine ⟨_, rfl, q _ F1 H1 X1 ⟨by unfold chars; rw [List.length_map]; exact z.len, fun i F H hb hs => ⟨fun x hx => ?_, fun hi => ?_⟩⟩⟩
    · unfold chars at hx
      rw [List.getElem?_map] at hx
      cases hc : (f e)[i]? with
      | none => rw [hc] at hx; cases hx
      | some c =>
        rw [hc] at hx
        cases hx
        have hi : i < (f e).length := (List.getElem?_eq_some_iff.mp hc).1
        refine ⟨show i < (toS (f e)).cps.size from hi, fun v H' y => ?_⟩
        obtain ⟨rfl, c', h1, rfl⟩ := y
        have e2 : (toS (f e)).cps[i]? = (f e)[i]? := by show (f e).toArray[i]? = _; simp
        rw [e2, hc] at h1
        cases h1
        exact ⟨F, Ext.refl hs, rfl, z.sub (by show 1 ≤ sizeLine; decide) fun d hd => by rw [List.mem_singleton.mp hd]; exact List.mem_of_getElem? hc⟩
    · show (toS (f e)).cps.size ≤ i
      unfold chars at hi
      rw [List.length_map] at hi
      show (f e).length ≤ i
      omega⟩
/-- enumerate(xs) -/
def enum {α : Type} (xs : List α) : List (Int × α) := xs.zipIdx.map fun p => ((p.2 : Nat), p.1)
theorem enum_at {xs : List α} {i : Nat} {t : Int × α} (h : (enum xs)[i]? = some t) : t.1 = (i : Nat) ∧ xs[i]? = some t.2 := by
  unfold enum at h
  rw [List.getElem?_map, List.getElem?_zipIdx] at h
  cases hc : xs[i]? with
  | none => rw [hc] at h; cases h
  | some c => rw [hc] at h; cases h; exact ⟨by simp, rfl⟩
theorem enum_len (xs : List α) : (enum xs).length = xs.length := by unfold enum; rw [List.length_map, List.length_zipIdx]
theorem is_enum {k : Nat} {elts : List Expr} {f : E → List α} (ha : IE X a f oka) (hm : X.mg "enumerate" = none) (hg : Gl X "enumerate" := by rfl) (hs : starEach [a] X.env = [(false, eval a X.env)] := by rfl) :
    IS X (.Tuple elts k p2s) (.Call (.Name "enumerate" p1s) [a] [] pos) (fun e => enum (f e)) oka :=
  pi_imp (pi_enum hg hm (ia_one ha hs) hs) fun σ H R ⟨F0, H0, F, e, s, o, q⟩ => ⟨F0, H0, F, e, s, o, fun F1 H1 vs X1 r => by
    obtain ⟨v, ws, rfl, ⟨p, us, rfl, hp, z, rr⟩, rfl⟩ := r
    refine ⟨p, us, rfl, SqL.of (X1.fh _ _ hp), q _ F1 H1 X1 ⟨by rw [enum_len, ← rr.length]; exact z, fun i F H hb hs => ⟨fun x hx => ?_, fun hi => ?_⟩⟩⟩
    · obtain ⟨h1, h2⟩ := enum_at hx
      obtain ⟨v, hv, rv⟩ := reps_of rr h2
      have hq := SqL.of (K := X.K) (hs _ _ (hb _ _ hp))
      refine ⟨⟨us, v, hq, hv⟩, fun v' H' y => ?_⟩
      obtain ⟨T, x', rfl, hT, rfl, y⟩ := y
      have := y us hq
      rw [hv] at this; cases this
      have ff := hs.free hT
      refine ⟨_, (Ext.refl hs).new hT, T, _, _, rfl, upd_same, ?_, Enc.mono (hb.trans (same_new ff)) rv⟩
      rw [h1]; rfl
    · exact ⟨us, SqL.of (hs _ _ (hb _ _ hp)), by rw [hi, enum_len, rr.length]; exact Nat.le_refl _⟩⟩
end

/-! ## targets -/
theorem wipe_set {σ : L2.St} {i : Nat} {x : Option V} : ∀ {ws : List Nat}, i ∈ ws → wipe (σ.set i x) ws = wipe σ ws
  | [], h => nomatch h
  | w :: ws, h => by
    have com : ∀ vs : List Nat, i ∉ vs → wipe (σ.set i x) vs = (wipe σ vs).set i x := by
      intro vs
      induction vs with
      | nil => intro _; rfl
      | cons v vs ih =>
        intro hn
        show (wipe (σ.set i x) vs).set v none = ((wipe σ vs).set v none).set i x
        rw [ih fun z => hn (List.mem_cons_of_mem _ z)]
        exact List.set_comm _ _ (fun e => hn (by rw [e]; exact List.mem_cons_self))
    show (wipe (σ.set i x) ws).set w none = (wipe σ ws).set w none
    by_cases hw : i ∈ ws
    · rw [wipe_set hw]
    · have e : i = w := by
        rcases List.mem_cons.mp h with e | e
        · exact e
        · exact absurd e hw
      subst e
      rw [com ws hw, List.set_set]
theorem wipe_idem {σ : L2.St} : ∀ vs : List Nat, ∀ ws : List Nat, (∀ i ∈ vs, i ∈ ws) → wipe (wipe σ vs) ws = wipe σ ws
  | [], _, _ => rfl
  | v :: vs, ws, h => by
    show wipe ((wipe σ vs).set v none) ws = _
    rw [wipe_set (h v List.mem_cons_self), wipe_idem vs ws fun i hi => h i (List.mem_cons_of_mem _ hi)]
structure Pat (g : TG) (E α E' : Type) [ES E] [Enc α] [ES E'] (put : E → α → E') (vs : List Nat) : Prop where
  run : ∀ {F0 H0 F H : Hp} {σ : L2.St} {e : E} {v : V} {a : α} {Q : L2.St → Hp → Prop}, SR F0 H0 F H σ e → rep F v a → (∀ σ', (∀ F2 H2, SR F0 H0 F2 H2 σ e → Same F F2 → SR F0 H0 F2 H2 σ' (put e a)) → (∀ ws, (∀ i ∈ vs, i ∈ ws) → wipe σ' ws = wipe σ ws) → Q σ' H) → g v σ H Q
theorem pat1 {α E' : Type} [Enc α] [ES E'] (q : Put E α E') : Pat (gName q.i) E α E' q.put [q.i] :=
  ⟨fun s r h => h _ (fun F2 H2 s2 m => s2.put q (Enc.mono m r)) fun ws hw => wipe_set (hw _ List.mem_cons_self)⟩
theorem pat2 {α β E1 E2 : Type} [Enc α] [Enc β] [ES E1] [ES E2] {K : PySem.W.Frag} {g1 g2 : TG} {f1 : E → α → E1} {f2 : E1 → β → E2} {v1 v2 : List Nat} (a : Pat g1 E α E1 f1 v1) (b : Pat g2 E1 β E2 f2 v2) :
    Pat (gTup K 2 (gCons g1 (gCons g2 gNil))) E (α × β) E2 (fun e t => f2 (f1 e t.1) t.2) (v1 ++ v2) :=
  ⟨fun {F0 H0 F H σ e v t Q} s r h => by
    obtain ⟨p, x, y, rfl, hp, rx, ry⟩ := r
    refine ⟨p, [x, y], rfl, SqT.of (s.ext.fh _ _ hp), rfl, x, [y], rfl, a.run s rx fun σ1 s1 w1 => ⟨y, [], rfl, b.run (s1 F H s (Same.refl _)) ry fun σ2 s2 w2 => ⟨rfl, h σ2 (fun F2 H2 sx m => s2 F2 H2 (s1 F2 H2 sx m) m) fun ws hw => ?_⟩⟩⟩
    rw [w2 ws fun i hi => hw i (List.mem_append_right _ hi), w1 ws fun i hi => hw i (List.mem_append_left _ hi)]⟩
theorem pat3 {α β γ E1 E2 E3 : Type} [Enc α] [Enc β] [Enc γ] [ES E1] [ES E2] [ES E3] {K : PySem.W.Frag} {g1 g2 g3 : TG} {f1 : E → α → E1} {f2 : E1 → β → E2} {f3 : E2 → γ → E3} {v1 v2 v3 : List Nat} (a : Pat g1 E α E1 f1 v1) (b : Pat g2 E1 β E2 f2 v2) (c : Pat g3 E2 γ E3 f3 v3) :
    Pat (gTup K 3 (gCons g1 (gCons g2 (gCons g3 gNil)))) E (T3 α β γ) E3 (fun e t => f3 (f2 (f1 e t.a) t.b) t.c) (v1 ++ (v2 ++ v3)) :=
  ⟨fun {F0 H0 F H σ e v t Q} s r h => by
    obtain ⟨p, x, y, z, rfl, hp, rx, ry, rz⟩ := r
    refine ⟨p, [x, y, z], rfl, SqT.of (s.ext.fh _ _ hp), rfl, x, [y, z], rfl, a.run s rx fun σ1 s1 w1 => ⟨y, [z], rfl, b.run (s1 F H s (Same.refl _)) ry fun σ2 s2 w2 => ⟨z, [], rfl, c.run (s2 F H (s1 F H s (Same.refl _)) (Same.refl _)) rz fun σ3 s3 w3 => ⟨rfl, h σ3 (fun F2 H2 sx m => s3 F2 H2 (s2 F2 H2 (s1 F2 H2 sx m) m) m) fun ws hw => ?_⟩⟩⟩⟩
    rw [w3 ws fun i hi => hw i (List.mem_append_right _ (List.mem_append_right _ hi)), w2 ws fun i hi => hw i (List.mem_append_right _ (List.mem_append_left _ hi)), w1 ws fun i hi => hw i (List.mem_append_left _ hi)]⟩

/-- slots forgotten -/
structure Nn (E E' : Type) [ES E] [ES E'] where
  i : Nat
  w : E → E'
  ok : ∀ {F H : Hp} {os : List Addr} {σ : L2.St} {e : E}, ES.rep F H os σ e → ∃ os', os'.Sublist os ∧ ES.rep F H os' (σ.set i none) (w e)
@[reducible] def n0 {T E : Type} [SK T] [ES E] : Nn (T × E) (No × E) := ⟨0, fun e => (⟨⟩, e.2), fun r => by
  obtain ⟨x, σ', a, b, e1, e2, ra, rb⟩ := r
  subst e1; subst e2
  exact ⟨b, List.sublist_append_right _ _, none, σ', [], b, rfl, rfl, rfl, rb⟩⟩
@[reducible] def nS {T E E' : Type} [SK T] [ES E] [ES E'] (n : Nn E E') : Nn (T × E) (T × E') := ⟨n.i + 1, fun e => (e.1, n.w e.2), fun r => by
  obtain ⟨x, σ', a, b, e1, e2, ra, rb⟩ := r
  subst e1; subst e2
  obtain ⟨os', sl, r'⟩ := n.ok rb
  exact ⟨a ++ os', List.Sublist.append (List.Sublist.refl _) sl, x, _, a, os', rfl, rfl, ra, r'⟩⟩
structure Wp (E E' : Type) [ES E] [ES E'] (vs : List Nat) where
  w : E → E'
  ok : ∀ {F H : Hp} {os : List Addr} {σ : L2.St} {e : E}, ES.rep F H os σ e → ∃ os', os'.Sublist os ∧ ES.rep F H os' (wipe σ vs) (w e)
@[reducible] def wp0 : Wp E E [] := ⟨fun e => e, fun r => ⟨_, List.Sublist.refl _, r⟩⟩
@[reducible] def wpS {E1 E2 : Type} [ES E1] [ES E2] {vs : List Nat} (n : Nn E1 E2) (w : Wp E E1 vs) : Wp E E2 (n.i :: vs) := ⟨fun e => n.w (w.w e), fun r => by
  obtain ⟨o1, s1, r1⟩ := w.ok r
  obtain ⟨o2, s2, r2⟩ := n.ok r1
  exact ⟨o2, s2.trans s1, r2⟩⟩
theorem SR.wipe {E' : Type} [ES E'] {vs : List Nat} (w : Wp E E' vs) {F0 H0 F H : Hp} {σ : L2.St} {e : E} (s : SR F0 H0 F H σ e) : SR F0 H0 F H (L2.wipe σ vs) (w.w e) := by
  obtain ⟨os, nd, fr, r⟩ := s.st
  obtain ⟨os', sl, r'⟩ := w.ok r
  exact ⟨s.ext, os', nd.sublist sl, fun p hp => fr p (sl.subset hp), r'⟩

/-! ## comprehensions -/
section
variable {α β : Type} [Enc α] [Enc β] {E1 E2 : Type} [ES E1] [ES E2]
theorem reps_snoc {F : Hp} {vs : List V} {xs : List α} {v : V} {x : α} (r : Reps F vs xs) (h : rep F v x) : Reps F (vs ++ [v]) (xs ++ [x]) := reps_append r (.cons h .nil)
theorem take_succ_of {xs : List α} {i : Nat} {x : α} (h : xs[i]? = some x) : xs.take (i + 1) = xs.take i ++ [x] := by
  rw [List.take_add_one, h]; rfl
theorem Ext.redo {F H F' H' : Hp} {p : Addr} {o : HO} (x : Ext F H F' H') (hp : H p = none) (fp : F' p = none) : Ext F H F' (upd H' p o) :=
  ⟨x.ff, fun b y e => by rw [upd_ne (ne_of_none e hp)]; exact x.hh _ _ e, fun b y e => by rw [upd_ne (ne_of_none e fp)]; exact x.fh _ _ e, x.nw⟩
/-- a comprehension's reading -/
theorem lc_read {vs : List Nat} {src : E → List α} {oks : E → Prop} {wp : Wp E E1 vs} {g : TG} {put : E1 → α → E2} {us : List Nat} (pt : Pat g E1 α E2 put us) (hus : ∀ i ∈ us, i ∈ vs) {c : E2 → Bool} {okc : E2 → Prop} {f : E2 → β} {okf : E2 → Prop} {σ : L2.St} {H : Hp} {Q : VK}
    (h : tO (fun e => ((src e).filter fun a => c (put (wp.w e) a)).map fun a => f (put (wp.w e) a)) (fun e => oks e ∧ ∀ a ∈ src e, okc (put (wp.w e) a) ∧ (c (put (wp.w e) a) = true → okf (put (wp.w e) a))) σ H Q) :
    tLc (tS src oks) g (tT c okc) (tE f okf) vs σ H Q := by
  obtain ⟨F0, H0, F, e, s, ⟨o1, o2⟩, q⟩ := h
  refine ⟨F0, H0, F, e, s, o1, fun J F1 H1 X1 jk D hD => ?_⟩
  have fD : F1 D = none := X1.fh.free hD
  refine ⟨fun i m Hc => m = (src e).length - i ∧ i ≤ (src e).length ∧ ∃ Fc ws, Ext F1 H1 Fc Hc ∧ Fc D = none ∧ Hc D = some (.lst ws) ∧ ws.length ≤ i ∧ Reps Fc ws ((((src e).take i).filter fun a => c (put (wp.w e) a)).map fun a => f (put (wp.w e) a)),
    ⟨_, rfl, Nat.zero_le _, F1, [], (Ext.refl X1.fh).newO hD, fD, upd_same, Nat.le_refl _, by simpa using Paired.nil⟩, ?_⟩
  rintro i m Hc ⟨rfl, hi, Fc, ws, Xc, fc, hc, zl, rr⟩
  by_cases hlt : i < (src e).length
  · refine .inr ?_
    have hx : (src e)[i]? = some (src e)[i] := List.getElem?_eq_getElem hlt
    obtain ⟨go, yld⟩ := (jk.at' i Fc Hc Xc.ff Xc.fh).1 _ hx
    refine ⟨go, fun H' => ∃ Fn ws, Ext F1 H1 Fn H' ∧ Fn D = none ∧ H' D = some (.lst ws) ∧ ws.length ≤ i + 1 ∧ Reps Fn ws ((((src e).take (i + 1)).filter fun a => c (put (wp.w e) a)).map fun a => f (put (wp.w e) a)),
      fun H' ⟨Fn, ws', a1, a2, a3, a4, a5⟩ => ⟨(src e).length - (i + 1), by omega, rfl, hlt, Fn, ws', a1, a2, a3, a4, a5⟩, fun v H' hy => ?_⟩
    obtain ⟨F2, X2, rv⟩ := yld v H' hy
    have keep : ∀ {F' H' : Hp}, Ext Fc Hc F' H' → F' D = none ∧ H' D = some (.lst ws) := fun {F' H'} x => ⟨(by
      cases y : F' D with
      | none => rfl
      | some o =>
        have z := x.nw D fc (by rw [y]; exact Option.some_ne_none _)
        rw [hc] at z
        cases z), x.hh _ _ hc⟩
    have S2 : SR F0 H0 F2 H' (L2.wipe σ vs) (wp.w e) := ((s.more X1).more (Xc.trans X2)).wipe wp
    refine pt.run S2 rv fun σ' S3' hw => ?_
    have S3 := S3' F2 H' S2 (Same.refl _)
    refine ⟨?_, F0, H0, F2, _, S3, (o2 _ (List.mem_of_getElem? hx)).1, fun F3 H3 X3 => ?_⟩
    · rw [hw vs hus, wipe_idem vs vs fun _ h => h]
    · have tk := take_succ_of (α := α) hx
      cases hb : c (put (wp.w e) (src e)[i]) with
      | true =>
        refine iteT ⟨F0, H0, F3, _, S3.more X3, (o2 _ (List.mem_of_getElem? hx)).2 hb, fun F4 H4 y X4 ry => ?_⟩
        have X24 := X2.trans (X3.trans X4)
        obtain ⟨k1, k2⟩ := keep X24
        refine ⟨ws, k2, Nat.lt_of_le_of_lt zl (Nat.lt_of_lt_of_le hlt jk.sz), F4, ws ++ [y], (Xc.trans X24).redo hD k1, k1, upd_same, by simp; omega, ?_⟩
        rw [tk, List.filter_append, List.map_append]
        refine reps_append (rr.mono X24.ff) ?_
        simp only [List.filter_cons, List.filter_nil, hb, if_true, List.map_cons, List.map_nil]
        exact .cons ry .nil
      | false =>
        have X23 := X2.trans X3
        obtain ⟨k1, k2⟩ := keep X23
        refine iteF ⟨F3, ws, Xc.trans X23, k1, k2, by omega, ?_⟩
        rw [tk, List.filter_append, List.map_append]
        simp only [List.filter_cons, List.filter_nil, hb, Bool.false_eq_true, if_false, List.map_nil, List.append_nil]
        exact rr.mono X23.ff
  · have e1 : i = (src e).length := by omega
    refine .inl ⟨(jk.at' i Fc Hc Xc.ff Xc.fh).2 e1, ?_⟩
    rw [e1, List.take_length] at rr
    exact q Fc Hc D ws (X1.trans Xc) (X1.hh.free hD) fc hc (Nat.le_trans zl (by rw [e1]; exact jk.sz)) rr
/-- the test that is always passed -/
theorem its_nil : PTs X [] (tT (fun _ : E => true) okT) := ⟨fun pins s σ H Q I ⟨F0, H0, F, e, sr, _, q⟩ => pts_nil.run pins s σ H Q I (q F H (Ext.refl sr.ext.fh))⟩
theorem its_one {a : Expr} {c : E → Bool} {ok : E → Prop} (h : IT X a c ok) : PTs X [a] (tT c ok) := pts_one h
end
end PL
set_option Elab.async false
set_option linter.all false
set_option maxRecDepth 100000
/-! PL6: statements, defs. -/
namespace PL
open PySem PySem.Spec PyProof.Rows L2
variable {X : Cx} {E : Type} [ES E] {pos p0s p1s p2s : Pos}

/-! ## comprehensions as expressions -/
section
variable {α β : Type} [Enc α] [Enc β] {E1 E2 : Type} [ES E1] [ES E2]
theorem io_lc {elt tg iter : Expr} {ifs : List Expr} {scope : Scope} {own : List (Str × Nat)} {src : E → List α} {oks : E → Prop} {wp : Wp E E1 (own.map (·.2))} {g : TG} {put : E1 → α → E2} {us : List Nat} {c : E2 → Bool} {okc : E2 → Prop} {f : E2 → β} {okf : E2 → Prop}
    (hc : X.calm = true) (hN : X.N.Nodup) (hi : IS X tg iter src oks) (ok : blkC X.N X.env.scope scope own = true) (pt : Pat g E1 α E2 put us) (hus : ∀ i ∈ us, i ∈ own.map (·.2))
    (hg : ∀ (s : Shared) (H : Hp) (C : Addr) (cl : List (Str × Addr)) (fp : List Addr), PG (X.blk s H scope (compEnvC scope cl C X.env) fp) tg g)
    (ht : ∀ (s : Shared) (H : Hp) (C : Addr) (cl : List (Str × Addr)) (fp : List Addr), PTs (X.blk s H scope (compEnvC scope cl C X.env) fp) ifs (tT c okc))
    (he : ∀ (s : Shared) (H : Hp) (C : Addr) (cl : List (Str × Addr)) (fp : List Addr), IE (X.blk s H scope (compEnvC scope cl C X.env) fp) elt f okf) (hs : ∀ x, foldedSetIterable iter X.env x = pure x := by intro _; rfl) :
    IO X (.ListComp elt [⟨tg, iter, ifs, 0⟩] scope pos) (fun e => ((src e).filter fun a => c (put (wp.w e) a)).map fun a => f (put (wp.w e) a)) (fun e => oks e ∧ ∀ a ∈ src e, okc (put (wp.w e) a) ∧ (c (put (wp.w e) a) = true → okf (put (wp.w e) a))) :=
  pe_imp (pe_lc hc hN hi (blkOk_by ok) hg ht he hs) fun σ H Q h => lc_read pt hus h
/-- without a test -/
theorem io_lm {elt tg iter : Expr} {scope : Scope} {own : List (Str × Nat)} {src : E → List α} {oks : E → Prop} {wp : Wp E E1 (own.map (·.2))} {g : TG} {put : E1 → α → E2} {us : List Nat} {f : E2 → β} {okf : E2 → Prop}
    (hc : X.calm = true) (hN : X.N.Nodup) (hi : IS X tg iter src oks) (ok : blkC X.N X.env.scope scope own = true) (pt : Pat g E1 α E2 put us) (hus : ∀ i ∈ us, i ∈ own.map (·.2))
    (hg : ∀ (s : Shared) (H : Hp) (C : Addr) (cl : List (Str × Addr)) (fp : List Addr), PG (X.blk s H scope (compEnvC scope cl C X.env) fp) tg g)
    (he : ∀ (s : Shared) (H : Hp) (C : Addr) (cl : List (Str × Addr)) (fp : List Addr), IE (X.blk s H scope (compEnvC scope cl C X.env) fp) elt f okf) (hs : ∀ x, foldedSetIterable iter X.env x = pure x := by intro _; rfl) :
    IO X (.ListComp elt [⟨tg, iter, [], 0⟩] scope pos) (fun e => (src e).map fun a => f (put (wp.w e) a)) (fun e => oks e ∧ ∀ a ∈ src e, okf (put (wp.w e) a)) :=
  pe_imp (io_lc (c := fun _ => true) (okc := okT) (wp := wp) hc hN hi ok pt hus hg (fun _ _ _ _ _ => its_nil) he hs) fun σ H Q ⟨F0, H0, F, e, s, ⟨o1, o2⟩, q⟩ => ⟨F0, H0, F, e, s, ⟨o1, fun a ha => ⟨trivial, fun _ => o2 a ha⟩⟩, by
    intro F' H' p vs x hp fp h' z r
    have e1 : (src e).filter (fun _ => true) = src e := List.filter_eq_self.mpr (fun _ _ => rfl)
    have r' : Reps F' vs (((src e).filter fun _ => true).map fun a => f (put (wp.w e) a)) := r
    rw [e1] at r'
    exact q F' H' p vs x hp fp h' z r'⟩
end

/-! ## statements -/
/-- what follows: behind the statement, behind the loop, in the loop's next turn -/
structure K3 (E' EB EC R : Type) where
  nx : E' → R
  bk : EB → R
  ct : EC → R
structure P3 (E' EB EC : Type) where
  nx : E' → Prop
  bk : EB → Prop
  ct : EC → Prop
/-- how what is handed back stands -/
abbrev RetK (β : Type) := Hp → Hp → Hp → V → β → Prop
def retF {β : Type} [Enc β] : RetK β := fun _ F' _ v b => rep F' v b
def retO {β : Type} [Enc β] : RetK (List β) := fun H0 F' H' v b => ∃ p vs, v = .ref p ∧ H0 p = none ∧ F' p = none ∧ H' p = some (.lst vs) ∧ vs.length ≤ sizeLine ∧ Reps F' vs b
section
variable {E1 E2 E' EB EC β : Type} [ES E1] [ES E2] [ES E'] [ES EB] [ES EC] {RR : RetK β}
def sS (RR : RetK β) (g : K3 E' EB EC β → E → β) (ok : P3 E' EB EC → E → Prop) : TS := fun D σ H => ∃ (F0 H0 F : Hp) (e : E) (K : K3 E' EB EC β) (KO : P3 E' EB EC) (b : β), SR F0 H0 F H σ e ∧ ok KO e ∧ g K e = b ∧
  (∀ F' H' σ' e', SR F0 H0 F' H' σ' e' → Same F F' → KO.nx e' → K.nx e' = b → D.nx σ' H') ∧
  (∀ F' H' σ' e', SR F0 H0 F' H' σ' e' → Same F F' → KO.bk e' → K.bk e' = b → D.bk σ' H') ∧
  (∀ F' H' σ' e', SR F0 H0 F' H' σ' e' → Same F F' → KO.ct e' → K.ct e' = b → D.ct σ' H') ∧
  (∀ F' H' v, Ext F0 H0 F' H' → RR H0 F' H' v b → D.rt v H')
abbrev SS (X : Cx) (RR : RetK β) (st : Stmt) (g : K3 E' EB EC β → E → β) (ok : P3 E' EB EC → E → Prop) : Prop := PS X st (sS RR g ok)
abbrev SSs (X : Cx) (RR : RetK β) (st : List Stmt) (g : K3 E' EB EC β → E → β) (ok : P3 E' EB EC → E → Prop) : Prop := PSs X st (sS RR g ok)

theorem ss_end (t : Gh E E') : SSs (EB := EB) (EC := EC) X RR [] (fun K e => K.nx (t.w e)) (fun K e => K.nx (t.w e)) :=
  pss_imp pss_nil fun D σ H ⟨F0, H0, F, e, K, KO, b, s, o, hb, q, _⟩ => by
    obtain ⟨F', sm, s'⟩ := t.ok s
    exact q F' H σ _ s' sm o hb
theorem ss_cons {st : Stmt} {rest : List Stmt} {g1 : K3 E1 EB EC β → E → β} {ok1 : P3 E1 EB EC → E → Prop} {g2 : K3 E' EB EC β → E1 → β} {ok2 : P3 E' EB EC → E1 → Prop} (h1 : SS X RR st g1 ok1) (h2 : SSs X RR rest g2 ok2) :
    SSs X RR (st :: rest) (fun K e => g1 ⟨g2 K, K.bk, K.ct⟩ e) (fun K e => ok1 ⟨ok2 K, K.bk, K.ct⟩ e) :=
  pss_imp (pss_cons h1 h2) fun D σ H ⟨F0, H0, F, e, K, KO, b, s, o, hb, q1, q2, q3, q4⟩ =>
    ⟨F0, H0, F, e, ⟨g2 K, K.bk, K.ct⟩, ⟨ok2 KO, KO.bk, KO.ct⟩, b, s, o, hb, fun F' H' σ' e' s' sm o' hb' => ⟨F0, H0, F', e', K, KO, b, s', o', hb', fun F2 H2 σ2 e2 s2 m2 => q1 F2 H2 σ2 e2 s2 (sm.trans m2), fun F2 H2 σ2 e2 s2 m2 => q2 F2 H2 σ2 e2 s2 (sm.trans m2), fun F2 H2 σ2 e2 s2 m2 => q3 F2 H2 σ2 e2 s2 (sm.trans m2), q4⟩, q2, q3, q4⟩
/-- the last statement of a block -/
theorem ss_last {st : Stmt} {g : K3 E' EB EC β → E → β} {ok : P3 E' EB EC → E → Prop} (h : SS X RR st g ok) : SSs X RR [st] g ok := pss_one h
/-- a step of the state ahead of the rest -/
theorem ss_gh {sts : List Stmt} (t : Gh E E1) {g : K3 E' EB EC β → E1 → β} {ok : P3 E' EB EC → E1 → Prop} (h : SSs X RR sts g ok) : SSs X RR sts (fun K e => g K (t.w e)) (fun K e => ok K (t.w e)) :=
  pss_imp h fun D σ H ⟨F0, H0, F, e, K, KO, b, s, o, hb, q1, q2, q3, q4⟩ => by
    obtain ⟨F', sm, s'⟩ := t.ok s
    exact ⟨F0, H0, F', t.w e, K, KO, b, s', o, hb, fun F2 H2 σ2 e2 s2 m2 => q1 F2 H2 σ2 e2 s2 (sm.trans m2), fun F2 H2 σ2 e2 s2 m2 => q2 F2 H2 σ2 e2 s2 (sm.trans m2), fun F2 H2 σ2 e2 s2 m2 => q3 F2 H2 σ2 e2 s2 (sm.trans m2), q4⟩
theorem s_gh {st : Stmt} (t : Gh E E1) {g : K3 E' EB EC β → E1 → β} {ok : P3 E' EB EC → E1 → Prop} (h : SS X RR st g ok) : SS X RR st (fun K e => g K (t.w e)) (fun K e => ok K (t.w e)) :=
  ps_imp h fun D σ H ⟨F0, H0, F, e, K, KO, b, s, o, hb, q1, q2, q3, q4⟩ => by
    obtain ⟨F', sm, s'⟩ := t.ok s
    exact ⟨F0, H0, F', t.w e, K, KO, b, s', o, hb, fun F2 H2 σ2 e2 s2 m2 => q1 F2 H2 σ2 e2 s2 (sm.trans m2), fun F2 H2 σ2 e2 s2 m2 => q2 F2 H2 σ2 e2 s2 (sm.trans m2), fun F2 H2 σ2 e2 s2 m2 => q3 F2 H2 σ2 e2 s2 (sm.trans m2), q4⟩
theorem s_doc {x : Str} {j : Nat} : SS (EB := EB) (EC := EC) X RR (.Expr (.Constant (.str x) j p1s) pos) (fun K (e : E) => K.nx e) (fun K e => K.nx e) :=
  ps_imp ps_doc fun D σ H ⟨F0, H0, F, e, K, KO, b, s, o, hb, q, _⟩ => q F H σ e s (Same.refl _) o hb
theorem s_pass : SS (EB := EB) (EC := EC) X RR (.Pass pos) (fun K (e : E) => K.nx e) (fun K e => K.nx e) :=
  ps_imp ps_pass fun D σ H ⟨F0, H0, F, e, K, KO, b, s, o, hb, q, _⟩ => q F H σ e s (Same.refl _) o hb
theorem s_brk (t : Gh E EB) : SS (E' := E') (EC := EC) X RR (.Break pos) (fun K e => K.bk (t.w e)) (fun K e => K.bk (t.w e)) :=
  ps_imp ps_break fun D σ H ⟨F0, H0, F, e, K, KO, b, s, o, hb, _, q, _⟩ => by
    obtain ⟨F', sm, s'⟩ := t.ok s
    exact q F' H σ _ s' sm o hb
theorem s_cont (t : Gh E EC) : SS (E' := E') (EB := EB) X RR (.Continue pos) (fun K e => K.ct (t.w e)) (fun K e => K.ct (t.w e)) :=
  ps_imp ps_continue fun D σ H ⟨F0, H0, F, e, K, KO, b, s, o, hb, _, _, q, _⟩ => by
    obtain ⟨F', sm, s'⟩ := t.ok s
    exact q F' H σ _ s' sm o hb
theorem s_set {α : Type} [Enc α] (q : Put E α E') {x : Str} {a : Expr} {f : E → α} {ok : E → Prop} (hN : X.N.Nodup) (h : IE X a f ok) (hi : X.N[q.i]? = some x := by rfl) (hx : Loc X.env.scope x := by first | exact Or.inl rfl | exact Or.inr rfl) (hs : swapsWith a (some (.Name x p1s)) pos.line X.env = pure false := by rfl)
    (hf : X.fn x = true ∨ X.env.scope.names.lookup x = some .local := by first | exact .inl rfl | exact .inr rfl) : SS (EB := EB) (EC := EC) X RR (.Assign [.Name x p1s] a pos) (fun K e => K.nx (q.put e (f e))) (fun K e => ok e ∧ K.nx (q.put e (f e))) :=
  ps_imp (ps_set hN hi hx h hs hf) fun D σ H ⟨F0, H0, F, e, K, KO, b, s, ⟨o1, o2⟩, hb, k, _⟩ => ⟨F0, H0, F, e, s, o1, fun F1 H1 v X1 r => k F1 H1 _ _ ((s.more X1).put q r) X1.ff o2 hb⟩
theorem s_setO {α : Type} [Enc α] (q : Put E (Ow α) E') {x : Str} {a : Expr} {f : E → List α} {ok : E → Prop} (hN : X.N.Nodup) (h : IO X a f ok) (hi : X.N[q.i]? = some x := by rfl) (hx : Loc X.env.scope x := by first | exact Or.inl rfl | exact Or.inr rfl) (hs : swapsWith a (some (.Name x p1s)) pos.line X.env = pure false := by rfl)
    (hf : X.fn x = true ∨ X.env.scope.names.lookup x = some .local := by first | exact .inl rfl | exact .inr rfl) : SS (EB := EB) (EC := EC) X RR (.Assign [.Name x p1s] a pos) (fun K e => K.nx (q.put e ⟨f e⟩)) (fun K e => ok e ∧ K.nx (q.put e ⟨f e⟩)) :=
  ps_imp (ps_set hN hi hx h hs hf) fun D σ H ⟨F0, H0, F, e, K, KO, b, s, ⟨o1, o2⟩, hb, k, _⟩ => ⟨F0, H0, F, e, s, o1, fun F1 H1 p vs X1 hp fp h' z r => k F1 H1 _ _ (s.putO q X1 hp fp h' z r) X1.ff o2 hb⟩
/-- targets of any form -/
theorem s_pat {α : Type} [Enc α] {tg a : Expr} {g : TG} {put : E → α → E'} {us : List Nat} {f : E → α} {ok : E → Prop} (pt : Pat g E α E' put us) (hg : PG X tg g) (h : IE X a f ok) (hs : swapsWithSole [tg] a pos.line X.env = pure false := by rfl) (hw : swappedStores [tg] a X.env = pure none := by rfl)
    (h1 : (assignEach [tg] X.env).map (·.2) = [assign tg X.env] := by rfl) : SS (EB := EB) (EC := EC) X RR (.Assign [tg] a pos) (fun K e => K.nx (put e (f e))) (fun K e => ok e ∧ K.nx (put e (f e))) :=
  ps_imp (ps_asg h hg hs hw h1) fun D σ H ⟨F0, H0, F, e, K, KO, b, s, ⟨o1, o2⟩, hb, k, _⟩ => ⟨F0, H0, F, e, s, o1, fun F1 H1 v X1 r => pt.run (s.more X1) r fun σ' s' _ => k F1 H1 σ' _ (s' F1 H1 (s.more X1) (Same.refl _)) X1.ff o2 hb⟩
theorem s_expr {α : Type} [Enc α] {a : Expr} {f : E → α} {ok : E → Prop} (h : IE X a f ok) (hs : swapsWith a none pos.line X.env = pure false := by rfl) : SS (EB := EB) (EC := EC) X RR (.Expr a pos) (fun K e => K.nx e) (fun K e => ok e ∧ K.nx e) :=
  ps_imp (ps_expr h hs) fun D σ H ⟨F0, H0, F, e, K, KO, b, s, ⟨o1, o2⟩, hb, k, _⟩ => ⟨F0, H0, F, e, s, o1, fun F1 H1 v X1 r => k F1 H1 σ e (s.more X1) X1.ff o2 hb⟩
theorem s_ret {β : Type} [Enc β] {a : Expr} {f : E → β} {ok : E → Prop} (h : IE X a f ok) : SS (E' := E') (EB := EB) (EC := EC) X retF (.Return (some a) pos) (fun _ e => f e) (fun _ e => ok e) :=
  ps_imp (ps_ret h) fun D σ H ⟨F0, H0, F, e, K, KO, b, s, o, hb, _, _, _, q⟩ => ⟨F0, H0, F, e, s, o, fun F1 H1 v X1 r => q F1 H1 v (s.ext.trans X1) (by rw [← hb]; exact r)⟩
theorem s_retO {β : Type} [Enc β] {a : Expr} {f : E → List β} {ok : E → Prop} (h : IO X a f ok) : SS (E' := E') (EB := EB) (EC := EC) X retO (.Return (some a) pos) (fun _ e => f e) (fun _ e => ok e) :=
  ps_imp (ps_ret h) fun D σ H ⟨F0, H0, F, e, K, KO, b, s, o, hb, _, _, _, q⟩ => ⟨F0, H0, F, e, s, o, fun F1 H1 p vs X1 hp fp h' z r => q F1 H1 _ (s.ext.trans X1) ⟨p, vs, rfl, s.ext.hh.free hp, fp, h', z, by rw [← hb]; exact r⟩⟩
theorem s_retN : SS (E' := E') (EB := EB) (EC := EC) X retF (.Return none pos) (fun _ (e : E) => ()) okT2 :=
  ps_imp ps_retN fun D σ H ⟨F0, H0, F, e, K, KO, b, s, o, hb, _, _, _, q⟩ => q F H .non s.ext rfl
where okT2 : P3 E' EB EC → E → Prop := fun _ _ => True
/-- an own list handed back -/
theorem s_retV {β : Type} [Enc β] (v : VarO E β) {x : Str} (hN : X.N[v.i]? = some x := by rfl) (hv : Vis X.env.scope x := by first | exact Or.inl rfl | exact Or.inr (Or.inl rfl) | exact Or.inr (Or.inr rfl)) (hd : (x == ("__debug__" : Str)) = false := by decide) (hcd : (x == ("__classdict__" : Str)) = false := by decide) :
    SS (E' := E') (EB := EB) (EC := EC) X retO (.Return (some (.Name x p1s)) pos) (fun _ e => v.get e) (fun _ e => True) :=
  ps_imp (ps_ret (pe_var hN hv hd hcd)) fun D σ H ⟨F0, H0, F, e, K, KO, b, s, o, hb, _, _, _, q⟩ => by
    obtain ⟨os, nd, fr, r⟩ := s.st
    obtain ⟨p, vs, h1, h2, h3, h4, h5, _⟩ := v.ok nd r
    obtain ⟨fp, h0, _⟩ := fr p h1
    exact ⟨_, h2, q F H _ s.ext ⟨p, vs, rfl, h0, fp, h3, h4, by rw [← hb]; exact h5⟩⟩
theorem s_if {c : Expr} {xs ys : List Stmt} {fc : E → Bool} {okc : E → Prop} {ga gb : K3 E' EB EC β → E → β} {oa ob : P3 E' EB EC → E → Prop} (hc : IT X c fc okc) (ha : SSs X RR xs ga oa) (hb : SSs X RR ys gb ob) :
    SS X RR (.If c xs ys pos) (fun K e => if fc e = true then ga K e else gb K e) (fun K e => okc e ∧ (fc e = true → oa K e) ∧ (fc e = false → ob K e)) :=
  ps_imp (ps_if hc ha hb) fun D σ H ⟨F0, H0, F, e, K, KO, b, s, ⟨o1, o2, o3⟩, hb, q1, q2, q3, q4⟩ => ⟨F0, H0, F, e, s, o1, fun F1 H1 X1 => by
    have go : ∀ {g : K3 E' EB EC β → E → β} {ok : P3 E' EB EC → E → Prop}, ok KO e → g K e = b → sS RR g ok D σ H1 := fun {g ok} o h =>
      ⟨F0, H0, F1, e, K, KO, b, s.more X1, o, h, fun F2 H2 σ2 e2 s2 m2 => q1 F2 H2 σ2 e2 s2 (X1.ff.trans m2), fun F2 H2 σ2 e2 s2 m2 => q2 F2 H2 σ2 e2 s2 (X1.ff.trans m2), fun F2 H2 σ2 e2 s2 m2 => q3 F2 H2 σ2 e2 s2 (X1.ff.trans m2), q4⟩
    cases hf : fc e with
    | true => exact iteT (go (o2 hf) (by simpa [hf] using hb))
    | false => exact iteF (go (o3 hf) (by simpa [hf] using hb))⟩
/-! loops -/
def forC {α R : Type} (put : E → α → E1) (g : K3 E E E R → E1 → R) (k : E → R) : List α → E → R
  | [], e => k e
  | x :: xs, e => g ⟨forC put g k xs, k, forC put g k xs⟩ (put e x)
def forP {α : Type} (put : E → α → E1) (g : P3 E E E → E1 → Prop) (k : E → Prop) : List α → E → Prop
  | [], e => k e
  | x :: xs, e => g ⟨forP put g k xs, k, forP put g k xs⟩ (put e x)
theorem s_for {α : Type} [Enc α] {tg iter : Expr} {body : List Stmt} {src : E → List α} {oks : E → Prop} {g : TG} {put : E → α → E1} {us : List Nat} {gb : K3 E E E β → E1 → β} {ob : P3 E E E → E1 → Prop} (hp : PassesOwn (model X.prog X.w) X.A X.env X.xe) (hc : X.calm = true)
    (hi : IS X tg iter src oks) (pt : Pat g E α E1 put us) (hg : PG X tg g) (hb : SSs X RR body gb ob) (hs : ∀ x, foldedSetIterable iter X.env x = pure x := by intro _; rfl) :
    SS (EB := EB) (EC := EC) X RR (.For tg iter body [] pos) (fun K e => forC put gb K.nx (src e) e) (fun K e => oks e ∧ forP put ob K.nx (src e) e) :=
  ps_imp (ps_for hp hc hi hg hb hs) fun D σ H ⟨F0, H0, F, e, K, KO, b, s, ⟨o1, o2⟩, hb, q1, q2, q3, q4⟩ => ⟨F0, H0, F, e, s, o1, fun J F1 H1 X1 jk => by
    have q1' := fun F' H' σ' e' (s' : SR F0 H0 F' H' σ' e') (m : Same F1 F') => q1 F' H' σ' e' s' (X1.ff.trans m)
    have hb : forC put gb K.nx (src e) e = b := hb
    generalize hxs : src e = xs at o2 hb jk
    refine ⟨fun i m σ H => m = xs.length - i ∧ i ≤ xs.length ∧ ∃ Fc ec, SR F0 H0 Fc H σ ec ∧ Same F1 Fc ∧ forP put ob KO.nx (xs.drop i) ec ∧ forC put gb K.nx (xs.drop i) ec = b,
      ⟨_, rfl, Nat.zero_le _, F1, e, s.more X1, Same.refl _, o2, hb⟩, ?_⟩
    rintro i m σ H ⟨rfl, hi, Fc, ec, sc, mc, oc, bc⟩
    by_cases hlt : i < xs.length
    · refine .inr ?_
      have hx : xs[i]? = some xs[i] := List.getElem?_eq_getElem hlt
      obtain ⟨go, yld⟩ := (jk.at' i Fc H mc sc.ext.fh).1 _ hx
      have hd : xs.drop i = xs[i] :: xs.drop (i + 1) := by rw [List.drop_eq_getElem_cons hlt]
      rw [hd] at oc bc
      refine ⟨go, fun σ' H' => ∃ Fn en, SR F0 H0 Fn H' σ' en ∧ Same F1 Fn ∧ forP put ob KO.nx (xs.drop (i + 1)) en ∧ forC put gb K.nx (xs.drop (i + 1)) en = b, fun σ' H' ⟨Fn, en, a1, a2, a3, a4⟩ => ⟨xs.length - (i + 1), by omega, rfl, hlt, Fn, en, a1, a2, a3, a4⟩, fun v H' hy => ?_⟩
      obtain ⟨F2, X2, rv⟩ := yld v H' hy
      refine pt.run (sc.more X2) rv fun σ' sf _ => ?_
      have s' := sf F2 H' (sc.more X2) (Same.refl _)
      refine ⟨F0, H0, F2, _, ⟨forC put gb K.nx (xs.drop (i + 1)), K.nx, forC put gb K.nx (xs.drop (i + 1))⟩, ⟨forP put ob KO.nx (xs.drop (i + 1)), KO.nx, forP put ob KO.nx (xs.drop (i + 1))⟩, b, s', oc, bc, ?_, ?_, ?_, q4⟩
      · exact fun F' H' σ' e' s' m o h => ⟨F', e', s', (mc.trans X2.ff).trans m, o, h⟩
      · exact fun F' H' σ' e' s' m o h => q1' F' H' σ' e' s' ((mc.trans X2.ff).trans m) o h
      · exact fun F' H' σ' e' s' m o h => ⟨F', e', s', (mc.trans X2.ff).trans m, o, h⟩
    · have e1 : i = xs.length := by omega
      rw [e1, List.drop_length] at oc bc
      exact .inl ⟨(jk.at' i Fc H mc sc.ext.fh).2 e1, q1' Fc H σ ec sc mc oc bc⟩⟩
def whC {R : Type} (c : E → Bool) (g : K3 E E E R → E → R) (k : E → R) : Nat → E → R
  | 0, e => k e
  | n + 1, e => if c e = true then g ⟨whC c g k n, k, whC c g k n⟩ e else k e
def whP (c : E → Bool) (okc : E → Prop) (g : P3 E E E → E → Prop) (k : E → Prop) : Nat → E → Prop
  | 0, e => False
  | n + 1, e => okc e ∧ (c e = true → g ⟨whP c okc g k n, k, whP c okc g k n⟩ e) ∧ (c e = false → k e)
theorem s_while (fuel : E → Nat) {c : Expr} {body : List Stmt} {fc : E → Bool} {okc : E → Prop} {gb : K3 E E E β → E → β} {ob : P3 E E E → E → Prop} (hp : PassesOwn (model X.prog X.w) X.A X.env X.xe) (hc : IT X c fc okc) (hb : SSs X RR body gb ob) :
    SS (EB := EB) (EC := EC) X RR (.While c body [] pos) (fun K e => whC fc gb K.nx (fuel e) e) (fun K e => whP fc okc ob K.nx (fuel e) e) :=
  ps_imp (ps_while hp hc hb) fun D σ H ⟨F0, H0, F, e, K, KO, b, s, o, hb, q1, q2, q3, q4⟩ => by
    refine ⟨fun m σ H => ∃ Fc ec, SR F0 H0 Fc H σ ec ∧ Same F Fc ∧ whP fc okc ob KO.nx m ec ∧ whC fc gb K.nx m ec = b, ⟨_, F, e, s, Same.refl _, o, hb⟩, ?_⟩
    rintro m σ H ⟨Fc, ec, sc, mc, oc, bc⟩
    cases m with
    | zero => exact oc.elim
    | succ n =>
      obtain ⟨o1, o2, o3⟩ := oc
      refine ⟨F0, H0, Fc, ec, sc, o1, fun F1 H1 X1 => ?_⟩
      have mc' := mc.trans X1.ff
      cases hf : fc ec with
      | true =>
        refine iteT ⟨fun σ' H' => ∃ Fn en, SR F0 H0 Fn H' σ' en ∧ Same F Fn ∧ whP fc okc ob KO.nx n en ∧ whC fc gb K.nx n en = b, fun σ' H' ⟨Fn, en, a1, a2, a3, a4⟩ => ⟨n, Nat.lt_succ_self _, Fn, en, a1, a2, a3, a4⟩, ?_⟩
        refine ⟨F0, H0, F1, ec, ⟨whC fc gb K.nx n, K.nx, whC fc gb K.nx n⟩, ⟨whP fc okc ob KO.nx n, KO.nx, whP fc okc ob KO.nx n⟩, b, sc.more X1, o2 hf, ?_, ?_, ?_, ?_, q4⟩
        · rw [← bc]; show _ = if fc ec = true then _ else _; rw [if_pos hf]
        · exact fun F' H' σ' e' s' m o h => ⟨F', e', s', mc'.trans m, o, h⟩
        · exact fun F' H' σ' e' s' m o h => q1 F' H' σ' e' s' (mc'.trans m) o h
        · exact fun F' H' σ' e' s' m o h => ⟨F', e', s', mc'.trans m, o, h⟩
      | false =>
        refine iteF (q1 F1 H1 σ ec (sc.more X1) mc' (o3 hf) ?_)
        rw [← bc]; show _ = if fc ec = true then _ else _; rw [if_neg (by rw [hf]; exact Bool.false_ne_true)]
/-! own lists changed -/
theorem s_append {α : Type} [Enc α] (v : VarO E α) {x : Str} {a : Expr} {f : E → α} {ok : E → Prop} {q1 q2 : Pos} (h : IE X a f ok) (hN : X.N[v.i]? = some x := by rfl) (hv : Vis X.env.scope x := by first | exact Or.inl rfl | exact Or.inr (Or.inl rfl) | exact Or.inr (Or.inr rfl))
    (hd : (x == ("__debug__" : Str)) = false := by decide) (hcd : (x == ("__classdict__" : Str)) = false := by decide) (hbase : attributeBase (.Name x q1) "append" X.env (eval (.Name x q1) X.env) = eval (.Name x q1) X.env := by rfl)
    (hfew : ((backTo p1s (starEach [a] X.env)).all (fun x => !x.1) && (backToKw p1s (keywordEach [] X.env)).all (fun x => x.1.isSome) && decide ([a].length + ([] : List Keyword).length + (if ([] : List Keyword).isEmpty then 0 else 1) < 30)) = true := by rfl)
    (hline : (q2.endLine == p1s.line) = true := by rfl) (hs : starEach [a] X.env = (false, eval a X.env) :: starEach [] X.env := by rfl) (hpl : (backTo p1s (starEach [] X.env)).any (·.1) = false := by rfl)
    (hsw : swapsWith (.Call (.Attribute (.Name x q1) "append" q2) [a] [] p1s) none pos.line X.env = pure false := by rfl) :
    SS (EB := EB) (EC := EC) X RR (.Expr (.Call (.Attribute (.Name x q1) "append" q2) [a] [] p1s) pos) (fun K e => K.nx (v.set e (v.get e ++ [f e]))) (fun K e => ok e ∧ (v.get e).length < sizeLine ∧ K.nx (v.set e (v.get e ++ [f e]))) :=
  ps_imp (ps_expr (pe_bm PySem.F.plainAttrs_list PySem.F.slot_list_append PySem.F.type_list_append mt_append (pe_var hN hv hd hcd) (pa_cons h pa_nil hs) hbase hfew hline hs hpl) hsw) fun D σ H ⟨F0, H0, F, e, K, KO, b, s, ⟨o1, o2, o3⟩, hb, k, _⟩ => by
    obtain ⟨p, vs, h1, h2, h3, h4, h5, _⟩ := s.own v
    refine ⟨_, h1, .inl ⟨rfl, vs, SqL.of h3⟩, F0, H0, F, e, s, o1, fun F1 H1 y X1 r => ?_⟩
    obtain ⟨p', vs', g1, g2, g3, g4, g5, g6⟩ := (s.more X1).own v
    rw [h1] at g1
    cases g1
    have hl : vs'.length < sizeLine := by rw [g5.length]; exact o2
    refine ⟨p, vs', y, rfl, rfl, g3, hl, k F1 _ σ _ (g6 (vs' ++ [y]) _ (by rw [List.length_append]; exact hl) (reps_snoc g5 r)) X1.ff o3 hb⟩
end

/-! ## defs -/
structure Ini (A E : Type) [EA A] [ES E] (N P : Nat) where
  w : A → E
  len : ∀ {F : Hp} {vs : List V} {a : A}, EA.rep F vs a → vs.length = P
  ok : ∀ {F H : Hp} {vs : List V} {a : A}, EA.rep F vs a → ES.rep F H [] (vs.map some ++ List.replicate (N - P) none) (w a)
@[reducible] def ini0 : Ini Unit Unit 0 0 := ⟨fun _ => (), fun h => by cases h; rfl, fun h => by cases h; exact ⟨rfl, rfl⟩⟩
@[reducible] def iniN {E : Type} [ES E] {N : Nat} (t : Ini Unit E N 0) : Ini Unit (No × E) (N + 1) 0 := ⟨fun _ => (⟨⟩, t.w ()), fun h => by cases h; rfl, fun {F H vs a} h => by
  cases h
  exact ⟨none, List.replicate N none, [], [], by rw [Nat.sub_zero]; rfl, rfl, rfl, by simpa using t.ok (F := F) (H := H) (vs := []) (a := ()) rfl⟩⟩
@[reducible] def iniA {α A E : Type} [Enc α] [EA A] [ES E] {N P : Nat} (t : Ini A E N P) : Ini (α × A) (α × E) (N + 1) (P + 1) := ⟨fun a => (a.1, t.w a.2), fun h => by
  obtain ⟨v, ws, rfl, _, r⟩ := h
  rw [List.length_cons, t.len r], fun {F H vs a} h => by
  obtain ⟨v, ws, rfl, rv, r⟩ := h
  have q := t.ok (F := F) (H := H) r
  refine ⟨some v, _, [], [], ?_, rfl, ⟨rfl, v, rfl, rv⟩, q⟩
  rw [Nat.add_sub_add_right]
  rfl⟩
section
variable {P : Program} {w : World} {K : PySem.W.Frag} {mg : Str → Option Value} {base : Heap} {A β : Type} [EA A] [Enc β] {x : Str} {st : Stmt} {f : Addr} {fd : FuncData} {N ps : List Str} {k : Nat}
/-- a def whose every way returns -/
theorem cal_of [Inhabited β] {g : K3 Unit Unit Unit β → E → β} {ok : P3 Unit Unit Unit → E → Prop} (F : Fun K x x st f fd) (hm : mg x = some (.ref f)) (bd : Binds K fd ps []) (S : FnScope N ps (defScope st)) (ini : Ini A E N.length ps.length)
    (hb : ∀ (cdv : Value) (A' : Around) (outer : List Env) (s : Shared) (H : Hp) (E' : XK), Room k (A'.deeper (envOfC x (defScope st) s.heap.objs.size f cdv)) → SSs (cxOf CX0 P w K mg base N x (defScope st) f cdv A' outer s H E').nox retF (defBody st) g ok) :
    Cal P w K mg base (k + 1) x (spP (fun a => g ⟨fun _ => default, fun _ => default, fun _ => default⟩ (ini.w a)) (fun a => ok ⟨fun _ => False, fun _ => False, fun _ => False⟩ (ini.w a))) := by
  refine ⟨f, fd, ps, F.ok S (fun vs H Q E h => ?_) (fun cdv A' outer s H vs Q E hr h => ?_), hm, F.kp, bd⟩
  · obtain ⟨F, a, _, r, _⟩ := h
    exact ini.len r
  · obtain ⟨F, a, hs, r, o, q⟩ := h
    refine ⟨_, hb cdv A' outer s H E hr, F, H, F, ini.w a, ⟨fun _ => default, fun _ => default, fun _ => default⟩, _, _, ⟨Ext.refl hs, [], .nil, (fun _ z => nomatch z), ?_⟩, o, rfl, (fun _ _ _ _ _ _ z => z.elim), (fun _ _ _ _ _ _ z => z.elim), (fun _ _ _ _ _ _ z => z.elim), fun F' H' v X r => q F' H' v X r⟩
    have z := ini.ok (F := F) (H := H) r
    unfold L2.start
    rw [ini.len r]
    exact z
theorem cal_ofO {g : K3 Unit Unit Unit (List β) → E → List β} {ok : P3 Unit Unit Unit → E → Prop} (F : Fun K x x st f fd) (hm : mg x = some (.ref f)) (bd : Binds K fd ps []) (S : FnScope N ps (defScope st)) (ini : Ini A E N.length ps.length)
    (hb : ∀ (cdv : Value) (A' : Around) (outer : List Env) (s : Shared) (H : Hp) (E' : XK), Room k (A'.deeper (envOfC x (defScope st) s.heap.objs.size f cdv)) → SSs (cxOf CX0 P w K mg base N x (defScope st) f cdv A' outer s H E').nox retO (defBody st) g ok) :
    Cal P w K mg base (k + 1) x (spO (fun a => g ⟨fun _ => [], fun _ => [], fun _ => []⟩ (ini.w a)) (fun a => ok ⟨fun _ => False, fun _ => False, fun _ => False⟩ (ini.w a))) := by
  refine ⟨f, fd, ps, F.ok S (fun vs H Q E h => ?_) (fun cdv A' outer s H vs Q E hr h => ?_), hm, F.kp, bd⟩
  · obtain ⟨F, a, _, r, _⟩ := h
    exact ini.len r
  · obtain ⟨F, a, hs, r, o, q⟩ := h
    refine ⟨_, hb cdv A' outer s H E hr, F, H, F, ini.w a, ⟨fun _ => [], fun _ => [], fun _ => []⟩, _, _, ⟨Ext.refl hs, [], .nil, (fun _ z => nomatch z), ?_⟩, o, rfl, (fun _ _ _ _ _ _ z => z.elim), (fun _ _ _ _ _ _ z => z.elim), (fun _ _ _ _ _ _ z => z.elim), fun F' H' v X r => ?_⟩
    · have z := ini.ok (F := F) (H := H) r
      unfold L2.start
      rw [ini.len r]
      exact z
    · obtain ⟨p, vs', rfl, h0, fp, h', z, rr⟩ := r
      exact q F' H' p vs' X h0 fp h' z rr
/-- a new list, as any list -/
theorem Cal.plain {m : A → List β} {ok : A → Prop} (c : Cal P w K mg base k x (spO m ok)) : Cal P w K mg base k x (spP m ok) := by
  obtain ⟨f, fd, ps, F, h1, h2, h3⟩ := c.ex
  refine ⟨f, fd, ps, F.imp fun vs H Q E h => ?_, h1, h2, h3⟩
  obtain ⟨F, a, hs, r, o, q⟩ := h
  refine ⟨F, a, hs, r, o, fun F' H' p ws X hp fp h' z rr => ?_⟩
  have sm : Same F' (upd F' p (.lst ws)) := same_new fp
  refine q (upd F' p (.lst ws)) H' (.ref p) ⟨X.ff.trans sm, X.hh, fun b y e => ?_, fun b e n => ?_⟩ ⟨p, ws, rfl, upd_same, z, rr.mono sm⟩
  · by_cases hb : b = p
    · subst hb; rw [upd_same] at e; rw [h']; exact e
    · rw [upd_ne hb] at e; exact X.fh _ _ e
  · by_cases hb : b = p
    · subst hb; exact hp
    · rw [upd_ne hb] at n; exact X.nw b e n
theorem Cal.mono {sp : Sp} {j : Nat} (c : Cal P w K mg base j x sp) (h : j ≤ k) : Cal P w K mg base k x sp := by
  obtain ⟨f, fd, ps, F, h1, h2, h3⟩ := c.ex
  exact ⟨f, fd, ps, F.mono h, h1, h2, h3⟩
end
end PL
set_option Elab.async false
set_option linter.all false
set_option maxRecDepth 100000
/-! PL7: stores by an operator, by a place; pop; comprehensions over two. -/
namespace PL
open PySem PySem.Spec PyProof.Rows L2
variable {X : Cx} {E : Type} [ES E] {pos p0s p1s p2s : Pos}
section
variable {E1 E2 E' EB EC β : Type} [ES E1] [ES E2] [ES E'] [ES EB] [ES EC] {RR : RetK β}
/-! x op= e -/
theorem s_aug {α γ δ : Type} [Enc α] [Enc γ] [Enc δ] {op : Operator} {r : R2} {g : α → γ → δ} {k : α → γ → Prop} (ho : PIp X op r) (hr : R2S r g k) (v : Var E α) (q : Put E δ E') (hvq : q.i = v.i) {x : Str} {a : Expr} {f : E → γ} {ok : E → Prop} (hN : X.N.Nodup) (h : IE X a f ok) (hi : X.N[v.i]? = some x := by rfl)
    (hx : Loc X.env.scope x := by first | exact Or.inl rfl | exact Or.inr rfl) (hf : X.fn x = true ∨ X.env.scope.names.lookup x = some .local := by first | exact .inl rfl | exact .inr rfl) :
    SS (EB := EB) (EC := EC) X RR (.AugAssign (.Name x p1s) op a pos) (fun K e => K.nx (q.put e (g (v.get e) (f e)))) (fun K e => ok e ∧ k (v.get e) (f e) ∧ K.nx (q.put e (g (v.get e) (f e)))) :=
  ps_imp (ps_aug hN hi hx h ho hf) fun D σ H ⟨F0, H0, F, e, K, KO, b, s, ⟨o1, o2, o3⟩, hb, kk, _⟩ => by
    obtain ⟨os, nd, fr, rr⟩ := s.st
    obtain ⟨u, h1, h2⟩ := v.ok rr
    refine ⟨u, h1, F0, H0, F, e, s, o1, fun F1 H1 y X1 ry => hr F1 H1 u y _ _ _ X1.fh (Enc.mono X1.ff h2) ry o2 fun F2 H2 z X2 rz => ?_⟩
    have := (s.more (X1.trans X2)).put q rz
    rw [hvq] at this
    exact kk F2 H2 _ _ this (X1.trans X2).ff o3 hb
theorem ip_mulC : PIp X .Mult (rI CMul fun i j => .int (i * j)) := by
  intro pins s σ H x y v u Q I r1 r2 h
  obtain ⟨i, j, rfl, rfl, hc, q⟩ := h
  obtain ⟨t, rfl⟩ := r1
  obtain ⟨t', rfl⟩ := r2
  exact PySem.P.imul_int ⟨.int _, H, I.tok _, ⟨_, rfl⟩, q⟩ hc.ok
theorem ip_addS : PIp X .Add (fun x y H Q => ∃ i j, x = .str i ∧ y = .str j ∧ i.length + j.length ≤ sizeLine ∧ Q (.str (i ++ j)) H) := by
  intro pins s σ H x y v u Q I r1 r2 h
  obtain ⟨i, j, rfl, rfl, hz, q⟩ := h
  obtain ⟨t, rfl⟩ := r1
  obtain ⟨t', rfl⟩ := r2
  exact SB.iadd (fun t2 k => ⟨.str _, H, I.tok _, ⟨_, rfl⟩, q⟩) hz
theorem r2_addI : R2S (ipI fun i j => i + j) (fun a b : Int => a + b) Tr2 := r2_int
theorem r2_subI : R2S (ipI fun i j => i - j) (fun a b : Int => a - b) Tr2 := r2_int
end
end PL
set_option Elab.async false
set_option linter.all false
set_option maxRecDepth 100000
/-! PL8: equality at any depth; values of any kind. -/
namespace PL
open PySem PySem.Spec PyProof.Rows L2
variable {X : Cx} {E : Type} [ES E] {pos p0s p1s p2s : Pos}

/-! ## == of data -/
class DEq (α : Type) [Enc α] [DecidableEq α] where
  py : α → PyData
  dep : Nat
  dp : ∀ {K : PySem.W.Frag} {F H : Hp} {v : V} {a : α}, Same F H → rep F v a → Dp K H v (py a)
  lay : ∀ {F : Hp} {v : V} {a : α}, rep F v a → (py a).canLay0 = true
  hdep : ∀ a : α, (py a).depth ≤ dep
  eqv : ∀ a b : α, PyData.eqv (py a) (py b) = decide (a = b)
theorem strOk_of {s : S} (h : SOk s) : PyData.canLay0 (.str (toS s)) = true := by
  simp only [PyData.canLay0, PyData.strOk]
  rw [← Array.all_toList, List.all_eq_true]
  exact fun c hc => decide_eq_true (h.cps c hc)
instance : DEq Int := ⟨fun i => .int i, 0, fun _ r => by cases r; exact .int _, fun _ => by simp [PyData.canLay0], fun _ => by simp [PyData.depth], fun a b => by simp only [PyData.eqv]; exact Bool.beq_eq_decide_eq a b⟩
instance : DEq Bool := ⟨fun i => .bool i, 0, fun _ r => by cases r; exact .bl _, fun _ => by simp [PyData.canLay0], fun _ => by simp [PyData.depth], fun a b => by simp only [PyData.eqv]; exact Bool.beq_eq_decide_eq a b⟩
instance : DEq S := ⟨fun s => .str (toS s), 0, fun _ r => by obtain ⟨rfl, _⟩ := r; exact .str _, fun r => strOk_of r.2, fun _ => by simp [PyData.depth], fun a b => by simp only [PyData.eqv]; exact SX.S_beq_eq⟩
section
variable {α β γ : Type} [Enc α] [Enc β] [Enc γ] [DecidableEq α] [DecidableEq β] [DecidableEq γ] [DEq α] [DEq β] [DEq γ]
theorem dp_all {K : PySem.W.Frag} {F H : Hp} (h : Same F H) : ∀ {vs : List V} {xs : List α}, Reps F vs xs → DpAll K H vs (xs.map DEq.py)
  | _, _, .nil => .nil
  | _, _, .cons r t => .cons (DEq.dp h r) (dp_all h t)
theorem lay_all {F : Hp} : ∀ {vs : List V} {xs : List α}, Reps F vs xs → PyData.canLayAll0 (xs.map DEq.py) = true
  | _, _, .nil => by simp [PyData.canLayAll0]
  | _, _, .cons r t => by rw [List.map_cons]; simp only [PyData.canLayAll0]; rw [DEq.lay r, lay_all t]; rfl
theorem dep_all : ∀ xs : List α, PyData.depthAll (xs.map DEq.py) ≤ DEq.dep α
  | [] => by simp [PyData.depthAll]
  | x :: xs => by
    rw [List.map_cons]
    simp only [PyData.depthAll]
    have h1 := DEq.hdep x
    have h2 := dep_all xs
    omega
theorem eqv_all : ∀ xs ys : List α, PyData.eqvAll (xs.map DEq.py) (ys.map DEq.py) = decide (xs = ys)
  | [], [] => by simp [PyData.eqvAll]
  | [], _ :: _ => by simp [PyData.eqvAll]
  | _ :: _, [] => by simp [PyData.eqvAll]
  | x :: xs, y :: ys => by
    rw [List.map_cons, List.map_cons]
    simp only [PyData.eqvAll]
    rw [DEq.eqv, eqv_all xs ys]
    by_cases h : x = y <;> by_cases h' : xs = ys <;> simp [h, h']
instance : DEq (List α) := ⟨fun xs => .list (xs.map DEq.py), DEq.dep α + 1, fun h r => by
    obtain ⟨p, vs, rfl, hp, z, rr⟩ := r
    exact .lst (SqL.of (h _ _ hp)) (dp_all h rr), fun r => by
    obtain ⟨p, vs, rfl, hp, z, rr⟩ := r
    simp only [PyData.canLay0]; exact lay_all rr, fun a => by simp only [PyData.depth]; have := dep_all a; omega, fun a b => by simp only [PyData.eqv]; exact eqv_all a b⟩
instance : DEq (Tup α) := ⟨fun xs => .tuple (xs.l.map DEq.py), DEq.dep α + 1, fun h r => by
    obtain ⟨p, vs, rfl, hp, z, rr⟩ := r
    exact .tup (SqT.of (h _ _ hp)) (dp_all h rr), fun r => by
    obtain ⟨p, vs, rfl, hp, z, rr⟩ := r
    simp only [PyData.canLay0]; exact lay_all rr, fun a => by simp only [PyData.depth]; have := dep_all a.l; omega, fun a b => by
    simp only [PyData.eqv]; rw [eqv_all]; cases a; cases b; simp⟩
instance : DEq (α × β) := ⟨fun t => .tuple [DEq.py t.1, DEq.py t.2], max (DEq.dep α) (DEq.dep β) + 1, fun h r => by
    obtain ⟨p, x, y, rfl, hp, rx, ry⟩ := r
    exact .tup (SqT.of (h _ _ hp)) (.cons (DEq.dp h rx) (.cons (DEq.dp h ry) .nil)), fun r => by
    obtain ⟨p, x, y, rfl, hp, rx, ry⟩ := r
    simp only [PyData.canLay0, PyData.canLayAll0]; rw [DEq.lay rx, DEq.lay ry]; rfl, fun a => by
    simp only [PyData.depth, PyData.depthAll]; have h1 := DEq.hdep a.1; have h2 := DEq.hdep a.2; omega, fun a b => by
    simp only [PyData.eqv, PyData.eqvAll]; rw [DEq.eqv, DEq.eqv]; obtain ⟨a1, a2⟩ := a; obtain ⟨b1, b2⟩ := b
    by_cases h : a1 = b1 <;> by_cases h' : a2 = b2 <;> simp [h, h']⟩
instance : DEq (T3 α β γ) := ⟨fun t => .tuple [DEq.py t.a, DEq.py t.b, DEq.py t.c], max (DEq.dep α) (max (DEq.dep β) (DEq.dep γ)) + 1, fun h r => by
    obtain ⟨p, x, y, z, rfl, hp, rx, ry, rz⟩ := r
    exact .tup (SqT.of (h _ _ hp)) (.cons (DEq.dp h rx) (.cons (DEq.dp h ry) (.cons (DEq.dp h rz) .nil))), fun r => by
    obtain ⟨p, x, y, z, rfl, hp, rx, ry, rz⟩ := r
    simp only [PyData.canLay0, PyData.canLayAll0]; rw [DEq.lay rx, DEq.lay ry, DEq.lay rz]; rfl, fun a => by
    simp only [PyData.depth, PyData.depthAll]; have h1 := DEq.hdep a.a; have h2 := DEq.hdep a.b; have h3 := DEq.hdep a.c; omega, fun a b => by
    simp only [PyData.eqv, PyData.eqvAll]; rw [DEq.eqv, DEq.eqv, DEq.eqv]; obtain ⟨a1, a2, a3⟩ := a; obtain ⟨b1, b2, b3⟩ := b
    by_cases h : a1 = b1 <;> by_cases h' : a2 = b2 <;> by_cases h'' : a3 = b3 <;> simp [h, h', h'']⟩
variable {a b : Expr} {fa fb : E → α} {oka okb : E → Prop}
theorem shaped_of {F : Hp} {v : V} {x : α} (r : rep F v x) (hd : DEq.dep α ≤ 64) : SeqAt.shaped (DEq.py x) = true := by
  unfold SeqAt.shaped
  rw [DEq.lay r, decide_eq_true (Nat.le_trans (DEq.hdep x) hd)]
  rfl
theorem r2_eqD (K : PySem.W.Frag) (hd : DEq.dep α ≤ 64) : R2S (rEqD K) (fun a b : α => decide (a = b)) Tr2 := fun F H x y a b Q h r1 r2 _ q => by
  refine ⟨_, _, DEq.dp h r1, DEq.dp h r2, shaped_of r1 hd, shaped_of r2 hd, ?_⟩
  rw [DEq.eqv]
  exact flat_k h rfl q
theorem r2_neD (K : PySem.W.Frag) (hd : DEq.dep α ≤ 64) : R2S (rNeD K) (fun a b : α => !decide (a = b)) Tr2 := fun F H x y a b Q h r1 r2 _ q => by
  refine ⟨_, _, DEq.dp h r1, DEq.dp h r2, shaped_of r1 hd, shaped_of r2 hd, ?_⟩
  rw [DEq.eqv]
  exact flat_k h rfl q
theorem ie_eqD {k : Nat} (hr : Room k X.A) (ha : IE X a fa oka) (hb : IE X b fb okb) (hd : DEq.dep α ≤ 64 := by decide) : IE X (.Compare a [.Eq] [b] pos) (fun e => decide (fa e = fb e)) (fun e => oka e ∧ okb e) := ie_imp (ie_cmp (op_eqD hr.units) (r2_eqD _ hd) ha hb (nomark _)) (fun _ _ => rfl) fun e o => ⟨o.1, o.2, trivial⟩
theorem ie_neD {k : Nat} (hr : Room k X.A) (ha : IE X a fa oka) (hb : IE X b fb okb) (hd : DEq.dep α ≤ 64 := by decide) : IE X (.Compare a [.NotEq] [b] pos) (fun e => !decide (fa e = fb e)) (fun e => oka e ∧ okb e) := ie_imp (ie_cmp (op_neD hr.units) (r2_neD _ hd) ha hb (nomark _)) (fun _ _ => rfl) fun e o => ⟨o.1, o.2, trivial⟩
theorem it_eqD {k : Nat} (hr : Room k X.A) (ha : IE X a fa oka) (hb : IE X b fb okb) (hd : DEq.dep α ≤ 64 := by decide) : IT X (.Compare a [.Eq] [b] pos) (fun e => decide (fa e = fb e)) (fun e => oka e ∧ okb e) := it_imp (it_cmp (op_eqD hr.units) (r2_eqD _ hd) ha hb (nomark _)) (fun _ _ => rfl) fun e o => ⟨o.1, o.2, trivial⟩
theorem it_neD {k : Nat} (hr : Room k X.A) (ha : IE X a fa oka) (hb : IE X b fb okb) (hd : DEq.dep α ≤ 64 := by decide) : IT X (.Compare a [.NotEq] [b] pos) (fun e => !decide (fa e = fb e)) (fun e => oka e ∧ okb e) := it_imp (it_cmp (op_neD hr.units) (r2_neD _ hd) ha hb (nomark _)) (fun _ _ => rfl) fun e o => ⟨o.1, o.2, trivial⟩
end

/-! ## values of any kind -/
inductive D where
  | non
  | bl (b : Bool)
  | int (i : Int)
  | str (s : S)
  | lst (xs : List D)
  | tup (xs : List D)
  deriving Inhabited
mutual
def D.rep (F : Hp) : D → V → Prop
  | .non, v => v = .non
  | .bl b, v => v = .bl b
  | .int i, v => v = .int i
  | .str s, v => v = .str (toS s) ∧ SOk s
  | .lst xs, v => ∃ p vs, v = .ref p ∧ F p = some (.lst vs) ∧ vs.length ≤ sizeLine ∧ D.reps F xs vs
  | .tup xs, v => ∃ p vs, v = .ref p ∧ F p = some (.tup vs) ∧ vs.length ≤ sizeLine ∧ D.reps F xs vs
def D.reps (F : Hp) : List D → List V → Prop
  | [], vs => vs = []
  | d :: ds, vs => ∃ v ws, vs = v :: ws ∧ D.rep F d v ∧ D.reps F ds ws
end
mutual
theorem D.rep_mono {F F' : Hp} (h : Same F F') : ∀ (d : D) (v : V), D.rep F d v → D.rep F' d v
  | .non, _, r => r
  | .bl _, _, r => r
  | .int _, _, r => r
  | .str _, _, r => r
  | .lst xs, _, r => by
    obtain ⟨p, vs, e, hp, z, q⟩ := r
    exact ⟨p, vs, e, h _ _ hp, z, D.reps_mono h xs vs q⟩
  | .tup xs, _, r => by
    obtain ⟨p, vs, e, hp, z, q⟩ := r
    exact ⟨p, vs, e, h _ _ hp, z, D.reps_mono h xs vs q⟩
theorem D.reps_mono {F F' : Hp} (h : Same F F') : ∀ (ds : List D) (vs : List V), D.reps F ds vs → D.reps F' ds vs
  | [], _, r => r
  | d :: ds, _, r => by
    obtain ⟨v, ws, e, a, b⟩ := r
    exact ⟨v, ws, e, D.rep_mono h d v a, D.reps_mono h ds ws b⟩
end
instance : Enc D := ⟨fun F v d => D.rep F d v, fun h r => D.rep_mono h _ _ r⟩
theorem dreps {F : Hp} : ∀ {ds : List D} {vs : List V}, D.reps F ds vs → Reps F vs ds
  | [], vs, r => by cases (show vs = [] from r); exact .nil
  | d :: ds, vs, r => by
    obtain ⟨v, ws, rfl, a, b⟩ := r
    exact .cons a (dreps b)
theorem dreps' {F : Hp} : ∀ {ds : List D} {vs : List V}, Reps F vs ds → D.reps F ds vs
  | _, _, .nil => rfl
  | _, _, .cons r t => ⟨_, _, rfl, r, dreps' t⟩
/-- a value of a kind, as one of any kind -/
class ToD (α : Type) [Enc α] where
  d : α → D
  ok : ∀ {F : Hp} {v : V} {a : α}, rep F v a → D.rep F (d a) v
theorem ie_D {α : Type} [Enc α] [ToD α] {a : Expr} {f : E → α} {ok : E → Prop} (h : IE X a f ok) : IE X a (fun e => ToD.d (f e)) ok :=
  pe_imp h fun σ H Q ⟨F0, H0, F, e, s, o, q⟩ => ⟨F0, H0, F, e, s, o, fun F' H' v x r => q F' H' v x (ToD.ok r)⟩
instance : ToD D := ⟨fun d => d, fun r => r⟩
instance : ToD Int := ⟨.int, fun r => r⟩
instance : ToD Bool := ⟨.bl, fun r => r⟩
instance : ToD S := ⟨.str, fun r => r⟩
instance : ToD Unit := ⟨fun _ => .non, fun r => r⟩
section
variable {α β γ : Type} [Enc α] [Enc β] [Enc γ] [ToD α] [ToD β] [ToD γ]
instance : ToD (Option α) := ⟨fun o => match o with | none => .non | some a => ToD.d a, fun {F v a} r => by
  cases a with
  | none => exact r
  | some a => exact ToD.ok (α := α) r⟩
theorem tod_all {F : Hp} : ∀ {vs : List V} {xs : List α}, Reps F vs xs → D.reps F (xs.map ToD.d) vs
  | _, _, .nil => rfl
  | _, _, .cons r t => ⟨_, _, rfl, ToD.ok r, tod_all t⟩
instance : ToD (List α) := ⟨fun xs => .lst (xs.map ToD.d), fun r => by
  obtain ⟨p, vs, rfl, hp, z, rr⟩ := r
  exact ⟨p, vs, rfl, hp, z, tod_all rr⟩⟩
instance : ToD (Tup α) := ⟨fun xs => .tup (xs.l.map ToD.d), fun r => by
  obtain ⟨p, vs, rfl, hp, z, rr⟩ := r
  exact ⟨p, vs, rfl, hp, z, tod_all rr⟩⟩
instance : ToD (α × β) := ⟨fun t => .tup [ToD.d t.1, ToD.d t.2], fun r => by
  obtain ⟨p, x, y, rfl, hp, rx, ry⟩ := r
  exact ⟨p, [x, y], rfl, hp, by show 2 ≤ sizeLine; decide, _, _, rfl, ToD.ok rx, _, _, rfl, ToD.ok ry, rfl⟩⟩
instance : ToD (T3 α β γ) := ⟨fun t => .tup [ToD.d t.a, ToD.d t.b, ToD.d t.c], fun r => by
  obtain ⟨p, x, y, z, rfl, hp, rx, ry, rz⟩ := r
  exact ⟨p, [x, y, z], rfl, hp, by show 3 ≤ sizeLine; decide, _, _, rfl, ToD.ok rx, _, _, rfl, ToD.ok ry, _, _, rfl, ToD.ok rz, rfl⟩⟩
end
def D.items : D → List D
  | .lst xs => xs
  | .tup xs => xs
  | _ => []
def D.isL : D → Bool
  | .lst _ => true
  | _ => false
def D.isT : D → Bool
  | .tup _ => true
  | _ => false
def D.isB : D → Bool
  | .bl _ => true
  | _ => false
def D.isI : D → Bool
  | .bl _ => true
  | .int _ => true
  | _ => false
def D.isS : D → Bool
  | .str _ => true
  | _ => false
def D.isN : D → Bool
  | .non => true
  | _ => false
def D.tyName : D → String
  | .non => "NoneType"
  | .bl _ => "bool"
  | .int _ => "int"
  | .str _ => "str"
  | .lst _ => "list"
  | .tup _ => "tuple"
theorem d_ty {K : PySem.W.Frag} {F H : Hp} (h : Same F H) {d : D} {v : V} (r : D.rep F d v) : TyX K H v (.type d.tyName) := by
  cases d with
  | non => cases (show v = _ from r); exact .base .non
  | bl b => cases (show v = _ from r); exact .base (.bl b)
  | int b => cases (show v = _ from r); exact .base (.int b)
  | str b => cases (show v = _ from r.1); exact .base (.str _)
  | lst xs => obtain ⟨p, vs, rfl, hp, _⟩ := r; exact .base (.lst (h _ _ hp))
  | tup xs => obtain ⟨p, vs, rfl, hp, _⟩ := r; exact .base (.tup (h _ _ hp))
section
variable {a b : Expr} {f g : E → D} {oka okb : E → Prop}
theorem ie_isi (T : String) {x : Str} (is : D → Bool) (hk : ∀ d : D, kitB d.tyName T = some (is d)) (ha : IE X a f oka) (hT : X.mg x = none) (hm : X.mg "isinstance" = none) (hv : bootBuiltins x = some (.type T)) (hgT : Gl X x := by rfl) (hg : Gl X "isinstance" := by rfl)
    (hn : x ≠ "__name__" := by decide) (hd : (x == ("__debug__" : Str)) = false := by decide)
    (he : starEach [a, .Name x p2s] X.env = (false, eval a X.env) :: starEach [.Name x p2s] X.env := by rfl) (he2 : starEach [.Name x p2s] X.env = (false, eval (.Name x p2s) X.env) :: starEach [] X.env := by rfl) (hpl : (backTo pos (starEach [.Name x p2s] X.env)).any (·.1) = false := by rfl) :
    IE X (.Call (.Name "isinstance" p1s) [a, .Name x p2s] [] pos) (fun e => is (f e)) oka :=
  pe_imp (pe_callB call_isi hg hm (by decide +kernel) (pa_cons ha (pa_cons (pe_bltn (v := .ty T) hgT hT hv rfl hn hd) pa_nil he2) he) (he := he) (hpl := hpl)) fun σ H Q ⟨F0, H0, F, e, s, o, q⟩ =>
    ⟨F0, H0, F, e, s, o, fun F1 H1 v X1 r => ⟨v, .ty T, _, .type T, is (f e), rfl, .ty T, d_ty X1.fh r, kit_ty (hk (f e)), q F1 H1 _ X1 rfl⟩⟩
theorem d_isN {F : Hp} {d : D} {v : V} (r : D.rep F d v) : decide (v = .non) = d.isN := by
  cases d with
  | non => cases (show v = _ from r); rfl
  | bl b => cases (show v = _ from r); rfl
  | int b => cases (show v = _ from r); rfl
  | str b => cases (show v = _ from r.1); rfl
  | lst xs => obtain ⟨p, vs, rfl, hp, _⟩ := r; rfl
  | tup xs => obtain ⟨p, vs, rfl, hp, _⟩ := r; rfl
theorem ie_isD (ha : IE X a f oka) {j : Nat} : IE X (.Compare a [.Is] [.Constant .none j p1s] pos) (fun e => (f e).isN) oka :=
  pe_imp (pe_cmpR op_isN ha pe_non (nomark _)) fun σ H Q ⟨F0, H0, F, e, s, o, q⟩ => ⟨F0, H0, F, e, s, o, fun F1 H1 v X1 r => ⟨rfl, q F1 H1 _ X1 (congrArg V.bl (d_isN r))⟩⟩
theorem it_isD (ha : IE X a f oka) {j : Nat} : IT X (.Compare a [.Is] [.Constant .none j p1s] pos) (fun e => (f e).isN) oka :=
  pt_imp (pt_cmpR op_isN ha pe_non (nomark _)) fun σ H Q ⟨F0, H0, F, e, s, o, q⟩ => ⟨F0, H0, F, e, s, o, fun F1 H1 v X1 r => ⟨rfl, _, rfl, by rw [d_isN r]; exact q F1 H1 X1⟩⟩
theorem ie_lenD (ha : IE X a f oka) (hm : X.mg "len" = none) (hg : Gl X "len" := by rfl) (he : starEach [a] X.env = (false, eval a X.env) :: starEach [] X.env := by rfl) : IE X (.Call (.Name "len" p1s) [a] [] pos) (fun e => ((f e).items.length : Int)) (fun e => oka e ∧ ((f e).isL || (f e).isT) = true) :=
  ie_B (c := fun (t : D × Unit) => (t.1.isL || t.1.isT) = true) (g := fun (t : D × Unit) => (t.1.items.length : Int)) call_len (fun F H vs a Q h r k q => by
    obtain ⟨v, ws, rfl, r, rfl⟩ := r
    obtain ⟨d, _⟩ := a
    cases d with
    | lst xs =>
      obtain ⟨p, us, rfl, hp, z, rr⟩ := r
      exact ⟨_, us.length, rfl, .inl ⟨us, SqL.of (h _ _ hp), rfl⟩, q F H _ (Ext.refl h) (by rw [(dreps rr).length]; rfl)⟩
    | tup xs =>
      obtain ⟨p, us, rfl, hp, z, rr⟩ := r
      exact ⟨_, us.length, rfl, .inr ⟨us, SqT.of (h _ _ hp), rfl⟩, q F H _ (Ext.refl h) (by rw [(dreps rr).length]; rfl)⟩
    | _ => cases k) hg hm PySem.boot_len (ia_one ha he) (he := he)
theorem r2_ixD (K : PySem.W.Frag) : R2S (rIx K) (fun (d : D) (i : Int) => ixD d.items i) (fun d i => (d.isL || d.isT) = true ∧ ixOk d.items i) := fun F H x y a b Q h r1 r2 k q => by
  obtain ⟨k1, k2⟩ := k
  cases a with
  | lst xs =>
    obtain ⟨p, us, rfl, hp, z, rr⟩ := r1
    obtain ⟨v, e, rv⟩ := reps_atI (dreps rr) k2
    exact .inl ⟨p, us, b, v, rfl, r2, SqL.of (h _ _ hp), e, flat_k h rv q⟩
  | tup xs =>
    obtain ⟨p, us, rfl, hp, z, rr⟩ := r1
    obtain ⟨v, e, rv⟩ := reps_atI (dreps rr) k2
    exact .inr (.inl ⟨p, us, b, v, rfl, r2, SqT.of (h _ _ hp), e, flat_k h rv q⟩)
  | _ => cases k1
theorem ie_ixD {fi : E → Int} (ha : IE X a f oka) (hb : IE X b fi okb) (hs : PlainIx b := by exact fun _ _ => rfl) : IE X (.Subscript a b pos) (fun e => ixD (f e).items (fi e)) (fun e => oka e ∧ okb e ∧ ((f e).isL || (f e).isT) = true ∧ ixOk (f e).items (fi e)) :=
  pe_imp (pe_ix ix_seq ha hb hs) fun _ _ _ w => two (r2_ixD _) w
/-- == of flat ones of one kind -/
def D.flatEq : D → D → Bool
  | .non, .non => true
  | .bl a, .bl b => a == b
  | .int a, .int b => a == b
  | .str a, .str b => a == b
  | _, _ => false
def D.flatOk : D → D → Prop
  | .bl _, .bl _ => True
  | .int _, .int _ => True
  | .str _, .str _ => True
  | _, _ => False
theorem ie_eqF (ha : IE X a f oka) (hb : IE X b g okb) : IE X (.Compare a [.Eq] [b] pos) (fun e => (f e).flatEq (g e)) (fun e => oka e ∧ okb e ∧ (f e).flatOk (g e)) :=
  ie_cmp op_eq (fun F H x y a b Q h r1 r2 k q => by
    cases a <;> cases b <;> first | exact k.elim | skip
    · cases (show x = _ from r1); cases (show y = _ from r2)
      refine ⟨rfl, q F H _ (Ext.refl h) (congrArg V.bl ?_)⟩
      simp [D.flatEq, Bool.beq_eq_decide_eq]
    · cases (show x = _ from r1); cases (show y = _ from r2)
      refine ⟨rfl, q F H _ (Ext.refl h) (congrArg V.bl ?_)⟩
      simp [D.flatEq, Bool.beq_eq_decide_eq]
    · cases (show x = _ from r1.1); cases (show y = _ from r2.1)
      rename_i s t
      refine ⟨rfl, q F H _ (Ext.refl h) (congrArg V.bl ?_)⟩
      show decide (V.str (toS s) = V.str (toS t)) = (s == t)
      rw [Bool.beq_eq_decide_eq]
      exact decide_eq_decide.mpr ⟨fun z => toS_inj (V.str.inj z), fun z => by rw [z]⟩) ha hb (nomark _)
end
/-! what _law_same tells -/
mutual
def D.same : D → D → Bool
  | .non, .non => true
  | .bl a, .bl b => a == b
  | .int a, .int b => a == b
  | .str a, .str b => a == b
  | .lst xs, .lst ys => D.sames xs ys
  | .tup xs, .tup ys => D.sames xs ys
  | _, _ => false
def D.sames : List D → List D → Bool
  | [], [] => true
  | x :: xs, y :: ys => D.same x y && D.sames xs ys
  | _, _ => false
end
end PL
set_option Elab.async false
set_option linter.all false
set_option maxRecDepth 100000
/-! PL9: more words. -/
namespace PL
open PySem PySem.Spec PyProof.Rows L2
variable {X : Cx} {E : Type} [ES E] {pos p0s p1s p2s : Pos}
/-- what a def computes, and where it is safe -/
structure DefS (A β : Type) where
  m : A → β
  ok : A → Prop
theorem ie_pow {a b : Expr} {fa fb : E → Int} {oka okb : E → Prop} (ha : IE X a fa oka) (hb : IE X b fb okb) : IE X (.BinOp a .Pow b pos) (fun e => (fa e) ^ (fb e).toNat) (fun e => oka e ∧ okb e ∧ CPow (fa e) (fb e)) := ie_op op_pow r2_intc ha hb
theorem ie_unO {α : Type} [Enc α] [Inhabited α] {a : Expr} {f : E → Option α} {ok : E → Prop} (h : IE X a f ok) : IE X a (fun e => (f e).getD default) (fun e => ok e ∧ (f e).isSome = true) :=
  pe_imp h fun σ H Q ⟨F0, H0, F, e, s, ⟨o, k⟩, q⟩ => ⟨F0, H0, F, e, s, o, fun F' H' v x r => q F' H' v x (by
    cases hf : f e with
    | none => rw [hf] at k; cases k
    | some a => rw [hf] at r; show rep F' v ((f e).getD default); rw [hf]; exact r)⟩
/-! ## comprehensions, as values and assigned at once -/
structure LC (X : Cx) {E : Type} [ES E] {α : Type} [Enc α] (node : Expr) (f : E → List α) (ok : E → Prop) : Prop where
  io : IO X node f ok
  set : ∀ (i : Nat) (y : Str) (py spos : Pos), X.N[i]? = some y → X.env.scope.names.lookup y = some .local → swapsWith node (some (.Name y py)) spos.line X.env = pure true →
    ∃ te : TE, PS X (.Assign [.Name y py] node spos) (tAsg te (gName i)) ∧ ∀ σ H Q, tO f ok σ H Q → te σ H Q
section
variable {α β γ : Type} [Enc α] [Enc β] [Enc γ] {E1 E2 E3 E4 : Type} [ES E1] [ES E2] [ES E3] [ES E4]
theorem LC.imp {node : Expr} {f f' : E → List α} {ok ok' : E → Prop} (h : LC X node f ok) (hf : ∀ e, ok' e → f e = f' e) (ho : ∀ e, ok' e → ok e) : LC X node f' ok' := by
  have k : ∀ σ H Q, tO f' ok' σ H Q → tO f ok σ H Q := fun σ H Q ⟨F0, H0, F, e, s, o, q⟩ => ⟨F0, H0, F, e, s, ho e o, fun F' H' p vs x hp fp h' z r => q F' H' p vs x hp fp h' z (hf e o ▸ r)⟩
  refine ⟨pe_imp h.io k, fun i y py spos a b c => ?_⟩
  obtain ⟨te, h1, h2⟩ := h.set i y py spos a b c
  exact ⟨te, h1, fun σ H Q q => h2 σ H Q (k σ H Q q)⟩
theorem lc_c {elt tg iter : Expr} {ifs : List Expr} {scope : Scope} {own : List (Str × Nat)} {src : E → List α} {oks : E → Prop} {wp : Wp E E1 (own.map (·.2))} {g : TG} {put : E1 → α → E2} {us : List Nat} {c : E2 → Bool} {okc : E2 → Prop} {f : E2 → β} {okf : E2 → Prop}
    (hc : X.calm = true) (hN : X.N.Nodup) (hi : IS X tg iter src oks) (ok : blkC X.N X.env.scope scope own = true) (pt : Pat g E1 α E2 put us) (hus : ∀ i ∈ us, i ∈ own.map (·.2))
    (hg : ∀ (s : Shared) (H : Hp) (C : Addr) (cl : List (Str × Addr)) (fp : List Addr), PG (X.blk s H scope (compEnvC scope cl C X.env) fp) tg g)
    (ht : ∀ (s : Shared) (H : Hp) (C : Addr) (cl : List (Str × Addr)) (fp : List Addr), PTs (X.blk s H scope (compEnvC scope cl C X.env) fp) ifs (tT c okc))
    (he : ∀ (s : Shared) (H : Hp) (C : Addr) (cl : List (Str × Addr)) (fp : List Addr), IE (X.blk s H scope (compEnvC scope cl C X.env) fp) elt f okf) (hs : ∀ x, foldedSetIterable iter X.env x = pure x := by intro _; rfl) :
    LC X (.ListComp elt [⟨tg, iter, ifs, 0⟩] scope pos) (fun e => ((src e).filter fun a => c (put (wp.w e) a)).map fun a => f (put (wp.w e) a)) (fun e => oks e ∧ ∀ a ∈ src e, okc (put (wp.w e) a) ∧ (c (put (wp.w e) a) = true → okf (put (wp.w e) a))) :=
  ⟨io_lc hc hN hi ok pt hus hg ht he hs, fun i y py spos a b d => ⟨_, ps_setLc hc hN a b d hi (blkOk_by ok) hg ht he hs, fun σ H Q h => lc_read pt hus h⟩⟩
theorem lc_m {elt tg iter : Expr} {scope : Scope} {own : List (Str × Nat)} {src : E → List α} {oks : E → Prop} {wp : Wp E E1 (own.map (·.2))} {g : TG} {put : E1 → α → E2} {us : List Nat} {f : E2 → β} {okf : E2 → Prop}
    (hc : X.calm = true) (hN : X.N.Nodup) (hi : IS X tg iter src oks) (ok : blkC X.N X.env.scope scope own = true) (pt : Pat g E1 α E2 put us) (hus : ∀ i ∈ us, i ∈ own.map (·.2))
    (hg : ∀ (s : Shared) (H : Hp) (C : Addr) (cl : List (Str × Addr)) (fp : List Addr), PG (X.blk s H scope (compEnvC scope cl C X.env) fp) tg g)
    (he : ∀ (s : Shared) (H : Hp) (C : Addr) (cl : List (Str × Addr)) (fp : List Addr), IE (X.blk s H scope (compEnvC scope cl C X.env) fp) elt f okf) (hs : ∀ x, foldedSetIterable iter X.env x = pure x := by intro _; rfl) :
    LC X (.ListComp elt [⟨tg, iter, [], 0⟩] scope pos) (fun e => (src e).map fun a => f (put (wp.w e) a)) (fun e => oks e ∧ ∀ a ∈ src e, okf (put (wp.w e) a)) :=
  (lc_c (c := fun _ => true) (okc := okT) (wp := wp) hc hN hi ok pt hus hg (fun _ _ _ _ _ => its_nil) he hs).imp (fun e _ => by
    have e1 : (src e).filter (fun _ => true) = src e := List.filter_eq_self.mpr (fun _ _ => rfl)
    show ((src e).filter fun _ => true).map _ = _
    rw [e1]) fun e o => ⟨o.1, fun a ha => ⟨trivial, fun _ => o.2 a ha⟩⟩
/-- two clauses -/
theorem lc2_read {vs vs1 : List Nat} {src : E → List α} {oks : E → Prop} {wp : Wp E E1 vs} {g : TG} {put : E1 → α → E2} {us : List Nat} (pt : Pat g E1 α E2 put us) (hus : ∀ i ∈ us, i ∈ vs)
    {src1 : E2 → List γ} {oks1 : E2 → Prop} {wp1 : Wp E2 E3 vs1} {g1 : TG} {put1 : E3 → γ → E4} {us1 : List Nat} (pt1 : Pat g1 E3 γ E4 put1 us1) (hus1 : ∀ i ∈ us1, i ∈ vs1) {f : E4 → β} {okf : E4 → Prop} {σ : L2.St} {H : Hp} {Q : VK}
    (h : tO (fun e => (src e).flatMap fun a => (src1 (put (wp.w e) a)).map fun b => f (put1 (wp1.w (put (wp.w e) a)) b))
      (fun e => oks e ∧ (∀ a ∈ src e, oks1 (put (wp.w e) a) ∧ ∀ b ∈ src1 (put (wp.w e) a), okf (put1 (wp1.w (put (wp.w e) a)) b)) ∧ ((src e).flatMap fun a => src1 (put (wp.w e) a)).length ≤ sizeLine) σ H Q) :
    tLc2 (tS src oks) g tYes (tS src1 oks1) g1 tYes (tE f okf) vs vs1 σ H Q := by
  obtain ⟨F0, H0, F, e, s, ⟨o1, o2, o3⟩, q⟩ := h
  refine ⟨F0, H0, F, e, s, o1, fun J F1 H1 X1 jk D hD => ?_⟩
  have fD : F1 D = none := X1.fh.free hD
  have hlen : ∀ xs : List α, (xs.flatMap fun a => src1 (put (wp.w e) a)).length = (xs.flatMap fun a => (src1 (put (wp.w e) a)).map fun b => f (put1 (wp1.w (put (wp.w e) a)) b)).length := by
    intro xs
    induction xs with
    | nil => rfl
    | cons x xs ih => rw [List.flatMap_cons, List.flatMap_cons, List.length_append, List.length_append, ih, List.length_map]
  rw [hlen] at o3
  have q' : ∀ F' H' p vs, Ext F H F' H' → H p = none → F' p = none → H' p = some (.lst vs) → vs.length ≤ sizeLine → Reps F' vs ((src e).flatMap fun a => (src1 (put (wp.w e) a)).map fun b => f (put1 (wp1.w (put (wp.w e) a)) b)) → Q (.ref p) H' := q
  generalize hR : (fun a => (src1 (put (wp.w e) a)).map fun b => f (put1 (wp1.w (put (wp.w e) a)) b)) = R at q' o3
  have hRa : ∀ a, R a = (src1 (put (wp.w e) a)).map fun b => f (put1 (wp1.w (put (wp.w e) a)) b) := fun a => by rw [← hR]
  refine ⟨fun i m Hc => m = (src e).length - i ∧ i ≤ (src e).length ∧ ∃ Fc ws, Ext F1 H1 Fc Hc ∧ Fc D = none ∧ Hc D = some (.lst ws) ∧ Reps Fc ws (((src e).take i).flatMap R),
    ⟨_, rfl, Nat.zero_le _, F1, [], (Ext.refl X1.fh).newO hD, fD, upd_same, by simpa using Paired.nil⟩, ?_⟩
  rintro i m Hc ⟨rfl, hi, Fc, ws, Xc, fc, hc, rr⟩
  have keep : ∀ {Fa Ha Fb Hb : Hp} {ws : List V}, Ext Fa Ha Fb Hb → Fa D = none → Ha D = some (.lst ws) → Fb D = none ∧ Hb D = some (.lst ws) := fun {Fa Ha Fb Hb ws} x fa ha => ⟨(by
    cases y : Fb D with
    | none => rfl
    | some o =>
      have z := x.nw D fa (by rw [y]; exact Option.some_ne_none _)
      rw [ha] at z
      cases z), x.hh _ _ ha⟩
  by_cases hlt : i < (src e).length
  · refine .inr ?_
    have hx : (src e)[i]? = some (src e)[i] := List.getElem?_eq_getElem hlt
    obtain ⟨go, yld⟩ := (jk.at' i Fc Hc Xc.ff Xc.fh).1 _ hx
    refine ⟨go, fun H' => ∃ Fn ws, Ext F1 H1 Fn H' ∧ Fn D = none ∧ H' D = some (.lst ws) ∧ Reps Fn ws (((src e).take (i + 1)).flatMap R),
      fun H' ⟨Fn, ws', a1, a2, a3, a5⟩ => ⟨(src e).length - (i + 1), by omega, rfl, hlt, Fn, ws', a1, a2, a3, a5⟩, fun v H' hy => ?_⟩
    obtain ⟨F2, X2, rv⟩ := yld v H' hy
    have S2 : SR F0 H0 F2 H' (L2.wipe σ vs) (wp.w e) := ((s.more X1).more (Xc.trans X2)).wipe wp
    obtain ⟨p1, p2⟩ := o2 _ (List.mem_of_getElem? hx)
    refine pt.run S2 rv fun σ' S3' hw => ⟨by rw [hw vs hus, wipe_idem vs vs fun _ h => h], ?_⟩
    have S3 := S3' F2 H' S2 (Same.refl _)
    dsimp only [tYes]
    rw [if_pos rfl]
    refine ⟨F0, H0, F2, _, S3, p1, fun J1 F3 H3 X3 jk1 => ?_⟩
    have tk := take_succ_of (α := α) hx
    have hRx := hRa (src e)[i]
    have tot : (((src e).take i).flatMap R).length + (R (src e)[i]).length ≤ sizeLine := by
      have h1 : (((src e).take (i + 1)).flatMap R).length ≤ ((src e).flatMap R).length := by
        conv => rhs; rw [← List.take_append_drop (i + 1) (src e)]
        rw [List.flatMap_append, List.length_append]
        exact Nat.le_add_right _ _
      rw [tk, List.flatMap_append, List.flatMap_singleton, List.length_append] at h1
      omega
    generalize hxs : src1 (put (wp.w e) (src e)[i]) = ys at jk1 p2 hRx
    have X23 := X2.trans X3
    obtain ⟨k1, k2⟩ := keep X23 fc hc
    refine ⟨fun j k Hd => k = ys.length - j ∧ j ≤ ys.length ∧ ∃ Fd wd, Ext F1 H1 Fd Hd ∧ Same F3 Fd ∧ Fd D = none ∧ Hd D = some (.lst wd) ∧ Reps Fd wd (((src e).take i).flatMap R ++ (ys.take j).map fun b => f (put1 (wp1.w (put (wp.w e) (src e)[i])) b)),
      ⟨_, rfl, Nat.zero_le _, F3, ws, Xc.trans X23, Same.refl _, k1, k2, by simpa using rr.mono X23.ff⟩, ?_⟩
    rintro j k Hd ⟨rfl, hj, Fd, wd, Xd, md, fd, hd, rd⟩
    by_cases hlj : j < ys.length
    · refine .inr ?_
      have hy1 : ys[j]? = some ys[j] := List.getElem?_eq_getElem hlj
      obtain ⟨go1, yld1⟩ := (jk1.at' j Fd Hd md Xd.fh).1 _ hy1
      refine ⟨go1, fun H' => ∃ Fn wn, Ext F1 H1 Fn H' ∧ Same F3 Fn ∧ Fn D = none ∧ H' D = some (.lst wn) ∧ Reps Fn wn (((src e).take i).flatMap R ++ (ys.take (j + 1)).map fun b => f (put1 (wp1.w (put (wp.w e) (src e)[i])) b)),
        fun H' ⟨Fn, wn, a1, a2, a3, a4, a5⟩ => ⟨ys.length - (j + 1), by omega, rfl, hlj, Fn, wn, a1, a2, a3, a4, a5⟩, fun v1 H5 hy5 => ?_⟩
      obtain ⟨F5, X5, rv5⟩ := yld1 v1 H5 hy5
      have S5 : SR F0 H0 F5 H5 σ' (put (wp.w e) (src e)[i]) := S3' F5 H5 (((s.more X1).more (Xd.trans X5)).wipe wp) (X3.ff.trans (md.trans X5.ff))
      refine pt1.run (S5.wipe wp1) rv5 fun σ3 S6' hw3 => ⟨by rw [hw3 vs1 hus1, wipe_idem vs1 vs1 fun _ h => h], ?_⟩
      have S6 := S6' F5 H5 (S5.wipe wp1) (Same.refl _)
      dsimp only [tYes]
      rw [if_pos rfl]
      refine ⟨F0, H0, F5, _, S6, p2 _ (List.mem_of_getElem? hy1), fun F7 H7 y X7 ry => ?_⟩
      obtain ⟨g1', g2'⟩ := keep (X5.trans X7) fd hd
      refine ⟨wd, g2', ?_, F7, wd ++ [y], (Xd.trans (X5.trans X7)).redo hD g1', md.trans (X5.trans X7).ff, g1', upd_same, ?_⟩
      · rw [rd.length, List.length_append, List.length_map, List.length_take, Nat.min_eq_left hj]
        rw [hRx, List.length_map] at tot
        omega
      · rw [take_succ_of hy1, List.map_append, ← List.append_assoc]
        exact reps_append (rd.mono (X5.trans X7).ff) (.cons ry .nil)
    · have e2 : j = ys.length := by omega
      refine .inl ⟨(jk1.at' j Fd Hd md Xd.fh).2 e2, Fd, wd, Xd, fd, hd, ?_⟩
      rw [e2, List.take_length, ← hRx] at rd
      rw [tk, List.flatMap_append, List.flatMap_singleton]
      exact rd
  · have e1 : i = (src e).length := by omega
    refine .inl ⟨(jk.at' i Fc Hc Xc.ff Xc.fh).2 e1, ?_⟩
    rw [e1, List.take_length] at rr
    exact q' Fc Hc D ws (X1.trans Xc) (X1.hh.free hD) fc hc (by rw [rr.length]; exact o3) rr
theorem lc_m2 {elt tg iter tg1 iter1 : Expr} {scope : Scope} {own : List (Str × Nat)} {vs1 : List Nat} {src : E → List α} {oks : E → Prop} {wp : Wp E E1 (own.map (·.2))} {g : TG} {put : E1 → α → E2} {us : List Nat}
    {src1 : E2 → List γ} {oks1 : E2 → Prop} {wp1 : Wp E2 E3 vs1} {g1 : TG} {put1 : E3 → γ → E4} {us1 : List Nat} {f : E4 → β} {okf : E4 → Prop}
    (hc : X.calm = true) (hN : X.N.Nodup) (hi : IS X tg iter src oks) (ok : blkC X.N X.env.scope scope own = true) (hv : ∀ i ∈ vs1, i ∈ own.map (·.2)) (pt : Pat g E1 α E2 put us) (hus : ∀ i ∈ us, i ∈ own.map (·.2))
    (hg : ∀ (s : Shared) (H : Hp) (C : Addr) (cl : List (Str × Addr)) (fp : List Addr), PG (X.blk s H scope (compEnvC scope cl C X.env) fp) tg g)
    (hi1 : ∀ (s : Shared) (H : Hp) (C : Addr) (cl : List (Str × Addr)) (fp : List Addr), IS (X.blk s H scope (compEnvC scope cl C X.env) fp) tg1 iter1 src1 oks1) (pt1 : Pat g1 E3 γ E4 put1 us1) (hus1 : ∀ i ∈ us1, i ∈ vs1)
    (hg1 : ∀ (s : Shared) (H : Hp) (C : Addr) (cl : List (Str × Addr)) (fp : List Addr), PG (X.blk s H scope (compEnvC scope cl C X.env) fp) tg1 g1)
    (he : ∀ (s : Shared) (H : Hp) (C : Addr) (cl : List (Str × Addr)) (fp : List Addr), IE (X.blk s H scope (compEnvC scope cl C X.env) fp) elt f okf) (hs : ∀ x, foldedSetIterable iter X.env x = pure x := by intro _; rfl) (hs1 : ∀ env x, foldedSetIterable iter1 env x = pure x := by intro _ _; rfl) :
    LC X (.ListComp elt [⟨tg, iter, [], 0⟩, ⟨tg1, iter1, [], 0⟩] scope pos) (fun e => (src e).flatMap fun a => (src1 (put (wp.w e) a)).map fun b => f (put1 (wp1.w (put (wp.w e) a)) b))
      (fun e => oks e ∧ (∀ a ∈ src e, oks1 (put (wp.w e) a) ∧ ∀ b ∈ src1 (put (wp.w e) a), okf (put1 (wp1.w (put (wp.w e) a)) b)) ∧ ((src e).flatMap fun a => src1 (put (wp.w e) a)).length ≤ sizeLine) :=
  ⟨pe_imp (pe_lc2 hc hN hi (blkOk_by ok) hv hg (fun _ _ _ _ _ => pts_nil) hi1 hg1 (fun _ _ _ _ _ => pts_nil) he hs hs1) fun σ H Q h => lc2_read pt hus pt1 hus1 h,
    fun i y py spos a b d => ⟨_, ps_setLc2 hc hN a b d hi (blkOk_by ok) hv hg (fun _ _ _ _ _ => pts_nil) hi1 hg1 (fun _ _ _ _ _ => pts_nil) he hs hs1, fun σ H Q h => lc2_read pt hus pt1 hus1 h⟩⟩
end
section
variable {E' EB EC β : Type} [ES E'] [ES EB] [ES EC] {RR : RetK β}
theorem s_setLcO {α : Type} [Enc α] (q : Put E (Ow α) E') {x : Str} {node : Expr} {f : E → List α} {ok : E → Prop} (h : LC X node f ok) (hl : X.env.scope.names.lookup x = some .local) (hsw : swapsWith node (some (.Name x p1s)) pos.line X.env = pure true) (hi : X.N[q.i]? = some x := by rfl) :
    SS (EB := EB) (EC := EC) X RR (.Assign [.Name x p1s] node pos) (fun K e => K.nx (q.put e ⟨f e⟩)) (fun K e => ok e ∧ K.nx (q.put e ⟨f e⟩)) := by
  obtain ⟨te, h1, hr⟩ := h.set q.i x p1s pos hi hl hsw
  exact ps_imp h1 fun D σ H ⟨F0, H0, F, e, K, KO, b, s, ⟨o1, o2⟩, hb, k, _⟩ => hr σ H _ ⟨F0, H0, F, e, s, o1, fun F1 H1 p vs X1 hp fp h' z r => k F1 H1 _ _ (s.putO q X1 hp fp h' z r) X1.ff o2 hb⟩
theorem fz_read {α : Type} [Enc α] {f : E → List α} {ok : E → Prop} {σ : L2.St} {H : Hp} {Q : VK} (h : tE f ok σ H Q) : tO f ok σ H Q := by
  obtain ⟨F0, H0, F, e, s, o, q⟩ := h
  refine ⟨F0, H0, F, e, s, o, fun F' H' p vs x hp fp h' z r => ?_⟩
  have sm : Same F' (upd F' p (.lst vs)) := same_new fp
  refine q (upd F' p (.lst vs)) H' (.ref p) ⟨x.ff.trans sm, x.hh, fun b y e => ?_, fun b e n => ?_⟩ ⟨p, vs, rfl, upd_same, z, r.mono sm⟩
  · by_cases hb : b = p
    · subst hb; rw [upd_same] at e; rw [h']; exact e
    · rw [upd_ne hb] at e; exact x.fh _ _ e
  · by_cases hb : b = p
    · subst hb; exact hp
    · rw [upd_ne hb] at n; exact x.nw b e n
theorem s_setLc {α : Type} [Enc α] (q : Put E (List α) E') {x : Str} {node : Expr} {f : E → List α} {ok : E → Prop} (h : LC X node f ok) (hl : X.env.scope.names.lookup x = some .local) (hsw : swapsWith node (some (.Name x p1s)) pos.line X.env = pure true) (hi : X.N[q.i]? = some x := by rfl) :
    SS (EB := EB) (EC := EC) X RR (.Assign [.Name x p1s] node pos) (fun K e => K.nx (q.put e (f e))) (fun K e => ok e ∧ K.nx (q.put e (f e))) := by
  obtain ⟨te, h1, hr⟩ := h.set q.i x p1s pos hi hl hsw
  exact ps_imp h1 fun D σ H ⟨F0, H0, F, e, K, KO, b, s, ⟨o1, o2⟩, hb, k, _⟩ => hr σ H _ (fz_read ⟨F0, H0, F, e, s, o1, fun F1 H1 v X1 r => k F1 H1 _ _ ((s.more X1).put q r) X1.ff o2 hb⟩)
end
end PL
set_option Elab.async false
set_option linter.all false
set_option maxRecDepth 100000
set_option maxHeartbeats 1000000
/-! PLD: dict comprehensions with two clauses. -/
namespace PL
open PySem PySem.Spec PyProof.Rows L2

/-- the node -/
abbrev dcN (kx vx ta ia tb ib : Expr) (fa fb : List Expr) (sc : Scope) (pos : Pos) : Expr := .DictComp kx vx [⟨ta, ia, fa, 0⟩, ⟨tb, ib, fb, 0⟩] sc pos
section
variable {prog : Program} {w : World} {A : Around} {R : Result → Shared → Prop} {s : Shared} {kx vx ta ia tb ib : Expr} {fa fb : List Expr} {sc : Scope} {pos : Pos} {it : Value} {D : Addr} {env : Env}
theorem turn0 : compTurn (dcN kx vx ta ia tb ib fa fb sc pos) 0 it (.ref D) env = (do
    standAt ia.pos
    match ← pyNext it with
    | none => pure (.done .next)
    | some v =>
      letOwnedTupleGo ta it v
      assign ta env v
      let mut go := true
      for c in fa do
        if go then go ← isTrue c env (eval c env)
      if go then
        let y ← eval ib env
        standAt ib.pos
        let y ← foldedSetIterable ib env y
        let _ ← runOwn (.compStart (dcN kx vx ta ia tb ib fa fb sc pos) 1 (← holding [y] (pyIter y)) (.ref D) env) env
      again (.compLoop (dcN kx vx ta ia tb ib fa fb sc pos) 0 it (.ref D) env)) := by rfl
theorem turn1 : compTurn (dcN kx vx ta ia tb ib fa fb sc pos) 1 it (.ref D) env = (do
    standAt ib.pos
    match ← pyNext it with
    | none => pure (.done .next)
    | some v =>
      letOwnedTupleGo tb it v
      assign tb env v
      let mut go := true
      for c in fb do
        if go then go ← isTrue c env (eval c env)
      if go then
        (do
          let a ← eval kx env
          let b ← holding [a] (eval vx env)
          standAt { kx.pos with endLine := vx.pos.endLine, endCol := vx.pos.endCol }
          holding [a, b] (dictSet D a b))
      again (.compLoop (dcN kx vx ta ia tb ib fa fb sc pos) 1 it (.ref D) env)) := by rfl
/-- what is wanted of errors within the block -/
abbrev nb (prog : Program) (w : World) (A : Around) (env : Env) (R : Result → Shared → Prop) : Value → Shared → Prop := notedBy (model prog w) A env fun e z => R (.error e) z
/-- a clause's tests -/
abbrev chk (fs : List Expr) (env : Env) : Sem Bool := forIn fs true fun c r => if r = true then do let ok ← isTrue c env (eval c env); pure (ForInStep.yield ok) else pure (ForInStep.yield r)
theorem loop0 (hs : ∀ x, foldedSetIterable ib env x = pure x) (J : Nat → Shared → Prop)
    (step : ∀ n s, J n s → wpAny (model prog w) A (pyNext it) (fun r s1 => match r with
      | none => R (.ok .next) s1
      | some v => wpAny (model prog w) A (letOwnedTupleGo ta it v) (fun _ s2 => wpAny (model prog w) A (assign ta env v) (fun _ s3 => wpAny (model prog w) A (chk fa env) (fun ok s4 =>
          if ok = true then wpAny (model prog w) A (eval ib env) (fun y s5 => wpAny (model prog w) A (pyIter y) (fun it1 s6 =>
              codeAny (model prog w) A (.compStart (dcN kx vx ta ia tb ib fa fb sc pos) 1 it1 (.ref D) env) (fun r z => match r with
                | .ok _ => ∃ m, m < n ∧ J m z
                | .error _ => False) s6) (nb prog w A env R) s5) (nb prog w A env R) s4
          else ∃ m, m < n ∧ J m s4) (nb prog w A env R) s3) (nb prog w A env R) s2) (nb prog w A env R) s1) (nb prog w A env R) s)
    (n : Nat) (h : J n s) : codeAny (model prog w) A (.compLoop (dcN kx vx ta ia tb ib fa fb sc pos) 0 it (.ref D) env) R s := by
  refine codeAny_loop rfl J (fun n s hj => ?_) n h
  show wpAny _ A ((compTurn (dcN kx vx ta ia tb ib fa fb sc pos) 0 it (.ref D) env).onRaise fun x => do noteFrame x env; theTreesLotGoes x) _ _ s
  apply wpAny_noted
  rw [turn0]
  apply wpAny_bind; apply wpAny_standAt; apply wpAny_bind
  refine wpAny_mono (step n s hj) (fun r s1 h1 => ?_) (fun _ _ z => z)
  cases r with
  | none => exact wpAny_pure h1
  | some v =>
    apply wpAny_bind
    refine wpAny_mono h1 (fun _ s2 h2 => ?_) (fun _ _ z => z)
    apply wpAny_bind
    refine wpAny_mono h2 (fun _ s3 h3 => ?_) (fun _ _ z => z)
    apply wpAny_bind
    refine wpAny_mono h3 (fun ok s4 h4 => ?_) (fun _ _ z => z)
    cases ok with
    | false => exact wpAny_pure ⟨rfl, h4⟩
    | true =>
      apply wpAny_bind
      refine wpAny_mono h4 (fun y s5 h5 => ?_) (fun _ _ z => z)
      apply wpAny_bind; apply wpAny_standAt; apply wpAny_bind
      refine wpAny_of_eq (hs y) ?_
      apply wpAny_bind; apply wpAny_holding
      refine wpAny_mono h5 (fun it1 s6 h6 => ?_) (fun _ _ z => z)
      refine wpAny_bind (wpAny_runOwn ?_)
      rw [Around.mark_none]
      refine codeAny_mono h6 fun r z hr => ?_
      cases r with
      | error e => exact hr.elim
      | ok f =>
        first
          | exact wpAny_bind (wpAny_pure (wpAny_pure ⟨rfl, hr⟩))
          | exact wpAny_pure ⟨rfl, hr⟩
theorem loop1 (J : Nat → Shared → Prop)
    (step : ∀ n s, J n s → wpAny (model prog w) A (pyNext it) (fun r s1 => match r with
      | none => R (.ok .next) s1
      | some v => wpAny (model prog w) A (letOwnedTupleGo tb it v) (fun _ s2 => wpAny (model prog w) A (assign tb env v) (fun _ s3 => wpAny (model prog w) A (chk fb env) (fun ok s4 =>
          if ok = true then wpAny (model prog w) A (eval kx env) (fun a s5 => wpAny (model prog w) A (eval vx env) (fun b s6 =>
              wpAny (model prog w) A (dictSet D a b) (fun _ s7 => ∃ m, m < n ∧ J m s7) (nb prog w A env R) s6) (nb prog w A env R) s5) (nb prog w A env R) s4
          else ∃ m, m < n ∧ J m s4) (nb prog w A env R) s3) (nb prog w A env R) s2) (nb prog w A env R) s1) (nb prog w A env R) s)
    (n : Nat) (h : J n s) : codeAny (model prog w) A (.compLoop (dcN kx vx ta ia tb ib fa fb sc pos) 1 it (.ref D) env) R s := by
  refine codeAny_loop rfl J (fun n s hj => ?_) n h
  show wpAny _ A ((compTurn (dcN kx vx ta ia tb ib fa fb sc pos) 1 it (.ref D) env).onRaise fun x => do noteFrame x env; theTreesLotGoes x) _ _ s
  apply wpAny_noted
  rw [turn1]
  apply wpAny_bind; apply wpAny_standAt; apply wpAny_bind
  refine wpAny_mono (step n s hj) (fun r s1 h1 => ?_) (fun _ _ z => z)
  cases r with
  | none => exact wpAny_pure h1
  | some v =>
    apply wpAny_bind
    refine wpAny_mono h1 (fun _ s2 h2 => ?_) (fun _ _ z => z)
    apply wpAny_bind
    refine wpAny_mono h2 (fun _ s3 h3 => ?_) (fun _ _ z => z)
    apply wpAny_bind
    refine wpAny_mono h3 (fun ok s4 h4 => ?_) (fun _ _ z => z)
    cases ok with
    | false => exact wpAny_pure ⟨rfl, h4⟩
    | true =>
      apply wpAny_bind; apply wpAny_bind
      refine wpAny_mono h4 (fun a s5 h5 => ?_) (fun _ _ z => z)
      apply wpAny_bind; apply wpAny_holding
      refine wpAny_mono h5 (fun b s6 h6 => ?_) (fun _ _ z => z)
      apply wpAny_bind; apply wpAny_standAt; apply wpAny_holding
      refine wpAny_mono h6 (fun _ s7 h7 => ?_) (fun _ _ z => z)
      exact wpAny_pure ⟨rfl, h7⟩
/-- the second clause begins -/
theorem begin1 (h0 : codeAny (model prog w) A (.compLoop (dcN kx vx ta ia tb ib fa fb sc pos) 1 it (.ref D) env) R s)
    (h : wpAny (model prog w) A (pyIter it) (fun i2 z => codeAny (model prog w) A (.compLoop (dcN kx vx ta ia tb ib fa fb sc pos) 1 i2 (.ref D) env) R z) (nb prog w A env R) s) :
    codeAny (model prog w) A (.compStart (dcN kx vx ta ia tb ib fa fb sc pos) 1 it (.ref D) env) R s := by
  apply codeAny_of_tree
  show wpAny _ _ ((compStart (dcN kx vx ta ia tb ib fa fb sc pos) 1 it (.ref D) env).onRaise fun x => do noteFrame x env; standAt theWindowsPlace) _ _ s
  apply wpAny_notedAt
  unfold compStart
  show wpAny _ _ (ask >>= _) _ _ s
  apply wpAny_bind; apply wpAny_askSetting; apply wpAny_ite
  split
  · first
      | exact wpAny_pure (And.intro rfl h0)
      | exact wpAny_bind (wpAny_pure (wpAny_pure (And.intro rfl h0)))
  · refine wpAny_bind (wpAny_rule ?_)
    first
      | exact wpAny_bind (wpAny_standAt (wpAny_bind (wpAny_mono h (fun i2 z q => wpAny_pure (And.intro rfl q)) fun _ _ x => x)))
      | (show wpAny _ _ (standAt ib.pos >>= _) _ _ s; exact wpAny_bind (wpAny_standAt (wpAny_bind (wpAny_mono h (fun i2 z q => wpAny_pure (And.intro rfl q)) fun _ _ x => x))))
end

/-! the rule -/
section
variable {X : Cx}
/-- what a dict comprehension of two clauses (no tests) asks: Dd the new dict -/
def tDc2 (wi : TI) (g : TG) (wi1 : TI) (g1 : TG) (tk tv : TE) (vs vs1 : List Nat) : TE := fun σ H Q => wi σ H fun J Ha => ∀ Dd, Ha Dd = none → ∃ W : Nat → Nat → Hp → Prop, (∃ m, W 0 m (upd Ha Dd (.dK []))) ∧ ∀ i m H, W i m H →
  (J.stop i H ∧ Q (.ref Dd) H) ∨ (J.go i H ∧ ∃ Nx : Hp → Prop, (∀ H', Nx H' → ∃ m', m' < m ∧ W (i + 1) m' H') ∧ ∀ x H', J.yld i H x H' → g x (wipe σ vs) H' fun σ2 H2 => wipe σ2 vs = wipe σ vs ∧
    wi1 σ2 H2 fun J1 H4 => ∃ W1 : Nat → Nat → Hp → Prop, (∃ m, W1 0 m H4) ∧ ∀ j k H, W1 j k H →
      (J1.stop j H ∧ Nx H) ∨ (J1.go j H ∧ ∃ Ny : Hp → Prop, (∀ H', Ny H' → ∃ k', k' < k ∧ W1 (j + 1) k' H') ∧ ∀ x H', J1.yld j H x H' → g1 x (wipe σ2 vs1) H' fun σ3 H5 => wipe σ3 vs1 = wipe σ2 vs1 ∧
        tk σ3 H5 fun y H6 => tv σ3 H6 fun z H7 => ∃ kvs key, y = kV key ∧ H7 Dd = some (.dK kvs) ∧ kvs.length < sizeLine ∧ Ny (upd H7 Dd (.dK (putK kvs key z)))))
abbrev Blk (X : Cx) (sc : Scope) (f : Cx → Prop) : Prop := ∀ (s : Shared) (H : Hp) (C : Addr) (cl : List (Str × Addr)) (fp : List Addr), f (X.blk s H sc (compEnvC sc cl C X.env) fp)
theorem pe_dc2 {kx vx ta ia tb ib : Expr} {sc : Scope} {own : List (Str × Nat)} {vs1 : List Nat} {pos : Pos} {wi wi1 : TI} {g g1 : TG} {tk tv : TE} (hc : X.calm = true) (hN : X.N.Nodup) (hi : PI X ta ia wi) (ok : BlkOk X.N X.env.scope sc own) (hv : ∀ i ∈ vs1, i ∈ own.map (·.2))
    (hg : Blk X sc fun Y => PG Y ta g) (hi1 : Blk X sc fun Y => PI Y tb ib wi1) (hg1 : Blk X sc fun Y => PG Y tb g1) (hk : Blk X sc fun Y => PE Y kx tk) (he : Blk X sc fun Y => PE Y vx tv)
    (hs : ∀ x, foldedSetIterable ia X.env x = pure x := by intro _; rfl) (hs1 : ∀ env x, foldedSetIterable ib env x = pure x := by intro _ _; rfl) :
    PE X (dcN kx vx ta ia tb ib [] [] sc pos) (tDc2 wi g wi1 g1 tk tv (own.map (·.2)) vs1) := by
  refine ⟨fun pins s σ H Q I h => ?_⟩
  rw [arm_eval_DictComp]
  have free : ∀ y ∈ sc.names, y.2 = .free → ∃ c, X.env.cells.lookup y.1 = some c := fun y hy e => (ok.free y hy e).elim (fun k => I.ok.has _ (.inl k)) fun k => I.ok.has _ (.inr k)
  show wpAny _ _ (comprehension (dcN kx vx ta ia tb ib [] [] sc pos) sc X.env _ newDict false (eval ia X.env) none) _ _ s
  refine wpAny_comprehension_free (use := none) rfl hs (closure_ok free) ok.kind (fun y hy e => by rw [ok.uniq y hy, e]) (thn (hi.run pins s σ H _ I h) fun xv sa hx => thn hx fun itv sb hb => ?_)
  obtain ⟨it, fp, tn, J, Hb, e, Ib, T, tnb, fpb, body⟩ := hb
  subst e
  refine wpAny_newObj_type (newEnv_comp ?_)
  -- the new dict at Dd
  generalize eD : sb.heap.objs.size = Dd
  have freeD : Hb Dd = none := Ib.hok.fresh (Nat.le_of_eq eD)
  obtain ⟨W, ⟨m0, w0⟩, turn⟩ := body Dd freeD
  generalize eS : ({ sb with heap := sb.heap.push { cls := .type "dict", data := .dict #[] } } : Shared) = sd
  have hpS : sd.heap = sb.heap.push { cls := .type "dict", data := .dict #[] } := by rw [← eS]
  have old : ∀ b o, sb.heap.get? b = some o → sd.heap.get? b = some o := fun b o q => by rw [hpS]; exact Heap.get?_push_of_some _ q
  have Id : Inv X pins σ (upd Hb Dd (.dK [])) sd := by
    rw [← eS]
    refine Ib.laid (t' := sb.toks) (fun b o q => Heap.get?_push_of_some _ q) (Nat.le_of_eq eD) ?_
    rw [← eD]
    exact dk_empty sb.heap Ib.big
  have fpd : ∀ b ∈ fp, FpOk X pins (upd Hb Dd (.dK [])) b ∧ b < sd.heap.objs.size := fun b hb => by
    obtain ⟨o, q, _⟩ := T.obj _ _ tnb b hb
    have lt := Heap.lt_size q
    exact ⟨⟨by rw [upd_ne (by rw [← eD]; exact Nat.ne_of_lt lt)]; exact (fpb b hb).1, (fpb b hb).2⟩, by rw [hpS, Heap.size_push]; exact Nat.lt_succ_of_lt lt⟩
  have tnd : tn 0 sd.heap := T.keep _ _ _ tnb fun b _ o q => old b o q
  have Ie := block_start Id ok hN fpd
  generalize eH : upd Hb Dd (.dK []) = Hd at Id Ie w0 fpd
  generalize eC : cellsFrom (sd.heap.objs.size + 1) sc.names (cloFrom X.env.cells sc.names []) = cls at Ie
  have rg := hg sd Hd sd.heap.objs.size cls fp
  have ri := hi1 sd Hd sd.heap.objs.size cls fp
  have rg1 := hg1 sd Hd sd.heap.objs.size cls fp
  have rk := hk sd Hd sd.heap.objs.size cls fp
  have rv := he sd Hd sd.heap.objs.size cls fp
  show codeAny _ _ (.compStart (dcN kx vx ta ia tb ib [] [] sc pos) 0 (.ref it) (.ref Dd) (compEnvC sc cls sd.heap.objs.size X.env)) (compPost (model X.prog X.w) X.A X.xe none (EP X pins σ Q) (.ref Dd) sd.heap.objs.size) { sd with heap := pushCells (sd.heap.push { cls := .type "dict", data := .dict #[] }) sc.names }
  have eL : (compEnvC sc cls sd.heap.objs.size X.env).locals = sd.heap.objs.size := rfl
  generalize compEnvC sc cls sd.heap.objs.size X.env = ce at Ie rg ri rg1 rk rv eL ⊢
  have none0 : ∀ b ∈ fp, Hd b = none := fun b hb => (fpd b hb).1.1
  generalize eE : ({ sd with heap := pushCells (sd.heap.push { cls := .type "dict", data := .dict #[] }) sc.names } : Shared) = se at Ie ⊢
  have tne : tn 0 se.heap := T.keep _ _ _ tnd fun b _ o q => by rw [← eE]; exact pushCells_keeps _ _ _ _ (Heap.get?_push_of_some _ q)
  have fpo : ∀ {σ' : L2.St} {H' : Hp} {z : Shared}, Inv (X.blk sd Hd sc ce fp) [] σ' H' z → (∀ b ∈ fp, H' b = none) → ∀ b ∈ fp, FpOk (X.blk sd Hd sc ce fp) [] H' b := fun {σ' H' z} I' hn b hb =>
    ⟨hn b hb, (I'.ok.exf b hb).1, I'.ok.exfs b hb, .inl hb, fun x c q => (I'.ok.exf b hb).2 x c q, fun p hp => by cases hp⟩
  have loop : codeAny (model X.prog X.w) X.A (.compLoop (dcN kx vx ta ia tb ib [] [] sc pos) 0 (.ref it) (.ref Dd) ce) (compPost (model X.prog X.w) X.A X.xe none (EP X pins σ Q) (.ref Dd) sd.heap.objs.size) se := by
    refine loop0 (hs1 ce) (fun n z => ∃ i H', Inv (X.blk sd Hd sc ce fp) [] (wipe σ (own.map (·.2))) H' z ∧ tn i z.heap ∧ (∀ b ∈ fp, H' b = none) ∧ W i n H') ?_ m0 ⟨0, Hd, Ie, tne, none0, w0⟩
    rintro n z1 ⟨i, H1, I1, tn1, no1, w1⟩
    rcases turn i n H1 w1 with ⟨stop, fin⟩ | ⟨go, Nx, hNx, step⟩
    · refine thnF (T.done (X.blk sd Hd sc ce fp) rfl rfl rfl hc i [] z1 _ H1 (fun _ _ => False) I1 (fpo I1 no1) tn1 stop) fun r z2 hr => ?_
      obtain ⟨rfl, I2⟩ := hr
      have back : Inv X pins σ H1 z2 := Id.call' (ch := fp) I2.os I2.base I2.hok I2.bare fun b hb => ⟨(fpd b hb).1.2.2.2.1, (fpd b hb).1.2.1, (fpd b hb).1.2.2.2.2.1, (fpd b hb).1.2.2.2.2.2⟩
      obtain ⟨m, ns, _⟩ := I2.loc
      have ns : z2.heap.Ns ce.locals m := ns
      rw [eL] at ns
      have cl : H1 sd.heap.objs.size = none := by have q : H1 ce.locals = none := I2.free; rw [eL] at q; exact q
      obtain ⟨f0, f1, f2, f3, f4, f5⟩ := Id.fpOk (Nat.le_refl _) cl
      exact ⟨m, ns, fun h'' sb => ⟨.ref Dd, H1, back.turned (t' := z2.toks) (fun b o hb q => (sb.2 b hb).trans q) f0 f1 f3 f4 f5, rfl, fin⟩⟩
    · refine thnF (T.item (X.blk sd Hd sc ce fp) rfl rfl rfl hc i [] z1 _ H1 (fun _ _ => False) I1 (fpo I1 no1) tn1 go) fun r z2 hr => ?_
      obtain ⟨u, rfl, nxt⟩ := hr
      refine thnF nxt fun _ z3 h3 => ?_
      obtain ⟨x, H3, I3, r3, y3, tn3, no3⟩ := h3
      have I3p := I3.pinned (fpo I3 no3) (T.obj _ _ tn3)
      refine thnF (rg.run _ z3 _ H3 x u _ I3p r3 (step x H3 y3)) fun _ z4 h4 => ?_
      obtain ⟨σ4, H4, I4, w4, q4⟩ := h4
      have ends : ∀ {σ' : L2.St} {z : Shared} {H' : Hp}, Inv (X.blk sd Hd sc ce fp) ([] ++ pinsAt fp z3.heap) σ' H' z → (wipe σ (own.map (·.2))).length = σ'.length → (∀ (j : Nat) v, (wipe σ (own.map (·.2)))[j]? = some (some v) → σ'[j]? = some (some v)) → Nx H' →
          ∃ m, m < n ∧ ∃ i H', Inv (X.blk sd Hd sc ce fp) [] (wipe σ (own.map (·.2))) H' z ∧ tn i z.heap ∧ (∀ b ∈ fp, H' b = none) ∧ W i m H' := fun {σ' z H'} I' len kn nx => by
        obtain ⟨m', lt, w'⟩ := hNx H' nx
        have held : ∀ b ∈ fp, ∀ o, z3.heap.get? b = some o → z.heap.get? b = some o ∧ H' b = none := fun b hb o q => ⟨(I'.pin (b, o) (List.mem_append_right _ (List.mem_append_right _ (mem_pinsAt hb q)))).1, (I'.pin (b, o) (List.mem_append_right _ (List.mem_append_right _ (mem_pinsAt hb q)))).2.1⟩
        refine ⟨m', lt, i + 1, H', (I'.unpinned (pins := [])).weak len kn, T.keep _ _ _ tn3 fun b hb o q => (held b hb o q).1, fun b hb => ?_, w'⟩
        obtain ⟨o, q, _⟩ := T.obj _ _ tn3 b hb
        exact (held b hb o q).2
      have len4 : (wipe σ (own.map (·.2))).length = σ4.length := by rw [← w4, wipe_length]
      have kn5 : ∀ (j : Nat) v, (wipe σ (own.map (·.2)))[j]? = some (some v) → (wipe σ4 vs1)[j]? = some (some v) := fun j v q => by
        rw [← w4] at q
        obtain ⟨a, b⟩ := wipe_some q
        rw [wipe_out fun z => b (hv j z)]
        exact a
      refine wpAny_tests_nil ?_
      rw [if_pos rfl]
      refine thnF (ri.run _ z4 σ4 H4 _ I4 q4) fun xv z5 hx => thnF hx fun itv z6 h6 => ?_
      obtain ⟨it1, fp1, tm, J1, H6, e1, I6, T1, tm6, fp6, W1, ⟨m1, v1⟩, turn1⟩ := h6
      subst e1
      have fpo1 : ∀ {H' : Hp}, (∀ b ∈ fp1, H' b = none) → ∀ b ∈ fp1, FpOk (X.blk sd Hd sc ce fp) ([] ++ pinsAt fp z3.heap) H' b := fun hn b hb => ⟨hn b hb, (fp6 b hb).2⟩
      have inner : codeAny (model X.prog X.w) X.A (.compLoop (dcN kx vx ta ia tb ib [] [] sc pos) 1 (.ref it1) (.ref Dd) ce) (fun r z => match r with
          | .ok _ => ∃ m, m < n ∧ ∃ i H', Inv (X.blk sd Hd sc ce fp) [] (wipe σ (own.map (·.2))) H' z ∧ tn i z.heap ∧ (∀ b ∈ fp, H' b = none) ∧ W i m H'
          | .error _ => False) z6 := by
        refine loop1 (fun k z => ∃ j H', Inv (X.blk sd Hd sc ce fp) ([] ++ pinsAt fp z3.heap) (wipe σ4 vs1) H' z ∧ tm j z.heap ∧ (∀ b ∈ fp1, H' b = none) ∧ W1 j k H') ?_ m1 ⟨0, H6, I6.weak (wipe_length _ _) (fun j v q => (wipe_some q).1), tm6, fun b hb => (fp6 b hb).1, v1⟩
        rintro k y1 ⟨j, G1, K1, tk1, no, ww⟩
        rcases turn1 j k G1 ww with ⟨stop1, nx1⟩ | ⟨go1, Ny, hNy, step1⟩
        · refine thnF (T1.done (X.blk sd Hd sc ce fp) rfl rfl rfl hc j _ y1 (wipe σ4 vs1) G1 (fun _ _ => False) K1 (fpo1 no) tk1 stop1) fun r y2 hr => ?_
          obtain ⟨rfl, K2⟩ := hr
          exact ends K2 (len4.trans (wipe_length σ4 vs1).symm) kn5 nx1
        · refine thnF (T1.item (X.blk sd Hd sc ce fp) rfl rfl rfl hc j _ y1 (wipe σ4 vs1) G1 (fun _ _ => False) K1 (fpo1 no) tk1 go1) fun r y2 hr => ?_
          obtain ⟨u1, rfl, nxt1⟩ := hr
          refine thnF nxt1 fun _ y3 h3 => ?_
          obtain ⟨x1, G3, K3, s3, yy, tk3, no3'⟩ := h3
          have K3p := K3.pinned (fpo1 no3') (T1.obj _ _ tk3)
          refine thnF (rg1.run _ y3 (wipe σ4 vs1) G3 x1 u1 _ K3p s3 (step1 x1 G3 yy)) fun _ y4 h4 => ?_
          obtain ⟨σ6, G4, K4, w6, q6⟩ := h4
          have ends1 : ∀ {z : Shared} {H' : Hp}, Inv (X.blk sd Hd sc ce fp) (([] ++ pinsAt fp z3.heap) ++ pinsAt fp1 y3.heap) σ6 H' z → Ny H' → ∃ m, m < k ∧ ∃ j H', Inv (X.blk sd Hd sc ce fp) ([] ++ pinsAt fp z3.heap) (wipe σ4 vs1) H' z ∧ tm j z.heap ∧ (∀ b ∈ fp1, H' b = none) ∧ W1 j m H' := fun {z H'} I' nx => by
            obtain ⟨m', lt, w'⟩ := hNy H' nx
            have held : ∀ b ∈ fp1, ∀ o, y3.heap.get? b = some o → z.heap.get? b = some o ∧ H' b = none := fun b hb o q => ⟨(I'.pin (b, o) (List.mem_append_right _ (List.mem_append_right _ (mem_pinsAt hb q)))).1, (I'.pin (b, o) (List.mem_append_right _ (List.mem_append_right _ (mem_pinsAt hb q)))).2.1⟩
            refine ⟨m', lt, j + 1, H', I'.unpinned.weak (by rw [← w6, wipe_length]) (fun j v q => by rw [← w6] at q; exact (wipe_some q).1), T1.keep _ _ _ tk3 fun b hb o q => (held b hb o q).1, fun b hb => ?_, w'⟩
            obtain ⟨o, q, _⟩ := T1.obj _ _ tk3 b hb
            exact (held b hb o q).2
          refine wpAny_tests_nil ?_
          rw [if_pos rfl]
          refine thnF (rk.run _ y4 σ6 G4 _ K4 q6) fun a y5 h5 => ?_
          obtain ⟨ya, G5, K5, r5, q5⟩ := h5
          refine thnF (rv.run _ y5 σ6 G5 _ K5 q5) fun b y6 h6 => ?_
          obtain ⟨yb, G6, K6, r6, kvs, key, ek, hD6, sz6, nx⟩ := h6
          subst ek
          exact d_dictSet (X := X.blk sd Hd sc ce fp) K6 hD6 sz6 r5 r6 fun y7 K7 => ends1 K7 nx
      exact begin1 inner (T1.self X.A 0 _ _ _ tm6 inner)
  exact codeAny_compStart_dict loop (T.self X.A 0 _ _ _ tne loop)
end
end PL
set_option Elab.async false
set_option linter.all false
set_option maxRecDepth 100000
/-! PLE: dicts with keys that are ints or texts. -/
namespace PL
open PySem PySem.Spec PyProof.Rows L2
variable {X : Cx} {E : Type} [ES E] {pos p0s p1s p2s : Pos}

class KeyE (κ : Type) [Enc κ] [DecidableEq κ] where
  key : κ → Key
  inj : ∀ {a b : κ}, key a = key b → a = b
  ok : ∀ {F : Hp} {v : V} {k : κ}, rep F v k → v = kV (key k)
instance : KeyE Int := ⟨.inl, fun h => Sum.inl.inj h, fun h => h⟩
instance : KeyE S := ⟨fun s => .inr (toS s), fun h => toS_inj (Sum.inr.inj h), fun h => h.1⟩
section
variable {κ β : Type} [DecidableEq κ]
def putD (l : List (κ × β)) (k : κ) (v : β) : List (κ × β) :=
  if (l.any fun p => decide (p.1 = k)) = true then l.map (fun p => if p.1 = k then (p.1, v) else p) else l ++ [(k, v)]
def lookD (l : List (κ × β)) (k : κ) : Option β := (l.find? fun p => decide (p.1 = k)).map (·.2)
theorem putD_len (l : List (κ × β)) (k : κ) (v : β) : (putD l k v).length ≤ l.length + 1 := by
  unfold putD
  split
  · rw [List.length_map]; omega
  · rw [List.length_append]; exact Nat.le_refl _
variable [Enc κ] [KeyE κ] [Enc β]
abbrev DPair (F : Hp) : Key × V → κ × β → Prop := fun p q => p.1 = KeyE.key q.1 ∧ rep F p.2 q.2
abbrev DPairs (F : Hp) : List (Key × V) → List (κ × β) → Prop := Paired (DPair F)
theorem DPairs.mono {F F' : Hp} (h : Same F F') {a : List (Key × V)} {l : List (κ × β)} (r : DPairs F a l) : DPairs F' a l := Paired.mapP r fun _ _ q => ⟨q.1, Enc.mono h q.2⟩
theorem dp_any {F : Hp} (k : κ) : ∀ {a : List (Key × V)} {l : List (κ × β)}, DPairs F a l → (a.any fun p => decide (p.1 = KeyE.key k)) = l.any fun p => decide (p.1 = k)
  | _, _, .nil => rfl
  | _, _, .cons r t => by
    rw [List.any_cons, List.any_cons, dp_any k t, r.1]
    congr 1
    exact decide_eq_decide.mpr ⟨fun h => KeyE.inj h, fun h => by rw [h]⟩
theorem dp_map {F : Hp} (k : κ) {v : V} {x : β} (h : rep F v x) : ∀ {a : List (Key × V)} {l : List (κ × β)}, DPairs F a l → DPairs F (a.map fun p => if p.1 = KeyE.key k then (p.1, v) else p) (l.map fun p => if p.1 = k then (p.1, x) else p)
  | _, _, .nil => .nil
  | _, _, .cons (a := p1) (b := p2) q t => by
    rw [List.map_cons, List.map_cons]
    refine .cons ?_ (dp_map k h t)
    by_cases e : p2.1 = k
    · rw [if_pos e, if_pos (by rw [q.1, e])]; exact ⟨q.1, h⟩
    · rw [if_neg e, if_neg (fun z => e (KeyE.inj (q.1.symm.trans z)))]; exact q
theorem dp_snoc {F : Hp} (k : κ) {v : V} {x : β} (h : rep F v x) : ∀ {a : List (Key × V)} {l : List (κ × β)}, DPairs F a l → DPairs F (a ++ [(KeyE.key k, v)]) (l ++ [(k, x)])
  | _, _, .nil => .cons ⟨rfl, h⟩ .nil
  | _, _, .cons q t => .cons q (dp_snoc k h t)
theorem dp_put {F : Hp} {a : List (Key × V)} {l : List (κ × β)} (r : DPairs F a l) (k : κ) {v : V} {x : β} (h : rep F v x) : DPairs F (putK a (KeyE.key k) v) (putD l k x) := by
  unfold putK putD
  rw [dp_any k r]
  split
  · exact dp_map k h r
  · exact dp_snoc k h r
theorem dp_look {F : Hp} (k : κ) : ∀ {a : List (Key × V)} {l : List (κ × β)}, DPairs F a l → (∀ x, lookD l k = some x → ∃ v, valV a (KeyE.key k) = some v ∧ rep F v x) ∧ (lookD l k = none → valV a (KeyE.key k) = none)
  | _, _, .nil => ⟨fun x h => by simp [lookD] at h, fun _ => rfl⟩
  | _, _, .cons (a := p) (b := q) (l₁ := a) (l₂ := l) r t => by
    obtain ⟨h1, h2⟩ := dp_look k t
    by_cases e : q.1 = k
    · have e' : p.1 = KeyE.key k := by rw [r.1, e]
      refine ⟨fun x h => ?_, fun h => ?_⟩
      · unfold lookD at h
        rw [List.find?_cons_of_pos (by simpa using e)] at h
        cases h
        exact ⟨p.2, valV_pos e', r.2⟩
      · unfold lookD at h
        rw [List.find?_cons_of_pos (by simpa using e)] at h
        cases h
    · have e' : ¬ p.1 = KeyE.key k := fun z => e (KeyE.inj (r.1.symm.trans z))
      have el : lookD (q :: l) k = lookD l k := by unfold lookD; rw [List.find?_cons_of_neg (by simpa using e)]
      rw [el, valV_neg e']
      exact ⟨h1, h2⟩
end
/-- dicts: their pairs in the order of the first stores -/
structure Dk (κ β : Type) where
  l : List (κ × β)
instance {κ β : Type} : Inhabited (Dk κ β) := ⟨⟨[]⟩⟩
instance {κ β : Type} [DecidableEq κ] [Enc κ] [KeyE κ] [Enc β] : Enc (Dk κ β) := ⟨fun F v d => ∃ p a, v = .ref p ∧ F p = some (.dK a) ∧ DPairs F a d.l, fun h r => by
  obtain ⟨p, a, e, f, q⟩ := r
  exact ⟨p, a, e, h _ _ f, q.mono h⟩⟩
section
variable {κ β α γ : Type} [DecidableEq κ] [Enc κ] [KeyE κ] [Enc β] [Enc α] [Enc γ] {E1 E2 E3 E4 : Type} [ES E1] [ES E2] [ES E3] [ES E4] {a b : Expr} {oka okb : E → Prop}
theorem ie_lenK {f : E → Dk κ β} (ha : IE X a f oka) (hm : X.mg "len" = none) (hg : Gl X "len" := by rfl) (he : starEach [a] X.env = (false, eval a X.env) :: starEach [] X.env := by rfl) : IE X (.Call (.Name "len" p1s) [a] [] pos) (fun e => ((f e).l.length : Int)) oka :=
  ie_imp (ie_B (c := fun _ => True) (g := fun (t : Dk κ β × Unit) => (t.1.l.length : Int)) call_lenD (fun F H vs a Q h r _ q => by
    obtain ⟨v, ws, rfl, ⟨p, us, rfl, hp, rr⟩, rfl⟩ := r
    exact ⟨p, us, rfl, h _ _ hp, q F H _ (Ext.refl h) (by rw [Paired.length rr]; rfl)⟩) hg hm PySem.boot_len (ia_one ha he) (he := he)) (fun _ _ => rfl) fun e o => ⟨o, trivial⟩
/-- a new dict that stands still from here on -/
theorem froz {F H F' H' : Hp} {p : Addr} {o : HO} (x : Ext F H F' H') (hp : H p = none) (fp : F' p = none) (h' : H' p = some o) : Ext F H (upd F' p o) H' ∧ Same F' (upd F' p o) := by
  have sm : Same F' (upd F' p o) := same_new fp
  refine ⟨⟨x.ff.trans sm, x.hh, fun b y e => ?_, fun b e n => ?_⟩, sm⟩
  · by_cases hb : b = p
    · subst hb; rw [upd_same] at e; rw [h']; exact e
    · rw [upd_ne hb] at e; exact x.fh _ _ e
  · by_cases hb : b = p
    · subst hb; exact hp
    · rw [upd_ne hb] at n; exact x.nw b e n
def fillD (l : List (κ × β)) (ps : List (κ × β)) : List (κ × β) := ps.foldl (fun d p => putD d p.1 p.2) l
theorem fillD_len : ∀ (ps l : List (κ × β)), (fillD l ps).length ≤ l.length + ps.length
  | [], l => Nat.le_refl _
  | p :: ps, l => by
    have h := fillD_len ps (putD l p.1 p.2)
    have h2 := putD_len l p.1 p.2
    show (fillD (putD l p.1 p.2) ps).length ≤ _
    rw [List.length_cons]
    omega
theorem fillD_append (l ps qs : List (κ × β)) : fillD l (ps ++ qs) = fillD (fillD l ps) qs := List.foldl_append
theorem dc2_read {vs vs1 : List Nat} {src : E → List α} {oks : E → Prop} {wp : Wp E E1 vs} {g : TG} {put : E1 → α → E2} {us : List Nat} (pt : Pat g E1 α E2 put us) (hus : ∀ i ∈ us, i ∈ vs)
    {src1 : E2 → List γ} {oks1 : E2 → Prop} {wp1 : Wp E2 E3 vs1} {g1 : TG} {put1 : E3 → γ → E4} {us1 : List Nat} (pt1 : Pat g1 E3 γ E4 put1 us1) (hus1 : ∀ i ∈ us1, i ∈ vs1) {kf : E4 → κ} {vf : E4 → β} {okk okv : E4 → Prop} {σ : L2.St} {H : Hp} {Q : VK}
    (h : tE (fun e => (⟨fillD [] ((src e).flatMap fun a => (src1 (put (wp.w e) a)).map fun b => (kf (put1 (wp1.w (put (wp.w e) a)) b), vf (put1 (wp1.w (put (wp.w e) a)) b)))⟩ : Dk κ β))
      (fun e => oks e ∧ (∀ a ∈ src e, oks1 (put (wp.w e) a) ∧ ∀ b ∈ src1 (put (wp.w e) a), okk (put1 (wp1.w (put (wp.w e) a)) b) ∧ okv (put1 (wp1.w (put (wp.w e) a)) b)) ∧ ((src e).flatMap fun a => src1 (put (wp.w e) a)).length ≤ sizeLine) σ H Q) :
    tDc2 (tS src oks) g (tS src1 oks1) g1 (tE kf okk) (tE vf okv) vs vs1 σ H Q := by
  obtain ⟨F0, H0, F, e, s, ⟨o1, o2, o3⟩, q⟩ := h
  refine ⟨F0, H0, F, e, s, o1, fun J F1 H1 X1 jk D hD => ?_⟩
  have fD : F1 D = none := X1.fh.free hD
  have hlen : ∀ xs : List α, (xs.flatMap fun a => src1 (put (wp.w e) a)).length = (xs.flatMap fun a => (src1 (put (wp.w e) a)).map fun b => (kf (put1 (wp1.w (put (wp.w e) a)) b), vf (put1 (wp1.w (put (wp.w e) a)) b))).length := by
    intro xs
    induction xs with
    | nil => rfl
    | cons x xs ih => rw [List.flatMap_cons, List.flatMap_cons, List.length_append, List.length_append, ih, List.length_map]
  rw [hlen] at o3
  have q' : ∀ F' H' p ws, Ext F H F' H' → H p = none → F' p = none → H' p = some (.dK ws) → DPairs F' ws (fillD [] ((src e).flatMap fun a => (src1 (put (wp.w e) a)).map fun b => (kf (put1 (wp1.w (put (wp.w e) a)) b), vf (put1 (wp1.w (put (wp.w e) a)) b)))) → Q (.ref p) H' := fun F' H' p ws x hp fp h' r => by
    obtain ⟨x', sm⟩ := froz x hp fp h'
    exact q _ H' _ x' ⟨p, ws, rfl, upd_same, r.mono sm⟩
  generalize hR : (fun a => (src1 (put (wp.w e) a)).map fun b => (kf (put1 (wp1.w (put (wp.w e) a)) b), vf (put1 (wp1.w (put (wp.w e) a)) b))) = R at q' o3
  have hRa : ∀ a, R a = (src1 (put (wp.w e) a)).map fun b => (kf (put1 (wp1.w (put (wp.w e) a)) b), vf (put1 (wp1.w (put (wp.w e) a)) b)) := fun a => by rw [← hR]
  refine ⟨fun i m Hc => m = (src e).length - i ∧ i ≤ (src e).length ∧ ∃ Fc ws, Ext F1 H1 Fc Hc ∧ Fc D = none ∧ Hc D = some (.dK ws) ∧ DPairs Fc ws (fillD [] (((src e).take i).flatMap R)),
    ⟨_, rfl, Nat.zero_le _, F1, [], (Ext.refl X1.fh).newO hD, fD, upd_same, by simpa [fillD] using Paired.nil⟩, ?_⟩
  rintro i m Hc ⟨rfl, hi, Fc, ws, Xc, fc, hc, rr⟩
  have keep : ∀ {Fa Ha Fb Hb : Hp} {ws : List (Key × V)}, Ext Fa Ha Fb Hb → Fa D = none → Ha D = some (.dK ws) → Fb D = none ∧ Hb D = some (.dK ws) := fun {Fa Ha Fb Hb ws} x fa ha => ⟨(by
    cases y : Fb D with
    | none => rfl
    | some o =>
      have z := x.nw D fa (by rw [y]; exact Option.some_ne_none _)
      rw [ha] at z
      cases z), x.hh _ _ ha⟩
  by_cases hlt : i < (src e).length
  · refine .inr ?_
    have hx : (src e)[i]? = some (src e)[i] := List.getElem?_eq_getElem hlt
    obtain ⟨go, yld⟩ := (jk.at' i Fc Hc Xc.ff Xc.fh).1 _ hx
    refine ⟨go, fun H' => ∃ Fn ws, Ext F1 H1 Fn H' ∧ Fn D = none ∧ H' D = some (.dK ws) ∧ DPairs Fn ws (fillD [] (((src e).take (i + 1)).flatMap R)),
      fun H' ⟨Fn, ws', a1, a2, a3, a5⟩ => ⟨(src e).length - (i + 1), by omega, rfl, hlt, Fn, ws', a1, a2, a3, a5⟩, fun v H' hy => ?_⟩
    obtain ⟨F2, X2, rv⟩ := yld v H' hy
    have S2 : SR F0 H0 F2 H' (L2.wipe σ vs) (wp.w e) := ((s.more X1).more (Xc.trans X2)).wipe wp
    obtain ⟨p1, p2⟩ := o2 _ (List.mem_of_getElem? hx)
    refine pt.run S2 rv fun σ' S3' hw => ⟨by rw [hw vs hus, wipe_idem vs vs fun _ h => h], ?_⟩
    have S3 := S3' F2 H' S2 (Same.refl _)
    refine ⟨F0, H0, F2, _, S3, p1, fun J1 F3 H3 X3 jk1 => ?_⟩
    have tk := take_succ_of (α := α) hx
    have hRx := hRa (src e)[i]
    have tot : (((src e).take i).flatMap R).length + (R (src e)[i]).length ≤ sizeLine := by
      have h1 : (((src e).take (i + 1)).flatMap R).length ≤ ((src e).flatMap R).length := by
        conv => rhs; rw [← List.take_append_drop (i + 1) (src e)]
        rw [List.flatMap_append, List.length_append]
        exact Nat.le_add_right _ _
      rw [tk, List.flatMap_append, List.flatMap_singleton, List.length_append] at h1
      omega
    generalize hxs : src1 (put (wp.w e) (src e)[i]) = ys at jk1 p2 hRx
    have X23 := X2.trans X3
    obtain ⟨k1, k2⟩ := keep X23 fc hc
    refine ⟨fun j k Hd => k = ys.length - j ∧ j ≤ ys.length ∧ ∃ Fd wd, Ext F1 H1 Fd Hd ∧ Same F3 Fd ∧ Fd D = none ∧ Hd D = some (.dK wd) ∧
        DPairs Fd wd (fillD [] (((src e).take i).flatMap R ++ (ys.take j).map fun b => (kf (put1 (wp1.w (put (wp.w e) (src e)[i])) b), vf (put1 (wp1.w (put (wp.w e) (src e)[i])) b)))),
      ⟨_, rfl, Nat.zero_le _, F3, ws, Xc.trans X23, Same.refl _, k1, k2, by simpa using rr.mono X23.ff⟩, ?_⟩
    rintro j k Hd ⟨rfl, hj, Fd, wd, Xd, md, fd, hd, rd⟩
    by_cases hlj : j < ys.length
    · refine .inr ?_
      have hy1 : ys[j]? = some ys[j] := List.getElem?_eq_getElem hlj
      obtain ⟨go1, yld1⟩ := (jk1.at' j Fd Hd md Xd.fh).1 _ hy1
      refine ⟨go1, fun H' => ∃ Fn wn, Ext F1 H1 Fn H' ∧ Same F3 Fn ∧ Fn D = none ∧ H' D = some (.dK wn) ∧
          DPairs Fn wn (fillD [] (((src e).take i).flatMap R ++ (ys.take (j + 1)).map fun b => (kf (put1 (wp1.w (put (wp.w e) (src e)[i])) b), vf (put1 (wp1.w (put (wp.w e) (src e)[i])) b)))),
        fun H' ⟨Fn, wn, a1, a2, a3, a4, a5⟩ => ⟨ys.length - (j + 1), by omega, rfl, hlj, Fn, wn, a1, a2, a3, a4, a5⟩, fun v1 H5 hy5 => ?_⟩
      obtain ⟨F5, X5, rv5⟩ := yld1 v1 H5 hy5
      have S5 : SR F0 H0 F5 H5 σ' (put (wp.w e) (src e)[i]) := S3' F5 H5 (((s.more X1).more (Xd.trans X5)).wipe wp) (X3.ff.trans (md.trans X5.ff))
      refine pt1.run (S5.wipe wp1) rv5 fun σ3 S6' hw3 => ⟨by rw [hw3 vs1 hus1, wipe_idem vs1 vs1 fun _ h => h], ?_⟩
      have S6 := S6' F5 H5 (S5.wipe wp1) (Same.refl _)
      obtain ⟨pk, pv⟩ := p2 _ (List.mem_of_getElem? hy1)
      refine ⟨F0, H0, F5, _, S6, pk, fun F6 H6 yk X6 rk => ⟨F0, H0, F6, _, S6.more X6, pv, fun F7 H7 yv X7 ry => ?_⟩⟩
      obtain ⟨g1', g2'⟩ := keep (X5.trans (X6.trans X7)) fd hd
      have ek := KeyE.ok (Enc.mono X7.ff rk)
      refine ⟨wd, _, ek, g2', ?_, F7, _, (Xd.trans (X5.trans (X6.trans X7))).redo hD g1', md.trans (X5.trans (X6.trans X7)).ff, g1', upd_same, ?_⟩
      · rw [Paired.length rd]
        refine Nat.lt_of_le_of_lt (fillD_len _ _) ?_
        rw [List.length_append, List.length_map, List.length_take, Nat.min_eq_left hj]
        rw [hRx, List.length_map] at tot
        simp only [List.length_nil]
        omega
      · rw [take_succ_of hy1, List.map_append, ← List.append_assoc, fillD_append]
        exact dp_put (rd.mono (X5.trans (X6.trans X7)).ff) _ ry
    · have e2 : j = ys.length := by omega
      refine .inl ⟨(jk1.at' j Fd Hd md Xd.fh).2 e2, Fd, wd, Xd, fd, hd, ?_⟩
      rw [e2, List.take_length, ← hRx] at rd
      rw [tk, List.flatMap_append, List.flatMap_singleton]
      exact rd
  · have e1 : i = (src e).length := by omega
    refine .inl ⟨(jk.at' i Fc Hc Xc.ff Xc.fh).2 e1, ?_⟩
    rw [e1, List.take_length] at rr
    exact q' Fc Hc D ws (X1.trans Xc) (X1.hh.free hD) fc hc rr
theorem ie_dc2 {kx vx tg iter tg1 iter1 : Expr} {scope : Scope} {own : List (Str × Nat)} {vs1 : List Nat} {src : E → List α} {oks : E → Prop} {wp : Wp E E1 (own.map (·.2))} {g : TG} {put : E1 → α → E2} {us : List Nat}
    {src1 : E2 → List γ} {oks1 : E2 → Prop} {wp1 : Wp E2 E3 vs1} {g1 : TG} {put1 : E3 → γ → E4} {us1 : List Nat} {kf : E4 → κ} {vf : E4 → β} {okk okv : E4 → Prop}
    (hc : X.calm = true) (hN : X.N.Nodup) (hi : IS X tg iter src oks) (ok : blkC X.N X.env.scope scope own = true) (hv : ∀ i ∈ vs1, i ∈ own.map (·.2)) (pt : Pat g E1 α E2 put us) (hus : ∀ i ∈ us, i ∈ own.map (·.2))
    (hg : Blk X scope fun Y => PG Y tg g) (hi1 : Blk X scope fun Y => IS Y tg1 iter1 src1 oks1) (pt1 : Pat g1 E3 γ E4 put1 us1) (hus1 : ∀ i ∈ us1, i ∈ vs1) (hg1 : Blk X scope fun Y => PG Y tg1 g1)
    (hk : Blk X scope fun Y => IE Y kx kf okk) (he : Blk X scope fun Y => IE Y vx vf okv) (hs : ∀ x, foldedSetIterable iter X.env x = pure x := by intro _; rfl) (hs1 : ∀ env x, foldedSetIterable iter1 env x = pure x := by intro _ _; rfl) :
    IE X (.DictComp kx vx [⟨tg, iter, [], 0⟩, ⟨tg1, iter1, [], 0⟩] scope pos) (fun e => (⟨fillD [] ((src e).flatMap fun a => (src1 (put (wp.w e) a)).map fun b => (kf (put1 (wp1.w (put (wp.w e) a)) b), vf (put1 (wp1.w (put (wp.w e) a)) b)))⟩ : Dk κ β))
      (fun e => oks e ∧ (∀ a ∈ src e, oks1 (put (wp.w e) a) ∧ ∀ b ∈ src1 (put (wp.w e) a), okk (put1 (wp1.w (put (wp.w e) a)) b) ∧ okv (put1 (wp1.w (put (wp.w e) a)) b)) ∧ ((src e).flatMap fun a => src1 (put (wp.w e) a)).length ≤ sizeLine) :=
  pe_imp (pe_dc2 hc hN hi (blkOk_by ok) hv hg hi1 hg1 hk he hs hs1) fun σ H Q h => dc2_read pt hus pt1 hus1 h
end
end PL
set_option Elab.async false
set_option linter.all false
set_option maxRecDepth 100000
/-! PLF: signs of a text as a list, parts of texts, pop, stores by a place. -/
namespace PL
open PySem PySem.Spec PyProof.Rows L2
variable {X : Cx} {E : Type} [ES E] {pos p0s p1s p2s : Pos}

/-! ## list(text) -/
theorem call_listS (hc : X.calm = true) : CallR X (.type "list") (fun xs H Q => ∃ s : S, xs = [.str (toS s)] ∧ s.length ≤ sizeLine ∧ ∀ p, H p = none → Q (.ref p) (upd H p (.lst ((chars s).map fun c => V.str (toS c))))) := by
  intro pins st σ H xs us Q I r h
  obtain ⟨s, e, z, q⟩ := h
  subst e
  obtain ⟨u, eu, t, et⟩ := vals1 r
  subst eu; subst et
  refine PySem.call_list_str (I.ok.hd hc) (toS s) t (fun h' tk acc c keep hS items => ?_) (show (toS s).cps.size ≤ sizeLine from z)
  refine ⟨.ref st.heap.objs.size, _, I.laid keep (Nat.le_refl _) (show ObjOk X.prog X.w _ _ _ (.lst ((chars s).map fun c => V.str (toS c))) from ⟨?_, acc.toList, c, ?_, ?_⟩), rfl, q _ (I.hok.fresh (Nat.le_refl _))⟩
  · unfold chars; rw [List.length_map, List.length_map]; exact z
  · refine vals_of_at ?_ fun j x w h1 h2 => ?_
    · unfold chars
      rw [List.length_map, List.length_map]
      have := items.1
      simp only [Array.length_toList]
      rw [this]; rfl
    · obtain ⟨ch, tk', hch, rfl⟩ := items.2 j w (by simpa using h2)
      have e2 : (toS s).cps[j]? = s[j]? := by show s.toArray[j]? = _; simp
      rw [e2] at hch
      unfold chars at h1
      rw [List.getElem?_map, List.getElem?_map, hch] at h1
      cases h1
      exact ⟨tk', rfl⟩
  · simpa using hS
theorem chars_reps {F : Hp} {s : S} (h : SOk s) : ∀ {l : List Nat}, (∀ c ∈ l, c ∈ s) → Reps F ((l.map fun c => ([c] : S)).map fun c => V.str (toS c)) (l.map fun c => ([c] : S))
  | [], _ => .nil
  | c :: l, k => .cons ⟨rfl, h.sub (by show 1 ≤ sizeLine; decide) fun d hd => by rw [List.mem_singleton.mp hd]; exact k c List.mem_cons_self⟩ (chars_reps h fun d hd => k d (List.mem_cons_of_mem _ hd))
theorem io_listS {a : Expr} {f : E → S} {ok : E → Prop} (hc : X.calm = true) (ha : IE X a f ok) (hm : X.mg "list" = none) (hg : Gl X "list" := by rfl) (he : starEach [a] X.env = (false, eval a X.env) :: starEach [] X.env := by rfl) : IO X (.Call (.Name "list" p1s) [a] [] pos) (fun e => chars (f e)) ok :=
  pe_imp (io_BT (c := fun _ => True) (g := fun (t : S × Unit) => chars t.1) (call_listS hc) (fun F H vs a Q h r _ q => by
    obtain ⟨v, ws, rfl, ⟨rfl, z⟩, rfl⟩ := r
    refine ⟨a.1, rfl, z.len, fun p hp => q F _ p _ ((Ext.refl h).newO hp) hp (h.free hp) upd_same ?_ (chars_reps z fun c hc => hc)⟩
    unfold chars; rw [List.length_map, List.length_map]; exact z.len) hg hm (by decide +kernel) (ia_one ha he) (he := he)) fun σ H Q ⟨F0, H0, F, e, s, o, q⟩ => ⟨F0, H0, F, e, s, ⟨o, trivial⟩, q⟩

/-! ## x in a text -/
def inS (s t : S) : Bool := !(Builtin.Str.occurrences (toS t) (toS s) 0 (toS t).length 1).isEmpty
theorem inS_one (c : Nat) (t : S) : inS [c] t = decide (c ∈ t) := PySem.StrLaws.found_one (toS t) c
theorem r2_inS : R2S (fun x y H Q => ∃ i j, x = .str i ∧ y = .str j ∧ Q (.bl (!(Builtin.Str.occurrences j i 0 j.length 1).isEmpty)) H) (fun s t : S => inS s t) Tr2 := fun F H x y a b Q h r1 r2 _ q => ⟨toS a, toS b, r1.1, r2.1, flat_k h rfl q⟩
theorem r2_ninS : R2S (fun x y H Q => ∃ i j, x = .str i ∧ y = .str j ∧ Q (.bl (!(!(Builtin.Str.occurrences j i 0 j.length 1).isEmpty))) H) (fun s t : S => !inS s t) Tr2 := fun F H x y a b Q h r1 r2 _ q => ⟨toS a, toS b, r1.1, r2.1, flat_k h rfl q⟩
section
variable {a b : Expr} {fa fb : E → S} {oka okb : E → Prop}
theorem ie_inS (ha : IE X a fa oka) (hb : IE X b fb okb) (hm : behindInMarks .In b = false := by rfl) : IE X (.Compare a [.In] [b] pos) (fun e => inS (fa e) (fb e)) (fun e => oka e ∧ okb e) := ie_imp (ie_cmp op_in_str r2_inS ha hb hm) (fun _ _ => rfl) fun e o => ⟨o.1, o.2, trivial⟩
theorem it_inS (ha : IE X a fa oka) (hb : IE X b fb okb) (hm : behindInMarks .In b = false := by rfl) : IT X (.Compare a [.In] [b] pos) (fun e => inS (fa e) (fb e)) (fun e => oka e ∧ okb e) := it_imp (it_cmp op_in_str r2_inS ha hb hm) (fun _ _ => rfl) fun e o => ⟨o.1, o.2, trivial⟩
theorem ie_ninS (ha : IE X a fa oka) (hb : IE X b fb okb) (hm : behindInMarks .NotIn b = false := by rfl) : IE X (.Compare a [.NotIn] [b] pos) (fun e => !inS (fa e) (fb e)) (fun e => oka e ∧ okb e) := ie_imp (ie_cmp op_notin_str r2_ninS ha hb hm) (fun _ _ => rfl) fun e o => ⟨o.1, o.2, trivial⟩
theorem it_ninS (ha : IE X a fa oka) (hb : IE X b fb okb) (hm : behindInMarks .NotIn b = false := by rfl) : IT X (.Compare a [.NotIn] [b] pos) (fun e => !inS (fa e) (fb e)) (fun e => oka e ∧ okb e) := it_imp (it_cmp op_notin_str r2_ninS ha hb hm) (fun _ _ => rfl) fun e o => ⟨o.1, o.2, trivial⟩
end

/-! ## expressions that change own lists -/
def tM {α : Type} [Enc α] (f : E → α) (g : E → E) (ok : E → Prop) : TE := fun σ H Q => ∃ (F0 H0 F : Hp) (e : E), SR F0 H0 F H σ e ∧ ok e ∧ ∀ F' H' v, SR F0 H0 F' H' σ (g e) → Same F F' → rep F' v (f e) → Q v H'
abbrev IM (X : Cx) {α : Type} [Enc α] (e : Expr) (f : E → α) (g : E → E) (ok : E → Prop) : Prop := PE X e (tM f g ok)
section
variable {α : Type} [Enc α] {a : Expr} {oka : E → Prop} {q1 q2 : Pos}
/-- xs.pop() -/
theorem im_pop [Inhabited α] (v : VarO E α) {x : Str} (hN : X.N[v.i]? = some x := by rfl) (hv : Vis X.env.scope x := by first | exact Or.inl rfl | exact Or.inr (Or.inl rfl) | exact Or.inr (Or.inr rfl))
    (hd : (x == ("__debug__" : Str)) = false := by decide) (hcd : (x == ("__classdict__" : Str)) = false := by decide) (hbase : attributeBase (.Name x q1) "pop" X.env (eval (.Name x q1) X.env) = eval (.Name x q1) X.env := by rfl) (hline : (q2.endLine == pos.line) = true := by rfl) :
    IM X (.Call (.Attribute (.Name x q1) "pop" q2) [] [] pos) (fun e => (v.get e).getLastD default) (fun e => v.set e (v.get e).dropLast) (fun e => v.get e ≠ []) :=
  pe_imp (pe_bm0 PySem.F.plainAttrs_list PySem.F.slot_list_pop PySem.F.type_list_pop mt_pop (pe_var hN hv hd hcd) hbase hline) fun σ H Q ⟨F0, H0, F, e, s, o, q⟩ => by
    obtain ⟨p, vs, h1, h2, h3, h4, h5, h6⟩ := s.own v
    have ne : v.get e ≠ [] := o
    have hl := h5.length
    have hpos : 0 < (v.get e).length := List.length_pos_iff.mpr ne
    have hx : (v.get e)[(v.get e).length - 1]? = some ((v.get e).getLastD default) := by
      rw [← List.getLast?_eq_getElem?, List.getLastD_eq_getLast?]
      cases hg : (v.get e).getLast? with
      | none => rw [List.getLast?_eq_none_iff] at hg; exact absurd hg ne
      | some y => rfl
    obtain ⟨y, hy, ry⟩ := reps_of h5 hx
    refine ⟨_, h1, .inl ⟨rfl, vs, SqL.of h3⟩, p, vs, y, rfl, rfl, h3, by rw [hl]; exact hy, q F _ y (h6 vs.dropLast _ (by rw [List.length_dropLast]; omega) ?_) (Same.refl _) ry⟩
    rw [List.dropLast_eq_take, List.dropLast_eq_take, hl]
    exact reps_take _ h5
/-- xs.pop(i) -/
theorem im_popAt [Inhabited α] (v : VarO E α) {fi : E → Int} (h : IE X a fi oka) {x : Str} (hN : X.N[v.i]? = some x := by rfl) (hv : Vis X.env.scope x := by first | exact Or.inl rfl | exact Or.inr (Or.inl rfl) | exact Or.inr (Or.inr rfl))
    (hd : (x == ("__debug__" : Str)) = false := by decide) (hcd : (x == ("__classdict__" : Str)) = false := by decide) (hbase : attributeBase (.Name x q1) "pop" X.env (eval (.Name x q1) X.env) = eval (.Name x q1) X.env := by rfl)
    (hfew : ((backTo pos (starEach [a] X.env)).all (fun x => !x.1) && (backToKw pos (keywordEach [] X.env)).all (fun x => x.1.isSome) && decide ([a].length + ([] : List Keyword).length + (if ([] : List Keyword).isEmpty then 0 else 1) < 30)) = true := by rfl)
    (hline : (q2.endLine == pos.line) = true := by rfl) (hs : starEach [a] X.env = (false, eval a X.env) :: starEach [] X.env := by rfl) (hpl : (backTo pos (starEach [] X.env)).any (·.1) = false := by rfl) :
    IM X (.Call (.Attribute (.Name x q1) "pop" q2) [a] [] pos) (fun e => (v.get e).getD (fi e).toNat default) (fun e => v.set e ((v.get e).eraseIdx (fi e).toNat)) (fun e => oka e ∧ 0 ≤ fi e ∧ fi e < (v.get e).length) :=
  pe_imp (pe_bm PySem.F.plainAttrs_list PySem.F.slot_list_pop PySem.F.type_list_pop mt_popAt (pe_var hN hv hd hcd) (pa_cons h pa_nil hs) hbase hfew hline hs hpl) fun σ H Q ⟨F0, H0, F, e, s, ⟨o1, o2, o3⟩, q⟩ => by
    obtain ⟨p, vs, h1, h2, h3, h4, h5, _⟩ := s.own v
    refine ⟨_, h1, .inl ⟨rfl, vs, SqL.of h3⟩, F0, H0, F, e, s, o1, fun F1 H1 y X1 r => ?_⟩
    cases (show y = V.int (fi e) from r)
    obtain ⟨p', vs', g1, g2, g3, g4, g5, g6⟩ := (s.more X1).own v
    rw [h1] at g1
    cases g1
    have hl := g5.length
    have hlt : (fi e).toNat < (v.get e).length := by omega
    have hx : (v.get e)[(fi e).toNat]? = some ((v.get e).getD (fi e).toNat default) := by simp [hlt]
    obtain ⟨y, hy, ry⟩ := reps_of g5 hx
    have z : (v.get e).length ≤ 16777216 := by rw [← hl]; have := g4; rw [sizeLine_eq] at this; exact this
    refine ⟨p, vs', fi e, (fi e).toNat, y, rfl, rfl, g3, by omega, by omega, ?_, hy, q F1 _ y (g6 (vs'.eraseIdx (fi e).toNat) _ ?_ ?_) X1.ff ry⟩
    · rw [hl]
      exact seqIndex_of (by omega) (by omega)
    · exact Nat.le_trans (List.length_eraseIdx_le _ _) g4
    · rw [List.eraseIdx_eq_take_drop_succ, List.eraseIdx_eq_take_drop_succ]
      exact reps_append (reps_take _ g5) (reps_drop _ g5)
variable {E' EB EC β : Type} [ES E'] [ES EB] [ES EC] {RR : RetK β} {f : E → α} {g : E → E}
theorem s_setM (q : Put E α E') {x : Str} (hN : X.N.Nodup) (h : IM X a f g oka) (hi : X.N[q.i]? = some x := by rfl) (hx : Loc X.env.scope x := by first | exact Or.inl rfl | exact Or.inr rfl) (hs : swapsWith a (some (.Name x p1s)) pos.line X.env = pure false := by rfl)
    (hf : X.fn x = true ∨ X.env.scope.names.lookup x = some .local := by first | exact .inl rfl | exact .inr rfl) : SS (EB := EB) (EC := EC) X RR (.Assign [.Name x p1s] a pos) (fun K e => K.nx (q.put (g e) (f e))) (fun K e => oka e ∧ K.nx (q.put (g e) (f e))) :=
  ps_imp (ps_set hN hi hx h hs hf) fun D σ H ⟨F0, H0, F, e, K, KO, b, s, ⟨o1, o2⟩, hb, k, _⟩ => ⟨F0, H0, F, e, s, o1, fun F1 H1 v s1 m r => k F1 H1 _ _ (s1.put q r) m o2 hb⟩
theorem s_patM {tg : Expr} {gg : TG} {put : E → α → E'} {us : List Nat} (pt : Pat gg E α E' put us) (hg : PG X tg gg) (h : IM X a f g oka) (hs : swapsWithSole [tg] a pos.line X.env = pure false := by rfl) (hw : swappedStores [tg] a X.env = pure none := by rfl)
    (h1 : (assignEach [tg] X.env).map (·.2) = [assign tg X.env] := by rfl) : SS (EB := EB) (EC := EC) X RR (.Assign [tg] a pos) (fun K e => K.nx (put (g e) (f e))) (fun K e => oka e ∧ K.nx (put (g e) (f e))) :=
  ps_imp (ps_asg h hg hs hw h1) fun D σ H ⟨F0, H0, F, e, K, KO, b, s, ⟨o1, o2⟩, hb, k, _⟩ => ⟨F0, H0, F, e, s, o1, fun F1 H1 v s1 m r => pt.run s1 r fun σ' s' _ => k F1 H1 σ' _ (s' F1 H1 s1 (Same.refl _)) m o2 hb⟩
theorem s_appendM (v : VarO E α) {x : Str} {q1 q2 : Pos} (h : IM X a f g oka) (hN : X.N[v.i]? = some x := by rfl) (hv : Vis X.env.scope x := by first | exact Or.inl rfl | exact Or.inr (Or.inl rfl) | exact Or.inr (Or.inr rfl))
    (hd : (x == ("__debug__" : Str)) = false := by decide) (hcd : (x == ("__classdict__" : Str)) = false := by decide) (hbase : attributeBase (.Name x q1) "append" X.env (eval (.Name x q1) X.env) = eval (.Name x q1) X.env := by rfl)
    (hfew : ((backTo p1s (starEach [a] X.env)).all (fun x => !x.1) && (backToKw p1s (keywordEach [] X.env)).all (fun x => x.1.isSome) && decide ([a].length + ([] : List Keyword).length + (if ([] : List Keyword).isEmpty then 0 else 1) < 30)) = true := by rfl)
    (hline : (q2.endLine == p1s.line) = true := by rfl) (hs : starEach [a] X.env = (false, eval a X.env) :: starEach [] X.env := by rfl) (hpl : (backTo p1s (starEach [] X.env)).any (·.1) = false := by rfl)
    (hsw : swapsWith (.Call (.Attribute (.Name x q1) "append" q2) [a] [] p1s) none pos.line X.env = pure false := by rfl) :
    SS (EB := EB) (EC := EC) X RR (.Expr (.Call (.Attribute (.Name x q1) "append" q2) [a] [] p1s) pos) (fun K e => K.nx (v.set (g e) (v.get (g e) ++ [f e]))) (fun K e => oka e ∧ (v.get (g e)).length < sizeLine ∧ K.nx (v.set (g e) (v.get (g e) ++ [f e]))) :=
  ps_imp (ps_expr (pe_bm PySem.F.plainAttrs_list PySem.F.slot_list_append PySem.F.type_list_append mt_append (pe_var hN hv hd hcd) (pa_cons h pa_nil hs) hbase hfew hline hs hpl) hsw) fun D σ H ⟨F0, H0, F, e, K, KO, b, s, ⟨o1, o2, o3⟩, hb, k, _⟩ => by
    obtain ⟨p, vs, h1, h2, h3, h4, h5, _⟩ := s.own v
    refine ⟨_, h1, .inl ⟨rfl, vs, SqL.of h3⟩, F0, H0, F, e, s, o1, fun F1 H1 y s1 m r => ?_⟩
    obtain ⟨p', vs', g1, g2, g3, g4, g5, g6⟩ := s1.own v
    rw [h1] at g1
    cases g1
    have hl : vs'.length < sizeLine := by rw [g5.length]; exact o2
    refine ⟨p, vs', y, rfl, rfl, g3, hl, k F1 _ σ _ (g6 (vs' ++ [y]) _ (by rw [List.length_append]; exact hl) (reps_snoc g5 r)) m o3 hb⟩
theorem reps_set {F : Hp} {v : V} {x : α} (h : rep F v x) : ∀ {vs : List V} {xs : List α} (j : Nat), Reps F vs xs → Reps F (vs.set j v) (xs.set j x)
  | _, _, _, .nil => .nil
  | _, _, 0, .cons _ t => .cons h t
  | _, _, j + 1, .cons a t => .cons a (reps_set h j t)
/-- xs[i] = e -/
theorem s_setix (v : VarO E α) {x : Str} {q1 q2 : Pos} {i : Expr} {fi : E → Int} {oki : E → Prop} (h : IE X a f oka) (hi : IE X i fi oki) (hN : X.N[v.i]? = some x := by rfl) (hv : Vis X.env.scope x := by first | exact Or.inl rfl | exact Or.inr (Or.inl rfl) | exact Or.inr (Or.inr rfl))
    (hd : (x == ("__debug__" : Str)) = false := by decide) (hcd : (x == ("__classdict__" : Str)) = false := by decide)
    (ha : ∀ v, assign (.Subscript (.Name x q1) i q2) X.env v = (do
      let ov ← holding [v] (eval (.Name x q1) X.env)
      let iv ← holding [v, ov] (eval i X.env)
      standAt q2
      holding [v, ov, iv] (setItem ov iv v)
      release [v, ov, iv] []) := by intro _; rfl) (hs : swapsWithSole [.Subscript (.Name x q1) i q2] a pos.line X.env = pure false := by rfl) (hw : swappedStores [.Subscript (.Name x q1) i q2] a X.env = pure none := by rfl)
    (h1 : (assignEach [.Subscript (.Name x q1) i q2] X.env).map (·.2) = [assign (.Subscript (.Name x q1) i q2) X.env] := by rfl) :
    SS (EB := EB) (EC := EC) X RR (.Assign [.Subscript (.Name x q1) i q2] a pos) (fun K e => K.nx (v.set e ((v.get e).set (if 0 ≤ fi e then (fi e).toNat else (fi e + (v.get e).length).toNat) (f e))))
      (fun K e => oka e ∧ oki e ∧ ixOk (v.get e) (fi e) ∧ K.nx (v.set e ((v.get e).set (if 0 ≤ fi e then (fi e).toNat else (fi e + (v.get e).length).toNat) (f e)))) :=
  ps_imp (ps_asg h (pg_sub (pe_var hN hv hd hcd) hi set_list ha) hs hw h1) fun D σ H ⟨F0, H0, F, e, K, KO, b, s, ⟨o1, o2, o3, o4⟩, hb, k, _⟩ => ⟨F0, H0, F, e, s, o1, fun F1 H1 y X1 r => by
    obtain ⟨p, vs, h1, h2, h3, h4, h5, _⟩ := s.own v
    refine ⟨_, h1, F0, H0, F1, e, s.more X1, o2, fun F2 H2 yi X2 ri => ?_⟩
    cases (show yi = V.int (fi e) from ri)
    obtain ⟨p', vs', g1, g2, g3, g4, g5, g6⟩ := ((s.more X1).more X2).own v
    rw [h1] at g1
    cases g1
    have hl := g5.length
    refine ⟨p, vs', fi e, (if 0 ≤ fi e then (fi e).toNat else (fi e + (v.get e).length).toNat), rfl, rfl, g3, ?_, k F2 _ σ _ (g6 _ _ (by rw [List.length_set]; exact g4) ?_) (X1.trans X2).ff o4 hb⟩
    · obtain ⟨a1, a2⟩ := o3
      unfold ixN
      rw [hl]
      by_cases c : 0 ≤ fi e
      · rw [if_pos c, if_pos c, if_pos a2]
      · rw [if_neg c, if_neg c, if_pos a1]
    · exact reps_set (Enc.mono X2.ff r) _ g5⟩
end
end PL
set_option Elab.async false
set_option linter.all false
set_option maxRecDepth 100000
/-! PLG: what _law_same tells; loops of fixed sorts. -/
namespace PL
open PySem PySem.Spec PyProof.Rows L2
theorem isi_L (d : D) : kitB d.tyName "list" = some d.isL := by cases d <;> (dsimp only [D.tyName, D.isL]; decide +kernel)
theorem isi_T (d : D) : kitB d.tyName "tuple" = some d.isT := by cases d <;> (dsimp only [D.tyName, D.isT]; decide +kernel)
theorem isi_B (d : D) : kitB d.tyName "bool" = some d.isB := by cases d <;> (dsimp only [D.tyName, D.isB]; decide +kernel)
theorem isi_I (d : D) : kitB d.tyName "int" = some d.isI := by cases d <;> (dsimp only [D.tyName, D.isI]; decide +kernel)
theorem isi_S (d : D) : kitB d.tyName "str" = some d.isS := by cases d <;> (dsimp only [D.tyName, D.isS]; decide +kernel)
/-- depth and width are small -/
def fitD : Nat → D → Bool
  | 0, _ => false
  | n + 1, .lst xs => decide (xs.length ≤ 16777216) && xs.all (fitD n)
  | n + 1, .tup xs => decide (xs.length ≤ 16777216) && xs.all (fitD n)
  | _ + 1, _ => true
theorem sames_all : ∀ (xs ys : List D), D.sames xs ys = (decide (xs.length = ys.length) && (List.range ys.length).all fun k => D.same (xs.getD k default) (ys.getD k default))
  | [], [] => by simp [D.sames]
  | [], _ :: _ => by simp [D.sames]
  | _ :: _, [] => by simp [D.sames]
  | x :: xs, y :: ys => by
    simp only [D.sames]
    rw [sames_all xs ys, List.length_cons, List.length_cons, List.range_succ_eq_map, List.all_cons, List.all_map]
    simp only [List.getD_cons_zero, Function.comp_def, List.getD_cons_succ, Nat.succ_eq_add_one, Nat.add_right_cancel_iff]
    cases decide (xs.length = ys.length) <;> simp
theorem sames_ir (xs ys : List D) (h : xs.length = ys.length) : (irange 0 (ys.length : Int)).all (fun k => D.same (ixD xs k) (ixD ys k)) = D.sames xs ys := by
  rw [sames_all, decide_eq_true h, Bool.true_and]
  unfold irange
  rw [List.all_map]
  have e : ((ys.length : Int) - 0).toNat = ys.length := by omega
  rw [e]
  congr 1
  funext k
  show D.same (ixD xs (0 + (k : Nat))) (ixD ys (0 + (k : Nat))) = _
  have z : ∀ l : List D, ixD l (0 + (k : Int)) = l.getD k default := fun l => by
    unfold ixD
    rw [if_pos (by omega)]
    congr 1
    omega
  rw [z, z]
theorem ir_mem {a b k : Int} (h : k ∈ irange a b) : a ≤ k ∧ k < b := by
  unfold irange at h
  obtain ⟨j, hj, rfl⟩ := List.mem_map.mp h
  have := List.mem_range.mp hj
  omega
theorem rgOk_len {n : Nat} (h : n ≤ 16777216) : rgOk 0 (n : Nat) := by unfold rgOk; omega
theorem ixD_mem {α : Type} [Inhabited α] {xs : List α} {k : Int} (h0 : 0 ≤ k) (h : k < xs.length) : ixD xs k ∈ xs := by
  unfold ixD
  rw [if_pos h0, List.getD_eq_getElem?_getD, List.getElem?_eq_getElem (by omega)]
  exact List.getElem_mem _
/-! `for k in l: if not g(..): return false` -/
theorem loop_all {E E1 α : Type} (put : E → α → E1) (c : E1 → Bool) (bk : E1 → E) (hb : ∀ e a, bk (put e a) = e) (p : E → Bool) (l : List α) (e : E) :
    forC put (fun K x => if (!c x) = true then false else K.nx (bk x)) p l e = ((l.all fun a => c (put e a)) && p e) := by
  induction l with
  | nil => rfl
  | cons a l ih =>
    show (if (!c (put e a)) = true then false else forC put _ p l (bk (put e a))) = _
    rw [hb, ih, List.all_cons]
    cases c (put e a) <;> simp
theorem loopP_all {E E1 α : Type} (put : E → α → E1) (g : P3 E E E → E1 → Prop) (p : E → Prop) (l : List α) (e : E) (c : E1 → Prop) (bk : E1 → E) (hb : ∀ e a, bk (put e a) = e)
    (h : ∀ (K : P3 E E E) (x : E1), c x → K.nx (bk x) → g K x) (hc : ∀ a ∈ l, c (put e a)) (hp : p e) : forP put g p l e := by
  induction l with
  | nil => exact hp
  | cons a l ih =>
    refine h ⟨_, _, _⟩ _ (hc a (by simp)) ?_
    show forP put g p l (bk (put e a))
    rw [hb]
    exact ih fun b hb => hc b (by simp [hb])
theorem all_congr {α : Type} {p q : α → Bool} {l : List α} (h : ∀ a ∈ l, p a = q a) : l.all p = l.all q := by
  induction l with
  | nil => rfl
  | cons a l ih => rw [List.all_cons, List.all_cons, h a (by simp), ih fun b hb => h b (by simp [hb])]
/-- equal shapes -/
class SmD (α : Type) [Enc α] [ToD α] where
  sm : ∀ a b : α, D.same (ToD.d a) (ToD.d b) = true ↔ a = b
theorem sm_dec {α : Type} [Enc α] [ToD α] [SmD α] [DecidableEq α] (a b : α) : D.same (ToD.d a) (ToD.d b) = decide (a = b) := by
  by_cases h : a = b
  · rw [decide_eq_true h, SmD.sm]; exact h
  · rw [decide_eq_false h]
    cases hs : D.same (ToD.d a) (ToD.d b) with
    | false => rfl
    | true => exact absurd ((SmD.sm a b).mp hs) h
instance : SmD Int := ⟨fun a b => by show (a == b) = true ↔ _; simp⟩
instance : SmD Bool := ⟨fun a b => by show (a == b) = true ↔ _; simp⟩
instance : SmD S := ⟨fun a b => by show (a == b) = true ↔ _; simp⟩
instance : SmD Unit := ⟨fun a b => by simp [ToD.d, D.same]⟩
section
variable {α β γ : Type} [Enc α] [Enc β] [Enc γ] [ToD α] [ToD β] [ToD γ] [SmD α] [SmD β] [SmD γ]
theorem sm_all : ∀ xs ys : List α, D.sames (xs.map ToD.d) (ys.map ToD.d) = true ↔ xs = ys
  | [], [] => by simp [D.sames]
  | [], _ :: _ => by simp [D.sames]
  | _ :: _, [] => by simp [D.sames]
  | x :: xs, y :: ys => by
    rw [List.map_cons, List.map_cons]
    simp only [D.sames]
    rw [Bool.and_eq_true, SmD.sm, sm_all xs ys, List.cons.injEq]
instance : SmD (List α) := ⟨fun a b => sm_all a b⟩
instance : SmD (Tup α) := ⟨fun a b => by
  obtain ⟨a⟩ := a; obtain ⟨b⟩ := b
  rw [Tup.mk.injEq]; exact sm_all a b⟩
instance : SmD (α × β) := ⟨fun a b => by
  obtain ⟨a1, a2⟩ := a; obtain ⟨b1, b2⟩ := b
  show D.sames [_, _] [_, _] = true ↔ _
  simp only [D.sames]
  rw [Bool.and_true, Bool.and_eq_true, SmD.sm, SmD.sm, Prod.mk.injEq]⟩
instance : SmD (T3 α β γ) := ⟨fun a b => by
  obtain ⟨a1, a2, a3⟩ := a; obtain ⟨b1, b2, b3⟩ := b
  show D.sames [_, _, _] [_, _, _] = true ↔ _
  simp only [D.sames]
  rw [Bool.and_true, Bool.and_eq_true, Bool.and_eq_true, SmD.sm, SmD.sm, SmD.sm, T3.mk.injEq]⟩
end
/-- fits: by kinds -/
class FitD (α : Type) [Enc α] [ToD α] where
  n : Nat
  g : α → Prop
  ok : ∀ {a : α} {k : Nat}, g a → n ≤ k → fitD k (ToD.d a) = true
theorem fit_flat {d : D} {k : Nat} (h : d.isL = false) (h' : d.isT = false) (hk : 1 ≤ k) : fitD k d = true := by
  cases k with
  | zero => omega
  | succ k => cases d <;> simp_all [fitD, D.isL, D.isT]
instance : FitD Int := ⟨1, fun _ => True, fun _ h => fit_flat rfl rfl h⟩
instance : FitD Bool := ⟨1, fun _ => True, fun _ h => fit_flat rfl rfl h⟩
instance : FitD S := ⟨1, fun _ => True, fun _ h => fit_flat rfl rfl h⟩
instance : FitD Unit := ⟨1, fun _ => True, fun _ h => fit_flat rfl rfl h⟩
section
variable {α β γ : Type} [Enc α] [Enc β] [Enc γ] [ToD α] [ToD β] [ToD γ] [FitD α] [FitD β] [FitD γ]
instance : FitD (List α) := ⟨FitD.n α + 1, fun xs => xs.length ≤ 16777216 ∧ ∀ x ∈ xs, FitD.g x, fun {xs k} h hk => by
  cases k with
  | zero => omega
  | succ k =>
    show (decide ((xs.map ToD.d).length ≤ 16777216) && (xs.map ToD.d).all (fitD k)) = true
    rw [List.length_map, decide_eq_true h.1, Bool.true_and, List.all_map, List.all_eq_true]
    exact fun x hx => FitD.ok (h.2 x hx) (by omega)⟩
instance : FitD (Tup α) := ⟨FitD.n α + 1, fun xs => xs.l.length ≤ 16777216 ∧ ∀ x ∈ xs.l, FitD.g x, fun {xs k} h hk => by
  cases k with
  | zero => omega
  | succ k =>
    show (decide ((xs.l.map ToD.d).length ≤ 16777216) && (xs.l.map ToD.d).all (fitD k)) = true
    rw [List.length_map, decide_eq_true h.1, Bool.true_and, List.all_map, List.all_eq_true]
    exact fun x hx => FitD.ok (h.2 x hx) (by omega)⟩
instance : FitD (α × β) := ⟨max (FitD.n α) (FitD.n β) + 1, fun t => FitD.g t.1 ∧ FitD.g t.2, fun {t k} h hk => by
  cases k with
  | zero => omega
  | succ k =>
    show (decide ([ToD.d t.1, ToD.d t.2].length ≤ 16777216) && [ToD.d t.1, ToD.d t.2].all (fitD k)) = true
    simp only [List.all_cons, List.all_nil, List.length_cons, List.length_nil]
    rw [FitD.ok h.1 (by omega), FitD.ok h.2 (by omega)]
    rfl⟩
instance : FitD (T3 α β γ) := ⟨max (FitD.n α) (max (FitD.n β) (FitD.n γ)) + 1, fun t => FitD.g t.a ∧ FitD.g t.b ∧ FitD.g t.c, fun {t k} h hk => by
  cases k with
  | zero => omega
  | succ k =>
    show (decide ([ToD.d t.a, ToD.d t.b, ToD.d t.c].length ≤ 16777216) && [ToD.d t.a, ToD.d t.b, ToD.d t.c].all (fitD k)) = true
    simp only [List.all_cons, List.all_nil, List.length_cons, List.length_nil]
    rw [FitD.ok h.1 (by omega), FitD.ok h.2.1 (by omega), FitD.ok h.2.2 (by omega)]
    rfl⟩
end
end PL
set_option Elab.async false
set_option linter.all false
set_option maxRecDepth 100000
/-! PLH: the end: from what the law's def computes to the wanted statement. -/
namespace PL
open PySem PySem.Spec PyProof.Rows L2
section
variable {P : Program} {w : World} {K : PySem.W.Frag} {mg : Str → Option Value} {base : Heap} {A β E : Type} [EA A] [ES E] [Enc β] {x : Str} {st : Stmt} {f : Addr} {fd : FuncData} {N ps : List Str} {k : Nat}
theorem fnok_of [Inhabited β] {g : K3 Unit Unit Unit β → E → β} {ok : P3 Unit Unit Unit → E → Prop} (F : Fun K x x st f fd) (S : FnScope N ps (defScope st)) (ini : Ini A E N.length ps.length)
    (hb : ∀ (cdv : Value) (A' : Around) (outer : List Env) (s : Shared) (H : Hp) (E' : XK), Room k (A'.deeper (envOfC x (defScope st) s.heap.objs.size f cdv)) → SSs (cxOf CX0 P w K mg base N x (defScope st) f cdv A' outer s H E').nox retF (defBody st) g ok) :
    FnOk P w K mg base CX0 (k + 1) f fd ps (spP (fun a => g ⟨fun _ => default, fun _ => default, fun _ => default⟩ (ini.w a)) (fun a => ok ⟨fun _ => False, fun _ => False, fun _ => False⟩ (ini.w a))) := by
  refine F.ok S (fun vs H Q E h => ?_) (fun cdv A' outer s H vs Q E hr h => ?_)
  · obtain ⟨F, a, _, r, _⟩ := h
    exact ini.len r
  · obtain ⟨F, a, hs, r, o, q⟩ := h
    refine ⟨_, hb cdv A' outer s H E hr, F, H, F, ini.w a, ⟨fun _ => default, fun _ => default, fun _ => default⟩, _, _, ⟨Ext.refl hs, [], .nil, (fun _ z => nomatch z), ?_⟩, o, rfl, (fun _ _ _ _ _ _ z => z.elim), (fun _ _ _ _ _ _ z => z.elim), (fun _ _ _ _ _ _ z => z.elim), fun F' H' v X r => q F' H' v X r⟩
    have z := ini.ok (F := F) (H := H) r
    unfold L2.start
    rw [ini.len r]
    exact z
end
/-! the module's objects without the script, should that be one of them -/
def Less (K K' : PySem.W.Frag) : Prop := ∀ (b : Addr) (o : Obj), K.lookup b = some o → (∀ its n, o.data ≠ .seq its n) → K'.lookup b = some o
theorem less_l {K K' : PySem.W.Frag} (h : Less K K') {f : Addr} {oc : Value} {od : Option Addr} {fd : FuncData} {sl : Array (Option Value)} (l : K.lookup f = some ⟨oc, od, .func fd, sl⟩) : K'.lookup f = some ⟨oc, od, .func fd, sl⟩ := h _ _ l fun _ _ z => nomatch z
theorem less_k {K K' : PySem.W.Frag} (h : Less K K') {f : Addr} {oc : Value} {od : Option Addr} {fd : FuncData} {sl : Array (Option Value)} (l : K.lookup f = some ⟨oc, od, .func fd, sl⟩) : PySem.W.keepIn K' (.ref f) = true := by
  unfold PySem.W.keepIn
  simp only [less_l h l]
theorem less_c {K K' : PySem.W.Frag} (h : Less K K') {cd : Value} {q : Str} (e : PySem.W.codeIn K cd q = true) : PySem.W.codeIn K' cd q = true := by
  unfold PySem.W.codeIn at e ⊢
  split at e
  · rename_i c
    split at e
    · rename_i oc od vs sl hl
      have l2 := h _ _ hl fun _ _ z => nomatch z
      show (match K'.lookup c with | some ⟨_, _, .fields vs, _⟩ => _ | _ => false) = true
      rw [l2]
      exact e
    · cases e
  · cases e
theorem less_n {K K' : PySem.W.Frag} (h : Less K K') {ns : Addr} {x : Str} {r : Option Value} (e : PySem.W.nsIn K ns x = some r) : PySem.W.nsIn K' ns x = some r := by
  unfold PySem.W.nsIn at e ⊢
  split at e
  · rename_i oc od es ep sl hl
    have l2 := h _ _ hl fun _ _ z => nomatch z
    rw [l2]
    exact e
  · cases e
theorem lookup_filter (a : Addr) : ∀ (K : PySem.W.Frag) (b : Addr), (K.filter fun p => p.1 != a).lookup b = if b = a then none else K.lookup b
  | [], b => by simp
  | (c, o) :: K, b => by
    rw [List.filter_cons]
    have ih := lookup_filter a K b
    by_cases hc : c = a
    · subst hc
      rw [if_neg (by simp), ih]
      by_cases hb : b = c
      · rw [if_pos hb, if_pos hb]
      · rw [if_neg hb, if_neg hb, List.lookup_cons, beq_eq_false_iff_ne.mpr hb]
    · rw [if_pos (by simpa using hc), List.lookup_cons, List.lookup_cons]
      cases hbc : b == c with
      | true =>
        have e : b = c := eq_of_beq hbc
        subst e
        rw [if_neg hc]
      | false => exact ih
theorem walk_scr {l : PySem.W.OpenLaw} {k : Nat} {q : Program} {loose : List Str} {XP : (Str → Option Value) → Heap → Prop} {YP : World → Heap → Prop} {d : DefRec} {K : Params → PySem.W.Frag} {x : Str} (m : Scr × Unit → Bool) (ok : Scr × Unit → Prop)
    (hn : l.most = some 63) (hdf : d.params.defaults = []) (hr : Room k callerA) (hY : ∀ (w : World) (h : Heap), YP w h → (K w.params).In h)
    (F : ∀ (w : World) (mg : Str → Option Value) (fa : Addr) (h : Heap) (K' : PySem.W.Frag), Less (K w.params) K' → (K w.params).In h → K'.In h → h.Ns mainGlobals mg → mg d.name = some (.ref fa) →
      ∃ fd : FuncData, (∀ (s : Shared) (u : Value), BindsTo s fd ⟨[u], []⟩ [(x, u)]) ∧ ∀ base : Heap, K'.In base → base.Ns mainGlobals mg → FnOk l.prog w K' mg base CX0 k fa fd [x] (spP m ok))
    (hsp : ∀ ns : List Int, ns.length ≤ 63 → m (⟨ns⟩, ()) = true ∧ ok (⟨ns⟩, ())) :
    PySem.W.WalkO q loose XP YP l.row.toRowW d [] (fun f vs => PySem.call f vs) := by
  refine Att.attach_call hn hdf fun w s₀ s₁ mg mb fa o pm cd doc a vs ns G Y ho hd hcd hmg hobj hints hlen hg => ?_
  have KX := hY w _ Y
  have core : ∀ K' : PySem.W.Frag, K'.lookup a = none → Less (K w.params) K' → K'.In s₁.heap → codeAny (model l.prog w) callerA (.call (.ref fa) ⟨[.ref a], []⟩) (fun r s' => r = .ok (.ret (.bool true)) ∧ OldK s₁.heap s'.heap ∧ s'.os = s₁.os ∧ AllBare s'.gens) s₁ := fun K' hl hL hI => by
    obtain ⟨fd, hb, hF⟩ := F w mg fa _ K' hL KX hI G.T.g hmg
    refine law_call hI G.T.g G.T.b G.T.builtins G.T.nolimit hg hobj hints (Nat.le_trans hlen (by decide)) hr hF hb (fun H hO hS => ?_) fun H e s' h => h
    refine ⟨H, (⟨ns⟩, ()), Same.refl _, ⟨_, [], rfl, ⟨a, rfl, ?_, hlen⟩, rfl⟩, (hsp ns hlen).2, fun F' H' r X rr => ?_⟩
    · rcases hS with hS | ⟨o, its, n, hk, _⟩
      · exact hS
      · rw [hl] at hk; cases hk
    · rw [(hsp ns hlen).1] at rr
      exact rr
  refine core ((K w.params).filter fun p => p.1 != a) (by rw [lookup_filter, if_pos rfl]) (fun b o hb ho => ?_) fun b o hb => ?_
  · rw [lookup_filter]
    by_cases e : b = a
    · subst e
      have z := KX _ _ hb
      rw [hobj] at z
      cases z
      exact absurd rfl (ho _ _)
    · rw [if_neg e]; exact hb
  · rw [lookup_filter] at hb
    by_cases e : b = a
    · rw [if_pos e] at hb; cases hb
    · rw [if_neg e] at hb; exact KX _ _ hb
end PL
set_option Elab.async false
set_option linter.all false
set_option maxRecDepth 100000
/-! PLI: plain facts: loops with an invariant, slices, greatest ones, keys of dicts. No program in sight. -/
namespace PL
section
variable {E E1 α R : Type} {put : E → α → E1} {gC : K3 E E E R → E1 → R} {gP : P3 E E E → E1 → Prop} {kC : E → R} {kP : E → Prop} {Q : R → Prop}
theorem for_ind (I : Nat → E → Prop) {l : List α} {e : E} (h0 : I 0 e)
    (step : ∀ i (a : α), l[i]? = some a → ∀ (e : E) (K : K3 E E E R) (KO : P3 E E E), I i e → (∀ e', I (i + 1) e' → KO.nx e' ∧ Q (K.nx e')) → gP KO (put e a) ∧ Q (gC K (put e a)))
    (fin : ∀ e, I l.length e → kP e ∧ Q (kC e)) : forP put gP kP l e ∧ Q (forC put gC kC l e) := by
  have go : ∀ (r : List α) (i : Nat) (e : E), r = l.drop i → i ≤ l.length → I i e → forP put gP kP r e ∧ Q (forC put gC kC r e) := by
    intro r
    induction r with
    | nil =>
      intro i e hr hi hI
      have hz : l.length ≤ i := by
        have := congrArg List.length hr
        simp at this
        omega
      have e2 : i = l.length := by omega
      subst e2
      exact fin e hI
    | cons a r ih =>
      intro i e hr hi hI
      have hlt : i < l.length := by
        have := congrArg List.length hr
        simp at this
        omega
      have ha : l[i]? = some a := by
        have h2 : (l.drop i)[0]? = some a := by rw [← hr]; rfl
        rw [List.getElem?_drop] at h2
        exact h2
      have hr2 : r = l.drop (i + 1) := by
        have h2 : (l.drop i).drop 1 = r := by rw [← hr]; rfl
        rw [List.drop_drop] at h2
        exact h2.symm
      exact step i a ha e ⟨forC put gC kC r, kC, forC put gC kC r⟩ ⟨forP put gP kP r, kP, forP put gP kP r⟩ hI fun e' h' => ih (i + 1) e' hr2 hlt h'
  exact go l 0 e (by simp) (Nat.zero_le _) h0
end
section
variable {E E1 R : Type} {put : E → Int → E1} {gC : K3 E E E R → E1 → R} {gP : P3 E E E → E1 → Prop} {kC : E → R} {kP : E → Prop} {Q : R → Prop}
theorem for_rng (I : Nat → E → Prop) {n : Int} {e : E} (h0 : I 0 e)
    (step : ∀ i : Nat, i < n.toNat → ∀ (e : E) (K : K3 E E E R) (KO : P3 E E E), I i e → (∀ e', I (i + 1) e' → KO.nx e' ∧ Q (K.nx e')) → gP KO (put e i) ∧ Q (gC K (put e i)))
    (fin : ∀ e, I n.toNat e → kP e ∧ Q (kC e)) : forP put gP kP (irange 0 n) e ∧ Q (forC put gC kC (irange 0 n) e) := by
  refine for_ind I h0 (fun i a ha e K KO hI hn => ?_) fun e hI => fin e (by rw [irange_len] at hI; simpa using hI)
  obtain ⟨h1, h2⟩ := irange_at ha
  have e1 : a = (i : Int) := by omega
  subst e1
  exact step i (by omega) e K KO hI hn
end
section
variable {α : Type}
theorem sl_to {xs : List α} {k : Int} (h : 0 ≤ k) : sl xs (some 0) (some k) = xs.take k.toNat := by
  unfold sl HT.sIx
  simp only
  rw [if_neg (by omega), if_neg (by omega)]
  simp only [Int.toNat_zero, Nat.zero_min, List.drop_zero, Nat.sub_zero]
  rw [← List.take_eq_take_min]
theorem sl_none_to {xs : List α} {k : Int} (h : 0 ≤ k) : sl xs none (some k) = xs.take k.toNat := by
  unfold sl HT.sIx
  simp only
  rw [if_neg (by omega)]
  simp only [List.drop_zero, Nat.sub_zero]
  rw [← List.take_eq_take_min]
theorem sl_from {xs : List α} {k : Int} (h : 0 ≤ k) : sl xs (some k) none = xs.drop k.toNat := by
  unfold sl HT.sIx
  simp only
  rw [if_neg (by omega)]
  by_cases h2 : k.toNat ≤ xs.length
  · rw [Nat.min_eq_left h2]
    exact List.take_of_length_le (by rw [List.length_drop]; omega)
  · rw [Nat.min_eq_right (by omega), Nat.sub_self]
    rw [List.take_zero, List.drop_eq_nil_of_le (by omega)]
theorem sl_last {xs : List α} {k : Int} (h : k < 0) : sl xs (some k) none = xs.drop (k + xs.length).toNat := by
  unfold sl HT.sIx
  simp only
  rw [if_pos h]
  exact List.take_of_length_le (by rw [List.length_drop]; omega)
theorem sl_sub {xs : List α} {a b : Option Int} {x : α} (h : x ∈ sl xs a b) : x ∈ xs := by
  unfold sl at h
  exact List.mem_of_mem_drop (List.mem_of_mem_take h)
theorem ixD_nat [Inhabited α] (xs : List α) (k : Nat) : ixD xs (k : Int) = xs.getD k default := by
  unfold ixD
  rw [if_pos (by omega), Int.toNat_natCast]
theorem ixD_get [Inhabited α] {xs : List α} {k : Nat} (h : k < xs.length) : ixD xs (k : Int) = xs[k] := by
  rw [ixD_nat, List.getD_eq_getElem?_getD, List.getElem?_eq_getElem h]; rfl
theorem ixOk_nat {xs : List α} {k : Nat} (h : k < xs.length) : ixOk xs (k : Int) := by unfold ixOk; omega
theorem ixOk_of {xs : List α} {k : Int} (h0 : 0 ≤ k) (h : k < xs.length) : ixOk xs k := by unfold ixOk; omega
theorem irange_nat (n : Nat) : irange 0 (n : Int) = (List.range n).map fun k : Nat => (k : Int) := by
  unfold irange
  have e : ((n : Int) - 0).toNat = n := by omega
  rw [e]
  exact List.map_congr_left fun k _ => by omega
theorem map_ix [Inhabited α] {β : Type} (xs : List α) (f : α → β) : ((irange 0 (xs.length : Int)).map fun k => f (ixD xs k)) = xs.map f := by
  rw [irange_nat, List.map_map]
  apply List.ext_getElem?
  intro i
  rw [List.getElem?_map, List.getElem?_map]
  by_cases h : i < xs.length
  · rw [List.getElem?_range h, List.getElem?_eq_getElem h]
    show some (f (ixD xs (i : Nat))) = _
    rw [ixD_get h]; rfl
  · rw [List.getElem?_eq_none (by simpa using h), List.getElem?_eq_none (by omega)]; rfl
theorem fm_bounds {a n : Int} (h : 0 < n) : 0 ≤ a.fmod n ∧ a.fmod n < n := ⟨Int.fmod_nonneg_of_pos a h, Int.fmod_lt_of_pos a h⟩
end
/-! what is safe, and the rest -/
theorem nx1 {A1 P Q : Prop} (a1 : A1) (h : P ∧ Q) : (A1 ∧ P) ∧ Q := ⟨⟨a1, h.1⟩, h.2⟩
theorem nx2 {A1 A2 P Q : Prop} (a1 : A1) (a2 : A2) (h : P ∧ Q) : (A1 ∧ A2 ∧ P) ∧ Q := ⟨⟨a1, a2, h.1⟩, h.2⟩
theorem nx3 {A1 A2 A3 P Q : Prop} (a1 : A1) (a2 : A2) (a3 : A3) (h : P ∧ Q) : (A1 ∧ A2 ∧ A3 ∧ P) ∧ Q := ⟨⟨a1, a2, a3, h.1⟩, h.2⟩
theorem nx4 {A1 A2 A3 A4 P Q : Prop} (a1 : A1) (a2 : A2) (a3 : A3) (a4 : A4) (h : P ∧ Q) : (A1 ∧ A2 ∧ A3 ∧ A4 ∧ P) ∧ Q := ⟨⟨a1, a2, a3, a4, h.1⟩, h.2⟩
theorem nx5 {A1 A2 A3 A4 A5 P Q : Prop} (a1 : A1) (a2 : A2) (a3 : A3) (a4 : A4) (a5 : A5) (h : P ∧ Q) : (A1 ∧ A2 ∧ A3 ∧ A4 ∧ A5 ∧ P) ∧ Q := ⟨⟨a1, a2, a3, a4, a5, h.1⟩, h.2⟩
theorem nx6 {A1 A2 A3 A4 A5 A6 P Q : Prop} (a1 : A1) (a2 : A2) (a3 : A3) (a4 : A4) (a5 : A5) (a6 : A6) (h : P ∧ Q) : (A1 ∧ A2 ∧ A3 ∧ A4 ∧ A5 ∧ A6 ∧ P) ∧ Q := ⟨⟨a1, a2, a3, a4, a5, a6, h.1⟩, h.2⟩
theorem nx7 {A1 A2 A3 A4 A5 A6 A7 P Q : Prop} (a1 : A1) (a2 : A2) (a3 : A3) (a4 : A4) (a5 : A5) (a6 : A6) (a7 : A7) (h : P ∧ Q) : (A1 ∧ A2 ∧ A3 ∧ A4 ∧ A5 ∧ A6 ∧ A7 ∧ P) ∧ Q := ⟨⟨a1, a2, a3, a4, a5, a6, a7, h.1⟩, h.2⟩
theorem nx8 {A1 A2 A3 A4 A5 A6 A7 A8 P Q : Prop} (a1 : A1) (a2 : A2) (a3 : A3) (a4 : A4) (a5 : A5) (a6 : A6) (a7 : A7) (a8 : A8) (h : P ∧ Q) : (A1 ∧ A2 ∧ A3 ∧ A4 ∧ A5 ∧ A6 ∧ A7 ∧ A8 ∧ P) ∧ Q := ⟨⟨a1, a2, a3, a4, a5, a6, a7, a8, h.1⟩, h.2⟩
theorem nx9 {A1 A2 A3 A4 A5 A6 A7 A8 A9 P Q : Prop} (a1 : A1) (a2 : A2) (a3 : A3) (a4 : A4) (a5 : A5) (a6 : A6) (a7 : A7) (a8 : A8) (a9 : A9) (h : P ∧ Q) : (A1 ∧ A2 ∧ A3 ∧ A4 ∧ A5 ∧ A6 ∧ A7 ∧ A8 ∧ A9 ∧ P) ∧ Q := ⟨⟨a1, a2, a3, a4, a5, a6, a7, a8, a9, h.1⟩, h.2⟩
theorem nx10 {A1 A2 A3 A4 A5 A6 A7 A8 A9 A10 P Q : Prop} (a1 : A1) (a2 : A2) (a3 : A3) (a4 : A4) (a5 : A5) (a6 : A6) (a7 : A7) (a8 : A8) (a9 : A9) (a10 : A10) (h : P ∧ Q) : (A1 ∧ A2 ∧ A3 ∧ A4 ∧ A5 ∧ A6 ∧ A7 ∧ A8 ∧ A9 ∧ A10 ∧ P) ∧ Q := ⟨⟨a1, a2, a3, a4, a5, a6, a7, a8, a9, a10, h.1⟩, h.2⟩
/-! greatest ones -/
theorem maxI_le {xs : List Int} {c : Int} (hn : xs ≠ []) : maxI xs ≤ c ↔ ∀ x ∈ xs, x ≤ c := by
  obtain ⟨h1, h2⟩ := maxI_mem hn
  exact ⟨fun h x hx => Int.le_trans (h2 x hx) h, fun h => h _ h1⟩
/-! keys of a dict -/
section
variable {κ β : Type} [DecidableEq κ]
theorem putD_keys (l : List (κ × β)) (k : κ) (v : β) : (putD l k v).map (·.1) = if k ∈ l.map (·.1) then l.map (·.1) else l.map (·.1) ++ [k] := by
  unfold putD
  by_cases h : (l.any fun p => decide (p.1 = k)) = true
  · rw [if_pos h]
    have hm : k ∈ l.map (·.1) := by
      rw [List.any_eq_true] at h
      obtain ⟨p, hp, e⟩ := h
      exact List.mem_map.mpr ⟨p, hp, of_decide_eq_true e⟩
    rw [if_pos hm, List.map_map]
    refine List.map_congr_left fun p _ => ?_
    show (if p.1 = k then (p.1, v) else p).1 = p.1
    split <;> rfl
  · rw [if_neg h]
    have hm : k ∉ l.map (·.1) := fun hm => h (by
      obtain ⟨p, hp, e⟩ := List.mem_map.mp hm
      exact List.any_eq_true.mpr ⟨p, hp, decide_eq_true e⟩)
    rw [if_neg hm, List.map_append]; rfl
theorem fillD_keys : ∀ (ps l : List (κ × β)), (l.map (·.1)).Nodup → ((fillD l ps).map (·.1)).Nodup ∧ ∀ k, k ∈ (fillD l ps).map (·.1) ↔ k ∈ l.map (·.1) ∨ k ∈ ps.map (·.1)
  | [], l, h => ⟨h, fun k => by simp [fillD]⟩
  | p :: ps, l, h => by
    have hn : ((putD l p.1 p.2).map (·.1)).Nodup := by
      rw [putD_keys]
      split
      · exact h
      · rename_i hm
        rw [List.nodup_append]
        exact ⟨h, by simp, fun a ha b hb => by
          have e : b = p.1 := by simpa using hb
          subst e
          intro e2
          subst e2
          exact hm ha⟩
    obtain ⟨g1, g2⟩ := fillD_keys ps (putD l p.1 p.2) hn
    refine ⟨g1, fun k => ?_⟩
    show k ∈ (fillD (putD l p.1 p.2) ps).map (·.1) ↔ _
    rw [g2 k, putD_keys, List.map_cons, List.mem_cons]
    split
    · rename_i hm
      constructor
      · rintro (h | h)
        · exact .inl h
        · exact .inr (.inr h)
      · rintro (h | h | h)
        · exact .inl h
        · exact .inl (h ▸ hm)
        · exact .inr h
    · rw [List.mem_append, List.mem_singleton]
      constructor
      · rintro ((h | h) | h)
        · exact .inl h
        · exact .inr (.inl h)
        · exact .inr (.inr h)
      · rintro (h | h | h)
        · exact .inl (.inl h)
        · exact .inl (.inr h)
        · exact .inr h
/-- as many as one wants -/
theorem same_len {α : Type} {xs ys : List α} (h1 : xs.Nodup) (h2 : ys.Nodup) (h : ∀ a, a ∈ xs ↔ a ∈ ys) : xs.length = ys.length := ((List.perm_ext_iff_of_nodup h1 h2).mpr h).length_eq
end
end PL
set_option Elab.async false
set_option linter.all false
set_option maxRecDepth 100000
set_option maxHeartbeats 4000000
namespace K40
open PySem PySem.Spec PyProof.Rows L2 PL
def topS (i : Nat) : Stmt := PySem.Challenge.pw_lettersacross_k40_quick_words_of_great_t.main.body.getD i (.Pass ⟨0, 0, 0, 0⟩)
abbrev s_power : Stmt := topS 1
theorem sc_power : FnScope ["base", "exponent", "result", "_"] ["base", "exponent"] (defScope s_power) := ⟨rfl, rfl, rfl, by decide +kernel, rfl, by decide +kernel, by decide +kernel⟩
noncomputable def d_power : { s : DefS (Int × Int × Unit) Int // ∀ {P : Program} {w : World} {K : PySem.W.Frag} {mg : Str → Option Value} {base : Heap} {f : Addr} {fd : FuncData} (m_range : mg "range" = none), Fun K "power" "power" s_power f fd → mg "power" = some (.ref f) → Binds K fd ["base", "exponent"] [] → Cal P w K mg base (1) "power" (spP s.m s.ok) } :=
  ⟨⟨_, _⟩, fun {P w K mg base f fd} m_range F hm bd => cal_of (k := 0) (E := Int × Int × No × No × Unit) F hm bd sc_power (iniA (iniA (iniN (iniN ini0)))) fun cdv A' outer s H E' hr =>
      (ss_cons (s_set (pS (pS p0)) sc_power.nd (ie_int (i := 1)))
      (ss_cons (s_for (E := Int × Int × Int × No × Unit) PassesOwn.never rfl (is_range1 (ie_var (vS v0)) m_range) (pat1 (pS (pS (pS p0)))) (pg_name (i := 3) sc_power.nd rfl (by first | exact Or.inl rfl | exact Or.inr rfl))
        (ss_cons (s_aug ip_mulC r2_intc (vS (vS v0)) (pS (pS p0)) rfl sc_power.nd (ie_var v0))
      (ss_end (ghT (trK (trK (trK (trF trN))))))))
      (ss_last (s_ret (ie_var (vS (vS v0)))))))⟩
abbrev s_has_equal : Stmt := topS 2
theorem sc_has_equal : FnScope ["rights", "place", "right"] ["rights"] (defScope s_has_equal) := ⟨rfl, rfl, rfl, by decide +kernel, rfl, by decide +kernel, by decide +kernel⟩
noncomputable def d_has_equal : { s : DefS ((List S) × Unit) Bool // ∀ {P : Program} {w : World} {K : PySem.W.Frag} {mg : Str → Option Value} {base : Heap} {f : Addr} {fd : FuncData} (m_any : mg "any" = none) (m_enumerate : mg "enumerate" = none), Fun K "has_equal" "has_equal" s_has_equal f fd → mg "has_equal" = some (.ref f) → Binds K fd ["rights"] [] → Cal P w K mg base (1) "has_equal" (spP s.m s.ok) } :=
  ⟨⟨_, _⟩, fun {P w K mg base f fd} m_any m_enumerate F hm bd => cal_of (k := 0) (E := (List S) × No × No × Unit) F hm bd sc_has_equal (iniA (iniN (iniN ini0))) fun cdv A' outer s H E' hr =>
      (ss_last (s_ret (ie_any rfl (ie_fz (LC.io (lc_m (own := [("place", 1), ("right", 2)]) (wp := (wpS (nS n0) (wpS (nS (nS n0)) wp0))) rfl sc_has_equal.nd (is_enum (ie_var v0) m_enumerate) (by kernel_rfl) (pat2 (K := K) (pat1 (pS p0)) (pat1 (pS (pS p0)))) (by decide) (fun _ _ _ _ _ => (pg_tup rfl (pgs_cons (pg_name (i := 1) sc_has_equal.nd rfl (by first | exact Or.inl rfl | exact Or.inr rfl)) (pgs_cons (pg_name (i := 2) sc_has_equal.nd rfl (by first | exact Or.inl rfl | exact Or.inr rfl)) pgs_nil)))) (fun _ _ _ _ _ => (ie_in (ie_var (vS (vS v0))) (ie_fz (io_slice (ie_var v0) ip_none (ip_some (ie_var (vS v0)))))))))) m_any)))⟩
abbrev s_has_heads : Stmt := topS 3
theorem sc_has_heads : FnScope ["rights", "one", "other"] ["rights"] (defScope s_has_heads) := ⟨rfl, rfl, rfl, by decide +kernel, rfl, by decide +kernel, by decide +kernel⟩
noncomputable def d_has_heads : { s : DefS ((List S) × Unit) Bool // ∀ {P : Program} {w : World} {K : PySem.W.Frag} {mg : Str → Option Value} {base : Heap} {f : Addr} {fd : FuncData} (m_any : mg "any" = none), Fun K "has_heads" "has_heads" s_has_heads f fd → mg "has_heads" = some (.ref f) → Binds K fd ["rights"] [] → Cal P w K mg base (1) "has_heads" (spP s.m s.ok) } :=
  ⟨⟨_, _⟩, fun {P w K mg base f fd} m_any F hm bd => cal_of (k := 0) (E := (List S) × No × No × Unit) F hm bd sc_has_heads (iniA (iniN (iniN ini0))) fun cdv A' outer s H E' hr =>
      (ss_last (s_ret (ie_any rfl (ie_fz (LC.io (lc_m2 (own := [("one", 1), ("other", 2)]) (vs1 := [2]) (wp := (wpS (nS n0) (wpS (nS (nS n0)) wp0))) (wp1 := (wpS (nS (nS n0)) wp0)) rfl sc_has_heads.nd (is_list (ie_var v0)) (by kernel_rfl) (by decide) (pat1 (pS p0)) (by decide) (fun _ _ _ _ _ => (pg_name (i := 1) sc_has_heads.nd rfl (by first | exact Or.inl rfl | exact Or.inr rfl))) (fun _ _ _ _ _ => (is_list (ie_var v0))) (pat1 (pS (pS p0))) (by decide) (fun _ _ _ _ _ => (pg_name (i := 2) sc_has_heads.nd rfl (by first | exact Or.inl rfl | exact Or.inr rfl))) (fun _ _ _ _ _ => (ie_and (ie_ne (ie_var (vS v0)) (ie_var (vS (vS v0)))) (ie_one (ie_starts (ie_var (vS (vS v0))) (ie_var (vS v0))))))))) m_any)))⟩
abbrev s_has_tails : Stmt := topS 4
theorem sc_has_tails : FnScope ["rights", "one", "other"] ["rights"] (defScope s_has_tails) := ⟨rfl, rfl, rfl, by decide +kernel, rfl, by decide +kernel, by decide +kernel⟩
noncomputable def d_has_tails : { s : DefS ((List S) × Unit) Bool // ∀ {P : Program} {w : World} {K : PySem.W.Frag} {mg : Str → Option Value} {base : Heap} {f : Addr} {fd : FuncData} (m_any : mg "any" = none), Fun K "has_tails" "has_tails" s_has_tails f fd → mg "has_tails" = some (.ref f) → Binds K fd ["rights"] [] → Cal P w K mg base (1) "has_tails" (spP s.m s.ok) } :=
  ⟨⟨_, _⟩, fun {P w K mg base f fd} m_any F hm bd => cal_of (k := 0) (E := (List S) × No × No × Unit) F hm bd sc_has_tails (iniA (iniN (iniN ini0))) fun cdv A' outer s H E' hr =>
      (ss_last (s_ret (ie_any rfl (ie_fz (LC.io (lc_m2 (own := [("one", 1), ("other", 2)]) (vs1 := [2]) (wp := (wpS (nS n0) (wpS (nS (nS n0)) wp0))) (wp1 := (wpS (nS (nS n0)) wp0)) rfl sc_has_tails.nd (is_list (ie_var v0)) (by kernel_rfl) (by decide) (pat1 (pS p0)) (by decide) (fun _ _ _ _ _ => (pg_name (i := 1) sc_has_tails.nd rfl (by first | exact Or.inl rfl | exact Or.inr rfl))) (fun _ _ _ _ _ => (is_list (ie_var v0))) (pat1 (pS (pS p0))) (by decide) (fun _ _ _ _ _ => (pg_name (i := 2) sc_has_tails.nd rfl (by first | exact Or.inl rfl | exact Or.inr rfl))) (fun _ _ _ _ _ => (ie_and (ie_ne (ie_var (vS v0)) (ie_var (vS (vS v0)))) (ie_one (ie_ends (ie_var (vS (vS v0))) (ie_var (vS v0))))))))) m_any)))⟩
abbrev s_is_crowded : Stmt := topS 5
theorem sc_is_crowded : FnScope ["table", "signs", "most", "total", "_", "right", "sign", "left"] ["table"] (defScope s_is_crowded) := ⟨rfl, rfl, rfl, by decide +kernel, rfl, by decide +kernel, by decide +kernel⟩
noncomputable def d_is_crowded : { s : DefS ((List (S × S)) × Unit) Bool // ∀ {P : Program} {w : World} {K : PySem.W.Frag} {mg : Str → Option Value} {base : Heap} {f : Addr} {fd : FuncData} (m_any : mg "any" = none) (m_len : mg "len" = none) (m_max : mg "max" = none) (m_sum : mg "sum" = none) (c_power : Cal P w K mg base 1 "power" (spP (d_power.1).m (d_power.1).ok)), Fun K "is_crowded" "is_crowded" s_is_crowded f fd → mg "is_crowded" = some (.ref f) → Binds K fd ["table"] [] → Cal P w K mg base (2) "is_crowded" (spP s.m s.ok) } :=
  ⟨⟨_, _⟩, fun {P w K mg base f fd} m_any m_len m_max m_sum c_power F hm bd => cal_of (k := 1) (E := (List (S × S)) × No × No × No × No × No × No × No × Unit) F hm bd sc_is_crowded (iniA (iniN (iniN (iniN (iniN (iniN (iniN (iniN ini0)))))))) fun cdv A' outer s H E' hr =>
      (ss_cons (s_if (E' := (List (S × S)) × No × No × No × No × No × No × No × Unit) (it_val (ie_any rfl (ie_fz (LC.io (lc_m (own := [("_", 4), ("left", 7)]) (wp := (wpS (nS (nS (nS (nS n0)))) (wpS (nS (nS (nS (nS (nS (nS (nS n0))))))) wp0))) rfl sc_is_crowded.nd (is_list (ie_var v0)) (by kernel_rfl) (pat2 (K := K) (pat1 (pS (pS (pS (pS (pS (pS (pS p0)))))))) (pat1 (pS (pS (pS (pS p0)))))) (by decide) (fun _ _ _ _ _ => (pg_tup rfl (pgs_cons (pg_name (i := 7) sc_is_crowded.nd rfl (by first | exact Or.inl rfl | exact Or.inr rfl)) (pgs_cons (pg_name (i := 4) sc_is_crowded.nd rfl (by first | exact Or.inl rfl | exact Or.inr rfl)) pgs_nil)))) (fun _ _ _ _ _ => (ie_gt (ie_lenS (ie_var (vS (vS (vS (vS (vS (vS (vS v0)))))))) m_len) (ie_int (i := 1))))))) m_any))
        (ss_last (s_ret (ie_bl (i := false))))
        (ss_end ghI))
      (ss_cons (s_set (pS p0) sc_is_crowded.nd (ie_dc2 (own := [("_", 4), ("right", 5), ("sign", 6)]) (vs1 := [6]) (wp := (wpS (nS (nS (nS (nS n0)))) (wpS (nS (nS (nS (nS (nS n0))))) (wpS (nS (nS (nS (nS (nS (nS n0)))))) wp0)))) (wp1 := (wpS (nS (nS (nS (nS (nS (nS n0)))))) wp0)) rfl sc_is_crowded.nd (is_list (ie_var v0)) (by kernel_rfl) (by decide) (pat2 (K := K) (pat1 (pS (pS (pS (pS p0))))) (pat1 (pS (pS (pS (pS (pS p0))))))) (by decide) (fun _ _ _ _ _ => (pg_tup rfl (pgs_cons (pg_name (i := 4) sc_is_crowded.nd rfl (by first | exact Or.inl rfl | exact Or.inr rfl)) (pgs_cons (pg_name (i := 5) sc_is_crowded.nd rfl (by first | exact Or.inl rfl | exact Or.inr rfl)) pgs_nil)))) (fun _ _ _ _ _ => (is_str (ie_var (vS (vS (vS (vS (vS v0)))))))) (pat1 (pS (pS (pS (pS (pS (pS p0))))))) (by decide) (fun _ _ _ _ _ => (pg_name (i := 6) sc_is_crowded.nd rfl (by first | exact Or.inl rfl | exact Or.inr rfl))) (fun _ _ _ _ _ => (ie_var (vS (vS (vS (vS (vS (vS v0)))))))) (fun _ _ _ _ _ => (ie_bl (i := true)))))
      (ss_cons (s_set (pS (pS p0)) sc_is_crowded.nd (ie_maxL rfl (ie_fz (LC.io (lc_m (own := [("_", 4), ("right", 5)]) (wp := (wpS (nS (nS (nS (nS n0)))) (wpS (nS (nS (nS (nS (nS n0))))) wp0))) rfl sc_is_crowded.nd (is_list (ie_var v0)) (by kernel_rfl) (pat2 (K := K) (pat1 (pS (pS (pS (pS p0))))) (pat1 (pS (pS (pS (pS (pS p0))))))) (by decide) (fun _ _ _ _ _ => (pg_tup rfl (pgs_cons (pg_name (i := 4) sc_is_crowded.nd rfl (by first | exact Or.inl rfl | exact Or.inr rfl)) (pgs_cons (pg_name (i := 5) sc_is_crowded.nd rfl (by first | exact Or.inl rfl | exact Or.inr rfl)) pgs_nil)))) (fun _ _ _ _ _ => (ie_lenS (ie_var (vS (vS (vS (vS (vS v0)))))) m_len))))) m_max))
      (ss_cons (s_set (pS (pS (pS p0))) sc_is_crowded.nd (ie_sum rfl (ie_fz (LC.io (lc_m (own := [("_", 4), ("right", 5)]) (wp := (wpS (nS (nS (nS (nS n0)))) (wpS (nS (nS (nS (nS (nS n0))))) wp0))) rfl sc_is_crowded.nd (is_list (ie_var v0)) (by kernel_rfl) (pat2 (K := K) (pat1 (pS (pS (pS (pS p0))))) (pat1 (pS (pS (pS (pS (pS p0))))))) (by decide) (fun _ _ _ _ _ => (pg_tup rfl (pgs_cons (pg_name (i := 4) sc_is_crowded.nd rfl (by first | exact Or.inl rfl | exact Or.inr rfl)) (pgs_cons (pg_name (i := 5) sc_is_crowded.nd rfl (by first | exact Or.inl rfl | exact Or.inr rfl)) pgs_nil)))) (fun _ _ _ _ _ => (ie_call c_power hr (by decide) (by rfl) (ia_cons (ie_lenK (ie_var (vS v0)) m_len) (ia_cons (ie_sub (ie_var (vS (vS v0))) (ie_lenS (ie_var (vS (vS (vS (vS (vS v0)))))) m_len)) ia_nil))))))) m_sum))
      (ss_last (s_ret (ie_gt (ie_var (vS (vS (vS v0)))) (ie_call c_power hr (by decide) (by rfl) (ia_cons (ie_lenK (ie_var (vS v0)) m_len) (ia_cons (ie_var (vS (vS v0))) ia_nil))))))))))⟩
abbrev s_quick : Stmt := topS 6
theorem sc_quick : FnScope ["table", "rights", "_", "right"] ["table"] (defScope s_quick) := ⟨rfl, rfl, rfl, by decide +kernel, rfl, by decide +kernel, by decide +kernel⟩
noncomputable def d_quick : { s : DefS ((List (S × S)) × Unit) S // ∀ {P : Program} {w : World} {K : PySem.W.Frag} {mg : Str → Option Value} {base : Heap} {f : Addr} {fd : FuncData} (c_has_equal : Cal P w K mg base 1 "has_equal" (spP (d_has_equal.1).m (d_has_equal.1).ok)) (c_has_heads : Cal P w K mg base 1 "has_heads" (spP (d_has_heads.1).m (d_has_heads.1).ok)) (c_has_tails : Cal P w K mg base 1 "has_tails" (spP (d_has_tails.1).m (d_has_tails.1).ok)) (c_is_crowded : Cal P w K mg base 2 "is_crowded" (spP (d_is_crowded.1).m (d_is_crowded.1).ok)), Fun K "quick" "quick" s_quick f fd → mg "quick" = some (.ref f) → Binds K fd ["table"] [] → Cal P w K mg base (3) "quick" (spP s.m s.ok) } :=
  ⟨⟨_, _⟩, fun {P w K mg base f fd} c_has_equal c_has_heads c_has_tails c_is_crowded F hm bd => cal_of (k := 2) (E := (List (S × S)) × No × No × No × Unit) F hm bd sc_quick (iniA (iniN (iniN (iniN ini0)))) fun cdv A' outer s H E' hr =>
      (ss_cons (s_setLc (pS p0) (lc_m (own := [("_", 2), ("right", 3)]) (wp := (wpS (nS (nS n0)) (wpS (nS (nS (nS n0))) wp0))) rfl sc_quick.nd (is_list (ie_var v0)) (by kernel_rfl) (pat2 (K := K) (pat1 (pS (pS p0))) (pat1 (pS (pS (pS p0))))) (by decide) (fun _ _ _ _ _ => (pg_tup rfl (pgs_cons (pg_name (i := 2) sc_quick.nd rfl (by first | exact Or.inl rfl | exact Or.inr rfl)) (pgs_cons (pg_name (i := 3) sc_quick.nd rfl (by first | exact Or.inl rfl | exact Or.inr rfl)) pgs_nil)))) (fun _ _ _ _ _ => (ie_var (vS (vS (vS v0)))))) rfl (sw_true rfl rfl rfl (by decide +kernel)))
      (ss_cons (s_if (E' := (List (S × S)) × (List S) × No × No × Unit) (it_in (ie_str ([] : S)) (ie_var (vS v0)))
        (ss_last (s_ret (ie_str ([101, 109, 112, 116, 121] : S))))
        (ss_end ghI))
      (ss_cons (s_if (E' := (List (S × S)) × (List S) × No × No × Unit) (it_val (ie_call c_has_equal hr (by decide) (by rfl) (ia_cons (ie_var (vS v0)) ia_nil)))
        (ss_last (s_ret (ie_str ([101, 113, 117, 97, 108] : S))))
        (ss_end ghI))
      (ss_cons (s_if (E' := (List (S × S)) × (List S) × No × No × Unit) (it_not (it_val (ie_call c_has_heads hr (by decide) (by rfl) (ia_cons (ie_var (vS v0)) ia_nil))))
        (ss_last (s_ret (ie_str ([104, 101, 97, 100, 115] : S))))
        (ss_end ghI))
      (ss_cons (s_if (E' := (List (S × S)) × (List S) × No × No × Unit) (it_not (it_val (ie_call c_has_tails hr (by decide) (by rfl) (ia_cons (ie_var (vS v0)) ia_nil))))
        (ss_last (s_ret (ie_str ([116, 97, 105, 108, 115] : S))))
        (ss_end ghI))
      (ss_cons (s_if (E' := (List (S × S)) × (List S) × No × No × Unit) (it_val (ie_call c_is_crowded hr (by decide) (by rfl) (ia_cons (ie_var v0) ia_nil)))
        (ss_last (s_ret (ie_str ([99, 114, 111, 119, 100, 101, 100] : S))))
        (ss_end ghI))
      (ss_last (s_ret (ie_str ([111, 112, 101, 110] : S))))))))))⟩
abbrev s_mirror : Stmt := topS 7
theorem sc_mirror : FnScope ["table", "left", "right"] ["table"] (defScope s_mirror) := ⟨rfl, rfl, rfl, by decide +kernel, rfl, by decide +kernel, by decide +kernel⟩
noncomputable def d_mirror : { s : DefS ((List (S × S)) × Unit) (List (S × S)) // ∀ {P : Program} {w : World} {K : PySem.W.Frag} {mg : Str → Option Value} {base : Heap} {f : Addr} {fd : FuncData}, Fun K "mirror" "mirror" s_mirror f fd → mg "mirror" = some (.ref f) → Binds K fd ["table"] [] → Cal P w K mg base (1) "mirror" (spO s.m s.ok) } :=
  ⟨⟨_, _⟩, fun {P w K mg base f fd} F hm bd => cal_ofO (k := 0) (E := (List (S × S)) × No × No × Unit) F hm bd sc_mirror (iniA (iniN (iniN ini0))) fun cdv A' outer s H E' hr =>
      (ss_last (s_retO (LC.io (lc_m (own := [("left", 1), ("right", 2)]) (wp := (wpS (nS n0) (wpS (nS (nS n0)) wp0))) rfl sc_mirror.nd (is_list (ie_var v0)) (by kernel_rfl) (pat2 (K := K) (pat1 (pS p0)) (pat1 (pS (pS p0)))) (by decide) (fun _ _ _ _ _ => (pg_tup rfl (pgs_cons (pg_name (i := 1) sc_mirror.nd rfl (by first | exact Or.inl rfl | exact Or.inr rfl)) (pgs_cons (pg_name (i := 2) sc_mirror.nd rfl (by first | exact Or.inl rfl | exact Or.inr rfl)) pgs_nil)))) (fun _ _ _ _ _ => (ie_tup2 (ie_revS (ie_var (vS v0))) (ie_revS (ie_var (vS (vS v0))))))))))⟩
abbrev s__law_cell : Stmt := topS 9
theorem sc__law_cell : FnScope ["script", "k"] ["script", "k"] (defScope s__law_cell) := ⟨rfl, rfl, rfl, by decide +kernel, rfl, by decide +kernel, by decide +kernel⟩
noncomputable def d__law_cell : { s : DefS (Scr × Int × Unit) Int // ∀ {P : Program} {w : World} {K : PySem.W.Frag} {mg : Str → Option Value} {base : Heap} {f : Addr} {fd : FuncData} (m_int : mg "int" = none) (m_len : mg "len" = none), Fun K "_law_cell" "_law_cell" s__law_cell f fd → mg "_law_cell" = some (.ref f) → Binds K fd ["script", "k"] [] → Cal P w K mg base (1) "_law_cell" (spP s.m s.ok) } :=
  ⟨⟨_, _⟩, fun {P w K mg base f fd} m_int m_len F hm bd => cal_of (k := 0) (E := Scr × Int × Unit) F hm bd sc__law_cell (iniA (iniA ini0)) fun cdv A' outer s H E' hr =>
      (ss_cons (s_if (E' := Scr × Int × Unit) (it_lt (ie_var (vS v0)) (ie_lenR (ie_var v0) m_len))
        (ss_last (s_ret (ie_intI (ie_ixR (ie_var v0) (ie_var (vS v0))) m_int)))
        (ss_end ghI))
      (ss_last (s_ret (ie_int (i := 0)))))⟩
abbrev s__law_numbers : Stmt := topS 10
theorem sc__law_numbers : FnScope ["cell", "count", "limit", "found", "k", "mixed"] ["cell", "count", "limit"] (defScope s__law_numbers) := ⟨rfl, rfl, rfl, by decide +kernel, rfl, by decide +kernel, by decide +kernel⟩
noncomputable def d__law_numbers : { s : DefS (Int × Int × Int × Unit) (List Int) // ∀ {P : Program} {w : World} {K : PySem.W.Frag} {mg : Str → Option Value} {base : Heap} {f : Addr} {fd : FuncData} (m_int : mg "int" = none) (m_range : mg "range" = none), Fun K "_law_numbers" "_law_numbers" s__law_numbers f fd → mg "_law_numbers" = some (.ref f) → Binds K fd ["cell", "count", "limit"] [] → Cal P w K mg base (1) "_law_numbers" (spO s.m s.ok) } :=
  ⟨⟨_, _⟩, fun {P w K mg base f fd} m_int m_range F hm bd => cal_ofO (k := 0) (E := Int × Int × Int × No × No × No × Unit) F hm bd sc__law_numbers (iniA (iniA (iniA (iniN (iniN (iniN ini0)))))) fun cdv A' outer s H E' hr =>
      (ss_cons (s_setO (pS (pS (pS p0))) sc__law_numbers.nd (io_lst (il_nil (α := Int))))
      (ss_cons (s_if (E' := Int × Int × Int × (Ow Int) × No × No × Unit) (it_ge (ie_var v0) (ie_pow (ie_int (i := 10)) (ie_int (i := 18))))
        (ss_cons (s_for (E := Int × Int × Int × (Ow Int) × No × No × Unit) PassesOwn.never rfl (is_range1 (ie_var (vS v0)) m_range) (pat1 (pS (pS (pS (pS p0))))) (pg_name (i := 4) sc__law_numbers.nd rfl (by first | exact Or.inl rfl | exact Or.inr rfl))
        (ss_cons (s_append (oS (oS (oS o0))) (ie_mod (ie_intI (ie_var v0) m_int) (ie_var (vS (vS v0)))))
      (ss_cons (s_set p0 sc__law_numbers.nd (ie_div (ie_intI (ie_var v0) m_int) (ie_var (vS (vS v0)))))
      (ss_end (ghT (trK (trK (trK (trK (trF (trF trN)))))))))))
      (ss_last (s_retV (oS (oS (oS o0))))))
        (ss_end ghI))
      (ss_cons (s_for (E := Int × Int × Int × (Ow Int) × No × No × Unit) PassesOwn.never rfl (is_range1 (ie_var (vS v0)) m_range) (pat1 (pS (pS (pS (pS p0))))) (pg_name (i := 4) sc__law_numbers.nd rfl (by first | exact Or.inl rfl | exact Or.inr rfl))
        (ss_cons (s_set (pS (pS (pS (pS (pS p0))))) sc__law_numbers.nd (ie_mod (ie_intI (ie_add (ie_add (ie_mul (ie_var v0) (ie_int (i := 48271))) (ie_mul (ie_var (vS (vS (vS (vS v0))))) (ie_int (i := 69621)))) (ie_int (i := 7))) m_int) (ie_int (i := 2147483647))))
      (ss_cons (s_set (pS (pS (pS (pS (pS p0))))) sc__law_numbers.nd (ie_mod (ie_intI (ie_add (ie_add (ie_add (ie_mul (ie_var (vS (vS (vS (vS (vS v0)))))) (ie_var (vS (vS (vS (vS (vS v0))))))) (ie_mul (ie_var (vS (vS (vS (vS (vS v0)))))) (ie_int (i := 40692)))) (ie_mul (ie_var (vS (vS (vS (vS v0))))) (ie_int (i := 16807)))) (ie_int (i := 11))) m_int) (ie_int (i := 2147483399))))
      (ss_cons (s_append (oS (oS (oS o0))) (ie_mod (ie_intI (ie_div (ie_var (vS (vS (vS (vS (vS v0)))))) (ie_int (i := 32))) m_int) (ie_var (vS (vS v0)))))
      (ss_end (ghT (trK (trK (trK (trK (trF (trF trN))))))))))))
      (ss_last (s_retV (oS (oS (oS o0))))))))⟩
abbrev s__law_same : Stmt := topS 11
theorem sc__law_same : FnScope ["told", "due", "k"] ["told", "due"] (defScope s__law_same) := ⟨rfl, rfl, rfl, by decide +kernel, rfl, by decide +kernel, by decide +kernel⟩
noncomputable def st__law_same (n : Nat) (g : D × D × Unit → Bool) (gok : D × D × Unit → Prop) : { s : DefS (D × D × Unit) Bool // ∀ {P : Program} {w : World} {K : PySem.W.Frag} {mg : Str → Option Value} {base : Heap} {f : Addr} {fd : FuncData} (m_bool : mg "bool" = none) (m_int : mg "int" = none) (m_isinstance : mg "isinstance" = none) (m_len : mg "len" = none) (m_list : mg "list" = none) (m_range : mg "range" = none) (m_str : mg "str" = none) (m_tuple : mg "tuple" = none) (c__law_same : Cal P w K mg base n "_law_same" (spP g gok)), Fun K "_law_same" "_law_same" s__law_same f fd → mg "_law_same" = some (.ref f) → Binds K fd ["told", "due"] [] → Cal P w K mg base (n + 1) "_law_same" (spP s.m s.ok) } :=
  ⟨⟨_, _⟩, fun {P w K mg base f fd} m_bool m_int m_isinstance m_len m_list m_range m_str m_tuple c__law_same F hm bd => cal_of (k := n) (E := D × D × No × Unit) F hm bd sc__law_same (iniA (iniA (iniN ini0))) fun cdv A' outer s H E' hr =>
      (ss_cons (s_if (E' := D × D × No × Unit) (it_val (ie_isi "list" D.isL isi_L (ie_var (vS v0)) m_list m_isinstance (by decide +kernel)))
        (ss_cons (s_if (E' := D × D × No × Unit) (it_w (iw_or (it_not (it_val (ie_isi "list" D.isL isi_L (ie_var v0) m_list m_isinstance (by decide +kernel)))) (iw_or1 (it_ne (ie_lenD (ie_var v0) m_len) (ie_lenD (ie_var (vS v0)) m_len)))))
        (ss_last (s_ret (ie_bl (i := false))))
        (ss_end ghI))
      (ss_end ghI))
        (ss_cons (s_if (E' := D × D × No × Unit) (it_val (ie_isi "tuple" D.isT isi_T (ie_var (vS v0)) m_tuple m_isinstance (by decide +kernel)))
        (ss_cons (s_if (E' := D × D × No × Unit) (it_w (iw_or (it_not (it_val (ie_isi "tuple" D.isT isi_T (ie_var v0) m_tuple m_isinstance (by decide +kernel)))) (iw_or1 (it_ne (ie_lenD (ie_var v0) m_len) (ie_lenD (ie_var (vS v0)) m_len)))))
        (ss_last (s_ret (ie_bl (i := false))))
        (ss_end ghI))
      (ss_end ghI))
        (ss_last (s_if (it_isD (ie_var (vS v0))) (ss_last (s_ret (ie_isD (ie_var v0)))) (ss_last (s_if (it_val (ie_isi "bool" D.isB isi_B (ie_var (vS v0)) m_bool m_isinstance (by decide +kernel))) (ss_last (s_ret (ie_and (ie_isi "bool" D.isB isi_B (ie_var v0) m_bool m_isinstance (by decide +kernel)) (ie_one (ie_eqF (ie_var v0) (ie_var (vS v0))))))) (ss_last (s_if (it_val (ie_isi "int" D.isI isi_I (ie_var (vS v0)) m_int m_isinstance (by decide +kernel))) (ss_last (s_ret (ie_and (ie_isi "int" D.isI isi_I (ie_var v0) m_int m_isinstance (by decide +kernel)) (ie_and (ie_not (ie_isi "bool" D.isB isi_B (ie_var v0) m_bool m_isinstance (by decide +kernel))) (ie_one (ie_eqF (ie_var v0) (ie_var (vS v0)))))))) (ss_last (s_ret (ie_and (ie_isi "str" D.isS isi_S (ie_var v0) m_str m_isinstance (by decide +kernel)) (ie_one (ie_eqF (ie_var v0) (ie_var (vS v0))))))))))))))
      (ss_end ghI)))
      (ss_cons (s_for (E := D × D × No × Unit) PassesOwn.never rfl (is_range1 (ie_lenD (ie_var (vS v0)) m_len) m_range) (pat1 (pS (pS p0))) (pg_name (i := 2) sc__law_same.nd rfl (by first | exact Or.inl rfl | exact Or.inr rfl))
        (ss_cons (s_if (E' := D × D × Int × Unit) (it_not (it_val (ie_call c__law_same hr (Nat.le_refl _) (by rfl) (ia_cons (ie_ixD (ie_var v0) (ie_var (vS (vS v0)))) (ia_cons (ie_ixD (ie_var (vS v0)) (ie_var (vS (vS v0)))) ia_nil)))))
        (ss_last (s_ret (ie_bl (i := false))))
        (ss_end ghI))
      (ss_end (ghT (trK (trK (trF trN)))))))
      (ss_last (s_ret (ie_bl (i := true))))))⟩
theorem same_m (n : Nat) {g : D × D × Unit → Bool} (hg : g = fun t => D.same t.1 t.2.1) {gok : D × D × Unit → Prop} (a b : D) : (st__law_same n g gok).1.m (a, b, ()) = D.same a b := by
  have loop : ∀ (xs ys : List D), xs.length = ys.length → ∀ (ab : D × D), ab.1.items = xs → ab.2.items = ys →
      forC (E := D × D × No × Unit) (E1 := D × D × Int × Unit) (fun e t => (e.1, e.2.1, t, e.2.2.2)) (fun K e => if (!g (ixD e.1.items e.2.2.1, ixD e.2.1.items e.2.2.1, ())) = true then false else K.nx (e.1, e.2.1, {}, e.2.2.2)) (fun _ => true) (irange 0 ys.length) (ab.1, ab.2, {}, ()) = D.sames xs ys := fun xs ys hl ab h1 h2 => by
    subst hg
    refine (loop_all (E := D × D × No × Unit) (E1 := D × D × Int × Unit) _ (fun e => D.same (ixD e.1.items e.2.2.1) (ixD e.2.1.items e.2.2.1)) (fun e => (e.1, e.2.1, {}, e.2.2.2)) (fun _ _ => rfl) _ _ _).trans ?_
    rw [Bool.and_true, ← sames_ir xs ys hl]
    refine all_congr fun k _ => ?_
    show D.same (ixD ab.1.items k) (ixD ab.2.items k) = _
    rw [h1, h2]
  cases b with
  | lst ys =>
    show (if (!a.isL || !decide ((a.items.length : Int) = (ys.length : Nat))) = true then false else _) = _
    cases a with
    | lst xs =>
      by_cases hl : xs.length = ys.length
      · rw [if_neg (by simp [D.isL, D.items, hl])]; exact loop xs ys hl (.lst xs, .lst ys) rfl rfl
      · rw [if_pos (by show (!true || !decide ((xs.length : Int) = ys.length)) = true; rw [decide_eq_false (by omega)]; rfl)]; simp only [D.same]; rw [sames_all, decide_eq_false hl]; rfl
    | _ => rfl
  | tup ys =>
    show (if (!a.isT || !decide ((a.items.length : Int) = (ys.length : Nat))) = true then false else _) = _
    cases a with
    | tup xs =>
      by_cases hl : xs.length = ys.length
      · rw [if_neg (by simp [D.isT, D.items, hl])]; exact loop xs ys hl (.tup xs, .tup ys) rfl rfl
      · rw [if_pos (by show (!true || !decide ((xs.length : Int) = ys.length)) = true; rw [decide_eq_false (by omega)]; rfl)]; simp only [D.same]; rw [sames_all, decide_eq_false hl]; rfl
    | _ => rfl
  | _ => cases a <;> rfl
theorem same_ok (n : Nat) {g : D × D × Unit → Bool} {gok : D × D × Unit → Prop} (hgok : gok = fun t => fitD n t.2.1 = true) (a b : D) (h : fitD (n + 1) b = true) : (st__law_same n g gok).1.ok (a, b, ()) := by
  subst hgok
  have ix : ∀ {xs : List D} {k : Int}, k ∈ irange 0 xs.length → ixOk xs k ∧ ixD xs k ∈ xs := fun {xs k} hk => by
    have := ir_mem hk
    exact ⟨⟨by omega, this.2⟩, ixD_mem this.1 this.2⟩
  cases b with
  | lst ys =>
    simp only [fitD, Bool.and_eq_true, decide_eq_true_eq, List.all_eq_true] at h
    refine ⟨trivial, fun _ => ⟨⟨trivial, fun ha => ?_⟩, fun _ => trivial, fun hb => ?_⟩, fun z => nomatch z⟩
    · cases a <;> first | exact ⟨⟨trivial, rfl⟩, trivial, rfl⟩ | exact nomatch ha
    · cases a with
      | lst xs =>
        have hl : xs.length = ys.length := by
          have hd : (!true || !decide ((xs.length : Int) = ys.length)) = false := hb
          by_cases z : xs.length = ys.length
          · exact z
          · rw [decide_eq_false (by omega)] at hd; exact nomatch hd
        refine ⟨⟨⟨trivial, rfl⟩, rgOk_len h.1⟩, loopP_all _ _ _ _ _ (fun x => x.1 = .lst xs ∧ x.2.1 = .lst ys ∧ x.2.2.1 ∈ irange 0 ys.length) (fun e => (e.1, e.2.1, {}, e.2.2.2)) (fun _ _ => rfl) ?_ (fun k hk => ⟨rfl, rfl, hk⟩) trivial⟩
        rintro K ⟨x1, x2, k, ⟨⟩⟩ ⟨rfl, rfl, hk⟩ hn
        have i1 := ix (xs := ys) hk
        have i2 := ix (xs := xs) (by rw [hl]; exact hk)
        exact ⟨⟨⟨⟨trivial, trivial, rfl, i2.1⟩, ⟨trivial, trivial, rfl, i1.1⟩, trivial⟩, h.2 _ i1.2⟩, fun _ => trivial, fun _ => hn⟩
      | _ => exact nomatch hb
  | tup ys =>
    simp only [fitD, Bool.and_eq_true, decide_eq_true_eq, List.all_eq_true] at h
    refine ⟨trivial, (fun z => nomatch z), fun _ => ⟨trivial, fun _ => ⟨⟨trivial, fun ha => ?_⟩, fun _ => trivial, fun hb => ?_⟩, fun z => nomatch z⟩⟩
    · cases a <;> first | exact ⟨⟨trivial, rfl⟩, trivial, rfl⟩ | exact nomatch ha
    · cases a with
      | tup xs =>
        have hl : xs.length = ys.length := by
          have hd : (!true || !decide ((xs.length : Int) = ys.length)) = false := hb
          by_cases z : xs.length = ys.length
          · exact z
          · rw [decide_eq_false (by omega)] at hd; exact nomatch hd
        refine ⟨⟨⟨trivial, rfl⟩, rgOk_len h.1⟩, loopP_all _ _ _ _ _ (fun x => x.1 = .tup xs ∧ x.2.1 = .tup ys ∧ x.2.2.1 ∈ irange 0 ys.length) (fun e => (e.1, e.2.1, {}, e.2.2.2)) (fun _ _ => rfl) ?_ (fun k hk => ⟨rfl, rfl, hk⟩) trivial⟩
        rintro K ⟨x1, x2, k, ⟨⟩⟩ ⟨rfl, rfl, hk⟩ hn
        have i1 := ix (xs := ys) hk
        have i2 := ix (xs := xs) (by rw [hl]; exact hk)
        exact ⟨⟨⟨⟨trivial, trivial, rfl, i2.1⟩, ⟨trivial, trivial, rfl, i1.1⟩, trivial⟩, h.2 _ i1.2⟩, fun _ => trivial, fun _ => hn⟩
      | _ => exact nomatch hb
  | _ => cases a <;> simp [st__law_same, D.isL, D.isT, D.isN, D.isB, D.isI, D.isS, D.flatOk, okT]
theorem cal_same0 {P : Program} {w : World} {K : PySem.W.Frag} {mg : Str → Option Value} {base : Heap} {f : Addr} {fd : FuncData} (m_bool : mg "bool" = none) (m_int : mg "int" = none) (m_isinstance : mg "isinstance" = none) (m_len : mg "len" = none) (m_list : mg "list" = none) (m_range : mg "range" = none) (m_str : mg "str" = none) (m_tuple : mg "tuple" = none) (F : Fun K "_law_same" "_law_same" s__law_same f fd) (hm : mg "_law_same" = some (.ref f)) (bd : Binds K fd ["told", "due"] []) :
    ∀ n, Cal P w K mg base n "_law_same" (spP (fun t : D × D × Unit => D.same t.1 t.2.1) (fun t => fitD n t.2.1 = true))
  | 0 => ⟨f, fd, _, ⟨fun vs H Q E h => by obtain ⟨_, _, _, _, o, _⟩ := h; exact (nomatch o), fun A outer s H args us vs Q E hr he hb hv h => by obtain ⟨_, _, _, _, o, _⟩ := h; exact (nomatch o)⟩, hm, F.kp, bd⟩
  | n + 1 => by
    have c := (st__law_same n _ _).2 (P := P) (w := w) (base := base) m_bool m_int m_isinstance m_len m_list m_range m_str m_tuple (cal_same0 (P := P) (w := w) (base := base) m_bool m_int m_isinstance m_len m_list m_range m_str m_tuple F hm bd n) F hm bd
    obtain ⟨f1, fd1, ps1, c1, c2⟩ := c.ex
    refine ⟨f1, fd1, ps1, c1.imp fun vs H Q E h => ?_, c2⟩
    obtain ⟨F, ⟨a, b, ⟨⟩⟩, hs, r, o, q⟩ := h
    exact ⟨F, (a, b, ()), hs, r, same_ok n rfl a b o, fun F' H' v X rv => q F' H' v X (by rw [same_m n rfl] at rv; exact rv)⟩
noncomputable def d__law_same : { s : DefS (D × D × Unit) Bool // ∀ {P : Program} {w : World} {K : PySem.W.Frag} {mg : Str → Option Value} {base : Heap} {f : Addr} {fd : FuncData} (m_bool : mg "bool" = none) (m_int : mg "int" = none) (m_isinstance : mg "isinstance" = none) (m_len : mg "len" = none) (m_list : mg "list" = none) (m_range : mg "range" = none) (m_str : mg "str" = none) (m_tuple : mg "tuple" = none), Fun K "_law_same" "_law_same" s__law_same f fd → mg "_law_same" = some (.ref f) → Binds K fd ["told", "due"] [] → Cal P w K mg base 8 "_law_same" (spP s.m s.ok) } :=
  ⟨⟨fun t => D.same t.1 t.2.1, fun t => fitD 8 t.2.1 = true⟩, fun m1 m2 m3 m4 m5 m6 m7 m8 F hm bd => cal_same0 m1 m2 m3 m4 m5 m6 m7 m8 F hm bd 8⟩

abbrev s__law_power : Stmt := topS 12
theorem sc__law_power : FnScope ["base", "size", "total", "turn"] ["base", "size"] (defScope s__law_power) := ⟨rfl, rfl, rfl, by decide +kernel, rfl, by decide +kernel, by decide +kernel⟩
noncomputable def d__law_power : { s : DefS (Int × Int × Unit) Int // ∀ {P : Program} {w : World} {K : PySem.W.Frag} {mg : Str → Option Value} {base : Heap} {f : Addr} {fd : FuncData} (m_range : mg "range" = none), Fun K "_law_power" "_law_power" s__law_power f fd → mg "_law_power" = some (.ref f) → Binds K fd ["base", "size"] [] → Cal P w K mg base (1) "_law_power" (spP s.m s.ok) } :=
  ⟨⟨_, _⟩, fun {P w K mg base f fd} m_range F hm bd => cal_of (k := 0) (E := Int × Int × No × No × Unit) F hm bd sc__law_power (iniA (iniA (iniN (iniN ini0)))) fun cdv A' outer s H E' hr =>
      (ss_cons (s_set (pS (pS p0)) sc__law_power.nd (ie_int (i := 1)))
      (ss_cons (s_for (E := Int × Int × Int × No × Unit) PassesOwn.never rfl (is_range1 (ie_var (vS v0)) m_range) (pat1 (pS (pS (pS p0)))) (pg_name (i := 3) sc__law_power.nd rfl (by first | exact Or.inl rfl | exact Or.inr rfl))
        (ss_cons (s_set (pS (pS p0)) sc__law_power.nd (ie_mul (ie_var (vS (vS v0))) (ie_var v0)))
      (ss_end (ghT (trK (trK (trK (trF trN))))))))
      (ss_last (s_ret (ie_var (vS (vS v0)))))))⟩
abbrev s__law_quick : Stmt := topS 13
theorem sc__law_quick : FnScope ["table", "right", "rights", "heads", "tails", "k", "j", "signs", "most", "total", "left"] ["table"] (defScope s__law_quick) := ⟨rfl, rfl, rfl, by decide +kernel, rfl, by decide +kernel, by decide +kernel⟩
noncomputable def d__law_quick : { s : DefS ((List (S × S)) × Unit) S // ∀ {P : Program} {w : World} {K : PySem.W.Frag} {mg : Str → Option Value} {base : Heap} {f : Addr} {fd : FuncData} (m_int : mg "int" = none) (m_len : mg "len" = none) (m_max : mg "max" = none) (m_range : mg "range" = none) (m_sum : mg "sum" = none) (c__law_power : Cal P w K mg base 1 "_law_power" (spP (d__law_power.1).m (d__law_power.1).ok)), Fun K "_law_quick" "_law_quick" s__law_quick f fd → mg "_law_quick" = some (.ref f) → Binds K fd ["table"] [] → Cal P w K mg base (2) "_law_quick" (spP s.m s.ok) } :=
  ⟨⟨_, _⟩, fun {P w K mg base f fd} m_int m_len m_max m_range m_sum c__law_power F hm bd => cal_of (k := 1) (E := (List (S × S)) × No × No × No × No × No × No × No × No × No × No × Unit) F hm bd sc__law_quick (iniA (iniN (iniN (iniN (iniN (iniN (iniN (iniN (iniN (iniN (iniN ini0))))))))))) fun cdv A' outer s H E' hr =>
      (ss_cons (s_setLc (pS (pS p0)) (lc_m (own := [("right", 1), ("left", 10)]) (wp := (wpS (nS n0) (wpS (nS (nS (nS (nS (nS (nS (nS (nS (nS (nS n0)))))))))) wp0))) rfl sc__law_quick.nd (is_list (ie_var v0)) (by kernel_rfl) (pat2 (K := K) (pat1 (pS (pS (pS (pS (pS (pS (pS (pS (pS (pS p0))))))))))) (pat1 (pS p0))) (by decide) (fun _ _ _ _ _ => (pg_tup rfl (pgs_cons (pg_name (i := 10) sc__law_quick.nd rfl (by first | exact Or.inl rfl | exact Or.inr rfl)) (pgs_cons (pg_name (i := 1) sc__law_quick.nd rfl (by first | exact Or.inl rfl | exact Or.inr rfl)) pgs_nil)))) (fun _ _ _ _ _ => (ie_var (vS v0)))) rfl (sw_true rfl rfl rfl (by decide +kernel)))
      (ss_cons (s_if (E' := (List (S × S)) × No × (List S) × No × No × No × No × No × No × No × No × Unit) (it_in (ie_str ([] : S)) (ie_var (vS (vS v0))))
        (ss_last (s_ret (ie_str ([101, 109, 112, 116, 121] : S))))
        (ss_end ghI))
      (ss_cons (s_set (pS (pS (pS p0))) sc__law_quick.nd (ie_int (i := 0)))
      (ss_cons (s_set (pS (pS (pS (pS p0)))) sc__law_quick.nd (ie_int (i := 0)))
      (ss_cons (s_for (E := (List (S × S)) × No × (List S) × Int × Int × No × No × No × No × No × No × Unit) PassesOwn.never rfl (is_range1 (ie_lenL (ie_var (vS (vS v0))) m_len) m_range) (pat1 (pS (pS (pS (pS (pS p0)))))) (pg_name (i := 5) sc__law_quick.nd rfl (by first | exact Or.inl rfl | exact Or.inr rfl))
        (ss_cons (s_for (E := (List (S × S)) × No × (List S) × Int × Int × Int × No × No × No × No × No × Unit) PassesOwn.never rfl (is_range1 (ie_lenL (ie_var (vS (vS v0))) m_len) m_range) (pat1 (pS (pS (pS (pS (pS (pS p0))))))) (pg_name (i := 6) sc__law_quick.nd rfl (by first | exact Or.inl rfl | exact Or.inr rfl))
        (ss_cons (s_if (E' := (List (S × S)) × No × (List S) × Int × Int × Int × Int × No × No × No × No × Unit) (it_w (iw_and (it_ne (ie_var (vS (vS (vS (vS (vS v0)))))) (ie_var (vS (vS (vS (vS (vS (vS v0)))))))) (iw_and1 (it_eq (ie_ix (ie_var (vS (vS v0))) (ie_var (vS (vS (vS (vS (vS v0))))))) (ie_ix (ie_var (vS (vS v0))) (ie_var (vS (vS (vS (vS (vS (vS v0))))))))))))
        (ss_last (s_ret (ie_str ([101, 113, 117, 97, 108] : S))))
        (ss_end ghI))
      (ss_cons (s_set (pS (pS (pS p0))) sc__law_quick.nd (ie_add (ie_var (vS (vS (vS v0)))) (ie_intB (ie_and (ie_ne (ie_var (vS (vS (vS (vS (vS v0)))))) (ie_var (vS (vS (vS (vS (vS (vS v0)))))))) (ie_one (ie_eq (ie_sliceS (ie_ix (ie_var (vS (vS v0))) (ie_var (vS (vS (vS (vS (vS (vS v0)))))))) (ip_some (ie_int (i := 0))) (ip_some (ie_lenS (ie_ix (ie_var (vS (vS v0))) (ie_var (vS (vS (vS (vS (vS v0))))))) m_len))) (ie_ix (ie_var (vS (vS v0))) (ie_var (vS (vS (vS (vS (vS v0)))))))))) m_int)))
      (ss_cons (s_set (pS (pS (pS (pS p0)))) sc__law_quick.nd (ie_add (ie_var (vS (vS (vS (vS v0))))) (ie_intB (ie_and (ie_ne (ie_var (vS (vS (vS (vS (vS v0)))))) (ie_var (vS (vS (vS (vS (vS (vS v0)))))))) (ie_one (ie_eq (ie_sliceS (ie_revS (ie_ix (ie_var (vS (vS v0))) (ie_var (vS (vS (vS (vS (vS (vS v0))))))))) (ip_some (ie_int (i := 0))) (ip_some (ie_lenS (ie_ix (ie_var (vS (vS v0))) (ie_var (vS (vS (vS (vS (vS v0))))))) m_len))) (ie_revS (ie_ix (ie_var (vS (vS v0))) (ie_var (vS (vS (vS (vS (vS v0))))))))))) m_int)))
      (ss_end (ghT (trK (trF (trK (trK (trK (trK (trF (trF (trF (trF (trF trN)))))))))))))))))
      (ss_end (ghT (trK (trF (trK (trK (trK (trF (trF (trF (trF (trF (trF trN)))))))))))))))
      (ss_cons (s_if (E' := (List (S × S)) × No × (List S) × Int × Int × No × No × No × No × No × No × Unit) (it_eq (ie_var (vS (vS (vS v0)))) (ie_int (i := 0)))
        (ss_last (s_ret (ie_str ([104, 101, 97, 100, 115] : S))))
        (ss_end ghI))
      (ss_cons (s_if (E' := (List (S × S)) × No × (List S) × Int × Int × No × No × No × No × No × No × Unit) (it_eq (ie_var (vS (vS (vS (vS v0))))) (ie_int (i := 0)))
        (ss_last (s_ret (ie_str ([116, 97, 105, 108, 115] : S))))
        (ss_end ghI))
      (ss_cons (s_set (pS (pS (pS (pS (pS (pS (pS p0))))))) sc__law_quick.nd (ie_fz (io_lst (il_nil (α := S)))))
      (ss_cons (s_gh (ghT (trK (trF (trK (trF (trF (trF (trF (trK (trF (trF (trF trN)))))))))))) (s_for (E := (List (S × S)) × No × (List S) × No × No × No × No × (List S) × No × No × No × Unit) PassesOwn.never rfl (is_list (ie_var (vS (vS v0)))) (pat1 (pS p0)) (pg_name (i := 1) sc__law_quick.nd rfl (by first | exact Or.inl rfl | exact Or.inr rfl))
        (ss_cons (s_set (pS (pS (pS (pS (pS (pS (pS p0))))))) sc__law_quick.nd (ie_fz (io_cat (ie_var (vS (vS (vS (vS (vS (vS (vS v0)))))))) (ie_fz (LC.io (lc_c (own := [("k", 5)]) (wp := (wpS (nS (nS (nS (nS (nS n0))))) wp0)) rfl sc__law_quick.nd (is_range1 (ie_lenS (ie_var (vS v0)) m_len) m_range) (by kernel_rfl) (pat1 (pS (pS (pS (pS (pS p0)))))) (by decide) (fun _ _ _ _ _ => (pg_name (i := 5) sc__law_quick.nd rfl (by first | exact Or.inl rfl | exact Or.inr rfl))) (fun _ _ _ _ _ => its_one (it_w (iw_and (it_nin (ie_ixS (ie_var (vS v0)) (ie_var (vS (vS (vS (vS (vS v0))))))) (ie_var (vS (vS (vS (vS (vS (vS (vS v0))))))))) (iw_and1 (it_ninS (ie_ixS (ie_var (vS v0)) (ie_var (vS (vS (vS (vS (vS v0))))))) (ie_sliceS (ie_var (vS v0)) (ip_some (ie_int (i := 0))) (ip_some (ie_var (vS (vS (vS (vS (vS v0))))))))))))) (fun _ _ _ _ _ => (ie_ixS (ie_var (vS v0)) (ie_var (vS (vS (vS (vS (vS v0))))))))))))))
      (ss_end (ghT (trK (trF (trK (trF (trF (trF (trF (trK (trF (trF (trF trN))))))))))))))))
      (ss_cons (s_set (pS (pS (pS (pS (pS (pS (pS (pS p0)))))))) sc__law_quick.nd (ie_maxL rfl (ie_fz (LC.io (lc_m (own := [("right", 1)]) (wp := (wpS (nS n0) wp0)) rfl sc__law_quick.nd (is_list (ie_var (vS (vS v0)))) (by kernel_rfl) (pat1 (pS p0)) (by decide) (fun _ _ _ _ _ => (pg_name (i := 1) sc__law_quick.nd rfl (by first | exact Or.inl rfl | exact Or.inr rfl))) (fun _ _ _ _ _ => (ie_lenS (ie_var (vS v0)) m_len))))) m_max))
      (ss_cons (s_set (pS (pS (pS (pS (pS (pS (pS (pS (pS p0))))))))) sc__law_quick.nd (ie_sum rfl (ie_fz (LC.io (lc_m (own := [("right", 1)]) (wp := (wpS (nS n0) wp0)) rfl sc__law_quick.nd (is_list (ie_var (vS (vS v0)))) (by kernel_rfl) (pat1 (pS p0)) (by decide) (fun _ _ _ _ _ => (pg_name (i := 1) sc__law_quick.nd rfl (by first | exact Or.inl rfl | exact Or.inr rfl))) (fun _ _ _ _ _ => (ie_call c__law_power hr (by decide) (by rfl) (ia_cons (ie_lenL (ie_var (vS (vS (vS (vS (vS (vS (vS v0)))))))) m_len) (ia_cons (ie_sub (ie_var (vS (vS (vS (vS (vS (vS (vS (vS v0))))))))) (ie_lenS (ie_var (vS v0)) m_len)) ia_nil))))))) m_sum))
      (ss_cons (s_if (E' := (List (S × S)) × No × (List S) × No × No × No × No × (List S) × Int × Int × No × Unit) (it_w (iw_and (it_eq (ie_maxL rfl (ie_fz (LC.io (lc_m (own := [("right", 1), ("left", 10)]) (wp := (wpS (nS n0) (wpS (nS (nS (nS (nS (nS (nS (nS (nS (nS (nS n0)))))))))) wp0))) rfl sc__law_quick.nd (is_list (ie_var v0)) (by kernel_rfl) (pat2 (K := K) (pat1 (pS (pS (pS (pS (pS (pS (pS (pS (pS (pS p0))))))))))) (pat1 (pS p0))) (by decide) (fun _ _ _ _ _ => (pg_tup rfl (pgs_cons (pg_name (i := 10) sc__law_quick.nd rfl (by first | exact Or.inl rfl | exact Or.inr rfl)) (pgs_cons (pg_name (i := 1) sc__law_quick.nd rfl (by first | exact Or.inl rfl | exact Or.inr rfl)) pgs_nil)))) (fun _ _ _ _ _ => (ie_lenS (ie_var (vS (vS (vS (vS (vS (vS (vS (vS (vS (vS v0))))))))))) m_len))))) m_max) (ie_int (i := 1))) (iw_and1 (it_gt (ie_var (vS (vS (vS (vS (vS (vS (vS (vS (vS v0)))))))))) (ie_call c__law_power hr (by decide) (by rfl) (ia_cons (ie_lenL (ie_var (vS (vS (vS (vS (vS (vS (vS v0)))))))) m_len) (ia_cons (ie_var (vS (vS (vS (vS (vS (vS (vS (vS v0))))))))) ia_nil)))))))
        (ss_last (s_ret (ie_str ([99, 114, 111, 119, 100, 101, 100] : S))))
        (ss_end ghI))
      (ss_last (s_ret (ie_str ([111, 112, 101, 110] : S))))))))))))))))⟩
abbrev s__law_strings : Stmt := topS 14
theorem sc__law_strings : FnScope ["out", "most", "found", "level", "size", "more", "text", "sign"] ["out", "most"] (defScope s__law_strings) := ⟨rfl, rfl, rfl, by decide +kernel, rfl, by decide +kernel, by decide +kernel⟩
noncomputable def d__law_strings : { s : DefS (S × Int × Unit) (List S) // ∀ {P : Program} {w : World} {K : PySem.W.Frag} {mg : Str → Option Value} {base : Heap} {f : Addr} {fd : FuncData} (m_range : mg "range" = none), Fun K "_law_strings" "_law_strings" s__law_strings f fd → mg "_law_strings" = some (.ref f) → Binds K fd ["out", "most"] [] → Cal P w K mg base (1) "_law_strings" (spP s.m s.ok) } :=
  ⟨⟨_, _⟩, fun {P w K mg base f fd} m_range F hm bd => cal_of (k := 0) (E := S × Int × No × No × No × No × No × No × Unit) F hm bd sc__law_strings (iniA (iniA (iniN (iniN (iniN (iniN (iniN (iniN ini0)))))))) fun cdv A' outer s H E' hr =>
      (ss_cons (s_set (pS (pS p0)) sc__law_strings.nd (ie_fz (io_lst (il_nil (α := S)))))
      (ss_cons (s_set (pS (pS (pS p0))) sc__law_strings.nd (ie_fz (io_lst (il_cons (ie_str ([] : S)) (il_nil (α := S))))))
      (ss_cons (s_for (E := S × Int × (List S) × (List S) × No × No × No × No × Unit) PassesOwn.never rfl (is_range1 (ie_var (vS v0)) m_range) (pat1 (pS (pS (pS (pS p0))))) (pg_name (i := 4) sc__law_strings.nd rfl (by first | exact Or.inl rfl | exact Or.inr rfl))
        (ss_cons (s_set (pS (pS (pS (pS (pS p0))))) sc__law_strings.nd (ie_fz (io_lst (il_nil (α := S)))))
      (ss_cons (s_gh (ghT (trK (trK (trK (trK (trF (trK (trF (trF trN))))))))) (s_for (E := S × Int × (List S) × (List S) × No × (List S) × No × No × Unit) PassesOwn.never rfl (is_list (ie_var (vS (vS (vS v0))))) (pat1 (pS (pS (pS (pS (pS (pS p0))))))) (pg_name (i := 6) sc__law_strings.nd rfl (by first | exact Or.inl rfl | exact Or.inr rfl))
        (ss_cons (s_set (pS (pS (pS (pS (pS p0))))) sc__law_strings.nd (ie_fz (io_cat (ie_var (vS (vS (vS (vS (vS v0)))))) (ie_fz (LC.io (lc_m (own := [("sign", 7)]) (wp := (wpS (nS (nS (nS (nS (nS (nS (nS n0))))))) wp0)) rfl sc__law_strings.nd (is_str (ie_var v0)) (by kernel_rfl) (pat1 (pS (pS (pS (pS (pS (pS (pS p0)))))))) (by decide) (fun _ _ _ _ _ => (pg_name (i := 7) sc__law_strings.nd rfl (by first | exact Or.inl rfl | exact Or.inr rfl))) (fun _ _ _ _ _ => (ie_addS (ie_var (vS (vS (vS (vS (vS (vS v0))))))) (ie_var (vS (vS (vS (vS (vS (vS (vS v0))))))))))))))))
      (ss_end (ghT (trK (trK (trK (trK (trF (trK (trF (trF trN)))))))))))))
      (ss_cons (s_set (pS (pS (pS p0))) sc__law_strings.nd (ie_var (vS (vS (vS (vS (vS v0)))))))
      (ss_cons (s_set (pS (pS p0)) sc__law_strings.nd (ie_fz (io_cat (ie_var (vS (vS v0))) (ie_var (vS (vS (vS v0)))))))
      (ss_end (ghT (trK (trK (trK (trK (trF (trF (trF (trF trN)))))))))))))))
      (ss_last (s_ret (ie_var (vS (vS v0))))))))⟩
abbrev s__law_pool : Stmt := topS 15
theorem sc__law_pool : FnScope ["draws", "kind", "heads", "k", "right"] ["draws"] (defScope s__law_pool) := ⟨rfl, rfl, rfl, by decide +kernel, rfl, by decide +kernel, by decide +kernel⟩
noncomputable def d__law_pool : { s : DefS ((List Int) × Unit) (List S) // ∀ {P : Program} {w : World} {K : PySem.W.Frag} {mg : Str → Option Value} {base : Heap} {f : Addr} {fd : FuncData} (m_range : mg "range" = none) (c__law_strings : Cal P w K mg base 1 "_law_strings" (spP (d__law_strings.1).m (d__law_strings.1).ok)), Fun K "_law_pool" "_law_pool" s__law_pool f fd → mg "_law_pool" = some (.ref f) → Binds K fd ["draws"] [] → Cal P w K mg base (2) "_law_pool" (spP s.m s.ok) } :=
  ⟨⟨_, _⟩, fun {P w K mg base f fd} m_range c__law_strings F hm bd => cal_of (k := 1) (E := (List Int) × No × No × No × No × Unit) F hm bd sc__law_pool (iniA (iniN (iniN (iniN (iniN ini0))))) fun cdv A' outer s H E' hr =>
      (ss_cons (s_set (pS p0) sc__law_pool.nd (ie_mod (ie_ix (ie_var v0) (ie_int (i := 2))) (ie_int (i := 5))))
      (ss_cons (s_setLc (pS (pS p0)) (lc_m (own := [("k", 3)]) (wp := (wpS (nS (nS (nS n0))) wp0)) rfl sc__law_pool.nd (is_range1 (ie_int (i := 8)) m_range) (by kernel_rfl) (pat1 (pS (pS (pS p0)))) (by decide) (fun _ _ _ _ _ => (pg_name (i := 3) sc__law_pool.nd rfl (by first | exact Or.inl rfl | exact Or.inr rfl))) (fun _ _ _ _ _ => (ie_addS (ie_mulS (ie_str ([49] : S)) (ie_var (vS (vS (vS v0))))) (ie_str ([48] : S))))) rfl (sw_true rfl rfl rfl (by decide +kernel)))
      (ss_cons (s_if (E' := (List Int) × Int × (List S) × No × No × Unit) (it_eq (ie_var (vS v0)) (ie_int (i := 0)))
        (ss_last (s_ret (ie_call c__law_strings hr (by decide) (by rfl) (ia_cons (ie_str ([48, 49] : S)) (ia_cons (ie_int (i := 5)) ia_nil)))))
        (ss_end ghI))
      (ss_cons (s_if (E' := (List Int) × Int × (List S) × No × No × Unit) (it_eq (ie_var (vS v0)) (ie_int (i := 1)))
        (ss_last (s_ret (ie_fz (io_cat (ie_fz (io_cat (ie_var (vS (vS v0))) (ie_fz (LC.io (lc_m (own := [("k", 3)]) (wp := (wpS (nS (nS (nS n0))) wp0)) rfl sc__law_pool.nd (is_range2 (ie_int (i := 1)) (ie_int (i := 7)) m_range) (by kernel_rfl) (pat1 (pS (pS (pS p0)))) (by decide) (fun _ _ _ _ _ => (pg_name (i := 3) sc__law_pool.nd rfl (by first | exact Or.inl rfl | exact Or.inr rfl))) (fun _ _ _ _ _ => (ie_addS (ie_mulS (ie_str ([50] : S)) (ie_var (vS (vS (vS v0))))) (ie_str ([48, 51] : S))))))))) (ie_fz (LC.io (lc_m (own := [("k", 3)]) (wp := (wpS (nS (nS (nS n0))) wp0)) rfl sc__law_pool.nd (is_range2 (ie_int (i := 1)) (ie_int (i := 7)) m_range) (by kernel_rfl) (pat1 (pS (pS (pS p0)))) (by decide) (fun _ _ _ _ _ => (pg_name (i := 3) sc__law_pool.nd rfl (by first | exact Or.inl rfl | exact Or.inr rfl))) (fun _ _ _ _ _ => (ie_addS (ie_mulS (ie_str ([50] : S)) (ie_var (vS (vS (vS v0))))) (ie_str ([48, 52] : S)))))))))))
        (ss_end ghI))
      (ss_cons (s_if (E' := (List Int) × Int × (List S) × No × No × Unit) (it_eq (ie_var (vS v0)) (ie_int (i := 2)))
        (ss_last (s_ret (ie_fz (io_cat (ie_fz (LC.io (lc_m (own := [("right", 4)]) (wp := (wpS (nS (nS (nS (nS n0)))) wp0)) rfl sc__law_pool.nd (is_list (ie_var (vS (vS v0)))) (by kernel_rfl) (pat1 (pS (pS (pS (pS p0))))) (by decide) (fun _ _ _ _ _ => (pg_name (i := 4) sc__law_pool.nd rfl (by first | exact Or.inl rfl | exact Or.inr rfl))) (fun _ _ _ _ _ => (ie_revS (ie_var (vS (vS (vS (vS v0)))))))))) (ie_fz (LC.io (lc_m (own := [("k", 3)]) (wp := (wpS (nS (nS (nS n0))) wp0)) rfl sc__law_pool.nd (is_range2 (ie_int (i := 1)) (ie_int (i := 8)) m_range) (by kernel_rfl) (pat1 (pS (pS (pS p0)))) (by decide) (fun _ _ _ _ _ => (pg_name (i := 3) sc__law_pool.nd rfl (by first | exact Or.inl rfl | exact Or.inr rfl))) (fun _ _ _ _ _ => (ie_addS (ie_str ([48] : S)) (ie_mulS (ie_str ([50] : S)) (ie_var (vS (vS (vS v0))))))))))))))
        (ss_end ghI))
      (ss_cons (s_if (E' := (List Int) × Int × (List S) × No × No × Unit) (it_eq (ie_var (vS v0)) (ie_int (i := 3)))
        (ss_last (s_ret (ie_fz (io_slice (ie_call c__law_strings hr (by decide) (by rfl) (ia_cons (ie_str ([48, 49, 50] : S)) (ia_cons (ie_int (i := 4)) ia_nil))) (ip_some (ie_int (i := 0))) (ip_some (ie_int (i := 90)))))))
        (ss_end ghI))
      (ss_last (s_ret (ie_fz (io_cat (ie_call c__law_strings hr (by decide) (by rfl) (ia_cons (ie_str ([48] : S)) (ia_cons (ie_int (i := 8)) ia_nil))) (ie_call c__law_strings hr (by decide) (by rfl) (ia_cons (ie_str ([49, 50, 51] : S)) (ia_cons (ie_int (i := 2)) ia_nil)))))))))))))⟩
abbrev s__law_table : Stmt := topS 16
theorem sc__law_table : FnScope ["draws", "pool", "count", "rights", "spare", "k", "letters", "singles", "lefts", "size", "left", "turn", "table", "j"] ["draws"] (defScope s__law_table) := ⟨rfl, rfl, rfl, by decide +kernel, rfl, by decide +kernel, by decide +kernel⟩
noncomputable def d__law_table : { s : DefS ((List Int) × Unit) (List (S × S)) // ∀ {P : Program} {w : World} {K : PySem.W.Frag} {mg : Str → Option Value} {base : Heap} {f : Addr} {fd : FuncData} (m_len : mg "len" = none) (m_list : mg "list" = none) (m_min : mg "min" = none) (m_range : mg "range" = none) (c__law_pool : Cal P w K mg base 2 "_law_pool" (spP (d__law_pool.1).m (d__law_pool.1).ok)), Fun K "_law_table" "_law_table" s__law_table f fd → mg "_law_table" = some (.ref f) → Binds K fd ["draws"] [] → Cal P w K mg base (3) "_law_table" (spO s.m s.ok) } :=
  ⟨⟨_, _⟩, fun {P w K mg base f fd} m_len m_list m_min m_range c__law_pool F hm bd => cal_ofO (k := 2) (E := (List Int) × No × No × No × No × No × No × No × No × No × No × No × No × No × Unit) F hm bd sc__law_table (iniA (iniN (iniN (iniN (iniN (iniN (iniN (iniN (iniN (iniN (iniN (iniN (iniN (iniN ini0)))))))))))))) fun cdv A' outer s H E' hr =>
      (ss_cons (s_set (pS p0) sc__law_table.nd (ie_call c__law_pool hr (by decide) (by rfl) (ia_cons (ie_var v0) ia_nil)))
      (ss_cons (s_set (pS (pS p0)) sc__law_table.nd (ie_min2 rfl (ie_lenL (ie_var (vS v0)) m_len) (ie_ix (ie_fz (io_lst (il_cons (ie_int (i := 40)) (il_cons (ie_int (i := 39)) (il_cons (ie_int (i := 24)) (il_cons (ie_int (i := 12)) (il_cons (ie_int (i := 4)) (il_nil (α := Int))))))))) (ie_mod (ie_ix (ie_var v0) (ie_int (i := 4))) (ie_int (i := 5)))) m_min))
      (ss_cons (s_setO (pS (pS (pS p0))) sc__law_table.nd (io_lst (il_nil (α := S))))
      (ss_cons (s_setO (pS (pS (pS (pS p0)))) sc__law_table.nd (io_list (ie_var (vS v0)) m_list))
      (ss_cons (s_gh (ghT (trK (trF (trK (trK (trK (trF (trF (trF (trF (trF (trF (trF (trF (trF trN))))))))))))))) (s_for (E := (List Int) × No × Int × (Ow S) × (Ow S) × No × No × No × No × No × No × No × No × No × Unit) PassesOwn.never rfl (is_range1 (ie_var (vS (vS v0))) m_range) (pat1 (pS (pS (pS (pS (pS p0)))))) (pg_name (i := 5) sc__law_table.nd rfl (by first | exact Or.inl rfl | exact Or.inr rfl))
        (ss_cons (s_appendM (oS (oS (oS o0))) (im_popAt (oS (oS (oS (oS o0)))) (ie_peek (fS (fS (fS (fS f0)))) (ie_mod (ie_ix (ie_var v0) (ie_add (ie_int (i := 10)) (ie_var (vS (vS (vS (vS (vS v0)))))))) (ie_lenL (ie_var (vS (vS (vS (vS v0))))) m_len)))))
      (ss_end (ghT (trK (trF (trK (trK (trK (trF (trF (trF (trF (trF (trF (trF (trF (trF trN)))))))))))))))))))
      (ss_cons (s_set (pS (pS (pS (pS (pS (pS p0)))))) sc__law_table.nd (ie_str ([97, 98, 99, 100, 101, 102, 103, 104, 105, 106, 107, 108, 109, 110, 111, 112, 113, 114, 115, 116, 117, 118, 119, 120, 121, 122, 65, 66, 67, 68, 69, 70, 71, 72, 73, 74, 75, 76, 77, 78, 79, 80, 81, 82, 83, 84, 85, 86, 87, 88, 89, 90] : S)))
      (ss_cons (s_set (pS (pS (pS (pS (pS (pS (pS p0))))))) sc__law_table.nd (ie_ix (ie_fz (io_lst (il_cons (ie_var (vS (vS v0))) (il_cons (ie_sub (ie_var (vS (vS v0))) (ie_int (i := 1))) (il_cons (ie_add (ie_int (i := 2)) (ie_mod (ie_ix (ie_var v0) (ie_int (i := 5))) (ie_sub (ie_var (vS (vS v0))) (ie_int (i := 2))))) (il_cons (ie_int (i := 2)) (il_nil (α := Int)))))))) (ie_mod (ie_ix (ie_var v0) (ie_int (i := 6))) (ie_int (i := 4)))))
      (ss_cons (s_setO (pS (pS (pS (pS (pS (pS (pS (pS p0)))))))) sc__law_table.nd (io_listS rfl (ie_sliceS (ie_var (vS (vS (vS (vS (vS (vS v0))))))) (ip_some (ie_int (i := 0))) (ip_some (ie_var (vS (vS (vS (vS (vS (vS (vS v0)))))))))) m_list))
      (ss_cons (s_gh (ghT (trK (trF (trK (trK (trF (trF (trK (trK (trK (trF (trF (trF (trF (trF trN))))))))))))))) (s_for (E := (List Int) × No × Int × (Ow S) × No × No × S × Int × (Ow S) × No × No × No × No × No × Unit) PassesOwn.never rfl (is_range1 (ie_sub (ie_var (vS (vS v0))) (ie_var (vS (vS (vS (vS (vS (vS (vS v0))))))))) m_range) (pat1 (pS (pS (pS (pS (pS p0)))))) (pg_name (i := 5) sc__law_table.nd rfl (by first | exact Or.inl rfl | exact Or.inr rfl))
        (ss_cons (s_set (pS (pS (pS (pS (pS (pS (pS (pS (pS p0))))))))) sc__law_table.nd (ie_add (ie_int (i := 2)) (ie_mod (ie_ix (ie_var v0) (ie_mod (ie_add (ie_int (i := 20)) (ie_mul (ie_int (i := 3)) (ie_var (vS (vS (vS (vS (vS v0)))))))) (ie_int (i := 60)))) (ie_int (i := 5)))))
      (ss_cons (s_set (pS (pS (pS (pS (pS (pS (pS (pS (pS (pS p0)))))))))) sc__law_table.nd (ie_join (ie_str ([] : S)) (ie_fz (LC.io (lc_m (own := [("j", 13)]) (wp := (wpS (nS (nS (nS (nS (nS (nS (nS (nS (nS (nS (nS (nS (nS n0))))))))))))) wp0)) rfl sc__law_table.nd (is_range1 (ie_var (vS (vS (vS (vS (vS (vS (vS (vS (vS v0)))))))))) m_range) (by kernel_rfl) (pat1 (pS (pS (pS (pS (pS (pS (pS (pS (pS (pS (pS (pS (pS p0)))))))))))))) (by decide) (fun _ _ _ _ _ => (pg_name (i := 13) sc__law_table.nd rfl (by first | exact Or.inl rfl | exact Or.inr rfl))) (fun _ _ _ _ _ => (ie_ixS (ie_var (vS (vS (vS (vS (vS (vS v0))))))) (ie_mod (ie_ix (ie_var v0) (ie_mod (ie_add (ie_mul (ie_int (i := 7)) (ie_var (vS (vS (vS (vS (vS v0))))))) (ie_mul (ie_int (i := 11)) (ie_var (vS (vS (vS (vS (vS (vS (vS (vS (vS (vS (vS (vS (vS v0)))))))))))))))) (ie_int (i := 60)))) (ie_var (vS (vS (vS (vS (vS (vS (vS v0))))))))))))))))
      (ss_cons (s_gh (ghT (trK (trF (trK (trK (trF (trK (trK (trK (trK (trF (trK (trF (trF (trF trN))))))))))))))) (s_for (E := (List Int) × No × Int × (Ow S) × No × Int × S × Int × (Ow S) × No × S × No × No × No × Unit) PassesOwn.never rfl (is_range1 (ie_var (vS (vS v0))) m_range) (pat1 (pS (pS (pS (pS (pS (pS (pS (pS (pS (pS (pS p0)))))))))))) (pg_name (i := 11) sc__law_table.nd rfl (by first | exact Or.inl rfl | exact Or.inr rfl))
        (ss_cons (s_if (E' := (List Int) × No × Int × (Ow S) × No × Int × S × Int × (Ow S) × No × S × No × No × No × Unit) (it_peek (fS (fS (fS (fS (fS (fS (fS (fS f0)))))))) (it_in (ie_var (vS (vS (vS (vS (vS (vS (vS (vS (vS (vS v0))))))))))) (ie_var (vS (vS (vS (vS (vS (vS (vS (vS v0)))))))))))
        (ss_cons (s_set (pS (pS (pS (pS (pS (pS (pS (pS (pS (pS p0)))))))))) sc__law_table.nd (ie_sliceS (ie_addS (ie_var (vS (vS (vS (vS (vS (vS (vS (vS (vS (vS v0))))))))))) (ie_ixS (ie_var (vS (vS (vS (vS (vS (vS v0))))))) (ie_mod (ie_add (ie_var (vS (vS (vS (vS (vS (vS (vS (vS (vS (vS (vS v0)))))))))))) (ie_var (vS (vS (vS (vS (vS v0))))))) (ie_var (vS (vS (vS (vS (vS (vS (vS v0))))))))))) (ip_some (ie_sub (ie_neg (ie_int (i := 2))) (ie_mod (ie_var (vS (vS (vS (vS (vS (vS (vS (vS (vS (vS (vS v0)))))))))))) (ie_int (i := 5))))) ip_none))
      (ss_end (ghT (trK (trF (trK (trK (trF (trK (trK (trK (trK (trF (trK (trF (trF (trF trN)))))))))))))))))
        (ss_end (ghT (trK (trF (trK (trK (trF (trK (trK (trK (trK (trF (trK (trF (trF (trF trN)))))))))))))))))
      (ss_end ghI))))
      (ss_cons (s_if (E' := (List Int) × No × Int × (Ow S) × No × No × S × Int × (Ow S) × No × No × No × No × No × Unit) (it_peek (fS (fS (fS (fS (fS (fS (fS (fS f0)))))))) (it_nin (ie_var (vS (vS (vS (vS (vS (vS (vS (vS (vS (vS v0))))))))))) (ie_var (vS (vS (vS (vS (vS (vS (vS (vS v0)))))))))))
        (ss_cons (s_append (oS (oS (oS (oS (oS (oS (oS (oS o0)))))))) (ie_var (vS (vS (vS (vS (vS (vS (vS (vS (vS (vS v0))))))))))))
      (ss_end (ghT (trK (trF (trK (trK (trF (trF (trK (trK (trK (trF (trF (trF (trF (trF trN)))))))))))))))))
        (ss_end (ghT (trK (trF (trK (trK (trF (trF (trK (trK (trK (trF (trF (trF (trF (trF trN)))))))))))))))))
      (ss_end ghI)))))))
      (ss_cons (s_setLc (pS (pS (pS (pS (pS (pS (pS (pS (pS (pS (pS (pS p0)))))))))))) (lc_m (own := [("k", 5)]) (wp := (wpS (nS (nS (nS (nS (nS n0))))) wp0)) rfl sc__law_table.nd (is_range1 (ie_peek (fS (fS (fS (fS (fS (fS (fS (fS f0)))))))) (ie_lenL (ie_var (vS (vS (vS (vS (vS (vS (vS (vS v0))))))))) m_len)) m_range) (by kernel_rfl) (pat1 (pS (pS (pS (pS (pS p0)))))) (by decide) (fun _ _ _ _ _ => (pg_name (i := 5) sc__law_table.nd rfl (by first | exact Or.inl rfl | exact Or.inr rfl))) (fun _ _ _ _ _ => (ie_tup2 (ie_peek (fS (fS (fS (fS (fS (fS (fS (fS f0)))))))) (ie_ix (ie_var (vS (vS (vS (vS (vS (vS (vS (vS v0))))))))) (ie_var (vS (vS (vS (vS (vS v0)))))))) (ie_peek (fS (fS (fS f0))) (ie_ix (ie_var (vS (vS (vS v0)))) (ie_var (vS (vS (vS (vS (vS v0))))))))))) rfl (sw_true rfl rfl rfl (by decide +kernel)))
      (ss_cons (s_set (pS (pS (pS (pS (pS (pS (pS (pS (pS (pS (pS p0))))))))))) sc__law_table.nd (ie_ix (ie_fz (io_lst (il_cons (ie_int (i := 0)) (il_cons (ie_mod (ie_ix (ie_var v0) (ie_int (i := 7))) (ie_lenL (ie_var (vS (vS (vS (vS (vS (vS (vS (vS (vS (vS (vS (vS v0))))))))))))) m_len)) (il_nil (α := Int)))))) (ie_mod (ie_ix (ie_var v0) (ie_int (i := 8))) (ie_int (i := 2)))))
      (ss_last (s_retO (io_cat (ie_fz (io_slice (ie_var (vS (vS (vS (vS (vS (vS (vS (vS (vS (vS (vS (vS v0))))))))))))) (ip_some (ie_var (vS (vS (vS (vS (vS (vS (vS (vS (vS (vS (vS v0))))))))))))) ip_none)) (ie_fz (io_slice (ie_var (vS (vS (vS (vS (vS (vS (vS (vS (vS (vS (vS (vS v0))))))))))))) (ip_some (ie_int (i := 0))) (ip_some (ie_var (vS (vS (vS (vS (vS (vS (vS (vS (vS (vS (vS v0)))))))))))))))))))))))))))))⟩
abbrev s__law_others : Stmt := topS 17
theorem sc__law_others : FnScope ["table", "draws", "at", "late", "left", "right", "other", "found"] ["table", "draws"] (defScope s__law_others) := ⟨rfl, rfl, rfl, by decide +kernel, rfl, by decide +kernel, by decide +kernel⟩
noncomputable def d__law_others : { s : DefS ((List (S × S)) × (List Int) × Unit) (List (List (S × S))) // ∀ {P : Program} {w : World} {K : PySem.W.Frag} {mg : Str → Option Value} {base : Heap} {f : Addr} {fd : FuncData} (m_len : mg "len" = none), Fun K "_law_others" "_law_others" s__law_others f fd → mg "_law_others" = some (.ref f) → Binds K fd ["table", "draws"] [] → Cal P w K mg base (1) "_law_others" (spO s.m s.ok) } :=
  ⟨⟨_, _⟩, fun {P w K mg base f fd} m_len F hm bd => cal_ofO (k := 0) (E := (List (S × S)) × (List Int) × No × No × No × No × No × No × Unit) F hm bd sc__law_others (iniA (iniA (iniN (iniN (iniN (iniN (iniN (iniN ini0)))))))) fun cdv A' outer s H E' hr =>
      (ss_cons (s_set (pS (pS p0)) sc__law_others.nd (ie_mod (ie_ix (ie_var (vS v0)) (ie_int (i := 50))) (ie_lenL (ie_var v0) m_len)))
      (ss_cons (s_set (pS (pS (pS p0))) sc__law_others.nd (ie_sub (ie_sub (ie_lenL (ie_var v0) m_len) (ie_int (i := 1))) (ie_mod (ie_ix (ie_var (vS v0)) (ie_int (i := 51))) (ie_div (ie_lenL (ie_var v0) m_len) (ie_int (i := 2))))))
      (ss_cons (s_pat (pat2 (K := K) (pat1 (pS (pS (pS (pS p0))))) (pat1 (pS (pS (pS (pS (pS p0))))))) (pg_tup rfl (pgs_cons (pg_name (i := 4) sc__law_others.nd rfl (by first | exact Or.inl rfl | exact Or.inr rfl)) (pgs_cons (pg_name (i := 5) sc__law_others.nd rfl (by first | exact Or.inl rfl | exact Or.inr rfl)) pgs_nil))) (ie_ix (ie_var v0) (ie_var (vS (vS (vS v0))))))
      (ss_cons (s_set (pS (pS (pS (pS (pS (pS p0)))))) sc__law_others.nd (ie_snd (ie_ix (ie_var v0) (ie_var (vS (vS v0))))))
      (ss_cons (s_setO (pS (pS (pS (pS (pS (pS (pS p0))))))) sc__law_others.nd (io_lst (il_cons (ie_var v0) (il_cons (ie_fz (io_cat (ie_fz (io_cat (ie_fz (io_slice (ie_var v0) (ip_some (ie_int (i := 0))) (ip_some (ie_var (vS (vS (vS v0))))))) (ie_fz (io_lst (il_cons (ie_tup2 (ie_var (vS (vS (vS (vS v0))))) (ie_var (vS (vS (vS (vS (vS (vS v0)))))))) (il_nil (α := (S × S)))))))) (ie_fz (io_slice (ie_var v0) (ip_some (ie_add (ie_var (vS (vS (vS v0)))) (ie_int (i := 1)))) ip_none)))) (il_cons (ie_fz (io_cat (ie_fz (io_cat (ie_fz (io_slice (ie_var v0) (ip_some (ie_int (i := 0))) (ip_some (ie_var (vS (vS (vS v0))))))) (ie_fz (io_lst (il_cons (ie_tup2 (ie_var (vS (vS (vS (vS v0))))) (ie_str ([] : S))) (il_nil (α := (S × S)))))))) (ie_fz (io_slice (ie_var v0) (ip_some (ie_add (ie_var (vS (vS (vS v0)))) (ie_int (i := 1)))) ip_none)))) (il_nil (α := (List (S × S)))))))))
      (ss_cons (s_append (oS (oS (oS (oS (oS (oS (oS o0))))))) (ie_fz (io_cat (ie_fz (io_cat (ie_fz (io_slice (ie_var v0) (ip_some (ie_int (i := 0))) (ip_some (ie_var (vS (vS (vS v0))))))) (ie_fz (io_lst (il_cons (ie_tup2 (ie_var (vS (vS (vS (vS v0))))) (ie_sliceS (ie_addS (ie_var (vS (vS (vS (vS (vS (vS v0))))))) (ie_str ([48] : S))) (ip_some (ie_int (i := 0))) (ip_some (ie_int (i := 8))))) (il_nil (α := (S × S)))))))) (ie_fz (io_slice (ie_var v0) (ip_some (ie_add (ie_var (vS (vS (vS v0)))) (ie_int (i := 1)))) ip_none)))))
      (ss_cons (s_append (oS (oS (oS (oS (oS (oS (oS o0))))))) (ie_fz (io_cat (ie_fz (io_cat (ie_fz (io_slice (ie_var v0) (ip_some (ie_int (i := 0))) (ip_some (ie_var (vS (vS (vS v0))))))) (ie_fz (io_lst (il_cons (ie_tup2 (ie_var (vS (vS (vS (vS v0))))) (ie_sliceS (ie_addS (ie_str ([49] : S)) (ie_var (vS (vS (vS (vS (vS (vS v0)))))))) (ip_some (ie_int (i := 0))) (ip_some (ie_int (i := 8))))) (il_nil (α := (S × S)))))))) (ie_fz (io_slice (ie_var v0) (ip_some (ie_add (ie_var (vS (vS (vS v0)))) (ie_int (i := 1)))) ip_none)))))
      (ss_last (s_retV (oS (oS (oS (oS (oS (oS (oS o0))))))))))))))))⟩
abbrev s_law : Stmt := topS 18
theorem sc_law : FnScope ["script", "draws", "table", "kept", "due", "turn", "told", "word", "left", "right"] ["script"] (defScope s_law) := ⟨rfl, rfl, rfl, by decide +kernel, rfl, by decide +kernel, by decide +kernel⟩
noncomputable def d_law : { s : DefS (Scr × Unit) Bool // ∀ {P : Program} {w : World} {K : PySem.W.Frag} {mg : Str → Option Value} {base : Heap} {f : Addr} {fd : FuncData} (m_list : mg "list" = none) (m_range : mg "range" = none) (c__law_cell : Cal P w K mg base 1 "_law_cell" (spP (d__law_cell.1).m (d__law_cell.1).ok)) (c__law_numbers : Cal P w K mg base 1 "_law_numbers" (spO (d__law_numbers.1).m (d__law_numbers.1).ok)) (c__law_table : Cal P w K mg base 3 "_law_table" (spO (d__law_table.1).m (d__law_table.1).ok)) (c__law_others : Cal P w K mg base 1 "_law_others" (spO (d__law_others.1).m (d__law_others.1).ok)) (c__law_quick : Cal P w K mg base 2 "_law_quick" (spP (d__law_quick.1).m (d__law_quick.1).ok)) (c_quick : Cal P w K mg base 3 "quick" (spP (d_quick.1).m (d_quick.1).ok)) (c__law_same : Cal P w K mg base 8 "_law_same" (spP (d__law_same.1).m (d__law_same.1).ok)) (c_mirror : Cal P w K mg base 1 "mirror" (spO (d_mirror.1).m (d_mirror.1).ok)), Fun K "law" "law" s_law f fd → FnOk P w K mg base CX0 9 f fd ["script"] (spP s.m s.ok) } :=
  ⟨⟨_, _⟩, fun {P w K mg base f fd} m_list m_range c__law_cell c__law_numbers c__law_table c__law_others c__law_quick c_quick c__law_same c_mirror F => fnok_of (k := 8) (E := Scr × No × No × No × No × No × No × No × No × No × Unit) F sc_law (iniA (iniN (iniN (iniN (iniN (iniN (iniN (iniN (iniN (iniN ini0)))))))))) fun cdv A' outer s H E' hr =>
      (ss_cons (s_set (pS p0) sc_law.nd (ie_fz (io_call c__law_numbers hr (by decide) (by rfl) (ia_cons (ie_call c__law_cell hr (by decide) (by rfl) (ia_cons (ie_var v0) (ia_cons (ie_int (i := 0)) ia_nil))) (ia_cons (ie_int (i := 60)) (ia_cons (ie_int (i := 5040)) ia_nil))))))
      (ss_cons (s_gh (ghT (trF (trK (trF (trF (trF (trF (trF (trF (trF (trF trN))))))))))) (s_for (E := No × (List Int) × No × No × No × No × No × No × No × No × Unit) PassesOwn.never rfl (is_list (ie_fz (io_call c__law_others hr (by decide) (by rfl) (ia_cons (ie_fz (io_call c__law_table hr (by decide) (by rfl) (ia_cons (ie_var (vS v0)) ia_nil))) (ia_cons (ie_var (vS v0)) ia_nil))))) (pat1 (pS (pS p0))) (pg_name (i := 2) sc_law.nd rfl (by first | exact Or.inl rfl | exact Or.inr rfl))
        (ss_cons (s_set (pS (pS (pS p0))) sc_law.nd (ie_fz (io_list (ie_var (vS (vS v0))) m_list)))
      (ss_cons (s_if (E' := No × (List Int) × (List (S × S)) × (List (S × S)) × No × No × No × No × No × No × Unit) (it_w (iw_or (it_not (it_val (ie_call c__law_same hr (by decide) (by rfl) (ia_cons (ie_D (ie_call c_quick hr (by decide) (by rfl) (ia_cons (ie_var (vS (vS v0))) ia_nil))) (ia_cons (ie_D (ie_call c__law_quick hr (by decide) (by rfl) (ia_cons (ie_var (vS (vS (vS v0)))) ia_nil))) ia_nil))))) (iw_or1 (it_neD hr (ie_var (vS (vS v0))) (ie_var (vS (vS (vS v0))))))))
        (ss_last (s_ret (ie_bl (i := false))))
        (ss_end ghI))
      (ss_cons (s_setLc (pS (pS (pS (pS p0)))) (lc_m (own := [("left", 8), ("right", 9)]) (wp := (wpS (nS (nS (nS (nS (nS (nS (nS (nS n0)))))))) (wpS (nS (nS (nS (nS (nS (nS (nS (nS (nS n0))))))))) wp0))) rfl sc_law.nd (is_list (ie_var (vS (vS (vS v0))))) (by kernel_rfl) (pat2 (K := K) (pat1 (pS (pS (pS (pS (pS (pS (pS (pS p0))))))))) (pat1 (pS (pS (pS (pS (pS (pS (pS (pS (pS p0))))))))))) (by decide) (fun _ _ _ _ _ => (pg_tup rfl (pgs_cons (pg_name (i := 8) sc_law.nd rfl (by first | exact Or.inl rfl | exact Or.inr rfl)) (pgs_cons (pg_name (i := 9) sc_law.nd rfl (by first | exact Or.inl rfl | exact Or.inr rfl)) pgs_nil)))) (fun _ _ _ _ _ => (ie_tup2 (ie_revS (ie_var (vS (vS (vS (vS (vS (vS (vS (vS v0)))))))))) (ie_revS (ie_var (vS (vS (vS (vS (vS (vS (vS (vS (vS v0)))))))))))))) rfl (sw_true rfl rfl rfl (by decide +kernel)))
      (ss_cons (s_for (E := No × (List Int) × (List (S × S)) × (List (S × S)) × (List (S × S)) × No × No × No × No × No × Unit) PassesOwn.never rfl (is_range1 (ie_int (i := 2)) m_range) (pat1 (pS (pS (pS (pS (pS p0)))))) (pg_name (i := 5) sc_law.nd rfl (by first | exact Or.inl rfl | exact Or.inr rfl))
        (ss_cons (s_setO (pS (pS (pS (pS (pS (pS p0)))))) sc_law.nd (io_call c_mirror hr (by decide) (by rfl) (ia_cons (ie_var (vS (vS v0))) ia_nil)))
      (ss_cons (s_if (E' := No × (List Int) × (List (S × S)) × (List (S × S)) × (List (S × S)) × Int × (Ow (S × S)) × No × No × No × Unit) (it_peek (fS (fS (fS (fS (fS (fS f0)))))) (it_w (iw_or (it_not (it_val (ie_call c__law_same hr (by decide) (by rfl) (ia_cons (ie_D (ie_var (vS (vS (vS (vS (vS (vS v0)))))))) (ia_cons (ie_D (ie_var (vS (vS (vS (vS v0)))))) ia_nil))))) (iw_or1 (it_neD hr (ie_var (vS (vS v0))) (ie_var (vS (vS (vS v0)))))))))
        (ss_last (s_ret (ie_bl (i := false))))
        (ss_end ghI))
      (ss_cons (s_append (oS (oS (oS (oS (oS (oS o0)))))) (ie_tup2 (ie_str ([122] : S)) (ie_str ([122] : S))))
      (ss_end (ghT (trF (trK (trK (trK (trK (trF (trF (trF (trF (trF trN))))))))))))))))
      (ss_cons (s_set (pS (pS (pS (pS (pS (pS (pS p0))))))) sc_law.nd (ie_call c__law_quick hr (by decide) (by rfl) (ia_cons (ie_var (vS (vS (vS (vS v0))))) ia_nil)))
      (ss_cons (s_if (E' := No × (List Int) × (List (S × S)) × (List (S × S)) × (List (S × S)) × No × No × S × No × No × Unit) (it_not (it_val (ie_call c__law_same hr (by decide) (by rfl) (ia_cons (ie_D (ie_call c_quick hr (by decide) (by rfl) (ia_cons (ie_var (vS (vS (vS (vS v0))))) ia_nil))) (ia_cons (ie_D (ie_var (vS (vS (vS (vS (vS (vS (vS v0))))))))) ia_nil)))))
        (ss_last (s_ret (ie_bl (i := false))))
        (ss_end ghI))
      (ss_end (ghT (trF (trK (trF (trF (trF (trF (trF (trF (trF (trF trN))))))))))))))))))))
      (ss_last (s_ret (ie_bl (i := true))))))⟩
theorem all_mk {l : PySem.W.OpenLaw} {w : World} {K K' : PySem.W.Frag} {h : Heap} {mg : Str → Option Value} {fa f1 f2 f3 f4 f5 f6 f7 f8 f9 f10 f11 f12 f13 f14 f15 f16 f17 : Addr} (L : Less K K') (X : K.In h) (X' : K'.In h) (G : h.Ns mainGlobals mg) (hfa : mg "law" = some (.ref fa))
    {od1 an1 od2 an2 od3 an3 od4 an4 od5 an5 od6 an6 od7 an7 od8 an8 od9 an9 od10 an10 od11 an11 od12 an12 od13 an13 od14 an14 od15 an15 od16 an16 od17 an17 : Option Addr} {sl1 sl2 sl3 sl4 sl5 sl6 sl7 sl8 sl9 sl10 sl11 sl12 sl13 sl14 sl15 sl16 sl17 : Array (Option Value)} {oc1 kV1 dc1 pm1 cd1 ct1 oc2 kV2 dc2 pm2 cd2 ct2 oc3 kV3 dc3 pm3 cd3 ct3 oc4 kV4 dc4 pm4 cd4 ct4 oc5 kV5 dc5 pm5 cd5 ct5 oc6 kV6 dc6 pm6 cd6 ct6 oc7 kV7 dc7 pm7 cd7 ct7 oc8 kV8 dc8 pm8 cd8 ct8 oc9 kV9 dc9 pm9 cd9 ct9 oc10 kV10 dc10 pm10 cd10 ct10 oc11 kV11 dc11 pm11 cd11 ct11 oc12 kV12 dc12 pm12 cd12 ct12 oc13 kV13 dc13 pm13 cd13 ct13 oc14 kV14 dc14 pm14 cd14 ct14 oc15 kV15 dc15 pm15 cd15 ct15 oc16 kV16 dc16 pm16 cd16 ct16 oc17 kV17 dc17 pm17 cd17 ct17 : Value}
    (a1 : PySem.W.nsIn K mainGlobals "power" = some (some (.ref f1))) (l1 : K.lookup f1 = some ⟨oc1, od1, .func (PySem.W.fnOf "power" "power" (defArgs s_power) (defBody s_power) (defScope s_power) .none kV1 dc1 pm1 an1 cd1 ct1), sl1⟩) (c1 : PySem.W.codeIn K cd1 "power" = true)
    (a2 : PySem.W.nsIn K mainGlobals "has_equal" = some (some (.ref f2))) (l2 : K.lookup f2 = some ⟨oc2, od2, .func (PySem.W.fnOf "has_equal" "has_equal" (defArgs s_has_equal) (defBody s_has_equal) (defScope s_has_equal) .none kV2 dc2 pm2 an2 cd2 ct2), sl2⟩) (c2 : PySem.W.codeIn K cd2 "has_equal" = true)
    (a3 : PySem.W.nsIn K mainGlobals "has_heads" = some (some (.ref f3))) (l3 : K.lookup f3 = some ⟨oc3, od3, .func (PySem.W.fnOf "has_heads" "has_heads" (defArgs s_has_heads) (defBody s_has_heads) (defScope s_has_heads) .none kV3 dc3 pm3 an3 cd3 ct3), sl3⟩) (c3 : PySem.W.codeIn K cd3 "has_heads" = true)
    (a4 : PySem.W.nsIn K mainGlobals "has_tails" = some (some (.ref f4))) (l4 : K.lookup f4 = some ⟨oc4, od4, .func (PySem.W.fnOf "has_tails" "has_tails" (defArgs s_has_tails) (defBody s_has_tails) (defScope s_has_tails) .none kV4 dc4 pm4 an4 cd4 ct4), sl4⟩) (c4 : PySem.W.codeIn K cd4 "has_tails" = true)
    (a5 : PySem.W.nsIn K mainGlobals "is_crowded" = some (some (.ref f5))) (l5 : K.lookup f5 = some ⟨oc5, od5, .func (PySem.W.fnOf "is_crowded" "is_crowded" (defArgs s_is_crowded) (defBody s_is_crowded) (defScope s_is_crowded) .none kV5 dc5 pm5 an5 cd5 ct5), sl5⟩) (c5 : PySem.W.codeIn K cd5 "is_crowded" = true)
    (a6 : PySem.W.nsIn K mainGlobals "quick" = some (some (.ref f6))) (l6 : K.lookup f6 = some ⟨oc6, od6, .func (PySem.W.fnOf "quick" "quick" (defArgs s_quick) (defBody s_quick) (defScope s_quick) .none kV6 dc6 pm6 an6 cd6 ct6), sl6⟩) (c6 : PySem.W.codeIn K cd6 "quick" = true)
    (a7 : PySem.W.nsIn K mainGlobals "mirror" = some (some (.ref f7))) (l7 : K.lookup f7 = some ⟨oc7, od7, .func (PySem.W.fnOf "mirror" "mirror" (defArgs s_mirror) (defBody s_mirror) (defScope s_mirror) .none kV7 dc7 pm7 an7 cd7 ct7), sl7⟩) (c7 : PySem.W.codeIn K cd7 "mirror" = true)
    (a8 : PySem.W.nsIn K mainGlobals "_law_cell" = some (some (.ref f8))) (l8 : K.lookup f8 = some ⟨oc8, od8, .func (PySem.W.fnOf "_law_cell" "_law_cell" (defArgs s__law_cell) (defBody s__law_cell) (defScope s__law_cell) .none kV8 dc8 pm8 an8 cd8 ct8), sl8⟩) (c8 : PySem.W.codeIn K cd8 "_law_cell" = true)
    (a9 : PySem.W.nsIn K mainGlobals "_law_numbers" = some (some (.ref f9))) (l9 : K.lookup f9 = some ⟨oc9, od9, .func (PySem.W.fnOf "_law_numbers" "_law_numbers" (defArgs s__law_numbers) (defBody s__law_numbers) (defScope s__law_numbers) .none kV9 dc9 pm9 an9 cd9 ct9), sl9⟩) (c9 : PySem.W.codeIn K cd9 "_law_numbers" = true)
    (a10 : PySem.W.nsIn K mainGlobals "_law_same" = some (some (.ref f10))) (l10 : K.lookup f10 = some ⟨oc10, od10, .func (PySem.W.fnOf "_law_same" "_law_same" (defArgs s__law_same) (defBody s__law_same) (defScope s__law_same) .none kV10 dc10 pm10 an10 cd10 ct10), sl10⟩) (c10 : PySem.W.codeIn K cd10 "_law_same" = true)
    (a11 : PySem.W.nsIn K mainGlobals "_law_power" = some (some (.ref f11))) (l11 : K.lookup f11 = some ⟨oc11, od11, .func (PySem.W.fnOf "_law_power" "_law_power" (defArgs s__law_power) (defBody s__law_power) (defScope s__law_power) .none kV11 dc11 pm11 an11 cd11 ct11), sl11⟩) (c11 : PySem.W.codeIn K cd11 "_law_power" = true)
    (a12 : PySem.W.nsIn K mainGlobals "_law_quick" = some (some (.ref f12))) (l12 : K.lookup f12 = some ⟨oc12, od12, .func (PySem.W.fnOf "_law_quick" "_law_quick" (defArgs s__law_quick) (defBody s__law_quick) (defScope s__law_quick) .none kV12 dc12 pm12 an12 cd12 ct12), sl12⟩) (c12 : PySem.W.codeIn K cd12 "_law_quick" = true)
    (a13 : PySem.W.nsIn K mainGlobals "_law_strings" = some (some (.ref f13))) (l13 : K.lookup f13 = some ⟨oc13, od13, .func (PySem.W.fnOf "_law_strings" "_law_strings" (defArgs s__law_strings) (defBody s__law_strings) (defScope s__law_strings) .none kV13 dc13 pm13 an13 cd13 ct13), sl13⟩) (c13 : PySem.W.codeIn K cd13 "_law_strings" = true)
    (a14 : PySem.W.nsIn K mainGlobals "_law_pool" = some (some (.ref f14))) (l14 : K.lookup f14 = some ⟨oc14, od14, .func (PySem.W.fnOf "_law_pool" "_law_pool" (defArgs s__law_pool) (defBody s__law_pool) (defScope s__law_pool) .none kV14 dc14 pm14 an14 cd14 ct14), sl14⟩) (c14 : PySem.W.codeIn K cd14 "_law_pool" = true)
    (a15 : PySem.W.nsIn K mainGlobals "_law_table" = some (some (.ref f15))) (l15 : K.lookup f15 = some ⟨oc15, od15, .func (PySem.W.fnOf "_law_table" "_law_table" (defArgs s__law_table) (defBody s__law_table) (defScope s__law_table) .none kV15 dc15 pm15 an15 cd15 ct15), sl15⟩) (c15 : PySem.W.codeIn K cd15 "_law_table" = true)
    (a16 : PySem.W.nsIn K mainGlobals "_law_others" = some (some (.ref f16))) (l16 : K.lookup f16 = some ⟨oc16, od16, .func (PySem.W.fnOf "_law_others" "_law_others" (defArgs s__law_others) (defBody s__law_others) (defScope s__law_others) .none kV16 dc16 pm16 an16 cd16 ct16), sl16⟩) (c16 : PySem.W.codeIn K cd16 "_law_others" = true)
    (a17 : PySem.W.nsIn K mainGlobals "law" = some (some (.ref f17))) (l17 : K.lookup f17 = some ⟨oc17, od17, .func (PySem.W.fnOf "law" "law" (defArgs s_law) (defBody s_law) (defScope s_law) .none kV17 dc17 pm17 an17 cd17 ct17), sl17⟩) (c17 : PySem.W.codeIn K cd17 "law" = true)
    (z_any : PySem.W.nsIn K mainGlobals "any" = some none) (z_bool : PySem.W.nsIn K mainGlobals "bool" = some none) (z_enumerate : PySem.W.nsIn K mainGlobals "enumerate" = some none) (z_int : PySem.W.nsIn K mainGlobals "int" = some none) (z_isinstance : PySem.W.nsIn K mainGlobals "isinstance" = some none) (z_len : PySem.W.nsIn K mainGlobals "len" = some none) (z_list : PySem.W.nsIn K mainGlobals "list" = some none) (z_max : PySem.W.nsIn K mainGlobals "max" = some none) (z_min : PySem.W.nsIn K mainGlobals "min" = some none) (z_range : PySem.W.nsIn K mainGlobals "range" = some none) (z_str : PySem.W.nsIn K mainGlobals "str" = some none) (z_sum : PySem.W.nsIn K mainGlobals "sum" = some none) (z_tuple : PySem.W.nsIn K mainGlobals "tuple" = some none) :
    ∃ fd : FuncData, (∀ (s : Shared) (v : Value), BindsTo s fd ⟨[v], []⟩ [("script", v)]) ∧ ∀ base : Heap, K'.In base → base.Ns mainGlobals mg → FnOk l.prog w K' mg base CX0 9 fa fd ["script"] (spP d_law.1.m d_law.1.ok) := by
  have e := hfa.symm.trans (PySem.W.mg_of X G a17)
  cases e
  have F1 := fun_mk (st := s_power) (less_l L l1) (less_c L c1) (less_k L l1)
  have b1 := F1.binds (ps := ["base", "exponent"]) fun _ _ _ _ _ _ us hl => match us, hl with | [_, _], _ => rfl
  have g1 := PySem.W.mg_of X G a1
  have F2 := fun_mk (st := s_has_equal) (less_l L l2) (less_c L c2) (less_k L l2)
  have b2 := F2.binds (ps := ["rights"]) fun _ _ _ _ _ _ us hl => match us, hl with | [_], _ => rfl
  have g2 := PySem.W.mg_of X G a2
  have F3 := fun_mk (st := s_has_heads) (less_l L l3) (less_c L c3) (less_k L l3)
  have b3 := F3.binds (ps := ["rights"]) fun _ _ _ _ _ _ us hl => match us, hl with | [_], _ => rfl
  have g3 := PySem.W.mg_of X G a3
  have F4 := fun_mk (st := s_has_tails) (less_l L l4) (less_c L c4) (less_k L l4)
  have b4 := F4.binds (ps := ["rights"]) fun _ _ _ _ _ _ us hl => match us, hl with | [_], _ => rfl
  have g4 := PySem.W.mg_of X G a4
  have F5 := fun_mk (st := s_is_crowded) (less_l L l5) (less_c L c5) (less_k L l5)
  have b5 := F5.binds (ps := ["table"]) fun _ _ _ _ _ _ us hl => match us, hl with | [_], _ => rfl
  have g5 := PySem.W.mg_of X G a5
  have F6 := fun_mk (st := s_quick) (less_l L l6) (less_c L c6) (less_k L l6)
  have b6 := F6.binds (ps := ["table"]) fun _ _ _ _ _ _ us hl => match us, hl with | [_], _ => rfl
  have g6 := PySem.W.mg_of X G a6
  have F7 := fun_mk (st := s_mirror) (less_l L l7) (less_c L c7) (less_k L l7)
  have b7 := F7.binds (ps := ["table"]) fun _ _ _ _ _ _ us hl => match us, hl with | [_], _ => rfl
  have g7 := PySem.W.mg_of X G a7
  have F8 := fun_mk (st := s__law_cell) (less_l L l8) (less_c L c8) (less_k L l8)
  have b8 := F8.binds (ps := ["script", "k"]) fun _ _ _ _ _ _ us hl => match us, hl with | [_, _], _ => rfl
  have g8 := PySem.W.mg_of X G a8
  have F9 := fun_mk (st := s__law_numbers) (less_l L l9) (less_c L c9) (less_k L l9)
  have b9 := F9.binds (ps := ["cell", "count", "limit"]) fun _ _ _ _ _ _ us hl => match us, hl with | [_, _, _], _ => rfl
  have g9 := PySem.W.mg_of X G a9
  have F10 := fun_mk (st := s__law_same) (less_l L l10) (less_c L c10) (less_k L l10)
  have b10 := F10.binds (ps := ["told", "due"]) fun _ _ _ _ _ _ us hl => match us, hl with | [_, _], _ => rfl
  have g10 := PySem.W.mg_of X G a10
  have F11 := fun_mk (st := s__law_power) (less_l L l11) (less_c L c11) (less_k L l11)
  have b11 := F11.binds (ps := ["base", "size"]) fun _ _ _ _ _ _ us hl => match us, hl with | [_, _], _ => rfl
  have g11 := PySem.W.mg_of X G a11
  have F12 := fun_mk (st := s__law_quick) (less_l L l12) (less_c L c12) (less_k L l12)
  have b12 := F12.binds (ps := ["table"]) fun _ _ _ _ _ _ us hl => match us, hl with | [_], _ => rfl
  have g12 := PySem.W.mg_of X G a12
  have F13 := fun_mk (st := s__law_strings) (less_l L l13) (less_c L c13) (less_k L l13)
  have b13 := F13.binds (ps := ["out", "most"]) fun _ _ _ _ _ _ us hl => match us, hl with | [_, _], _ => rfl
  have g13 := PySem.W.mg_of X G a13
  have F14 := fun_mk (st := s__law_pool) (less_l L l14) (less_c L c14) (less_k L l14)
  have b14 := F14.binds (ps := ["draws"]) fun _ _ _ _ _ _ us hl => match us, hl with | [_], _ => rfl
  have g14 := PySem.W.mg_of X G a14
  have F15 := fun_mk (st := s__law_table) (less_l L l15) (less_c L c15) (less_k L l15)
  have b15 := F15.binds (ps := ["draws"]) fun _ _ _ _ _ _ us hl => match us, hl with | [_], _ => rfl
  have g15 := PySem.W.mg_of X G a15
  have F16 := fun_mk (st := s__law_others) (less_l L l16) (less_c L c16) (less_k L l16)
  have b16 := F16.binds (ps := ["table", "draws"]) fun _ _ _ _ _ _ us hl => match us, hl with | [_, _], _ => rfl
  have g16 := PySem.W.mg_of X G a16
  have F17 := fun_mk (st := s_law) (less_l L l17) (less_c L c17) (less_k L l17)
  have m_any := PySem.W.mg_none_of X G z_any
  have m_bool := PySem.W.mg_none_of X G z_bool
  have m_enumerate := PySem.W.mg_none_of X G z_enumerate
  have m_int := PySem.W.mg_none_of X G z_int
  have m_isinstance := PySem.W.mg_none_of X G z_isinstance
  have m_len := PySem.W.mg_none_of X G z_len
  have m_list := PySem.W.mg_none_of X G z_list
  have m_max := PySem.W.mg_none_of X G z_max
  have m_min := PySem.W.mg_none_of X G z_min
  have m_range := PySem.W.mg_none_of X G z_range
  have m_str := PySem.W.mg_none_of X G z_str
  have m_sum := PySem.W.mg_none_of X G z_sum
  have m_tuple := PySem.W.mg_none_of X G z_tuple
  refine ⟨PySem.W.fnOf "law" "law" (defArgs s_law) (defBody s_law) (defScope s_law) .none kV17 dc17 pm17 an17 cd17 ct17, fun s v => .of_eq rfl, fun base _ _ => ?_⟩
  have c_power := d_power.2 (P := l.prog) (w := w) (base := base) m_range F1 g1 b1
  have c_has_equal := d_has_equal.2 (P := l.prog) (w := w) (base := base) m_any m_enumerate F2 g2 b2
  have c_has_heads := d_has_heads.2 (P := l.prog) (w := w) (base := base) m_any F3 g3 b3
  have c_has_tails := d_has_tails.2 (P := l.prog) (w := w) (base := base) m_any F4 g4 b4
  have c_is_crowded := d_is_crowded.2 (P := l.prog) (w := w) (base := base) m_any m_len m_max m_sum c_power F5 g5 b5
  have c_quick := d_quick.2 (P := l.prog) (w := w) (base := base) c_has_equal c_has_heads c_has_tails c_is_crowded F6 g6 b6
  have c_mirror := d_mirror.2 (P := l.prog) (w := w) (base := base)  F7 g7 b7
  have c__law_cell := d__law_cell.2 (P := l.prog) (w := w) (base := base) m_int m_len F8 g8 b8
  have c__law_numbers := d__law_numbers.2 (P := l.prog) (w := w) (base := base) m_int m_range F9 g9 b9
  have c__law_same := d__law_same.2 (P := l.prog) (w := w) (base := base) m_bool m_int m_isinstance m_len m_list m_range m_str m_tuple F10 g10 b10
  have c__law_power := d__law_power.2 (P := l.prog) (w := w) (base := base) m_range F11 g11 b11
  have c__law_quick := d__law_quick.2 (P := l.prog) (w := w) (base := base) m_int m_len m_max m_range m_sum c__law_power F12 g12 b12
  have c__law_strings := d__law_strings.2 (P := l.prog) (w := w) (base := base) m_range F13 g13 b13
  have c__law_pool := d__law_pool.2 (P := l.prog) (w := w) (base := base) m_range c__law_strings F14 g14 b14
  have c__law_table := d__law_table.2 (P := l.prog) (w := w) (base := base) m_len m_list m_min m_range c__law_pool F15 g15 b15
  have c__law_others := d__law_others.2 (P := l.prog) (w := w) (base := base) m_len F16 g16 b16
  exact d_law.2 m_list m_range c__law_cell c__law_numbers c__law_table c__law_others c__law_quick c_quick c__law_same c_mirror F17
end K40
set_option Elab.async false
set_option linter.all false
set_option maxRecDepth 100000
namespace K40
open PL PySem
def Draws (d : List Int) : Prop := d.length = 60 ∧ ∀ x ∈ d, 0 ≤ x ∧ x < 5040
theorem rg_of {n : Int} (h0 : 0 ≤ n) (h : n ≤ 16777216) : rgOk 0 n := by unfold rgOk; omega
theorem cm_r {a b : Int} (h0 : -1000000000000 ≤ b) (h : b ≤ 1000000000000) : L2.CMul a b := by unfold L2.CMul; omega
theorem cm_l {a b : Int} (h0 : -1000000000000 ≤ a) (h : a ≤ 1000000000000) : L2.CMul a b := by unfold L2.CMul; omega
theorem t_numbers (c : Int) : d__law_numbers.1.ok (c, 60, 5040, ()) ∧ Draws (d__law_numbers.1.m (c, 60, 5040, ())) := by
  unfold d__law_numbers
  by_cases h : decide ((10 : Int) ^ Int.toNat 18 ≤ c) = true
  · simp only [okT, true_and, and_true, and_assoc, h, if_true, true_implies, Bool.true_eq_false, false_implies]
    refine ⟨by unfold L2.CPow; decide, rg_of (by decide) (by decide), for_rng (Q := Draws) (fun i e => e.2.2.1 = 5040 ∧ e.2.2.2.1.l.length = i ∧ ∀ x ∈ e.2.2.2.1.l, 0 ≤ x ∧ x < 5040) ⟨rfl, rfl, by simp⟩ (fun i hi e K KO hI hn => ?_) fun e hI => ⟨trivial, by exact hI.2⟩⟩
    obtain ⟨h1, h2, h3⟩ := hI
    dsimp only
    have q := hn (e.fst.fdiv e.snd.snd.fst, e.snd.fst, e.snd.snd.fst, ⟨e.snd.snd.snd.fst.l ++ [e.fst.fmod e.snd.snd.fst]⟩, ⟨⟩, ⟨⟩, e.snd.snd.snd.snd.snd.snd) ⟨h1, by simp [h2], fun x hx => by
      rcases List.mem_append.mp hx with hx | hx
      · exact h3 x hx
      · rw [List.mem_singleton.mp hx, h1]; exact fm_bounds (by decide)⟩
    exact ⟨⟨by rw [h1]; decide, by rw [h2, sizeLine_eq]; have : i < 60 := hi; omega, ⟨by rw [h1]; decide, by rw [h1]; decide⟩, q.1⟩, q.2⟩
  · have h' : decide ((10 : Int) ^ Int.toNat 18 ≤ c) = false := by simpa using h
    simp only [okT, true_and, and_true, and_assoc, h', if_false, Bool.false_eq_true, true_implies, false_implies]
    refine ⟨by unfold L2.CPow; decide, rg_of (by decide) (by decide), for_rng (Q := Draws) (fun i e => e.2.2.1 = 5040 ∧ e.2.2.2.1.l.length = i ∧ ∀ x ∈ e.2.2.2.1.l, 0 ≤ x ∧ x < 5040) ⟨rfl, rfl, by simp⟩ (fun i hi e K KO hI hn => ?_) fun e hI => ⟨trivial, by exact hI.2⟩⟩
    obtain ⟨h1, h2, h3⟩ := hI
    have hi60 : i < 60 := hi
    dsimp only
    generalize hm : (e.fst * 48271 + (i : Int) * 69621 + 7).fmod 2147483647 = mx
    have bm : 0 ≤ mx ∧ mx < 2147483647 := by rw [← hm]; exact fm_bounds (by decide)
    refine ⟨⟨cm_r (by decide) (by decide), cm_l (by omega) (by omega), by decide, cm_l (by omega) (by omega), cm_r (by decide) (by decide), cm_r (by decide) (by decide), by decide, ⟨by decide, by decide⟩, by rw [h1]; decide, by rw [h2, sizeLine_eq]; omega, (hn _ ?_).1⟩, (hn _ ?_).2⟩
    all_goals refine ⟨h1, by simp [h2], fun x hx => ?_⟩
    all_goals
      rcases List.mem_append.mp hx with hx | hx
      · exact h3 x hx
      · rw [List.mem_singleton.mp hx, h1]; exact fm_bounds (by decide)
end K40
set_option Elab.async false
set_option linter.all false
set_option maxRecDepth 100000
namespace K40
open PL PySem
theorem pw3 {i : Nat} (h : i < 8) : 3 ^ i ≤ 2187 := Nat.pow_le_pow_right (by decide) (by omega : i ≤ 7)
theorem ok_strings (out : S) (most : Int) (ho : out.length ≤ 3) (h0 : 0 ≤ most) (hm : most ≤ 8) : d__law_strings.1.ok (out, most, ()) := by
  unfold d__law_strings
  simp only [okT, true_and, and_true, and_assoc]
  refine ⟨rg_of h0 (by omega), (for_rng (R := List S) (Q := fun _ => True) (gC := fun K e => []) (kC := fun e => []) (fun i e => e.1 = out ∧ e.2.2.1.length ≤ 3 ^ (i + 1) ∧ e.2.2.2.1.length ≤ 3 ^ i ∧ ∀ t ∈ e.2.2.2.1, t.length ≤ i) ⟨rfl, by simp, by simp, by simp⟩ (fun i hi e K KO hI hn => ⟨?_, trivial⟩) fun e hI => ⟨trivial, trivial⟩).1⟩
  obtain ⟨h1, h2, h3, h4⟩ := hI
  have hi8 : i < 8 := by omega
  have p3 := pw3 hi8
  dsimp only
  refine (for_ind (R := List S) (Q := fun _ => True) (gC := fun K e => []) (kC := fun e => []) (fun j e' => e'.1 = out ∧ e'.2.2.1 = e.2.2.1 ∧ e'.2.2.2.2.2.1.length ≤ j * 3 ∧ ∀ t ∈ e'.2.2.2.2.2.1, t.length ≤ i + 1) ⟨h1, rfl, by simp, by simp⟩ (fun j a ha e' K' KO' hI' hn' => ⟨?_, trivial⟩) fun e' hI' => ⟨?_, trivial⟩).1
  · obtain ⟨g1, g2, g3, g4⟩ := hI'
    have ha2 : a.length ≤ i := h4 a (List.mem_of_getElem? ha)
    have hj : j < e.2.2.2.1.length := by
      obtain ⟨hh, _⟩ := List.getElem?_eq_some_iff.mp ha
      exact hh
    dsimp only
    have hl : (List.map (fun b => a ++ b) (chars e'.fst)).length ≤ 3 := by rw [List.length_map]; unfold chars; rw [List.length_map, g1]; exact ho
    refine ⟨fun c hc => ?_, ?_, (hn' _ ?h).1⟩
    · obtain ⟨x, _, rfl⟩ := List.mem_map.mp hc
      rw [sizeLine_eq]
      show a.length + 1 ≤ _
      omega
    · rw [sizeLine_eq]; omega
    refine ⟨g1, g2, ?_, fun t ht => ?_⟩
    · show List.length (_ ++ _) ≤ _
      rw [List.length_append]; omega
    · rcases List.mem_append.mp ht with ht | ht
      · exact g4 t ht
      · obtain ⟨b, hb, rfl⟩ := List.mem_map.mp ht
        obtain ⟨x, _, rfl⟩ := List.mem_map.mp hb
        rw [List.length_append]
        show _ + 1 ≤ _
        omega
  · obtain ⟨g1, g2, g3, g4⟩ := hI'
    have e1 : 3 ^ (i + 1) = 3 ^ i * 3 := Nat.pow_succ ..
    have e2 : 3 ^ (i + 1 + 1) = 3 ^ i * 3 * 3 := by rw [Nat.pow_succ, Nat.pow_succ]
    rw [g2]
    refine ⟨by rw [sizeLine_eq]; omega, (hn _ ?h).1⟩
    refine ⟨g1, ?_, ?_, g4⟩
    · show List.length (_ ++ _) ≤ _
      rw [List.length_append, e2]; omega
    · show List.length e'.2.2.2.2.2.1 ≤ _
      rw [e1]; omega
def Pool (p : List S) : Prop := 4 ≤ p.length ∧ p.length ≤ 200 ∧ ∀ t ∈ p, t.length ≤ 8
theorem pool_of {p : List S} (h : (decide (4 ≤ p.length) && decide (p.length ≤ 200) && p.all fun t => decide (t.length ≤ 8)) = true) : Pool p := by
  simp only [Bool.and_eq_true, decide_eq_true_eq, List.all_eq_true] at h
  exact ⟨h.1.1, h.1.2, h.2⟩
theorem m_pool (d : List Int) : Pool (d__law_pool.1.m (d, ())) := by
  unfold d__law_pool
  dsimp only
  split
  · exact pool_of (by decide +kernel)
  · split
    · exact pool_of (by decide +kernel)
    · split
      · exact pool_of (by decide +kernel)
      · split
        · exact pool_of (by decide +kernel)
        · exact pool_of (by decide +kernel)
theorem mulS_one (c : Nat) (a : Int) : (mulS [c] a).length = a.toNat := by rw [mulS_len]; simp
theorem ok_pool (d : List Int) (h : Draws d) : d__law_pool.1.ok (d, ()) := by
  unfold d__law_pool
  simp only [okT, true_and, and_true, implies_true]
  have m1 : ∀ (c : Nat) (n : Nat) (lo hi : Int), 0 ≤ lo → hi ≤ 8 → n ≤ 2 → ∀ a ∈ irange lo hi, MulSOk [c] a ∧ (mulS [c] a).length + n ≤ PySem.sizeLine ∧ n + (mulS [c] a).length ≤ PySem.sizeLine := fun c n lo hi h0 h8 hn a ha => by
    have := ir_mem ha
    rw [mulS_one, sizeLine_eq]
    refine ⟨?_, by omega, by omega⟩
    unfold MulSOk
    simp only [List.length_cons, List.length_nil]
    omega
  refine ⟨⟨⟨by omega, by rw [h.1]; decide⟩, by decide⟩, ⟨rg_of (by decide) (by decide), fun a ha => ⟨(m1 49 1 0 8 (by decide) (by decide) (by decide) a ha).1, (m1 49 1 0 8 (by decide) (by decide) (by decide) a ha).2.1⟩⟩, fun _ => ok_strings _ _ (by decide) (by decide) (by decide), fun _ => ⟨fun _ => ⟨⟨⟨by unfold rgOk; omega, fun a ha => ⟨(m1 50 2 1 7 (by decide) (by decide) (by decide) a ha).1, (m1 50 2 1 7 (by decide) (by decide) (by decide) a ha).2.1⟩⟩, by decide +kernel⟩, ⟨by unfold rgOk; omega, fun a ha => ⟨(m1 50 2 1 7 (by decide) (by decide) (by decide) a ha).1, (m1 50 2 1 7 (by decide) (by decide) (by decide) a ha).2.1⟩⟩, by decide +kernel⟩, fun _ => ⟨fun _ => ⟨⟨by unfold rgOk; omega, fun a ha => ⟨(m1 50 1 1 8 (by decide) (by decide) (by decide) a ha).1, (m1 50 1 1 8 (by decide) (by decide) (by decide) a ha).2.2⟩⟩, by decide +kernel⟩, fun _ => ⟨fun _ => ok_strings _ _ (by decide) (by decide) (by decide), fun _ => ⟨ok_strings _ _ (by decide) (by decide) (by decide), ok_strings _ _ (by decide) (by decide) (by decide), by decide +kernel⟩⟩⟩⟩⟩
end K40
set_option Elab.async false
set_option linter.all false
set_option maxRecDepth 100000
namespace K40
open PL PySem
def Tab (t : List (S × S)) : Prop := 2 ≤ t.length ∧ t.length ≤ 40 ∧ ∀ p ∈ t, 1 ≤ p.1.length ∧ p.1.length ≤ 6 ∧ p.2.length ≤ 8
theorem pick5 {k : Int} (h0 : 0 ≤ k) (h : k < 5) : 4 ≤ ixD [40, 39, 24, 12, (4 : Int)] k ∧ ixD [40, 39, 24, 12, (4 : Int)] k ≤ 40 := by
  have : k = 0 ∨ k = 1 ∨ k = 2 ∨ k = 3 ∨ k = 4 := by omega
  rcases this with rfl | rfl | rfl | rfl | rfl <;> exact ⟨by decide, by decide⟩
theorem pick4 {a b c d k : Int} (h0 : 0 ≤ k) (h : k < 4) : ixD [a, b, c, d] k = a ∨ ixD [a, b, c, d] k = b ∨ ixD [a, b, c, d] k = c ∨ ixD [a, b, c, d] k = d := by
  have : k = 0 ∨ k = 1 ∨ k = 2 ∨ k = 3 := by omega
  rcases this with rfl | rfl | rfl | rfl
  · exact .inl rfl
  · exact .inr (.inl rfl)
  · exact .inr (.inr (.inl rfl))
  · exact .inr (.inr (.inr rfl))
theorem t_table (d : List Int) (hd : Draws d) : d__law_table.1.ok (d, ()) ∧ Tab (d__law_table.1.m (d, ())) := by
  have hp := m_pool d
  have hop := ok_pool d hd
  unfold d__law_table
  simp only [okT, true_and, and_true, and_assoc, implies_true]
  generalize hpool : d__law_pool.1.m (d, ()) = pool at hp ⊢
  have ix : ∀ {k : Int}, 0 ≤ k → k < 60 → ixOk d k := fun {k} h0 h => ixOk_of h0 (by rw [hd.1]; exact h)
  have c1 := pick5 (fm_bounds (a := ixD d 4) (n := 5) (by decide)).1 (fm_bounds (a := ixD d 4) (n := 5) (by decide)).2
  generalize hc : min (pool.length : Int) (ixD [40, 39, 24, 12, 4] ((ixD d 4).fmod 5)) = count
  have c2 : 4 ≤ count ∧ count ≤ 40 ∧ count ≤ pool.length := by
    obtain ⟨p1, p2, p3⟩ := hp
    omega
  refine ⟨hop, ix (by decide) (by decide), by decide, ixOk_of (fm_bounds (by decide)).1 (fm_bounds (by decide)).2, rg_of (by omega) (by omega), ?_⟩
  refine for_rng (Q := Tab) (fun i e => e.1 = d ∧ e.2.2.1 = count ∧ e.2.2.2.1.l.length = i ∧ (∀ t ∈ e.2.2.2.1.l, t.length ≤ 8) ∧ e.2.2.2.2.1.l.length + i = pool.length ∧ ∀ t ∈ e.2.2.2.2.1.l, t.length ≤ 8) ⟨rfl, rfl, rfl, by simp, by simp, hp.2.2⟩ (fun i hi e K KO hI hn => ?_) fun e hI => ?_
  · obtain ⟨e1, e2, e3, e4, e5, e6, e7, e8, e9, e10, e11, e12, e13, e14, e15⟩ := e
    obtain ⟨h1, h2, h3, h4, h5, h6⟩ := hI
    dsimp only at h1 h2 h3 h4 h5 h6 ⊢
    subst h1 h2
    have hi2 : (i : Int) < e3 := by omega
    have b := fm_bounds (a := ixD e1 (10 + (i : Int))) (n := (e5.l.length : Int)) (by omega)
    refine nx5 (ix (by omega) (by omega)) (by omega) b.1 b.2 (by rw [h3, sizeLine_eq]; omega) (hn _ ?_)
    have b3 : ((ixD e1 (10 + (i : Int))).fmod (e5.l.length : Int)).toNat < e5.l.length := by omega
    refine ⟨rfl, rfl, by simp [h3], fun t ht => ?_, ?_, fun t ht => h6 t (List.mem_of_mem_eraseIdx ht)⟩
    · rcases List.mem_append.mp ht with ht | ht
      · exact h4 t ht
      · rw [List.mem_singleton.mp ht]
        rw [List.getD_eq_getElem?_getD, List.getElem?_eq_getElem b3]
        exact h6 _ (List.getElem_mem _)
    · show (List.eraseIdx e5.l _).length + (i + 1) = _
      rw [List.length_eraseIdx_of_lt b3]
      omega
  · obtain ⟨e1, e2, e3, e4, e5, e6, e7, e8, e9, e10, e11, e12, e13, e14, e15⟩ := e
    obtain ⟨h1, h2, h3, h4, h5, h6⟩ := hI
    dsimp only at h1 h2 h3 h4 h5 h6 ⊢
    subst h1 h2
    have f6 := fm_bounds (a := ixD e1 6) (n := 4) (by decide)
    have f5 := fm_bounds (a := ixD e1 5) (n := e3 - 2) (by omega)
    generalize hs : ixD [e3, e3 - 1, 2 + (ixD e1 5).fmod (e3 - 2), 2] ((ixD e1 6).fmod 4) = sg
    have s1 : 2 ≤ sg ∧ sg ≤ e3 := by
      rcases pick4 (a := e3) (b := e3 - 1) (c := 2 + (ixD e1 5).fmod (e3 - 2)) (d := 2) f6.1 f6.2 with h | h | h | h <;> omega
    generalize hL : ([97, 98, 99, 100, 101, 102, 103, 104, 105, 106, 107, 108, 109, 110, 111, 112, 113, 114, 115, 116, 117, 118, 119, 120, 121, 122, 65, 66, 67, 68, 69, 70, 71, 72, 73, 74, 75, 76, 77, 78, 79, 80, 81, 82, 83, 84, 85, 86, 87, 88, 89, 90] : S) = L
    have lL : L.length = 52 := by rw [← hL]; rfl
    refine nx6 (ix (by decide) (by decide)) (by omega) (ix (by decide) (by decide)) (by decide) (ixOk_of f6.1 f6.2) (rg_of (by omega) (by omega)) ?_
    refine for_rng (Q := Tab) (fun i e => e.1 = e1 ∧ e.2.2.1 = e3 ∧ e.2.2.2.1 = e4 ∧ e.2.2.2.2.2.2.1 = L ∧ e.2.2.2.2.2.2.2.1 = sg ∧ (2 ≤ e.2.2.2.2.2.2.2.2.1.l.length ∧ (e.2.2.2.2.2.2.2.2.1.l.length : Int) ≤ sg + i) ∧ ∀ t ∈ e.2.2.2.2.2.2.2.2.1.l, 1 ≤ t.length ∧ t.length ≤ 6) ⟨rfl, rfl, rfl, rfl, rfl, ?_, ?_⟩ (fun i hi e K KO hI hn => ?_) fun e hI => ?_
    · show 2 ≤ (chars (sl L (some 0) (some sg))).length ∧ (((chars (sl L (some 0) (some sg))).length : Nat) : Int) ≤ sg + (0 : Nat)
      rw [sl_to (by omega)]
      unfold chars
      rw [List.length_map, List.length_take, lL]
      omega
    · intro t ht
      obtain ⟨c, _, rfl⟩ := List.mem_map.mp ht
      exact ⟨Nat.le_refl _, by show 1 ≤ 6; decide⟩
    · obtain ⟨f1, f2, f3, f4, f5, f6, f7, f8, f9, f10, f11, f12, f13, f14, f15⟩ := e
      obtain ⟨g1, g2, g3, g4, g5, ⟨g6, g7⟩, g8⟩ := hI
      dsimp only at g1 g2 g3 g4 g5 g6 g7 g8 ⊢
      subst g1 g2 g3 g4 g5
      have hi2 : (i : Int) < f3 - f8 := by omega
      have q1 := fm_bounds (a := 20 + 3 * (i : Int)) (n := 60) (by decide)
      have q2 := fm_bounds (a := ixD f1 ((20 + 3 * (i : Int)).fmod 60)) (n := 5) (by decide)
      generalize hsz : 2 + (ixD f1 ((20 + 3 * (i : Int)).fmod 60)).fmod 5 = sz
      have q3 : 2 ≤ sz ∧ sz ≤ 6 := by omega
      refine nx8 (cm_l (by decide) (by decide)) (by decide) (ix q1.1 q1.2) (by decide) (rg_of (by omega) (by omega)) (fun a ha => ?_) ?_ (rg_of (by omega) (by omega)) ?_
      · have ha2 := ir_mem ha
        have q4 := fm_bounds (a := 7 * (i : Int) + 11 * a) (n := 60) (by decide)
        have q5 := fm_bounds (a := ixD f1 ((7 * (i : Int) + 11 * a).fmod 60)) (n := f8) (by omega)
        exact ⟨cm_l (by decide) (by decide), cm_l (by decide) (by decide), by decide, ix q4.1 q4.2, by omega, ixOk_of q5.1 (by rw [lL]; omega)⟩
      · have hl := irange_len 0 sz
        unfold joinOk
        have hsum : ∀ xs : List Int, ((xs.map fun a => ([ixD f7 ((ixD f1 ((7 * (i : Int) + 11 * a).fmod 60)).fmod f8)] : S)).map (·.length)).sum = xs.length := fun xs => by
          induction xs with
          | nil => rfl
          | cons x xs ih => rw [List.map_cons, List.map_cons, List.sum_cons, ih, List.length_cons]; simp; omega
        rw [hsum, List.length_map, List.length_nil, Nat.mul_zero, hl]
        omega
      · refine for_rng (Q := Tab) (fun j e => e.1 = f1 ∧ e.2.2.1 = f3 ∧ e.2.2.2.1 = f4 ∧ e.2.2.2.2.2.1 = (i : Int) ∧ e.2.2.2.2.2.2.1 = f7 ∧ e.2.2.2.2.2.2.2.1 = f8 ∧ e.2.2.2.2.2.2.2.2.1 = f9 ∧ 1 ≤ e.2.2.2.2.2.2.2.2.2.2.1.length ∧ e.2.2.2.2.2.2.2.2.2.2.1.length ≤ 6) ⟨rfl, rfl, rfl, rfl, rfl, rfl, rfl, ?_⟩ (fun j hj e K' KO' hI' hn' => ?_) fun e hI' => ?_
        · have hlen : ∀ xs : List Int, (TL.joinL ([] : S) (xs.map fun a => ([ixD f7 ((ixD f1 ((7 * (i : Int) + 11 * a).fmod 60)).fmod f8)] : S))).length = xs.length := fun xs => by
            induction xs with
            | nil => rfl
            | cons x xs ih =>
              cases xs with
              | nil => rfl
              | cons y ys =>
                rw [List.map_cons] at ih
                rw [List.map_cons, List.map_cons, TL.joinL, List.nil_append, List.length_append, ih]
                simp; omega
          show 1 ≤ List.length (TL.joinL _ _) ∧ List.length (TL.joinL _ _) ≤ 6
          rw [hlen, irange_len]
          omega
        · obtain ⟨k1, k2, k3, k4, k5, k6, k7, k8, k9, k10, k11, k12, k13, k14, k15⟩ := e
          obtain ⟨l1, l2, l3, l4, l5, l6, l7, l8, l9⟩ := hI'
          dsimp only at l1 l2 l3 l4 l5 l6 l7 l8 l9 ⊢
          subst l1 l2 l3 l4 l5 l6 l7
          have q4 := fm_bounds (a := (j : Int) + (i : Int)) (n := k8) (by omega)
          have q5 := fm_bounds (a := (j : Int)) (n := 5) (by decide)
          by_cases hk : k11 ∈ k9.l
          · simp only [hk, decide_true, eq_self, if_true, true_implies, Bool.true_eq_false, false_implies, and_true]
            refine nx4 (by omega) (ixOk_of q4.1 (by rw [lL]; omega)) (by rw [sizeLine_eq]; simp only [List.length_cons, List.length_nil]; omega) (by decide) (hn' _ ?_)
            refine ⟨rfl, rfl, rfl, rfl, rfl, rfl, rfl, ?_⟩
            show 1 ≤ List.length (sl _ _ _) ∧ List.length (sl _ _ _) ≤ 6
            rw [sl_last (by omega), List.length_drop, List.length_append]
            simp only [List.length_cons, List.length_nil]
            omega
          · simp only [hk, decide_false, eq_self, if_false, true_implies, Bool.false_eq_true, false_implies, true_and]
            exact hn' _ ⟨rfl, rfl, rfl, rfl, rfl, rfl, rfl, l8, l9⟩
        · obtain ⟨k1, k2, k3, k4, k5, k6, k7, k8, k9, k10, k11, k12, k13, k14, k15⟩ := e
          obtain ⟨l1, l2, l3, l4, l5, l6, l7, l8, l9⟩ := hI'
          dsimp only at l1 l2 l3 l4 l5 l6 l7 l8 l9 ⊢
          subst l1 l2 l3 l4 l5 l6 l7
          by_cases hk : k11 ∈ k9.l
          · simp only [hk, decide_true, eq_self, if_false, Bool.not_true, true_implies, Bool.false_eq_true, false_implies, true_and]
            exact hn _ ⟨rfl, rfl, rfl, rfl, rfl, ⟨g6, by show ((k9.l.length : Nat) : Int) ≤ _; omega⟩, g8⟩
          · simp only [hk, decide_false, eq_self, if_true, Bool.not_false, true_implies, Bool.true_eq_false, false_implies, and_true]
            refine nx1 (by rw [sizeLine_eq]; omega) (hn _ ?_)
            refine ⟨rfl, rfl, rfl, rfl, rfl, ⟨?_, ?_⟩, fun t ht => ?_⟩
            · show 2 ≤ List.length (_ ++ _)
              rw [List.length_append]; omega
            · show ((List.length (_ ++ _) : Nat) : Int) ≤ _
              rw [List.length_append, List.length_singleton]; omega
            · rcases List.mem_append.mp ht with ht | ht
              · exact g8 t ht
              · rw [List.mem_singleton.mp ht]; exact ⟨l8, l9⟩
    · obtain ⟨f1, f2, f3, f4, f5, f6, f7, f8, f9, f10, f11, f12, f13, f14, f15⟩ := e
      obtain ⟨g1, g2, g3, g4, g5, ⟨g6, g7⟩, g8⟩ := hI
      dsimp only at g1 g2 g3 g4 g5 g6 g7 g8 ⊢
      subst g1 g2 g3 g4 g5
      have hlen : f9.l.length ≤ f4.l.length := by omega
      generalize hT : List.map (fun a => (ixD f9.l a, ixD f4.l a)) (irange 0 (f9.l.length : Int)) = T
      have lT : T.length = f9.l.length := by rw [← hT, List.length_map, irange_len]; omega
      have pT : ∀ p ∈ T, 1 ≤ p.1.length ∧ p.1.length ≤ 6 ∧ p.2.length ≤ 8 := fun p hp => by
        rw [← hT] at hp
        obtain ⟨a, ha, rfl⟩ := List.mem_map.mp hp
        have ha2 := ir_mem ha
        have w1 := g8 _ (ixD_mem ha2.1 ha2.2)
        exact ⟨w1.1, w1.2, h4 _ (ixD_mem ha2.1 (by omega))⟩
      have q7 := fm_bounds (a := ixD f1 7) (n := (T.length : Int)) (by omega)
      have q8 := fm_bounds (a := ixD f1 8) (n := 2) (by decide)
      generalize hturn : ixD [0, (ixD f1 7).fmod (T.length : Int)] ((ixD f1 8).fmod 2) = tn
      have q9 : 0 ≤ tn ∧ tn < T.length := by
        have : (ixD f1 8).fmod 2 = 0 ∨ (ixD f1 8).fmod 2 = 1 := by omega
        rcases this with h | h <;> rw [h] at hturn <;> rw [← hturn]
        · exact ⟨Int.le_refl _, by show (0 : Int) < _; omega⟩
        · exact q7
      rw [sl_from q9.1, sl_to q9.1]
      refine ⟨⟨rg_of (by omega) (by omega), fun a ha => ?_, ix (by decide) (by decide), by omega, ix (by decide) (by decide), by decide, ixOk_of q8.1 q8.2, ?_⟩, ?_, ?_, fun p hp => ?_⟩
      · have ha2 := ir_mem ha
        exact ⟨ixOk_of ha2.1 ha2.2, ixOk_of ha2.1 (by omega)⟩
      · rw [sizeLine_eq, List.length_drop, List.length_take]; omega
      · rw [List.length_append, List.length_drop, List.length_take]; omega
      · rw [List.length_append, List.length_drop, List.length_take]; omega
      · rcases List.mem_append.mp hp with hp | hp
        · exact pT p (List.mem_of_mem_drop hp)
        · exact pT p (List.mem_of_mem_take hp)
end K40
set_option Elab.async false
set_option linter.all false
set_option maxRecDepth 100000
namespace K40
open PL PySem
theorem t_others (T : List (S × S)) (d : List Int) (hT : Tab T) (hd : Draws d) : d__law_others.1.ok (T, d, ()) ∧ ∀ t ∈ d__law_others.1.m (T, d, ()), Tab t := by
  unfold d__law_others
  simp only [okT, true_and, and_true, and_assoc, implies_true]
  obtain ⟨t1, t2, t3⟩ := hT
  have ix : ∀ {k : Int}, 0 ≤ k → k < 60 → ixOk d k := fun {k} h0 h => ixOk_of h0 (by rw [hd.1]; exact h)
  have hh : 1 ≤ (T.length : Int).fdiv 2 ∧ (T.length : Int).fdiv 2 ≤ T.length - 1 := by
    rw [Int.fdiv_eq_ediv_of_nonneg _ (by decide)]
    omega
  have q1 := fm_bounds (a := ixD d 51) (n := (T.length : Int).fdiv 2) (by omega)
  have q2 := fm_bounds (a := ixD d 50) (n := (T.length : Int)) (by omega)
  generalize hl : (T.length : Int) - 1 - (ixD d 51).fmod ((T.length : Int).fdiv 2) = late
  have q3 : 1 ≤ late ∧ late < T.length := by omega
  have p1 := t3 _ (ixD_mem (xs := T) (k := late) (by omega) q3.2)
  have p2 := t3 _ (ixD_mem q2.1 q2.2)
  generalize hx : (ixD T late).1 = left at p1
  generalize hy : (ixD T ((ixD d 50).fmod (T.length : Int))).2 = other at p2
  have lw : ∀ r : S, r.length ≤ 8 → Tab (sl T (some 0) (some late) ++ [(left, r)] ++ sl T (some (late + 1)) none) := fun r hr => by
    rw [sl_to (by omega), sl_from (by omega)]
    refine ⟨?_, ?_, fun p hp => ?_⟩
    · simp only [List.length_append, List.length_take, List.length_drop, List.length_singleton]; omega
    · simp only [List.length_append, List.length_take, List.length_drop, List.length_singleton]; omega
    · rw [List.mem_append, List.mem_append, List.mem_singleton] at hp
      rcases hp with (hp | hp) | hp
      · exact t3 p (List.mem_of_mem_take hp)
      · rw [hp]; exact ⟨p1.1, p1.2.1, hr⟩
      · exact t3 p (List.mem_of_mem_drop hp)
  have lz : ∀ r : S, r.length ≤ 8 → (sl T (some 0) (some late)).length + [(left, r)].length ≤ sizeLine ∧ (sl T (some 0) (some late) ++ [(left, r)]).length + (sl T (some (late + 1)) none).length ≤ sizeLine := fun r hr => by
    have := (lw r hr).2.1
    rw [List.length_append] at this
    rw [sizeLine_eq]
    refine ⟨?_, by omega⟩
    rw [List.length_append] at this
    omega
  have s8 : ∀ r : S, (sl r (some 0) (some 8)).length ≤ 8 := fun r => by
    rw [sl_to (by decide), List.length_take]
    show min 8 _ ≤ 8
    omega
  have z1 := lz other p2.2.2
  have z2 := lz [] (by decide)
  have z3 := lz _ (s8 (other ++ [48]))
  have z4 := lz _ (s8 ([49] ++ other))
  refine ⟨ix (by decide) (by decide), by omega, ix (by decide) (by decide), ⟨by decide, by decide⟩, by omega, ixOk_of (by omega) q3.2, ixOk_of q2.1 q2.2, z1.1, z1.2, z2.1, z2.2, ?_, z3.1, z3.2, ?_, ?_, z4.1, z4.2, ?_, fun t ht => ?_⟩
  · rw [sizeLine_eq]; show other.length + 1 ≤ _; omega
  · rw [sizeLine_eq]; show 3 < _; decide
  · rw [sizeLine_eq]; show 1 + other.length ≤ _; omega
  · rw [sizeLine_eq]; show 4 < _; decide
  · simp only [List.mem_append, List.mem_cons, List.not_mem_nil, or_false] at ht
    rcases ht with ((rfl | rfl | rfl) | rfl) | rfl
    · exact ⟨t1, t2, t3⟩
    · exact lw _ p2.2.2
    · exact lw _ (by decide)
    · exact lw _ (s8 _)
    · exact lw _ (s8 _)
end K40
set_option Elab.async false
set_option linter.all false
set_option maxRecDepth 100000
namespace K40
open PL PySem
theorem ok_power (b e : Int) (hb : -1000000 ≤ b) (hb2 : b ≤ 1000000) (he : -1000 ≤ e) (he2 : e ≤ 1000) : d_power.1.ok (b, e, ()) := by
  unfold d_power
  simp only [okT, true_and, and_true, and_assoc]
  refine ⟨by unfold rgOk; omega, (for_rng (R := Int) (Q := fun _ => True) (gC := fun K e => 0) (kC := fun e => 0) (fun i s => s.1 = b) rfl (fun i hi s K KO hI hn => ⟨?_, trivial⟩) fun e hI => ⟨trivial, trivial⟩).1⟩
  refine ⟨cm_r ?_ ?_, (hn _ ?_).1⟩
  · show _ ≤ s.1; rw [hI]; omega
  · show s.1 ≤ _; rw [hI]; omega
  · exact hI
theorem same_power (t : Int × Int × Unit) : d__law_power.1.m t = d_power.1.m t := rfl
theorem ok_lpower (b e : Int) (hb : -1000000 ≤ b) (hb2 : b ≤ 1000000) (he : -1000 ≤ e) (he2 : e ≤ 1000) : d__law_power.1.ok (b, e, ()) := by
  unfold d__law_power
  simp only [okT, true_and, and_true, and_assoc]
  refine ⟨by unfold rgOk; omega, (for_rng (R := Int) (Q := fun _ => True) (gC := fun K e => 0) (kC := fun e => 0) (fun i s => s.1 = b) rfl (fun i hi s K KO hI hn => ⟨?_, trivial⟩) fun e hI => ⟨trivial, trivial⟩).1⟩
  refine ⟨cm_r ?_ ?_, (hn _ ?_).1⟩
  · show _ ≤ s.1; rw [hI]; omega
  · show s.1 ≤ _; rw [hI]; omega
  · exact hI
theorem flat_len {α β : Type} (f : α → List β) (c : Nat) : ∀ l : List α, (∀ a ∈ l, (f a).length ≤ c) → (l.flatMap f).length ≤ l.length * c
  | [], _ => by simp
  | a :: l, h => by
    rw [List.flatMap_cons, List.length_append, List.length_cons, Nat.succ_mul]
    have h1 := h a (by simp)
    have h2 := flat_len f c l fun b hb => h b (by simp [hb])
    omega
/-- two places with one text -/
theorem equal_iff (l : List S) : d_has_equal.1.m (l, ()) = true ↔ ∃ i j : Nat, i < j ∧ j < l.length ∧ l.getD i default = l.getD j default := by
  unfold d_has_equal
  dsimp only
  simp only [List.any_map, List.any_eq_true, Function.comp_apply, id_eq, decide_eq_true_eq]
  constructor
  · rintro ⟨a, ha, h⟩
    obtain ⟨j, hj⟩ := List.getElem?_of_mem ha
    obtain ⟨h1, h2⟩ := enum_at hj
    have h3 : a.2 ∈ sl l none (some a.1) := h
    rw [h1, sl_none_to (by omega), Int.toNat_natCast] at h3
    obtain ⟨i, hi⟩ := List.getElem?_of_mem h3
    rw [List.getElem?_take] at hi
    by_cases hij : i < j
    · rw [if_pos hij] at hi
      refine ⟨i, j, hij, ?_, ?_⟩
      · obtain ⟨w, _⟩ := List.getElem?_eq_some_iff.mp h2; exact w
      · rw [List.getD_eq_getElem?_getD, List.getD_eq_getElem?_getD, hi, h2]
    · rw [if_neg hij] at hi; cases hi
  · rintro ⟨i, j, hij, hj, e⟩
    refine ⟨((j : Int), l[j]), List.mem_of_getElem? (i := j) ?_, ?_⟩
    · unfold enum
      rw [List.getElem?_map, List.getElem?_zipIdx, List.getElem?_eq_getElem hj]
      simp
    · show l[j] ∈ sl l none (some (j : Int))
      rw [sl_none_to (by omega), Int.toNat_natCast]
      rw [List.getD_eq_getElem?_getD, List.getD_eq_getElem?_getD, List.getElem?_eq_getElem hj, List.getElem?_eq_getElem (by omega : i < l.length)] at e
      have e2 : l[i] = l[j] := e
      rw [← e2]
      exact List.mem_of_getElem? (i := i) (by rw [List.getElem?_take, if_pos hij, List.getElem?_eq_getElem])
theorem heads_iff (l : List S) : d_has_heads.1.m (l, ()) = true ↔ ∃ a ∈ l, ∃ b ∈ l, a ≠ b ∧ a <+: b := by
  unfold d_has_heads
  dsimp only
  simp only [List.any_flatMap, List.any_map, List.any_eq_true, Function.comp_apply, id_eq, Bool.and_eq_true, Bool.not_eq_true', decide_eq_false_iff_not, List.isPrefixOf_iff_prefix, ne_eq]
theorem tails_iff (l : List S) : d_has_tails.1.m (l, ()) = true ↔ ∃ a ∈ l, ∃ b ∈ l, a ≠ b ∧ a <:+ b := by
  unfold d_has_tails
  dsimp only
  simp only [List.any_flatMap, List.any_map, List.any_eq_true, Function.comp_apply, id_eq, Bool.and_eq_true, Bool.not_eq_true', decide_eq_false_iff_not, List.isSuffixOf_iff_suffix, ne_eq]
theorem ok_quick (T : List (S × S)) (h : Tab T) : d_quick.1.ok (T, ()) := by
  obtain ⟨t1, t2, t3⟩ := h
  unfold d_quick
  simp only [okT, true_and, and_true, implies_true]
  have lr : (List.map (fun a : S × S => a.2) T).length ≤ 40 := by rw [List.length_map]; exact t2
  have fl : ∀ l : List S, l.length ≤ 40 → (List.flatMap (fun a => l) l).length ≤ sizeLine := fun l hl => by
    have := flat_len (fun _ : S => l) 40 l fun _ _ => hl
    rw [sizeLine_eq]
    omega
  intro _
  refine ⟨?_, fun _ => ⟨?_, fun _ => ⟨?_, fun _ => ?_⟩⟩⟩
  · unfold d_has_equal
    simp only [okT, true_and, and_true, implies_true]
  · unfold d_has_heads
    simp only [okT, true_and, and_true, implies_true]
    exact fl _ lr
  · unfold d_has_tails
    simp only [okT, true_and, and_true, implies_true]
    exact fl _ lr
  · unfold d_is_crowded
    simp only [okT, true_and, and_true, implies_true]
    intro _
    have hne : List.map (fun a : S × S => (List.length a.2 : Int)) T ≠ [] := by
      intro e
      have := congrArg List.length e
      rw [List.length_map] at this
      simp at this
      rw [this] at t1
      simp at t1
    have hm : maxI (List.map (fun a : S × S => (List.length a.2 : Int)) T) ≤ 8 ∧ 0 ≤ maxI (List.map (fun a : S × S => (List.length a.2 : Int)) T) := by
      refine ⟨(maxI_le hne).mpr fun x hx => ?_, ?_⟩
      · obtain ⟨p, hp, rfl⟩ := List.mem_map.mp hx
        have := (t3 p hp).2.2
        omega
      · obtain ⟨p, hp, e⟩ := List.mem_map.mp (maxI_mem hne).1
        rw [← e]; omega
    have hf : (List.flatMap (fun a : S × S => chars a.2) T).length ≤ 320 := by
      have := flat_len (fun a : S × S => chars a.2) 8 T fun a ha => by unfold chars; rw [List.length_map]; exact (t3 a ha).2.2
      omega
    have hk : (fillD ([] : List (S × Bool)) (List.flatMap (fun a : S × S => List.map (fun b => (b, true)) (chars a.2)) T)).length ≤ 320 := by
      have h1 := fillD_len (List.flatMap (fun a : S × S => List.map (fun b => (b, true)) (chars a.2)) T) ([] : List (S × Bool))
      have h2 := flat_len (fun a : S × S => List.map (fun b => (b, true)) (chars a.2)) 8 T fun a ha => by unfold chars; rw [List.length_map, List.length_map]; exact (t3 a ha).2.2
      rw [List.length_nil] at h1
      omega
    refine ⟨by rw [sizeLine_eq]; omega, hne, fun a ha => ok_power _ _ (by omega) (by omega) ?_ ?_, ok_power _ _ (by omega) (by omega) (by omega) (by omega)⟩
    · have := (t3 a ha).2.2; omega
    · omega
end K40
set_option Elab.async false
set_option linter.all false
set_option maxRecDepth 100000
namespace K40
open PL PySem
theorem first_occ {c : Nat} : ∀ {l : S}, c ∈ l → ∃ k, k < l.length ∧ l.getD k default = c ∧ c ∉ l.take k
  | x :: l, h => by
    by_cases hx : x = c
    · exact ⟨0, by simp, by simpa using hx, by simp⟩
    · have h2 : c ∈ l := by
        rcases List.mem_cons.mp h with e | e
        · exact absurd e.symm hx
        · exact e
      obtain ⟨k, h3, h4, h5⟩ := first_occ h2
      refine ⟨k + 1, by simpa using h3, by simpa using h4, ?_⟩
      rw [List.take_succ_cons, List.mem_cons]
      rintro (e | e)
      · exact hx e.symm
      · exact h5 e
theorem new_signs (right : S) (signs : List S) (p : Int → Bool) (hp : ∀ k : Nat, k < right.length → (p (k : Int) = true ↔ [right.getD k default] ∉ signs ∧ right.getD k default ∉ right.take k)) (hs : signs.Nodup) :
    (signs ++ List.map (fun a => ([ixD right a] : S)) (List.filter p (irange 0 (right.length : Int)))).Nodup ∧ ∀ s, s ∈ signs ++ List.map (fun a => ([ixD right a] : S)) (List.filter p (irange 0 (right.length : Int))) ↔ s ∈ signs ∨ s ∈ chars right := by
  have mem : ∀ a, a ∈ List.filter p (irange 0 (right.length : Int)) → ∃ k : Nat, k < right.length ∧ a = (k : Int) ∧ ([right.getD k default] : S) ∉ signs ∧ right.getD k default ∉ right.take k := fun a ha => by
    obtain ⟨h1, h2⟩ := List.mem_filter.mp ha
    have h3 := ir_mem h1
    have e : a = (a.toNat : Int) := by omega
    rw [e] at h2
    obtain ⟨h4, h5⟩ := (hp a.toNat (by omega)).mp h2
    exact ⟨a.toNat, by omega, e, h4, h5⟩
  constructor
  · rw [List.nodup_append]
    refine ⟨hs, ?_, fun a ha b hb e => ?_⟩
    · have pw : List.Pairwise (· < ·) (irange 0 (right.length : Int)) := by
        rw [irange_nat]
        exact List.pairwise_map.mpr (List.pairwise_lt_range.imp fun h => by omega)
      refine List.pairwise_map.mpr (List.Pairwise.imp_of_mem ?_ (pw.filter p))
      intro a b ha hb hab e
      obtain ⟨k, k1, rfl, k2, k3⟩ := mem a ha
      obtain ⟨j, j1, rfl, j2, j3⟩ := mem b hb
      rw [ixD_nat, ixD_nat] at e
      have e2 : right.getD k default = right.getD j default := (List.cons.inj e).1
      refine j3 ?_
      rw [← e2, List.getD_eq_getElem?_getD, List.getElem?_eq_getElem k1]
      exact List.mem_of_getElem? (i := k) (by rw [List.getElem?_take, if_pos (by omega), List.getElem?_eq_getElem k1]; rfl)
    · subst e
      obtain ⟨c, hc, rfl⟩ := List.mem_map.mp hb
      obtain ⟨k, k1, rfl, k2, k3⟩ := mem c hc
      rw [ixD_nat] at ha
      exact k2 ha
  · intro s
    rw [List.mem_append]
    constructor
    · rintro (h | h)
      · exact .inl h
      · obtain ⟨c, hc, rfl⟩ := List.mem_map.mp h
        obtain ⟨k, k1, rfl, k2, k3⟩ := mem c hc
        refine .inr (List.mem_map.mpr ⟨_, ixD_mem (xs := right) (by omega) (by omega), rfl⟩)
    · rintro (h | h)
      · exact .inl h
      · obtain ⟨c, hc, rfl⟩ := List.mem_map.mp h
        by_cases hx : ([c] : S) ∈ signs
        · exact .inl hx
        · obtain ⟨k, k1, k2, k3⟩ := first_occ hc
          refine .inr (List.mem_map.mpr ⟨(k : Int), List.mem_filter.mpr ⟨?_, (hp k k1).mpr ?_⟩, ?_⟩)
          · rw [irange_nat]; exact List.mem_map.mpr ⟨k, List.mem_range.mpr k1, rfl⟩
          · rw [k2]; exact ⟨hx, k3⟩
          · rw [ixD_nat, k2]
/-- how many pairs: none, or some -/
structure Cnt (h : Int) (V : Nat → Nat → Prop) (P : Nat → Nat → Prop) : Prop where
  pos : 0 ≤ h
  zero : h = 0 ↔ ∀ k j, V k j → ¬ P k j
theorem Cnt.step {h : Int} {V V' P : Nat → Nat → Prop} (z : Cnt h V P) (i j : Nat) (c : Bool) (hc : c = true ↔ P i j) (hV : ∀ a b, V' a b ↔ V a b ∨ (a = i ∧ b = j)) : Cnt (h + b2i c) V' P := by
  obtain ⟨p, q⟩ := z
  unfold b2i
  cases c with
  | true =>
    have hp := hc.mp rfl
    rw [if_pos rfl]
    exact ⟨by omega, ⟨fun e => by omega, fun g => absurd hp (g i j ((hV i j).mpr (.inr ⟨rfl, rfl⟩)))⟩⟩
  | false =>
    have hp : ¬ P i j := fun h => Bool.false_ne_true (hc.mpr h)
    rw [if_neg Bool.false_ne_true, Int.add_zero]
    refine ⟨p, q.trans ⟨fun g a b hv => ?_, fun g a b hv => g a b ((hV a b).mpr (.inl hv))⟩⟩
    rcases (hV a b).mp hv with hv | ⟨rfl, rfl⟩
    · exact g a b hv
    · exact hp
theorem Cnt.congr {h : Int} {V V' P : Nat → Nat → Prop} (z : Cnt h V P) (hV : ∀ a b, V' a b ↔ V a b) : Cnt h V' P :=
  ⟨z.pos, z.zero.trans ⟨fun g a b hv => g a b ((hV a b).mp hv), fun g a b hv => g a b ((hV a b).mpr hv)⟩⟩
end K40
set_option Elab.async false
set_option linter.all false
set_option maxRecDepth 100000
namespace K40
open PL PySem
abbrev hd (R : List S) (k j : Nat) : Prop := k ≠ j ∧ R.getD k default <+: R.getD j default
abbrev tl (R : List S) (k j : Nat) : Prop := k ≠ j ∧ R.getD k default <:+ R.getD j default
abbrev Sep (R : List S) (V : Nat → Nat → Prop) : Prop := ∀ k j, V k j → k ≠ j → R.getD k default ≠ R.getD j default
abbrev V1 (n i : Nat) (a b : Nat) : Prop := a < i ∧ b < n
abbrev V2 (n i j : Nat) (a b : Nat) : Prop := (a < i ∧ b < n) ∨ (a = i ∧ b < j)
theorem quick_eq (T : List (S × S)) (R : List S) (hR : List.map (fun a : S × S => a.2) T = R) (h0 : [] ∉ R) : d_quick.1.m (T, ()) = if d_has_equal.1.m (R, ()) = true then [101, 113, 117, 97, 108]
      else if (!d_has_heads.1.m (R, ())) = true then [104, 101, 97, 100, 115]
        else if (!d_has_tails.1.m (R, ())) = true then [116, 97, 105, 108, 115]
          else if d_is_crowded.1.m (T, ()) = true then [99, 114, 111, 119, 100, 101, 100]
            else [111, 112, 101, 110] := by
  unfold d_quick
  dsimp only
  rw [hR]
  simp only [h0, decide_false, eq_self, if_false, Bool.false_eq_true]
theorem b_and {p q : Prop} [Decidable p] [Decidable q] : (!decide p && decide q) = true ↔ ¬ p ∧ q := by
  rw [Bool.and_eq_true, decide_eq_true_eq, Bool.not_eq_true', decide_eq_false_iff_not]
theorem pre_iff (a b : S) : sl b (some 0) (some (a.length : Int)) = a ↔ a <+: b := by
  rw [sl_to (by omega), Int.toNat_natCast, List.prefix_iff_eq_take]
  exact ⟨fun h => h.symm, fun h => h.symm⟩
theorem suf_iff (a b : S) : sl b.reverse (some 0) (some (a.length : Int)) = a.reverse ↔ a <:+ b := by
  have := pre_iff a.reverse b.reverse
  rw [List.length_reverse] at this
  rw [this]
  exact List.reverse_prefix
theorem new_len (r : S) (p : Int → Bool) : (List.map (fun a => ([ixD r a] : S)) (List.filter p (irange 0 (r.length : Int)))).length ≤ r.length := by
  rw [List.length_map]
  refine Nat.le_trans (List.length_filter_le _ _) ?_
  rw [irange_len]
  omega
theorem t_lquick (T : List (S × S)) (h : Tab T) : d__law_quick.1.ok (T, ()) ∧ d__law_quick.1.m (T, ()) = d_quick.1.m (T, ()) := by
  have hT := h
  obtain ⟨t1, t2, t3⟩ := h
  generalize hW : d_quick.1.m (T, ()) = W
  unfold d__law_quick
  simp only [okT, true_and, and_true, and_assoc, implies_true]
  generalize hR : List.map (fun a : S × S => a.2) T = R
  have lR : R.length = T.length := by rw [← hR, List.length_map]
  by_cases h0 : [] ∈ R
  · simp only [h0, decide_true, eq_self, if_true, Bool.true_eq_false, false_implies, true_and]
    rw [← hW]
    unfold d_quick
    dsimp only
    rw [hR]
    simp only [h0, decide_true, eq_self, if_true]
  simp only [h0, decide_false, eq_self, if_false, Bool.false_eq_true, true_implies]
  refine and_assoc.mpr ⟨rg_of (by omega) (by omega), ?_⟩
  refine for_rng (Q := fun r => r = W) (fun i e => e.1 = T ∧ e.2.2.1 = R ∧ Sep R (V1 R.length i) ∧ Cnt e.2.2.2.1 (V1 R.length i) (hd R) ∧ Cnt e.2.2.2.2.1 (V1 R.length i) (tl R)) ⟨rfl, rfl, fun k j hv => absurd hv.1 (Nat.not_lt_zero _), ⟨Int.le_refl _, ⟨fun _ k j hv => absurd hv.1 (Nat.not_lt_zero _), fun _ => rfl⟩⟩, ⟨Int.le_refl _, ⟨fun _ k j hv => absurd hv.1 (Nat.not_lt_zero _), fun _ => rfl⟩⟩⟩ (fun i hi e K KO hI hn => ?_) fun e hI => ?_
  · obtain ⟨e1, e2, e3, e4, e5, e6, e7, e8, e9, e10, e11, e12⟩ := e
    obtain ⟨h1, h2, h3, h4, h5⟩ := hI
    dsimp only at h1 h2 h3 h4 h5 ⊢
    subst h1 h2
    have hi2 : i < e3.length := by omega
    refine and_assoc.mpr ⟨rg_of (by omega) (by omega), ?_⟩
    refine for_rng (Q := fun r => r = W) (fun j e => e.1 = e1 ∧ e.2.2.1 = e3 ∧ e.2.2.2.2.2.1 = (i : Int) ∧ Sep e3 (V2 e3.length i j) ∧ Cnt e.2.2.2.1 (V2 e3.length i j) (hd e3) ∧ Cnt e.2.2.2.2.1 (V2 e3.length i j) (tl e3)) ⟨rfl, rfl, rfl, fun k j hv => h3 k j (by omega), h4.congr fun a b => by omega, h5.congr fun a b => by omega⟩ (fun j hj e K' KO' hI' hn' => ?_) fun e hI' => ?_
    · obtain ⟨f1, f2, f3, f4, f5, f6, f7, f8, f9, f10, f11, f12⟩ := e
      obtain ⟨g1, g2, g3, g4, g5, g6⟩ := hI'
      dsimp only at g1 g2 g3 g4 g5 g6 ⊢
      subst g1 g2 g3
      have hj2 : j < f3.length := by omega
      have oi := ixOk_nat hi2
      have oj := ixOk_nat hj2
      simp only [oi, oj, and_self, implies_true, true_and]
      by_cases he : (!decide ((i : Int) = (j : Int)) && decide (ixD f3 (i : Int) = ixD f3 (j : Int))) = true
      · have he2 := b_and.mp he
        have hW2 : W = [101, 113, 117, 97, 108] := by
          rw [← hW, quick_eq _ _ hR h0, if_pos]
          refine (equal_iff f3).mpr ?_
          have e3 := he2.2
          rw [ixD_nat, ixD_nat] at e3
          by_cases hij : i < j
          · exact ⟨i, j, hij, hj2, e3⟩
          · exact ⟨j, i, by omega, hi2, e3.symm⟩
        have tt : ∀ b : Bool, b = (!decide ((i : Int) = (j : Int)) && decide (ixD f3 (i : Int) = ixD f3 (j : Int))) → (b = false → False) := fun b hb hf => by rw [← hb, hf] at he; cases he
        refine ⟨fun hf => absurd hf (fun hf => ?_), ?_⟩
        · have := b_and.mpr he2
          rw [hf] at this
          cases this
        · rw [if_pos (b_and.mpr he2), hW2]
      · have he2 : ¬ (¬ ((i : Int) = (j : Int)) ∧ ixD f3 (i : Int) = ixD f3 (j : Int)) := fun z => he (b_and.mpr z)
        rw [if_neg (fun z => he2 (b_and.mp z))]
        have q := hn' (f1, ⟨⟩, f3, f4 + b2i (!decide ((i : Int) = (j : Int)) && decide (sl (ixD f3 (j : Int)) (some 0) (some (List.length (ixD f3 (i : Int)) : Int)) = ixD f3 (i : Int))), f5 + b2i (!decide ((i : Int) = (j : Int)) && decide (sl (List.reverse (ixD f3 (j : Int))) (some 0) (some (List.length (ixD f3 (i : Int)) : Int)) = List.reverse (ixD f3 (i : Int)))), (i : Int), ⟨⟩, ⟨⟩, ⟨⟩, ⟨⟩, ⟨⟩, f12) ⟨rfl, rfl, rfl, fun k l hv hkl => ?_, ?_, ?_⟩
        · refine ⟨fun _ => ?_, ?_⟩
          · exact q.1
          · exact q.2
        · rcases hv with hv | ⟨rfl, hv⟩
          · exact g4 k l (.inl hv) hkl
          · by_cases hl : l < j
            · exact g4 k l (.inr ⟨rfl, hl⟩) hkl
            · have e4 : l = j := by omega
              subst e4
              intro e5
              refine he2 ⟨by omega, ?_⟩
              rw [ixD_nat, ixD_nat]; exact e5
        · refine g5.step i j _ ?_ (fun a b => by omega)
          rw [b_and, pre_iff, ixD_nat, ixD_nat]
          exact and_congr (by omega) Iff.rfl
        · refine g6.step i j _ ?_ (fun a b => by omega)
          rw [b_and, suf_iff, ixD_nat, ixD_nat]
          exact and_congr (by omega) Iff.rfl
    · obtain ⟨f1, f2, f3, f4, f5, f6, f7, f8, f9, f10, f11, f12⟩ := e
      obtain ⟨g1, g2, g3, g4, g5, g6⟩ := hI'
      dsimp only at g1 g2 g3 g4 g5 g6 ⊢
      subst g1 g2 g3
      rw [Int.toNat_natCast] at g4 g5 g6
      exact hn _ ⟨rfl, rfl, fun k l hv => g4 k l (by omega), g5.congr fun a b => by omega, g6.congr fun a b => by omega⟩
  · obtain ⟨f1, f2, f3, f4, f5, f6, f7, f8, f9, f10, f11, f12⟩ := e
    obtain ⟨g1, g2, g4, g5, g6⟩ := hI
    dsimp only at g1 g2 g4 g5 g6 ⊢
    subst g1 g2
    rw [Int.toNat_natCast] at g4 g5 g6
    have hne : ¬ d_has_equal.1.m (f3, ()) = true := fun z => by
      obtain ⟨i, j, hij, hj, e⟩ := (equal_iff f3).mp z
      exact g4 i j ⟨by omega, hj⟩ (by omega) e
    have idx : ∀ a ∈ f3, ∃ i, i < f3.length ∧ f3.getD i default = a := fun a ha => by
      obtain ⟨i, hi⟩ := List.getElem?_of_mem ha
      obtain ⟨w, e⟩ := List.getElem?_eq_some_iff.mp hi
      exact ⟨i, w, by rw [List.getD_eq_getElem?_getD, hi]; rfl⟩
    have mm : ∀ i, i < f3.length → f3.getD i default ∈ f3 := fun i hi => by
      rw [List.getD_eq_getElem?_getD, List.getElem?_eq_getElem hi]
      exact List.getElem_mem _
    have hz : f4 = 0 ↔ ¬ d_has_heads.1.m (f3, ()) = true := by
      rw [g5.zero, heads_iff]
      constructor
      · rintro g ⟨a, ha, b, hb, hab, hp⟩
        obtain ⟨i, hi, rfl⟩ := idx a ha
        obtain ⟨j, hj, rfl⟩ := idx b hb
        exact g i j ⟨hi, hj⟩ ⟨fun e => hab (by rw [e]), hp⟩
      · rintro g i j ⟨hi, hj⟩ ⟨hij, hp⟩
        exact g ⟨_, mm i hi, _, mm j hj, g4 i j ⟨hi, hj⟩ hij, hp⟩
    have tz : f5 = 0 ↔ ¬ d_has_tails.1.m (f3, ()) = true := by
      rw [g6.zero, tails_iff]
      constructor
      · rintro g ⟨a, ha, b, hb, hab, hp⟩
        obtain ⟨i, hi, rfl⟩ := idx a ha
        obtain ⟨j, hj, rfl⟩ := idx b hb
        exact g i j ⟨hi, hj⟩ ⟨fun e => hab (by rw [e]), hp⟩
      · rintro g i j ⟨hi, hj⟩ ⟨hij, hp⟩
        exact g ⟨_, mm i hi, _, mm j hj, g4 i j ⟨hi, hj⟩ hij, hp⟩
    have hW3 := (quick_eq _ _ hR h0).symm.trans hW
    rw [if_neg hne] at hW3
    by_cases z1 : f4 = 0
    · have h1 := hz.mp z1
      simp only [z1, decide_true, eq_self, if_true, Bool.true_eq_false, false_implies, true_and]
      rw [← hW3, if_pos (by simpa using h1)]
    have h1 : d_has_heads.1.m (f3, ()) = true := by
      cases hh : d_has_heads.1.m (f3, ()) with
      | true => rfl
      | false => exact absurd (hz.mpr (by rw [hh]; exact Bool.false_ne_true)) z1
    rw [if_neg (by rw [h1]; exact Bool.false_ne_true)] at hW3
    simp only [z1, decide_false, eq_self, if_false, Bool.false_eq_true, true_implies]
    by_cases z2 : f5 = 0
    · have h2 := tz.mp z2
      simp only [z2, decide_true, eq_self, if_true, Bool.true_eq_false, false_implies, true_and]
      rw [← hW3, if_pos (by simpa using h2)]
    have h2 : d_has_tails.1.m (f3, ()) = true := by
      cases hh : d_has_tails.1.m (f3, ()) with
      | true => rfl
      | false => exact absurd (tz.mpr (by rw [hh]; exact Bool.false_ne_true)) z2
    rw [if_neg (by rw [h2]; exact Bool.false_ne_true)] at hW3
    simp only [z2, decide_false, eq_self, if_false, Bool.false_eq_true, true_implies]
    have r8 : ∀ r ∈ f3, r.length ≤ 8 := fun r hr => by
      rw [← hR] at hr
      obtain ⟨p, hp, rfl⟩ := List.mem_map.mp hr
      exact (t3 p hp).2.2
    refine for_ind (Q := fun r => r = W) (fun i e => e.1 = f1 ∧ e.2.2.1 = f3 ∧ e.2.2.2.2.2.2.2.1.length ≤ i * 8 ∧ e.2.2.2.2.2.2.2.1.Nodup ∧ ∀ s, s ∈ e.2.2.2.2.2.2.2.1 ↔ ∃ r ∈ f3.take i, s ∈ chars r) ⟨rfl, rfl, by simp, by simp, by simp⟩ (fun i r hir e K KO hI hn => ?_) fun e hI => ?_
    · obtain ⟨e1, e2, e3, e4, e5, e6, e7, e8, e9, e10, e11, e12⟩ := e
      obtain ⟨k1, k2, k3, k4, k5⟩ := hI
      dsimp only at k1 k2 k3 k4 k5 ⊢
      subst k1 k2
      have hr8 := r8 r (List.mem_of_getElem? hir)
      obtain ⟨hi2, _⟩ := List.getElem?_eq_some_iff.mp hir
      refine nx3 (rg_of (by omega) (by omega)) (fun a ha => ?_) (by rw [sizeLine_eq]; refine Nat.le_trans (Nat.add_le_add k3 (new_len r _)) ?_; omega) (hn _ ⟨rfl, rfl, ?_, (new_signs r e8 _ ?hp k4).1, fun s => ?_⟩)
      case hp =>
        intro k hk
        rw [inS_one, sl_to (by omega), Int.toNat_natCast, ixD_nat, Bool.and_eq_true, Bool.not_eq_true', Bool.not_eq_true', decide_eq_false_iff_not, decide_eq_false_iff_not]
      · have ha2 := ir_mem ha
        have o := ixOk_of (xs := r) ha2.1 ha2.2
        exact ⟨o, fun _ => o, fun _ => o⟩
      · rw [List.length_append]
        refine Nat.le_trans (Nat.add_le_add k3 (new_len r _)) ?_
        omega
      · refine ((new_signs r e8 _ ?hp2 k4).2 s).trans ?_
        case hp2 =>
          intro k hk
          rw [inS_one, sl_to (by omega), Int.toNat_natCast, ixD_nat, Bool.and_eq_true, Bool.not_eq_true', Bool.not_eq_true', decide_eq_false_iff_not, decide_eq_false_iff_not]
        rw [k5 s, List.take_add_one, hir]
        constructor
        · rintro (⟨r', hr', hs⟩ | hs)
          · exact ⟨r', List.mem_append.mpr (.inl hr'), hs⟩
          · exact ⟨r, List.mem_append.mpr (.inr (by simp)), hs⟩
        · rintro ⟨r', hr', hs⟩
          rcases List.mem_append.mp hr' with hr' | hr'
          · exact .inl ⟨r', hr', hs⟩
          · have e : r' = r := by simpa using hr'
            subst e
            exact .inr hs
    · obtain ⟨e1, e2, e3, e4, e5, e6, e7, e8, e9, e10, e11, e12⟩ := e
      obtain ⟨k1, k2, k3, k4, k5⟩ := hI
      dsimp only at k1 k2 k3 k4 k5 ⊢
      subst k1 k2
      rw [List.take_length] at k5
      have hn1 : List.map (fun a : S => (List.length a : Int)) e3 ≠ [] := by
        intro e
        have := congrArg List.length e
        rw [List.length_map, List.length_nil] at this
        omega
      have hn2 : List.map (fun a : S × S => (List.length a.1 : Int)) e1 ≠ [] := by
        intro e
        have := congrArg List.length e
        rw [List.length_map, List.length_nil] at this
        omega
      have hm : maxI (List.map (fun a : S => (List.length a : Int)) e3) ≤ 8 ∧ 0 ≤ maxI (List.map (fun a : S => (List.length a : Int)) e3) := by
        refine ⟨(maxI_le hn1).mpr fun x hx => ?_, ?_⟩
        · obtain ⟨p, hp, rfl⟩ := List.mem_map.mp hx
          have := r8 p hp
          omega
        · obtain ⟨p, hp, e⟩ := List.mem_map.mp (maxI_mem hn1).1
          rw [← e]; omega
      refine ⟨⟨hn1, fun a ha => ok_lpower _ _ (by omega) (by omega) ?_ ?_, hn2, fun _ => ok_lpower _ _ (by omega) (by omega) (by omega) (by omega)⟩, ?_⟩
      · have := r8 a ha; omega
      · omega
      rw [← hW3]
      -- as many signs
      have hk : (fillD ([] : List (S × Bool)) (List.flatMap (fun a : S × S => List.map (fun b => (b, true)) (chars a.2)) e1)).length = e8.length := by
        obtain ⟨w1, w2⟩ := fillD_keys (List.flatMap (fun a : S × S => List.map (fun b => (b, true)) (chars a.2)) e1) ([] : List (S × Bool)) (by simp)
        rw [← List.length_map (f := fun p : S × Bool => p.1)]
        refine same_len w1 k4 fun s => ?_
        rw [w2 s, k5 s]
        constructor
        · rintro (h | h)
          · simp at h
          · obtain ⟨q, hq, rfl⟩ := List.mem_map.mp h
            obtain ⟨p, hp, hq2⟩ := List.mem_flatMap.mp hq
            obtain ⟨c, hc, rfl⟩ := List.mem_map.mp hq2
            exact ⟨p.2, by rw [← hR]; exact List.mem_map.mpr ⟨p, hp, rfl⟩, hc⟩
        · rintro ⟨r', hr', hs⟩
          rw [← hR] at hr'
          obtain ⟨p, hp, rfl⟩ := List.mem_map.mp hr'
          exact .inr (List.mem_map.mpr ⟨(s, true), List.mem_flatMap.mpr ⟨p, hp, List.mem_map.mpr ⟨s, hs, rfl⟩⟩, rfl⟩)
      have hc : d_is_crowded.1.m (e1, ()) = (decide (maxI (List.map (fun a : S × S => (List.length a.1 : Int)) e1) = 1) && decide (d__law_power.1.m ((e8.length : Int), maxI (List.map (fun a : S => (List.length a : Int)) e3), ()) < (List.map (fun a : S => d__law_power.1.m ((e8.length : Int), maxI (List.map (fun a : S => (List.length a : Int)) e3) - (List.length a : Int), ())) e3).sum)) := by
        unfold d_is_crowded
        dsimp only
        rw [hk]
        simp only [same_power]
        rw [← hR]
        simp only [List.map_map, Function.comp_def]
        have hb : (List.map (fun a : S × S => decide (1 < (List.length a.1 : Int))) e1).any id = !decide (maxI (List.map (fun a : S × S => (List.length a.1 : Int)) e1) = 1) := by
          have hx := maxI_mem hn2
          have ge : 1 ≤ maxI (List.map (fun a : S × S => (List.length a.1 : Int)) e1) := by
            obtain ⟨p, hp, e⟩ := List.mem_map.mp hx.1
            rw [← e]
            have := (t3 p hp).1
            omega
          rw [List.any_map]
          by_cases hm1 : maxI (List.map (fun a : S × S => (List.length a.1 : Int)) e1) = 1
          · rw [decide_eq_true hm1, Bool.not_true, List.any_eq_false]
            intro p hp
            have := hx.2 _ (List.mem_map.mpr ⟨p, hp, rfl⟩)
            show ¬ decide (1 < (List.length p.1 : Int)) = true
            rw [decide_eq_true_eq]
            omega
          · rw [decide_eq_false hm1, Bool.not_false, List.any_eq_true]
            obtain ⟨p, hp, e⟩ := List.mem_map.mp hx.1
            refine ⟨p, hp, ?_⟩
            show decide (1 < (List.length p.1 : Int)) = true
            rw [decide_eq_true_eq, e]
            omega
        rw [hb]
        cases decide (maxI (List.map (fun a : S × S => (List.length a.1 : Int)) e1) = 1) <;> rfl
      rw [hc]
end K40
set_option Elab.async false
set_option linter.all false
set_option maxRecDepth 100000
namespace K40
open PL PySem
theorem same_S (a b : S) : d__law_same.1.m (ToD.d a, ToD.d b, ()) = decide (a = b) := sm_dec a b
theorem same_T (a b : List (S × S)) : d__law_same.1.m (ToD.d a, ToD.d b, ()) = decide (a = b) := sm_dec a b
theorem oks_S (a : D) (b : S) : d__law_same.1.ok (a, ToD.d b, ()) := FitD.ok (α := S) (a := b) (k := 8) trivial (by decide)
theorem oks_T (a : D) (b : List (S × S)) (h : b.length ≤ 16777216) : d__law_same.1.ok (a, ToD.d b, ()) := FitD.ok (α := List (S × S)) (a := b) (k := 8) ⟨h, fun x _ => ⟨trivial, trivial⟩⟩ (by decide)
theorem m_mirror (T : List (S × S)) : d_mirror.1.m (T, ()) = List.map (fun a => (List.reverse a.1, List.reverse a.2)) T := rfl
theorem ok_mirror (T : List (S × S)) : d_mirror.1.ok (T, ()) := by
  unfold d_mirror
  simp only [okT, true_and, and_true, implies_true]
theorem tab_mirror {T : List (S × S)} (h : Tab T) : Tab (List.map (fun a => (List.reverse a.1, List.reverse a.2)) T) := by
  obtain ⟨t1, t2, t3⟩ := h
  refine ⟨by rw [List.length_map]; exact t1, by rw [List.length_map]; exact t2, fun p hp => ?_⟩
  obtain ⟨q, hq, rfl⟩ := List.mem_map.mp hp
  have := t3 q hq
  simp only [List.length_reverse]
  exact this
theorem ok_cell (ns : List Int) : d__law_cell.1.ok (⟨ns⟩, 0, ()) := by
  unfold d__law_cell
  simp only [okT, true_and, and_true, implies_true]
  intro h
  have h2 : (0 : Int) < ns.length := of_decide_eq_true h
  exact ixOk_of (by decide) h2
theorem plain (ns : List Int) (h : ns.length ≤ 63) : d_law.1.m (⟨ns⟩, ()) = true ∧ d_law.1.ok (⟨ns⟩, ()) := by
  refine And.symm ?_
  unfold d_law
  simp only [okT, true_and, and_true, implies_true]
  obtain ⟨n1, n2⟩ := t_numbers (d__law_cell.1.m (⟨ns⟩, 0, ()))
  generalize d__law_numbers.1.m (d__law_cell.1.m (⟨ns⟩, 0, ()), 60, 5040, ()) = d at n2 ⊢
  obtain ⟨a1, a2⟩ := t_table d n2
  generalize d__law_table.1.m (d, ()) = T at a2 ⊢
  obtain ⟨b1, b2⟩ := t_others T d a2 n2
  generalize d__law_others.1.m (T, d, ()) = L at b2 ⊢
  refine nx2 ⟨ok_cell ns, n1⟩ ⟨a1, b1⟩ ?_
  refine for_ind (Q := fun r => r = true) (fun _ _ => True) trivial (fun i t hit e K KO _ hn => ?_) fun e _ => ⟨trivial, rfl⟩
  have ht := b2 t (List.mem_of_getElem? hit)
  obtain ⟨e1, e2, e3, e4, e5, e6, e7, e8, e9, e10, e11⟩ := e
  obtain ⟨q1, q2⟩ := t_lquick t ht
  have ht2 := tab_mirror ht
  obtain ⟨q3, q4⟩ := t_lquick _ ht2
  dsimp only
  rw [q2, same_S]
  simp only [decide_true, Bool.not_true, Bool.or_self, Bool.false_eq_true, if_false, true_implies]
  refine nx2 ⟨⟨ok_quick t ht, q1⟩, oks_S _ _⟩ (rg_of (by decide) (by decide)) ?_
  have lM : (List.map (fun a : S × S => (List.reverse a.1, List.reverse a.2)) t).length ≤ 40 := ht2.2.1
  generalize hM : List.map (fun a : S × S => (List.reverse a.1, List.reverse a.2)) t = M at ht2 q3 q4 lM ⊢
  refine for_rng (Q := fun r => r = true) (fun _ e => e.2.2.1 = t ∧ e.2.2.2.1 = t ∧ e.2.2.2.2.1 = M) ⟨rfl, rfl, rfl⟩ (fun i hi e K' KO' hI hn' => ?_) fun e hI => ?_
  · obtain ⟨f1, f2, f3, f4, f5, f6, f7, f8, f9, f10, f11⟩ := e
    obtain ⟨g1, g2, g3⟩ := hI
    dsimp only at g1 g2 g3 ⊢
    subst g1 g2 g3
    rw [m_mirror, hM, same_T]
    simp only [decide_true, Bool.not_true, Bool.or_self, Bool.false_eq_true, if_false, true_implies]
    refine nx3 (ok_mirror _) (oks_T _ _ (by omega)) (by rw [sizeLine_eq]; omega) (hn' _ ⟨rfl, rfl, rfl⟩)
  · obtain ⟨f1, f2, f3, f4, f5, f6, f7, f8, f9, f10, f11⟩ := e
    obtain ⟨g1, g2, g3⟩ := hI
    dsimp only at g1 g2 g3 ⊢
    subst g1 g2 g3
    rw [q4, same_S]
    simp only [decide_true, Bool.not_true, Bool.or_self, Bool.false_eq_true, if_false, true_implies]
    exact nx2 q3 ⟨ok_quick _ ht2, oks_S _ _⟩ (hn _ trivial)
end K40
open PySem PySem.W PyProof.Rows PL
set_option maxHeartbeats 0 in
theorem PySem.Challenge.cw_lettersacross_k40_quick_words_of_great_t_holds : PySem.Challenge.rw_lettersacross_k40_quick_words_of_great_t.Holds := by
  w_on; o_law; k_head; (case hw => w_witness2)
  k_fill
  refine PL.walk_scr (l := PySem.Challenge.rw_lettersacross_k40_quick_words_of_great_t) (k := 9) (x := "script") K40.d_law.1.m K40.d_law.1.ok rfl rfl ⟨rfl, by decide, by decide⟩ (fun w h Y => PySem.W.kIn_of Y) ?F K40.plain
  case F =>
    intro w mg fa h K' L KX KX' G hmg
    refine' K40.all_mk L KX KX' G hmg ?a1 ?l1 ?c1 ?a2 ?l2 ?c2 ?a3 ?l3 ?c3 ?a4 ?l4 ?c4 ?a5 ?l5 ?c5 ?a6 ?l6 ?c6 ?a7 ?l7 ?c7 ?a8 ?l8 ?c8 ?a9 ?l9 ?c9 ?a10 ?l10 ?c10 ?a11 ?l11 ?c11 ?a12 ?l12 ?c12 ?a13 ?l13 ?c13 ?a14 ?l14 ?c14 ?a15 ?l15 ?c15 ?a16 ?l16 ?c16 ?a17 ?l17 ?c17 ?z_any ?z_bool ?z_enumerate ?z_int ?z_isinstance ?z_len ?z_list ?z_max ?z_min ?z_range ?z_str ?z_sum ?z_tuple
    (case a1 => k_is); (case l1 => k_is); (case c1 => k_is); (case a2 => k_is); (case l2 => k_is); (case c2 => k_is); (case a3 => k_is); (case l3 => k_is); (case c3 => k_is); (case a4 => k_is); (case l4 => k_is); (case c4 => k_is); (case a5 => k_is); (case l5 => k_is); (case c5 => k_is); (case a6 => k_is); (case l6 => k_is); (case c6 => k_is); (case a7 => k_is); (case l7 => k_is); (case c7 => k_is); (case a8 => k_is); (case l8 => k_is); (case c8 => k_is); (case a9 => k_is); (case l9 => k_is); (case c9 => k_is); (case a10 => k_is); (case l10 => k_is); (case c10 => k_is); (case a11 => k_is); (case l11 => k_is); (case c11 => k_is); (case a12 => k_is); (case l12 => k_is); (case c12 => k_is); (case a13 => k_is); (case l13 => k_is); (case c13 => k_is); (case a14 => k_is); (case l14 => k_is); (case c14 => k_is); (case a15 => k_is); (case l15 => k_is); (case c15 => k_is); (case a16 => k_is); (case l16 => k_is); (case c16 => k_is); (case a17 => k_is); (case l17 => k_is); (case c17 => k_is); (case z_any => k_is); (case z_bool => k_is); (case z_enumerate => k_is); (case z_int => k_is); (case z_isinstance => k_is); (case z_len => k_is); (case z_list => k_is); (case z_max => k_is); (case z_min => k_is); (case z_range => k_is); (case z_str => k_is); (case z_sum => k_is); (case z_tuple => k_is)
