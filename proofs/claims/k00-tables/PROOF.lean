import PyProof.Rows.All
import Wide.All
import OpenK.AllK
import Wide.FinOn
import HandS.ForMost
import HandS.Codes
import HandS.Style
import HandS.IsInst
import HandS.DictComp
import HandS.Conv
import HandS.Ends
import PyProof.TupleOfStr
import HandS.SortInts
import HandS.Zip0
import PyProof.Draws
import PyProof.EnumMake
import HandS.Text
import HandS.ForExc
import HandS.ExcIs
import HandS.Replace
import PyProof.StrLawsIn
import HandS.StrMore
import PySem.Challenge.RW_lettersacross_k00_whole_tables_of_forty
set_option Elab.async false
set_option linter.all false
set_option maxRecDepth 100000
/-! PL, the pure layer: kinds of values, states, expressions and statements read as plain functions. -/
namespace PL
open PySem PySem.Spec PyProof.Rows L2
abbrev St := L2.St

/-! ## heaps: F the part that stands still, H all of it -/
structure Ext (F H F' H' : Hp) : Prop where
  ff : Same F F'
  hh : Same H H'
  fh : Same F' H'
  nw : ∀ p, F p = none → F' p ≠ none → H p = none
theorem Ext.refl {F H : Hp} (h : Same F H) : Ext F H F H := ⟨Same.refl _, Same.refl _, h, fun _ a b => absurd a b⟩
theorem Same.pull {H H' : Hp} (h : Same H H') {p : Addr} (e : H' p = none) : H p = none := h.free e
theorem Ext.trans {F H F1 H1 F2 H2 : Hp} (a : Ext F H F1 H1) (b : Ext F1 H1 F2 H2) : Ext F H F2 H2 where
  ff := a.ff.trans b.ff
  hh := a.hh.trans b.hh
  fh := b.fh
  nw := fun p e n => by
    cases q : F1 p with
    | none => exact a.hh.free (b.nw p q n)
    | some o => exact a.nw p e (by rw [q]; exact Option.some_ne_none _)
theorem same_new {H : Hp} {p : Addr} {o : HO} (h : H p = none) : Same H (upd H p o) := fun b x e => by rw [upd_ne (ne_of_none e h)]; exact e
/-- a new frozen object -/
theorem Ext.new {F H F1 H1 : Hp} {p : Addr} {o : HO} (x : Ext F H F1 H1) (h : H1 p = none) : Ext F H (upd F1 p o) (upd H1 p o) := by
  have hf : F1 p = none := x.fh.free h
  refine x.trans ⟨same_new hf, same_new h, fun b y e => ?_, fun q e n => ?_⟩
  · by_cases hb : b = p
    · subst hb; rw [upd_same] at e ⊢; exact e
    · rw [upd_ne hb] at e ⊢; exact x.fh b y e
  · by_cases hq : q = p
    · subst hq; exact h
    · rw [upd_ne hq] at n; exact absurd e n
/-- a new object that is not frozen -/
theorem Ext.newO {F H F1 H1 : Hp} {p : Addr} {o : HO} (x : Ext F H F1 H1) (h : H1 p = none) : Ext F H F1 (upd H1 p o) :=
  x.trans ⟨Same.refl _, same_new h, x.fh.trans (same_new h), fun _ a b => absurd a b⟩

/-! ## kinds of values -/
class Enc (α : Type) where
  rep : Hp → V → α → Prop
  mono : ∀ {F F' : Hp} {v : V} {a : α}, Same F F' → rep F v a → rep F' v a
abbrev rep {α : Type} [Enc α] : Hp → V → α → Prop := Enc.rep
class Flat (α : Type) [Enc α] : Prop where
  flat : ∀ {F F' : Hp} {v : V} {a : α}, rep F v a → rep F' v a
/-- never None -/
class NotNone (α : Type) [Enc α] : Prop where
  nn : ∀ {F : Hp} {a : α}, ¬ rep F V.non a
abbrev Reps {α : Type} [Enc α] (F : Hp) : List V → List α → Prop := Paired (rep F)
theorem Reps.mono {α : Type} [Enc α] {F F' : Hp} (h : Same F F') {vs : List V} {xs : List α} (r : Reps F vs xs) : Reps F' vs xs := Paired.mapP r fun _ _ q => Enc.mono h q
theorem Reps.flat {α : Type} [Enc α] [Flat α] {F F' : Hp} {vs : List V} {xs : List α} (r : Reps F vs xs) : Reps F' vs xs := Paired.mapP r fun _ _ q => Flat.flat q
theorem reps_at {α : Type} [Enc α] {F : Hp} : ∀ {vs : List V} {xs : List α} {i : Nat} {v : V}, Reps F vs xs → vs[i]? = some v → ∃ x, xs[i]? = some x ∧ rep F v x
  | _, _, _, _, .nil, e => by simp at e
  | _, _, 0, _, .cons r _, e => by simp at e; subst e; exact ⟨_, rfl, r⟩
  | _, _, i + 1, v, .cons _ t, e => by
    obtain ⟨x, h1, h2⟩ := reps_at (i := i) (v := v) t (by simpa using e)
    exact ⟨x, by simpa using h1, h2⟩
theorem reps_of {α : Type} [Enc α] {F : Hp} : ∀ {vs : List V} {xs : List α} {i : Nat} {x : α}, Reps F vs xs → xs[i]? = some x → ∃ v, vs[i]? = some v ∧ rep F v x
  | _, _, _, _, .nil, e => by simp at e
  | _, _, 0, _, .cons r _, e => by simp at e; subst e; exact ⟨_, rfl, r⟩
  | _, _, i + 1, x, .cons _ t, e => by
    obtain ⟨v, h1, h2⟩ := reps_of (i := i) (x := x) t (by simpa using e)
    exact ⟨v, by simpa using h1, h2⟩
theorem Reps.length {α : Type} [Enc α] {F : Hp} {vs : List V} {xs : List α} (r : Reps F vs xs) : vs.length = xs.length := Paired.length r
theorem reps_append {α : Type} [Enc α] {F : Hp} : ∀ {vs ws : List V} {xs ys : List α}, Reps F vs xs → Reps F ws ys → Reps F (vs ++ ws) (xs ++ ys)
  | _, _, _, _, .nil, s => s
  | _, _, _, _, .cons r t, s => .cons r (reps_append t s)
theorem reps_take {α : Type} [Enc α] {F : Hp} : ∀ {vs : List V} {xs : List α} (n : Nat), Reps F vs xs → Reps F (vs.take n) (xs.take n)
  | _, _, 0, _ => by simpa using Paired.nil
  | _, _, _ + 1, .nil => .nil
  | _, _, n + 1, .cons r t => .cons r (reps_take n t)
theorem reps_drop {α : Type} [Enc α] {F : Hp} : ∀ {vs : List V} {xs : List α} (n : Nat), Reps F vs xs → Reps F (vs.drop n) (xs.drop n)
  | _, _, 0, r => r
  | _, _, _ + 1, .nil => .nil
  | _, _, n + 1, .cons _ t => reps_drop n t
theorem reps_rev {α : Type} [Enc α] {F : Hp} : ∀ {vs : List V} {xs : List α}, Reps F vs xs → Reps F vs.reverse xs.reverse
  | _, _, .nil => .nil
  | _, _, .cons r t => by
    rw [List.reverse_cons, List.reverse_cons]
    exact reps_append (reps_rev t) (.cons r .nil)

instance : Enc Int := ⟨fun _ v i => v = .int i, fun _ h => h⟩
instance : Flat Int := ⟨fun h => h⟩
instance : NotNone Int := ⟨fun h => nomatch h⟩
instance : Enc Bool := ⟨fun _ v i => v = .bl i, fun _ h => h⟩
instance : Flat Bool := ⟨fun h => h⟩
instance : NotNone Bool := ⟨fun h => nomatch h⟩
instance : Enc Unit := ⟨fun _ v _ => v = .non, fun _ h => h⟩
instance : Flat Unit := ⟨fun h => h⟩
/-- texts -/
abbrev S := List Nat
def toS (s : S) : Str := ⟨s.toArray⟩
/-- a text that is not too long, of code points -/
structure SOk (s : S) : Prop where
  len : s.length ≤ sizeLine
  cps : ∀ c ∈ s, c < 1114112
theorem SOk.sub {s t : S} (h : SOk s) (hl : t.length ≤ sizeLine) (hs : ∀ c ∈ t, c ∈ s) : SOk t := ⟨hl, fun c hc => h.cps c (hs c hc)⟩
instance : Enc S := ⟨fun _ v s => v = .str (toS s) ∧ SOk s, fun _ h => h⟩
instance : Flat S := ⟨fun h => h⟩
instance : NotNone S := ⟨fun h => nomatch h.1⟩
instance {α : Type} [Enc α] : Enc (Option α) := ⟨fun F v o => match o with | none => v = .non | some a => rep F v a, fun {_ _ _ a} h r => by
  cases a with
  | none => exact r
  | some a => exact Enc.mono h r⟩
instance {α : Type} [Enc α] [Flat α] : Flat (Option α) := ⟨fun {_ _ _ a} r => by
  cases a with
  | none => exact r
  | some a => exact Flat.flat (α := α) r⟩
instance {α : Type} [Enc α] : Enc (List α) := ⟨fun F v xs => ∃ p vs, v = .ref p ∧ F p = some (.lst vs) ∧ vs.length ≤ sizeLine ∧ Reps F vs xs, fun h r => by
  obtain ⟨p, vs, e, f, z, q⟩ := r
  exact ⟨p, vs, e, h _ _ f, z, q.mono h⟩⟩
instance {α : Type} [Enc α] : NotNone (List α) := ⟨fun ⟨_, _, e, _⟩ => nomatch e⟩
instance {α β : Type} [Enc α] [Enc β] : Enc (α × β) := ⟨fun F v t => ∃ p x y, v = .ref p ∧ F p = some (.tup [x, y]) ∧ rep F x t.1 ∧ rep F y t.2, fun h r => by
  obtain ⟨p, x, y, e, f, a, b⟩ := r
  exact ⟨p, x, y, e, h _ _ f, Enc.mono h a, Enc.mono h b⟩⟩
instance {α β : Type} [Enc α] [Enc β] : NotNone (α × β) := ⟨fun ⟨_, _, _, e, _⟩ => nomatch e⟩
/-- tuples of three -/
structure T3 (α β γ : Type) where
  a : α
  b : β
  c : γ
  deriving DecidableEq
instance {α β γ : Type} [Enc α] [Enc β] [Enc γ] : Enc (T3 α β γ) := ⟨fun F v t => ∃ p x y z, v = .ref p ∧ F p = some (.tup [x, y, z]) ∧ rep F x t.a ∧ rep F y t.b ∧ rep F z t.c, fun h r => by
  obtain ⟨p, x, y, z, e, f, a, b, c⟩ := r
  exact ⟨p, x, y, z, e, h _ _ f, Enc.mono h a, Enc.mono h b, Enc.mono h c⟩⟩
instance {α β γ : Type} [Enc α] [Enc β] [Enc γ] : NotNone (T3 α β γ) := ⟨fun ⟨_, _, _, _, e, _⟩ => nomatch e⟩
/-- tuples of any length of one kind -/
structure Tup (α : Type) where
  l : List α
  deriving DecidableEq
instance {α : Type} [Enc α] : Enc (Tup α) := ⟨fun F v t => ∃ p vs, v = .ref p ∧ F p = some (.tup vs) ∧ vs.length ≤ sizeLine ∧ Reps F vs t.l, fun h r => by
  obtain ⟨p, vs, e, f, z, q⟩ := r
  exact ⟨p, vs, e, h _ _ f, z, q.mono h⟩⟩
instance {α : Type} [Enc α] : NotNone (Tup α) := ⟨fun ⟨_, _, e, _⟩ => nomatch e⟩
/-- the law's script -/
structure Scr where
  l : List Int
instance : Enc Scr := ⟨fun F v s => ∃ p, v = .ref p ∧ Rd F p (.lst (s.l.map V.int)) ∧ s.l.length ≤ 63, fun h r => by
  obtain ⟨p, e, q, z⟩ := r
  refine ⟨p, e, ?_, z⟩
  rcases q with q | ⟨o, q⟩
  · exact .inl (h _ _ q)
  · exact .inr ⟨o, h _ _ q⟩⟩

/-! ## slots -/
class SK (T : Type) where
  rep : Hp → Hp → List Addr → Option V → T → Prop
  mono : ∀ {F H F' H' : Hp} {os : List Addr} {x : Option V} {t : T}, Same F F' → (∀ p ∈ os, H' p = H p) → rep F H os x t → rep F' H' os x t
  wipe : ∀ {F H : Hp} {os : List Addr} {x : Option V} {t : T}, rep F H os x t → True
/-- nothing is known of the slot -/
structure No where
  deriving Inhabited
/-- an own list -/
structure Ow (α : Type) where
  l : List α
/-- an own dict with keys that are ints or texts, one whose keys are tuples of such -/
instance : SK No := ⟨fun _ _ os _ _ => os = [], fun _ _ h => h, fun _ => trivial⟩
instance (priority := low) {α : Type} [Enc α] : SK α := ⟨fun F _ os x a => os = [] ∧ ∃ v, x = some v ∧ rep F v a, fun h _ r => by
  obtain ⟨e, v, q, s⟩ := r
  exact ⟨e, v, q, Enc.mono h s⟩, fun _ => trivial⟩
instance {α : Type} [Enc α] : SK (Ow α) := ⟨fun F H os x a => ∃ p vs, os = [p] ∧ x = some (.ref p) ∧ H p = some (.lst vs) ∧ vs.length ≤ sizeLine ∧ Reps F vs a.l, fun h k r => by
  obtain ⟨p, vs, e, q, s, z, t⟩ := r
  exact ⟨p, vs, e, q, (k p (by rw [e]; exact List.mem_cons_self)).trans s, z, t.mono h⟩, fun _ => trivial⟩

class ES (E : Type) where
  rep : Hp → Hp → List Addr → St → E → Prop
  mono : ∀ {F H F' H' : Hp} {os : List Addr} {σ : St} {e : E}, Same F F' → (∀ p ∈ os, H' p = H p) → rep F H os σ e → rep F' H' os σ e
instance : ES Unit := ⟨fun _ _ os σ _ => os = [] ∧ σ = [], fun _ _ h => h⟩
instance {T E : Type} [SK T] [ES E] : ES (T × E) := ⟨fun F H os σ e => ∃ x σ' o1 o2, σ = x :: σ' ∧ os = o1 ++ o2 ∧ SK.rep F H o1 x e.1 ∧ ES.rep F H o2 σ' e.2, fun h k r => by
  obtain ⟨x, σ', o1, o2, e1, e2, a, b⟩ := r
  refine ⟨x, σ', o1, o2, e1, e2, SK.mono h (fun p q => k p ?_) a, ES.mono h (fun p q => k p ?_) b⟩
  · rw [e2]; exact List.mem_append_left _ q
  · rw [e2]; exact List.mem_append_right _ q⟩

/-- the state of a running def: F0, H0 at its entry -/
structure SR {E : Type} [ES E] (F0 H0 F H : Hp) (σ : St) (e : E) : Prop where
  ext : Ext F0 H0 F H
  st : ∃ os : List Addr, os.Nodup ∧ (∀ p ∈ os, F p = none ∧ H0 p = none ∧ H p ≠ none) ∧ ES.rep F H os σ e
theorem SR.more {E : Type} [ES E] {F0 H0 F H F' H' : Hp} {σ : St} {e : E} (s : SR F0 H0 F H σ e) (x : Ext F H F' H') : SR F0 H0 F' H' σ e := by
  obtain ⟨os, nd, fr, r⟩ := s.st
  refine ⟨s.ext.trans x, os, nd, fun p hp => ?_, ES.mono x.ff (fun p hp => ?_) r⟩
  · obtain ⟨a, b, c⟩ := fr p hp
    refine ⟨?_, b, ?_⟩
    · cases q : F' p with
      | none => rfl
      | some o => exact absurd (x.nw p a (by rw [q]; exact Option.some_ne_none _)) c
    · obtain ⟨o, q⟩ := Option.ne_none_iff_exists'.mp c
      rw [x.hh _ _ q]; exact Option.some_ne_none _
  · obtain ⟨a, b, c⟩ := fr p hp
    obtain ⟨o, q⟩ := Option.ne_none_iff_exists'.mp c
    rw [x.hh _ _ q, q]

/-! ## readings as plain functions -/
section
variable {E : Type} [ES E]
def tE {α : Type} [Enc α] (f : E → α) (ok : E → Prop) : TE := fun σ H Q => ∃ (F0 H0 F : Hp) (e : E), SR F0 H0 F H σ e ∧ ok e ∧ ∀ F' H' v, Ext F H F' H' → rep F' v (f e) → Q v H'
def tT (f : E → Bool) (ok : E → Prop) : TT := fun σ H Q => ∃ (F0 H0 F : Hp) (e : E), SR F0 H0 F H σ e ∧ ok e ∧ ∀ F' H', Ext F H F' H' → Q (f e) H'
/-- a new list of one's own -/
def tO {α : Type} [Enc α] (f : E → List α) (ok : E → Prop) : TE := fun σ H Q => ∃ (F0 H0 F : Hp) (e : E), SR F0 H0 F H σ e ∧ ok e ∧
  ∀ F' H' p vs, Ext F H F' H' → H p = none → F' p = none → H' p = some (.lst vs) → vs.length ≤ sizeLine → Reps F' vs (f e) → Q (.ref p) H'
class EA (A : Type) where
  rep : Hp → List V → A → Prop
  mono : ∀ {F F' : Hp} {vs : List V} {a : A}, Same F F' → rep F vs a → rep F' vs a
instance : EA Unit := ⟨fun _ vs _ => vs = [], fun _ h => h⟩
instance {α A : Type} [Enc α] [EA A] : EA (α × A) := ⟨fun F vs a => ∃ v ws, vs = v :: ws ∧ rep F v a.1 ∧ EA.rep F ws a.2, fun h r => by
  obtain ⟨v, ws, e, p, q⟩ := r
  exact ⟨v, ws, e, Enc.mono h p, EA.mono h q⟩⟩
def tA {A : Type} [EA A] (f : E → A) (ok : E → Prop) : TA := fun σ H Q => ∃ (F0 H0 F : Hp) (e : E), SR F0 H0 F H σ e ∧ ok e ∧ ∀ F' H' vs, Ext F H F' H' → EA.rep F' vs (f e) → Q vs H'

/-- an expression, a test, arguments that are f -/
abbrev IE (X : Cx) {α : Type} [Enc α] (e : Expr) (f : E → α) (ok : E → Prop) : Prop := PE X e (tE f ok)
abbrev IT (X : Cx) (e : Expr) (f : E → Bool) (ok : E → Prop) : Prop := PT X e (tT f ok)
abbrev IO (X : Cx) {α : Type} [Enc α] (e : Expr) (f : E → List α) (ok : E → Prop) : Prop := PE X e (tO f ok)
abbrev IA (X : Cx) {A : Type} [EA A] (es : List Expr) (f : E → A) (ok : E → Prop) : Prop := PA X es (tA f ok)
end
section
variable {X : Cx} {e : Expr}
theorem pe_imp {t t' : TE} (h : PE X e t) (i : ∀ σ H Q, t' σ H Q → t σ H Q) : PE X e t' := ⟨fun pins s σ H Q I w => h.run pins s σ H Q I (i _ _ _ w)⟩
theorem pt_imp {t t' : TT} (h : PT X e t) (i : ∀ σ H Q, t' σ H Q → t σ H Q) : PT X e t' := ⟨fun pins s σ H Q I w => h.run pins s σ H Q I (i _ _ _ w)⟩
theorem pa_imp {es : List Expr} {t t' : TA} (h : PA X es t) (i : ∀ σ H Q, t' σ H Q → t σ H Q) : PA X es t' := ⟨fun pos pins s σ H Q I w => h.run pos pins s σ H Q I (i _ _ _ w)⟩
theorem ps_imp {st : Stmt} {t t' : TS} (h : PS X st t) (i : ∀ D σ H, t' D σ H → t D σ H) : PS X st t' := ⟨fun pins s σ H D I w => h.run pins s σ H D I (i _ _ _ w)⟩
theorem pss_imp {st : List Stmt} {t t' : TS} (h : PSs X st t) (i : ∀ D σ H, t' D σ H → t D σ H) : PSs X st t' := ⟨fun pins s σ H D I w => h.run pins s σ H D I (i _ _ _ w)⟩
end

/-! ## variables -/
structure Var (E α : Type) [ES E] [Enc α] where
  i : Nat
  get : E → α
  ok : ∀ {F H : Hp} {os : List Addr} {σ : St} {e : E}, ES.rep F H os σ e → ∃ v, σ[i]? = some (some v) ∧ rep F v (get e)
@[reducible] def v0 {α E : Type} [Enc α] [ES E] : Var (α × E) α := ⟨0, fun e => e.1, fun r => by
  obtain ⟨x, σ', o1, o2, e1, e2, ⟨_, v, ex, hv⟩, b⟩ := r
  exact ⟨v, by rw [e1, ex]; rfl, hv⟩⟩
@[reducible] def vS {T E α : Type} [SK T] [ES E] [Enc α] (v : Var E α) : Var (T × E) α := ⟨v.i + 1, fun e => v.get e.2, fun r => by
  obtain ⟨x, σ', o1, o2, e1, e2, a, b⟩ := r
  obtain ⟨u, h1, h2⟩ := v.ok b
  exact ⟨u, by rw [e1]; simpa using h1, h2⟩⟩

structure Put (E T E' : Type) [ES E] [SK T] [ES E'] where
  i : Nat
  put : E → T → E'
  ok : ∀ {F H : Hp} {os o1 : List Addr} {σ : St} {e : E} {v : V} {t : T}, ES.rep F H os σ e → SK.rep F H o1 (some v) t → (∀ p ∈ o1, p ∉ os) → os.Nodup → o1.Nodup →
    ∃ os', os'.Nodup ∧ (∀ p ∈ os', p ∈ os ∨ p ∈ o1) ∧ ES.rep F H os' (σ.set i (some v)) (put e t)
@[reducible] def p0 {T0 T E : Type} [SK T0] [SK T] [ES E] : Put (T0 × E) T (T × E) := ⟨0, fun e t => (t, e.2), fun {F H os o1 σ e v t} r s d n1 n2 => by
  obtain ⟨x, σ', a, b, e1, e2, _, rb⟩ := r
  subst e1; subst e2
  refine ⟨o1 ++ b, ?_, fun p hp => ?_, some v, σ', o1, b, rfl, rfl, s, rb⟩
  · rw [List.nodup_append] at n1 ⊢
    exact ⟨n2, n1.2.1, fun p hp q hq e => d p hp (by subst e; exact List.mem_append_right _ hq)⟩
  · rcases List.mem_append.mp hp with h | h
    · exact .inr h
    · exact .inl (List.mem_append_right _ h)⟩
@[reducible] def pS {T0 T E E' : Type} [SK T0] [SK T] [ES E] [ES E'] (q : Put E T E') : Put (T0 × E) T (T0 × E') := ⟨q.i + 1, fun e t => (e.1, q.put e.2 t), fun {F H os o1 σ e v t} r s d n1 n2 => by
  obtain ⟨x, σ', a, b, e1, e2, ra, rb⟩ := r
  subst e1; subst e2
  rw [List.nodup_append] at n1
  obtain ⟨os', m1, m2, m3⟩ := q.ok rb s (fun p hp z => d p hp (List.mem_append_right _ z)) n1.2.1 n2
  refine ⟨a ++ os', ?_, fun p hp => ?_, x, _, a, os', rfl, rfl, ra, m3⟩
  · rw [List.nodup_append]
    refine ⟨n1.1, m1, fun p hp z hz e => ?_⟩
    subst e
    rcases m2 _ hz with h | h
    · exact n1.2.2 _ hp _ h rfl
    · exact d _ h (List.mem_append_left _ hp)
  · rcases List.mem_append.mp hp with h | h
    · exact .inl (List.mem_append_left _ h)
    · rcases m2 p h with h | h
      · exact .inl (List.mem_append_right _ h)
      · exact .inr h⟩
theorem SR.put {E α E' : Type} [ES E] [Enc α] [ES E'] (q : Put E α E') {F0 H0 F H : Hp} {σ : St} {e : E} {v : V} {a : α} (s : SR F0 H0 F H σ e) (r : rep F v a) : SR F0 H0 F H (σ.set q.i (some v)) (q.put e a) := by
  obtain ⟨os, nd, fr, rr⟩ := s.st
  obtain ⟨os', n', m', r'⟩ := q.ok (o1 := []) (t := a) rr ⟨rfl, v, rfl, r⟩ (fun p hp => nomatch hp) nd .nil
  exact ⟨s.ext, os', n', (fun p hp => (m' p hp).elim (fr p) fun z => nomatch z), r'⟩
theorem SR.putO {E α E' : Type} [ES E] [Enc α] [ES E'] (q : Put E (Ow α) E') {F0 H0 F H F' H' : Hp} {σ : St} {e : E} {p : Addr} {vs : List V} {xs : List α} (s : SR F0 H0 F H σ e) (x : Ext F H F' H') (hp : H p = none) (fp : F' p = none)
    (h : H' p = some (.lst vs)) (z : vs.length ≤ sizeLine) (r : Reps F' vs xs) : SR F0 H0 F' H' (σ.set q.i (some (.ref p))) (q.put e ⟨xs⟩) := by
  have s' := s.more x
  obtain ⟨os, nd, fr, rr⟩ := s.st
  obtain ⟨os', n', m', r'⟩ := q.ok (F := F') (H := H') (o1 := [p]) (t := ⟨xs⟩) (ES.mono x.ff (fun p hp => by
      obtain ⟨_, _, c⟩ := fr p hp
      obtain ⟨o, q⟩ := Option.ne_none_iff_exists'.mp c
      rw [x.hh _ _ q, q]) rr) ⟨p, vs, rfl, rfl, h, z, r⟩ (fun q hq z => by
      have e : q = p := by simpa using hq
      subst e
      exact (fr _ z).2.2 hp) nd (List.nodup_cons.mpr ⟨List.not_mem_nil, .nil⟩)
  refine ⟨s'.ext, os', n', fun q hq => ?_, r'⟩
  rcases m' q hq with h1 | h1
  · obtain ⟨a, b, c⟩ := fr q h1
    obtain ⟨o, ho⟩ := Option.ne_none_iff_exists'.mp c
    refine ⟨?_, b, by rw [x.hh _ _ ho]; exact Option.some_ne_none _⟩
    cases y : F' q with
    | none => rfl
    | some o => exact absurd (x.nw q a (by rw [y]; exact Option.some_ne_none _)) c
  · have e : q = p := by simpa using h1
    subst e
    exact ⟨fp, s.ext.hh.free hp, by rw [h]; exact Option.some_ne_none _⟩

/-- a slot that holds an own list -/
structure VarO (E α : Type) [ES E] [Enc α] where
  i : Nat
  get : E → List α
  set : E → List α → E
  ok : ∀ {F H : Hp} {os : List Addr} {σ : St} {e : E}, os.Nodup → ES.rep F H os σ e → ∃ p vs, p ∈ os ∧ σ[i]? = some (some (.ref p)) ∧ H p = some (.lst vs) ∧ vs.length ≤ sizeLine ∧ Reps F vs (get e) ∧
    ∀ F' H' vs' xs', Same F F' → (∀ q ∈ os, q ≠ p → H' q = H q) → H' p = some (.lst vs') → vs'.length ≤ sizeLine → Reps F' vs' xs' → ES.rep F' H' os σ (set e xs')
@[reducible] def o0 {α E : Type} [Enc α] [ES E] : VarO (Ow α × E) α := ⟨0, fun e => e.1.l, fun e x => (⟨x⟩, e.2), fun {F H os σ e} nd r => by
  obtain ⟨x, σ', a, b, e1, e2, ⟨p, vs, ea, ex, hp, z, rr⟩, rb⟩ := r
  subst e1; subst e2; subst ea; subst ex
  refine ⟨p, vs, List.mem_append_left _ List.mem_cons_self, rfl, hp, z, rr, fun F' H' vs' xs' sf k h' z' r' => ⟨_, σ', [p], b, rfl, rfl, ⟨p, vs', rfl, rfl, h', z', r'⟩, ES.mono sf (fun q hq => k q (List.mem_append_right _ hq) ?_) rb⟩⟩
  rintro rfl
  exact (List.nodup_cons.mp nd).1 hq⟩
@[reducible] def oS {T E α : Type} [SK T] [ES E] [Enc α] (v : VarO E α) : VarO (T × E) α := ⟨v.i + 1, fun e => v.get e.2, fun e x => (e.1, v.set e.2 x), fun {F H os σ e} nd r => by
  obtain ⟨x, σ', a, b, e1, e2, ra, rb⟩ := r
  subst e1; subst e2
  rw [List.nodup_append] at nd
  obtain ⟨p, vs, h1, h2, h3, h4, h5, h6⟩ := v.ok nd.2.1 rb
  refine ⟨p, vs, List.mem_append_right _ h1, by simpa using h2, h3, h4, h5, fun F' H' vs' xs' sf k h' z' r' => ⟨x, σ', a, b, rfl, rfl, SK.mono sf (fun q hq => k q (List.mem_append_left _ hq) fun z => nd.2.2 q hq p h1 z) ra,
    h6 F' H' vs' xs' sf (fun q hq hn => k q (List.mem_append_right _ hq) hn) h' z' r'⟩⟩⟩

/-- steps of the state alone: forgetting, freezing -/
structure Gh (E E' : Type) [ES E] [ES E'] where
  w : E → E'
  ok : ∀ {F0 H0 F H : Hp} {σ : St} {e : E}, SR F0 H0 F H σ e → ∃ F', Same F F' ∧ SR F0 H0 F' H σ (w e)
structure Tr (E E' : Type) [ES E] [ES E'] where
  w : E → E'
  ok : ∀ {F H : Hp} {os : List Addr} {σ : St} {e : E}, ES.rep F H os σ e → ∃ os', os'.Sublist os ∧ ES.rep F H os' σ (w e)
@[reducible] def trN : Tr Unit Unit := ⟨fun e => e, fun r => ⟨_, List.Sublist.refl _, r⟩⟩
/-- keep -/
@[reducible] def trK {T E E' : Type} [SK T] [ES E] [ES E'] (t : Tr E E') : Tr (T × E) (T × E') := ⟨fun e => (e.1, t.w e.2), fun r => by
  obtain ⟨x, σ', a, b, e1, e2, ra, rb⟩ := r
  obtain ⟨os', s, r'⟩ := t.ok rb
  exact ⟨a ++ os', by rw [e2]; exact List.Sublist.append (List.Sublist.refl _) s, x, σ', a, os', e1, rfl, ra, r'⟩⟩
/-- forget -/
@[reducible] def trF {T E E' : Type} [SK T] [ES E] [ES E'] (t : Tr E E') : Tr (T × E) (No × E') := ⟨fun e => (⟨⟩, t.w e.2), fun r => by
  obtain ⟨x, σ', a, b, e1, e2, ra, rb⟩ := r
  obtain ⟨os', s, r'⟩ := t.ok rb
  exact ⟨os', by rw [e2]; exact List.Sublist.trans s (List.sublist_append_right _ _), x, σ', [], os', e1, rfl, rfl, r'⟩⟩
@[reducible] def trI {E : Type} [ES E] : Tr E E := ⟨fun e => e, fun r => ⟨_, List.Sublist.refl _, r⟩⟩
theorem Tr.sr {E E' : Type} [ES E] [ES E'] (t : Tr E E') {F0 H0 F H : Hp} {σ : St} {e : E} (s : SR F0 H0 F H σ e) : SR F0 H0 F H σ (t.w e) := by
  obtain ⟨os, nd, fr, r⟩ := s.st
  obtain ⟨os', sl, r'⟩ := t.ok r
  exact ⟨s.ext, os', nd.sublist sl, fun p hp => fr p (sl.subset hp), r'⟩
@[reducible] def ghT {E E' : Type} [ES E] [ES E'] (t : Tr E E') : Gh E E' := ⟨t.w, fun s => ⟨_, Same.refl _, t.sr s⟩⟩
@[reducible] def ghI {E : Type} [ES E] : Gh E E := ⟨fun e => e, fun s => ⟨_, Same.refl _, s⟩⟩
@[reducible] def ghC {E E1 E2 : Type} [ES E] [ES E1] [ES E2] (a : Gh E E1) (b : Gh E1 E2) : Gh E E2 := ⟨fun e => b.w (a.w e), fun s => by
  obtain ⟨F1, h1, s1⟩ := a.ok s
  obtain ⟨F2, h2, s2⟩ := b.ok s1
  exact ⟨F2, h1.trans h2, s2⟩⟩
/-- an own list stands still from now on -/
structure Frz (E E' : Type) [ES E] [ES E'] where
  w : E → E'
  ok : ∀ {F H : Hp} {os : List Addr} {σ : St} {e : E}, os.Nodup → (∀ q ∈ os, F q = none) → ES.rep F H os σ e →
    ∃ p ob os', p ∈ os ∧ H p = some ob ∧ os'.Nodup ∧ (∀ q ∈ os', q ∈ os ∧ q ≠ p) ∧ ES.rep (upd F p ob) H os' σ (w e)
@[reducible] def f0 {α E : Type} [Enc α] [ES E] : Frz (Ow α × E) (List α × E) := ⟨fun e => (e.1.l, e.2), fun {F H os σ e} nd fn r => by
  obtain ⟨x, σ', a, b, e1, e2, ⟨p, vs, ea, ex, hp, z, rr⟩, rb⟩ := r
  subst e1; subst e2; subst ea; subst ex
  have hs : Same F (upd F p (.lst vs)) := same_new (fn p List.mem_cons_self)
  obtain ⟨n1, n2⟩ := List.nodup_cons.mp (show (p :: b).Nodup from nd)
  exact ⟨p, .lst vs, b, List.mem_cons_self, hp, n2, fun q hq => ⟨List.mem_cons_of_mem _ hq, fun z => n1 (z ▸ hq)⟩, _, σ', [], b, rfl, rfl, ⟨rfl, _, rfl, p, vs, rfl, upd_same, z, rr.mono hs⟩, ES.mono hs (fun _ _ => rfl) rb⟩⟩
@[reducible] def fS {T E E' : Type} [SK T] [ES E] [ES E'] (f : Frz E E') : Frz (T × E) (T × E') := ⟨fun e => (e.1, f.w e.2), fun {F H os σ e} nd fn r => by
  obtain ⟨x, σ', a, b, e1, e2, ra, rb⟩ := r
  subst e1; subst e2
  rw [List.nodup_append] at nd
  obtain ⟨p, vs, os', h1, h2, h3, h4, h5⟩ := f.ok nd.2.1 (fun q hq => fn q (List.mem_append_right _ hq)) rb
  refine ⟨p, vs, a ++ os', List.mem_append_right _ h1, h2, ?_, fun q hq => ?_, x, σ', a, os', rfl, rfl, SK.mono (same_new (fn p (List.mem_append_right _ h1))) (fun _ _ => rfl) ra, h5⟩
  · rw [List.nodup_append]
    exact ⟨nd.1, h3, fun q hq z hz e => nd.2.2 q hq z (h4 z hz).1 e⟩
  · rcases List.mem_append.mp hq with h | h
    · exact ⟨List.mem_append_left _ h, fun z => nd.2.2 q h p h1 z⟩
    · exact ⟨List.mem_append_right _ (h4 q h).1, (h4 q h).2⟩⟩
theorem Frz.sr {E E' : Type} [ES E] [ES E'] (f : Frz E E') {F0 H0 F H : Hp} {σ : St} {e : E} (s : SR F0 H0 F H σ e) :
    ∃ p ob, F p = none ∧ H p = some ob ∧ SR F0 H0 (upd F p ob) H σ (f.w e) := by
  obtain ⟨os, nd, fr, r⟩ := s.st
  obtain ⟨p, vs, os', h1, h2, h3, h4, h5⟩ := f.ok nd (fun q hq => (fr q hq).1) r
  obtain ⟨fp, hp, _⟩ := fr p h1
  refine ⟨p, vs, fp, h2, ⟨s.ext.ff.trans (same_new fp), s.ext.hh, fun b o e => ?_, fun q e n => ?_⟩, os', h3, fun q hq => ?_, h5⟩
  · by_cases hb : b = p
    · subst hb; rw [upd_same] at e; rw [h2]; exact e
    · rw [upd_ne hb] at e; exact s.ext.fh _ _ e
  · by_cases hb : q = p
    · subst hb; exact hp
    · rw [upd_ne hb] at n; exact s.ext.nw q e n
  · obtain ⟨a, b⟩ := h4 q hq
    obtain ⟨x, y, z⟩ := fr q a
    exact ⟨by rw [upd_ne b]; exact x, y, z⟩
@[reducible] def ghF {E E' : Type} [ES E] [ES E'] (f : Frz E E') : Gh E E' := ⟨f.w, fun s => by
  obtain ⟨p, vs, fp, _, s'⟩ := f.sr s
  exact ⟨_, same_new fp, s'⟩⟩
end PL
set_option Elab.async false
set_option linter.all false
set_option maxRecDepth 100000
/-! PL2: expressions. -/
namespace PL
open PySem PySem.Spec PyProof.Rows L2
variable {X : Cx} {E : Type} [ES E] {pos p0s p1s p2s : Pos}

/-! ## operators by their functions -/
def R2S (r : R2) {α β γ : Type} [Enc α] [Enc β] [Enc γ] (g : α → β → γ) (c : α → β → Prop) : Prop :=
  ∀ F H x y a b Q, Same F H → rep F x a → rep F y b → c a b → (∀ F' H' v, Ext F H F' H' → rep F' v (g a b) → Q v H') → r x y H Q
def R2O (r : R2) {α β γ : Type} [Enc α] [Enc β] [Enc γ] (g : α → β → List γ) (c : α → β → Prop) : Prop :=
  ∀ F H x y a b Q, Same F H → rep F x a → rep F y b → c a b →
    (∀ F' H' p vs, Ext F H F' H' → H p = none → F' p = none → H' p = some (.lst vs) → vs.length ≤ sizeLine → Reps F' vs (g a b) → Q (.ref p) H') → r x y H Q
section
variable {α β γ : Type} [Enc α] [Enc β] [Enc γ] {a b c : Expr} {fa : E → α} {fb : E → β} {oka okb : E → Prop} {g : α → β → γ} {k : α → β → Prop} {r : R2}
theorem two {r : R2} (h : R2S r g k) {σ : L2.St} {H : Hp} {Q : VK} (w : tE (fun e => g (fa e) (fb e)) (fun e => oka e ∧ okb e ∧ k (fa e) (fb e)) σ H Q) : tOp r (tE fa oka) (tE fb okb) σ H Q := by
  obtain ⟨F0, H0, F, e, s, ⟨o1, o2, o3⟩, q⟩ := w
  refine ⟨F0, H0, F, e, s, o1, fun F1 H1 x X1 r1 => ⟨F0, H0, F1, e, s.more X1, o2, fun F2 H2 y X2 r2 => ?_⟩⟩
  exact h F2 H2 x y _ _ Q X2.fh (Enc.mono X2.ff r1) r2 o3 fun F' H' v X3 r3 => q F' H' v (X1.trans (X2.trans X3)) r3
theorem twoO {g : α → β → List γ} {r : R2} (h : R2O r g k) {σ : L2.St} {H : Hp} {Q : VK} (w : tO (fun e => g (fa e) (fb e)) (fun e => oka e ∧ okb e ∧ k (fa e) (fb e)) σ H Q) : tOp r (tE fa oka) (tE fb okb) σ H Q := by
  obtain ⟨F0, H0, F, e, s, ⟨o1, o2, o3⟩, q⟩ := w
  refine ⟨F0, H0, F, e, s, o1, fun F1 H1 x X1 r1 => ⟨F0, H0, F1, e, s.more X1, o2, fun F2 H2 y X2 r2 => ?_⟩⟩
  refine h F2 H2 x y _ _ Q X2.fh (Enc.mono X2.ff r1) r2 o3 fun F' H' p vs X3 hp fp h' z r3 => q F' H' p vs (X1.trans (X2.trans X3)) ?_ fp h' z r3
  exact X1.hh.free (X2.hh.free hp)
theorem ie_op {op : Operator} (ho : OpR X (binaryOp op) r) (h : R2S r g k) (ha : IE X a fa oka) (hb : IE X b fb okb) : IE X (.BinOp a op b pos) (fun e => g (fa e) (fb e)) (fun e => oka e ∧ okb e ∧ k (fa e) (fb e)) :=
  pe_imp (pe_op ho ha hb) fun _ _ _ w => two h w
theorem io_op {g : α → β → List γ} {op : Operator} (ho : OpR X (binaryOp op) r) (h : R2O r g k) (ha : IE X a fa oka) (hb : IE X b fb okb) : IO X (.BinOp a op b pos) (fun e => g (fa e) (fb e)) (fun e => oka e ∧ okb e ∧ k (fa e) (fb e)) :=
  pe_imp (pe_op ho ha hb) fun _ _ _ w => twoO h w
theorem ie_cmp {op : CmpOp} (ho : OpR X (compareOp op) r) (h : R2S r g k) (ha : IE X a fa oka) (hb : IE X b fb okb) (hm : behindInMarks op b = false) : IE X (.Compare a [op] [b] pos) (fun e => g (fa e) (fb e)) (fun e => oka e ∧ okb e ∧ k (fa e) (fb e)) :=
  pe_imp (pe_cmpR ho ha hb hm) fun _ _ _ w => two h w
theorem it_cmp {g : α → β → Bool} {op : CmpOp} (ho : OpR X (compareOp op) r) (h : R2S r g k) (ha : IE X a fa oka) (hb : IE X b fb okb) (hm : behindInMarks op b = false) : IT X (.Compare a [op] [b] pos) (fun e => g (fa e) (fb e)) (fun e => oka e ∧ okb e ∧ k (fa e) (fb e)) := by
  refine pt_imp (pt_cmpR ho ha hb hm) fun σ H Q ⟨F0, H0, F, e, s, o, q⟩ => two h ⟨F0, H0, F, e, s, o, fun F' H' v x rv => ?_⟩
  exact ⟨_, rv, q F' H' x⟩
theorem ie_imp {f f' : E → α} {ok ok' : E → Prop} (h : IE X a f ok) (hf : ∀ e, ok' e → f e = f' e) (ho : ∀ e, ok' e → ok e) : IE X a f' ok' := by
  refine pe_imp h fun σ H Q ⟨F0, H0, F, e, s, o, q⟩ => ⟨F0, H0, F, e, s, ho e o, fun F' H' v x r => q F' H' v x (hf e o ▸ r)⟩
end
/-- always safe -/
abbrev Tr2 {α β : Type} : α → β → Prop := fun _ _ => True
theorem flat_k {α : Type} [Enc α] {F H : Hp} {Q : VK} {v : V} {a : α} (h : Same F H) (r : rep F v a) (q : ∀ F' H' v, Ext F H F' H' → rep F' v a → Q v H') : Q v H := q F H v (Ext.refl h) r
theorem r2_int {g : Int → Int → Int} : R2S (rI0 fun i j => .int (g i j)) g Tr2 := fun F H x y a b Q h r1 r2 _ q => ⟨a, b, r1, r2, flat_k h rfl q⟩
theorem r2_intc {g : Int → Int → Int} {c : Int → Int → Prop} : R2S (rI c fun i j => .int (g i j)) g c := fun F H x y a b Q h r1 r2 k q => ⟨a, b, r1, r2, k, flat_k h rfl q⟩
theorem r2_intb {g : Int → Int → Bool} : R2S (rI0 fun i j => .bl (g i j)) g Tr2 := fun F H x y a b Q h r1 r2 _ q => ⟨a, b, r1, r2, flat_k h rfl q⟩
section
variable {a b c : Expr} {fa fb fc : E → Int} {oka okb okc : E → Prop}
theorem ie_add (ha : IE X a fa oka) (hb : IE X b fb okb) : IE X (.BinOp a .Add b pos) (fun e => fa e + fb e) (fun e => oka e ∧ okb e) := ie_imp (ie_op op_add r2_int ha hb) (fun _ _ => rfl) fun e o => ⟨o.1, o.2, trivial⟩
theorem ie_sub (ha : IE X a fa oka) (hb : IE X b fb okb) : IE X (.BinOp a .Sub b pos) (fun e => fa e - fb e) (fun e => oka e ∧ okb e) := ie_imp (ie_op op_sub r2_int ha hb) (fun _ _ => rfl) fun e o => ⟨o.1, o.2, trivial⟩
theorem ie_mul (ha : IE X a fa oka) (hb : IE X b fb okb) : IE X (.BinOp a .Mult b pos) (fun e => fa e * fb e) (fun e => oka e ∧ okb e ∧ CMul (fa e) (fb e)) := ie_op op_mul r2_intc ha hb
theorem ie_div (ha : IE X a fa oka) (hb : IE X b fb okb) : IE X (.BinOp a .FloorDiv b pos) (fun e => (fa e).fdiv (fb e)) (fun e => oka e ∧ okb e ∧ CDivN (fa e) (fb e)) := ie_op op_fdivN r2_intc ha hb
theorem ie_mod (ha : IE X a fa oka) (hb : IE X b fb okb) : IE X (.BinOp a .Mod b pos) (fun e => (fa e).fmod (fb e)) (fun e => oka e ∧ okb e ∧ fb e ≠ 0) := ie_op op_modN r2_intc ha hb
theorem ie_neg (ha : IE X a fa oka) : IE X (.UnaryOp .USub a pos) (fun e => - fa e) oka := by
  refine pe_imp (pe_un un_neg ha) fun σ H Q ⟨F0, H0, F, e, s, o, q⟩ => ⟨F0, H0, F, e, s, o, fun F1 H1 x X1 r1 => ⟨_, r1, q F1 H1 _ X1 rfl⟩⟩
theorem ie_lt (ha : IE X a fa oka) (hb : IE X b fb okb) : IE X (.Compare a [.Lt] [b] pos) (fun e => decide (fa e < fb e)) (fun e => oka e ∧ okb e) := ie_imp (ie_cmp op_lt r2_intb ha hb (nomark _)) (fun _ _ => rfl) fun e o => ⟨o.1, o.2, trivial⟩
theorem ie_le (ha : IE X a fa oka) (hb : IE X b fb okb) : IE X (.Compare a [.LtE] [b] pos) (fun e => decide (fa e ≤ fb e)) (fun e => oka e ∧ okb e) := ie_imp (ie_cmp op_le r2_intb ha hb (nomark _)) (fun _ _ => rfl) fun e o => ⟨o.1, o.2, trivial⟩
theorem ie_gt (ha : IE X a fa oka) (hb : IE X b fb okb) : IE X (.Compare a [.Gt] [b] pos) (fun e => decide (fb e < fa e)) (fun e => oka e ∧ okb e) := ie_imp (ie_cmp op_gt r2_intb ha hb (nomark _)) (fun _ _ => rfl) fun e o => ⟨o.1, o.2, trivial⟩
theorem ie_ge (ha : IE X a fa oka) (hb : IE X b fb okb) : IE X (.Compare a [.GtE] [b] pos) (fun e => decide (fb e ≤ fa e)) (fun e => oka e ∧ okb e) := ie_imp (ie_cmp op_ge r2_intb ha hb (nomark _)) (fun _ _ => rfl) fun e o => ⟨o.1, o.2, trivial⟩
theorem it_imp {f f' : E → Bool} {ok ok' : E → Prop} (h : IT X a f ok) (hf : ∀ e, ok' e → f e = f' e) (ho : ∀ e, ok' e → ok e) : IT X a f' ok' :=
  pt_imp h fun σ H Q ⟨F0, H0, F, e, s, o, q⟩ => ⟨F0, H0, F, e, s, ho e o, fun F' H' x => by rw [hf e o]; exact q F' H' x⟩
theorem it_lt (ha : IE X a fa oka) (hb : IE X b fb okb) : IT X (.Compare a [.Lt] [b] pos) (fun e => decide (fa e < fb e)) (fun e => oka e ∧ okb e) := it_imp (it_cmp op_lt r2_intb ha hb (nomark _)) (fun _ _ => rfl) fun e o => ⟨o.1, o.2, trivial⟩
theorem it_le (ha : IE X a fa oka) (hb : IE X b fb okb) : IT X (.Compare a [.LtE] [b] pos) (fun e => decide (fa e ≤ fb e)) (fun e => oka e ∧ okb e) := it_imp (it_cmp op_le r2_intb ha hb (nomark _)) (fun _ _ => rfl) fun e o => ⟨o.1, o.2, trivial⟩
theorem it_gt (ha : IE X a fa oka) (hb : IE X b fb okb) : IT X (.Compare a [.Gt] [b] pos) (fun e => decide (fb e < fa e)) (fun e => oka e ∧ okb e) := it_imp (it_cmp op_gt r2_intb ha hb (nomark _)) (fun _ _ => rfl) fun e o => ⟨o.1, o.2, trivial⟩
theorem it_ge (ha : IE X a fa oka) (hb : IE X b fb okb) : IT X (.Compare a [.GtE] [b] pos) (fun e => decide (fb e ≤ fa e)) (fun e => oka e ∧ okb e) := it_imp (it_cmp op_ge r2_intb ha hb (nomark _)) (fun _ _ => rfl) fun e o => ⟨o.1, o.2, trivial⟩
end

/-! ## == of flat things -/
class EqF (α : Type) [Enc α] [DecidableEq α] : Prop where
  scal : ∀ {F : Hp} {x y : V} {a b : α}, rep F x a → rep F y b → L2.scal x y = true ∧ (x = y ↔ a = b)
  flatV : ∀ {F : Hp} {x : V} {a : α}, rep F x a → L2.flatV x = true
  eqV : ∀ {F : Hp} {x y : V} {a b : α}, rep F x a → rep F y b → L2.eqV y x = decide (b = a)
theorem toS_inj {a b : S} (h : toS a = toS b) : a = b := SX.S_inj h
instance : EqF Int := ⟨fun {F x y a b} h1 h2 => by cases h1; cases h2; exact ⟨rfl, by simp⟩, fun {F x a} h => by cases h; rfl, fun {F x y a b} h1 h2 => by cases h1; cases h2; show (b == a) = _; exact Bool.beq_eq_decide_eq b a⟩
instance : EqF Bool := ⟨fun {F x y a b} h1 h2 => by cases h1; cases h2; exact ⟨rfl, by simp⟩, fun {F x a} h => by cases h; rfl, fun {F x y a b} h1 h2 => by cases h1; cases h2; show (b == a) = _; exact Bool.beq_eq_decide_eq b a⟩
instance : EqF S := ⟨fun {F x y a b} h1 h2 => by
  obtain ⟨rfl, _⟩ := h1
  obtain ⟨rfl, _⟩ := h2
  exact ⟨rfl, fun e => toS_inj (V.str.inj e), fun e => by rw [e]⟩, fun {F x a} h => by obtain ⟨rfl, _⟩ := h; rfl, fun {F x y a b} h1 h2 => by
  obtain ⟨rfl, _⟩ := h1
  obtain ⟨rfl, _⟩ := h2
  show (toS b == toS a) = _
  exact SX.S_beq_eq⟩
section
variable {α : Type} [Enc α] [DecidableEq α] [EqF α] {a b : Expr} {fa fb : E → α} {oka okb : E → Prop}
theorem r2_eq : R2S rEq (fun a b : α => decide (a = b)) Tr2 := fun F H x y a b Q h r1 r2 _ q => by
  obtain ⟨s, i⟩ := EqF.scal (α := α) r1 r2
  refine ⟨s, ?_⟩
  rw [show decide (x = y) = decide (a = b) from decide_eq_decide.mpr i]
  exact flat_k h rfl q
theorem r2_ne : R2S rNe (fun a b : α => !decide (a = b)) Tr2 := fun F H x y a b Q h r1 r2 _ q => by
  obtain ⟨s, i⟩ := EqF.scal (α := α) r1 r2
  refine ⟨s, ?_⟩
  rw [show decide (x = y) = decide (a = b) from decide_eq_decide.mpr i]
  exact flat_k h rfl q
theorem ie_eq (ha : IE X a fa oka) (hb : IE X b fb okb) : IE X (.Compare a [.Eq] [b] pos) (fun e => decide (fa e = fb e)) (fun e => oka e ∧ okb e) := ie_imp (ie_cmp op_eq r2_eq ha hb (nomark _)) (fun _ _ => rfl) fun e o => ⟨o.1, o.2, trivial⟩
theorem ie_ne (ha : IE X a fa oka) (hb : IE X b fb okb) : IE X (.Compare a [.NotEq] [b] pos) (fun e => !decide (fa e = fb e)) (fun e => oka e ∧ okb e) := ie_imp (ie_cmp op_ne r2_ne ha hb (nomark _)) (fun _ _ => rfl) fun e o => ⟨o.1, o.2, trivial⟩
theorem it_eq (ha : IE X a fa oka) (hb : IE X b fb okb) : IT X (.Compare a [.Eq] [b] pos) (fun e => decide (fa e = fb e)) (fun e => oka e ∧ okb e) := it_imp (it_cmp op_eq r2_eq ha hb (nomark _)) (fun _ _ => rfl) fun e o => ⟨o.1, o.2, trivial⟩
theorem it_ne (ha : IE X a fa oka) (hb : IE X b fb okb) : IT X (.Compare a [.NotEq] [b] pos) (fun e => !decide (fa e = fb e)) (fun e => oka e ∧ okb e) := it_imp (it_cmp op_ne r2_ne ha hb (nomark _)) (fun _ _ => rfl) fun e o => ⟨o.1, o.2, trivial⟩
/-- x in xs, of flat things -/
theorem inV_eq {F : Hp} {x : V} {a : α} (r : rep F x a) : ∀ {vs : List V} {xs : List α}, Reps F vs xs → inV x vs = decide (a ∈ xs) ∧ vs.all L2.flatV = true
  | _, _, .nil => ⟨by simp [inV], rfl⟩
  | _, _, .cons (a := v) (b := b) (l₁ := vs) (l₂ := xs) r1 t => by
    obtain ⟨h1, h2⟩ := inV_eq r t
    refine ⟨?_, by rw [List.all_cons, EqF.flatV r1, h2]; rfl⟩
    unfold inV at h1 ⊢
    rw [List.any_cons, h1, EqF.eqV r r1]
    by_cases h : b = a
    · subst h; simp
    · have h' : ¬ a = b := fun z => h z.symm
      simp [h, h']
theorem r2_in (K : PySem.W.Frag) (neg : Bool) : R2S (rIn K neg) (fun (a : α) (xs : List α) => if neg then !decide (a ∈ xs) else decide (a ∈ xs)) Tr2 := fun F H x y a b Q h r1 r2 _ q => by
  obtain ⟨p, vs, rfl, hp, z, rr⟩ := r2
  obtain ⟨h1, h2⟩ := inV_eq r1 rr
  refine ⟨p, vs, rfl, .inl (SqL.of (h _ _ hp)), EqF.flatV r1, h2, ?_⟩
  rw [h1]
  exact flat_k h rfl q
variable {fxs : E → List α}
theorem ie_in (ha : IE X a fa oka) (hb : IE X b fxs okb) (hm : behindInMarks .In b = false := by rfl) : IE X (.Compare a [.In] [b] pos) (fun e => decide (fa e ∈ fxs e)) (fun e => oka e ∧ okb e) := ie_imp (ie_cmp op_in_seq (r2_in _ false) ha hb hm) (fun _ _ => rfl) fun e o => ⟨o.1, o.2, trivial⟩
theorem ie_nin (ha : IE X a fa oka) (hb : IE X b fxs okb) (hm : behindInMarks .NotIn b = false := by rfl) : IE X (.Compare a [.NotIn] [b] pos) (fun e => !decide (fa e ∈ fxs e)) (fun e => oka e ∧ okb e) := ie_imp (ie_cmp op_notIn_seq (r2_in _ true) ha hb hm) (fun _ _ => rfl) fun e o => ⟨o.1, o.2, trivial⟩
theorem it_in (ha : IE X a fa oka) (hb : IE X b fxs okb) (hm : behindInMarks .In b = false := by rfl) : IT X (.Compare a [.In] [b] pos) (fun e => decide (fa e ∈ fxs e)) (fun e => oka e ∧ okb e) := it_imp (it_cmp op_in_seq (r2_in _ false) ha hb hm) (fun _ _ => rfl) fun e o => ⟨o.1, o.2, trivial⟩
theorem it_nin (ha : IE X a fa oka) (hb : IE X b fxs okb) (hm : behindInMarks .NotIn b = false := by rfl) : IT X (.Compare a [.NotIn] [b] pos) (fun e => !decide (fa e ∈ fxs e)) (fun e => oka e ∧ okb e) := it_imp (it_cmp op_notIn_seq (r2_in _ true) ha hb hm) (fun _ _ => rfl) fun e o => ⟨o.1, o.2, trivial⟩
end

/-! ## names, constants -/
abbrev okT : E → Prop := fun _ => True
theorem ie_var {α : Type} [Enc α] (v : Var E α) {x : Str} (hN : X.N[v.i]? = some x := by rfl) (hv : Vis X.env.scope x := by first | exact Or.inl rfl | exact Or.inr (Or.inl rfl) | exact Or.inr (Or.inr rfl))
    (hd : (x == ("__debug__" : Str)) = false := by decide) (hcd : (x == ("__classdict__" : Str)) = false := by decide) : IE X (.Name x pos) v.get okT :=
  pe_imp (pe_var hN hv hd hcd) fun σ H Q ⟨F0, H0, F, e, s, _, q⟩ => by
    obtain ⟨os, nd, fr, r⟩ := s.st
    obtain ⟨u, h1, h2⟩ := v.ok r
    exact ⟨u, h1, flat_k s.ext.fh h2 q⟩
theorem fin_flat {α : Type} [Enc α] {f : E → α} {ok : E → Prop} {σ : L2.St} {H : Hp} {Q : VK} (w : tE f ok σ H Q) : ∃ F e, Same F H ∧ ok e ∧ ∀ v, rep F v (f e) → Q v H :=
  let ⟨_, _, F, e, s, o, q⟩ := w
  ⟨F, e, s.ext.fh, o, fun v r => q F H v (Ext.refl s.ext.fh) r⟩
theorem ie_int {i : Int} {j : Nat} : IE X (.Constant (.int i) j pos) (fun _ : E => i) okT := pe_imp pe_int fun _ _ _ w => let ⟨_, _, _, _, q⟩ := fin_flat w; q _ rfl
theorem ie_bl {i : Bool} {j : Nat} : IE X (.Constant (.bool i) j pos) (fun _ : E => i) okT := pe_imp pe_bl fun _ _ _ w => let ⟨_, _, _, _, q⟩ := fin_flat w; q _ rfl
theorem ie_non {j : Nat} : IE X (.Constant .none j pos) (fun _ : E => ()) okT := pe_imp pe_non fun _ _ _ w => let ⟨_, _, _, _, q⟩ := fin_flat w; q _ rfl
theorem ie_nonO {α : Type} [Enc α] {j : Nat} : IE X (.Constant .none j pos) (fun _ : E => (none : Option α)) okT := pe_imp pe_non fun _ _ _ w => let ⟨_, _, _, _, q⟩ := fin_flat w; q _ rfl
theorem ie_str (s : S) {x : Str} {j : Nat} (h : toS s = x := by rfl) (hz : decide (s.length ≤ 1000) = true := by rfl) (hc : s.all (fun c => decide (c < 1114112)) = true := by rfl) : IE X (.Constant (.str x) j pos) (fun _ : E => s) okT :=
  pe_imp pe_str fun _ _ _ w => let ⟨_, _, _, _, q⟩ := fin_flat w; q _ ⟨by rw [h], Nat.le_trans (of_decide_eq_true hz) (by decide), fun c hm => of_decide_eq_true (List.all_eq_true.mp hc c hm)⟩
theorem ie_some {α : Type} [Enc α] {a : Expr} {f : E → α} {ok : E → Prop} (h : IE X a f ok) : IE X a (fun e => some (f e)) ok :=
  pe_imp h fun σ H Q ⟨F0, H0, F, e, s, o, q⟩ => ⟨F0, H0, F, e, s, o, fun F' H' v x r => q F' H' v x r⟩
/-- a new own list stands still -/
theorem ie_fz {α : Type} [Enc α] {a : Expr} {f : E → List α} {ok : E → Prop} (h : IO X a f ok) : IE X a f ok := by
  refine pe_imp h fun σ H Q ⟨F0, H0, F, e, s, o, q⟩ => ⟨F0, H0, F, e, s, o, fun F' H' p vs x hp fp h' z r => ?_⟩
  have sm : Same F' (upd F' p (.lst vs)) := same_new fp
  refine q (upd F' p (.lst vs)) H' (.ref p) ⟨x.ff.trans sm, x.hh, fun b y e => ?_, fun b e n => ?_⟩ ⟨p, vs, rfl, upd_same, z, r.mono sm⟩
  · by_cases hb : b = p
    · subst hb; rw [upd_same] at e; rw [h']; exact e
    · rw [upd_ne hb] at e; exact x.fh _ _ e
  · by_cases hb : b = p
    · subst hb; exact hp
    · rw [upd_ne hb] at n; exact x.nw b e n
end PL
set_option Elab.async false
set_option linter.all false
set_option maxRecDepth 100000
/-! PL3: lists, texts, calls, truth. -/
namespace PL
open PySem PySem.Spec PyProof.Rows L2
variable {X : Cx} {E : Type} [ES E] {pos p0s p1s p2s : Pos}

/-! ## places, cuts -/
def ixOk {α : Type} (xs : List α) (i : Int) : Prop := -(xs.length : Int) ≤ i ∧ i < xs.length
def ixD {α : Type} [Inhabited α] (xs : List α) (i : Int) : α := xs.getD (if 0 ≤ i then i.toNat else (i + xs.length).toNat) default
theorem atI_map {α β : Type} [Inhabited β] {xs : List α} {ys : List β} (hl : xs.length = ys.length) {i : Int} (h : ixOk ys i) : ∃ (j : Nat) (v : α), atI xs i = some v ∧ xs[j]? = some v ∧ ys[j]? = some (ixD ys i) := by
  obtain ⟨h1, h2⟩ := h
  by_cases h0 : 0 ≤ i
  · have hj : i.toNat < xs.length := by omega
    have hj2 : i.toNat < ys.length := by omega
    refine ⟨i.toNat, xs[i.toNat], ?_, by simp [hj], ?_⟩
    · unfold atI ixN; rw [if_pos h0, if_pos (by omega)]; simp [hj]
    · unfold ixD; rw [if_pos h0]; simp [hj2]
  · have hj : (i + xs.length).toNat < xs.length := by omega
    have hj2 : (i + ys.length).toNat < ys.length := by omega
    refine ⟨(i + xs.length).toNat, xs[(i + xs.length).toNat], ?_, by simp [hj], ?_⟩
    · unfold atI ixN; rw [if_neg h0, if_pos (by omega)]; simp [hj]
    · unfold ixD; rw [if_neg h0, hl]; simp [hj2]
theorem reps_atI {α : Type} [Enc α] [Inhabited α] {F : Hp} {vs : List V} {xs : List α} (r : Reps F vs xs) {i : Int} (h : ixOk xs i) : ∃ v, atI vs i = some v ∧ rep F v (ixD xs i) := by
  obtain ⟨j, v, h1, h2, h3⟩ := atI_map r.length h
  obtain ⟨x, e, rx⟩ := reps_at r h2
  rw [h3] at e
  cases e
  exact ⟨v, h1, rx⟩
def sl {α : Type} (xs : List α) (lo hi : Option Int) : List α := (xs.drop (HT.sIx xs.length 0 lo)).take (HT.sIx xs.length xs.length hi - HT.sIx xs.length 0 lo)
theorem sl_len {α : Type} (xs : List α) (lo hi : Option Int) : (sl xs lo hi).length ≤ xs.length := by
  unfold sl; rw [List.length_take, List.length_drop]; omega
theorem reps_sl {α : Type} [Enc α] {F : Hp} {vs : List V} {xs : List α} (r : Reps F vs xs) (lo hi : Option Int) : Reps F (cutV vs lo hi) (sl xs lo hi) := by
  unfold cutV sl
  rw [r.length]
  exact reps_take _ (reps_drop _ r)
section
variable {α : Type} [Enc α] {a b : Expr} {fa : E → List α} {fi : E → Int} {oka okb : E → Prop}
theorem r2_ixL [Inhabited α] (K : PySem.W.Frag) : R2S (rIxL K) (fun (xs : List α) (i : Int) => ixD xs i) ixOk := fun F H x y a b Q h r1 r2 k q => by
  obtain ⟨p, vs, rfl, hp, z, rr⟩ := r1
  obtain ⟨v, e, rv⟩ := reps_atI rr k
  exact ⟨p, vs, b, v, rfl, r2, SqL.of (h _ _ hp), e, flat_k h rv q⟩
theorem ie_ix [Inhabited α] (ha : IE X a fa oka) (hb : IE X b fi okb) (hs : PlainIx b := by exact fun _ _ => rfl) : IE X (.Subscript a b pos) (fun e => ixD (fa e) (fi e)) (fun e => oka e ∧ okb e ∧ ixOk (fa e) (fi e)) :=
  pe_imp (pe_ix ix_list ha hb hs) fun _ _ _ w => two (r2_ixL _) w
theorem r2_ixT [Inhabited α] (K : PySem.W.Frag) : R2S (rIxT K) (fun (xs : Tup α) (i : Int) => ixD xs.l i) (fun xs i => ixOk xs.l i) := fun F H x y a b Q h r1 r2 k q => by
  obtain ⟨p, vs, rfl, hp, z, rr⟩ := r1
  obtain ⟨v, e, rv⟩ := reps_atI rr k
  exact ⟨p, vs, b, v, rfl, r2, SqT.of (h _ _ hp), e, flat_k h rv q⟩
theorem ie_ixT [Inhabited α] {fa : E → Tup α} (ha : IE X a fa oka) (hb : IE X b fi okb) (hs : PlainIx b := by exact fun _ _ => rfl) : IE X (.Subscript a b pos) (fun e => ixD (fa e).l (fi e)) (fun e => oka e ∧ okb e ∧ ixOk (fa e).l (fi e)) :=
  pe_imp (pe_ix ix_tup ha hb hs) fun _ _ _ w => two (r2_ixT _) w
theorem r2_ixS : R2S rIxS (fun (s : S) (i : Int) => ([ixD s i] : S)) ixOk := fun F H x y a b Q h r1 r2 k q => by
  obtain ⟨rfl, z⟩ := r1
  obtain ⟨j, v, h1, h2, h3⟩ := atI_map (xs := a) (ys := a) rfl k
  rw [h2] at h3
  refine ⟨toS a, b, v, rfl, r2, by show (toS a).length ≤ _; rw [show (toS a).length = a.length from SX.S_len a]; exact z.len, h1, ?_⟩
  refine q F H _ (Ext.refl h) ⟨?_, z.sub (by show 1 ≤ sizeLine; decide) fun c hc => ?_⟩
  · cases h3; rfl
  · rw [List.mem_singleton.mp hc]; cases h3; exact List.mem_of_getElem? h2
theorem ie_ixS {fa : E → S} (ha : IE X a fa oka) (hb : IE X b fi okb) (hs : PlainIx b := by exact fun _ _ => rfl) : IE X (.Subscript a b pos) (fun e => ([ixD (fa e) (fi e)] : S)) (fun e => oka e ∧ okb e ∧ ixOk (fa e) (fi e)) :=
  pe_imp (pe_ix ix_str ha hb hs) fun _ _ _ w => two r2_ixS w
/-- the parts of pairs and triples -/
theorem r2_fst {α β : Type} [Enc α] [Enc β] (K : PySem.W.Frag) : R2S (rIxT K) (fun (t : α × β) (_ : Int) => t.1) (fun _ i => i = 0) := fun F H x y a b Q h r1 r2 k q => by
  obtain ⟨p, u, w, rfl, hp, ru, rw'⟩ := r1
  subst k
  exact ⟨p, [u, w], 0, u, rfl, r2, SqT.of (h _ _ hp), rfl, flat_k h ru q⟩
theorem r2_snd {α β : Type} [Enc α] [Enc β] (K : PySem.W.Frag) : R2S (rIxT K) (fun (t : α × β) (_ : Int) => t.2) (fun _ i => i = 1) := fun F H x y a b Q h r1 r2 k q => by
  obtain ⟨p, u, w, rfl, hp, ru, rw'⟩ := r1
  subst k
  exact ⟨p, [u, w], 1, w, rfl, r2, SqT.of (h _ _ hp), rfl, flat_k h rw' q⟩
theorem ie_fst {β : Type} [Enc β] {j : Nat} {a : Expr} {f : E → α × β} {ok : E → Prop} (ha : IE X a f ok) : IE X (.Subscript a (.Constant (.int 0) j p1s) pos) (fun e => (f e).1) ok :=
  ie_imp (pe_imp (pe_ix ix_tup ha (ie_int (E := E) (i := 0)) (fun _ _ => rfl)) fun _ _ _ w => two (r2_fst (α := α) (β := β) _) w) (fun _ _ => rfl) fun e o => ⟨o, trivial, rfl⟩
theorem ie_snd {β : Type} [Enc β] {j : Nat} {a : Expr} {f : E → α × β} {ok : E → Prop} (ha : IE X a f ok) : IE X (.Subscript a (.Constant (.int 1) j p1s) pos) (fun e => (f e).2) ok :=
  ie_imp (pe_imp (pe_ix ix_tup ha (ie_int (E := E) (i := 1)) (fun _ _ => rfl)) fun _ _ _ w => two (r2_snd (α := α) (β := β) _) w) (fun _ _ => rfl) fun e o => ⟨o, trivial, rfl⟩
end
/-! slices -/
def tP (f : E → Option Int) (ok : E → Prop) : TO := fun σ H Q => ∃ (F0 H0 F : Hp) (e : E), SR F0 H0 F H σ e ∧ ok e ∧ ∀ F' H', Ext F H F' H' → Q (f e) H'
abbrev IP (X : Cx) (e : Option Expr) (f : E → Option Int) (ok : E → Prop) : Prop := PO X e (tP f ok)
theorem po_imp {e : Option Expr} {t t' : TO} (h : PO X e t) (i : ∀ σ H Q, t' σ H Q → t σ H Q) : PO X e t' := ⟨fun pins s σ H Q I w => h.run pins s σ H Q I (i _ _ _ w)⟩
theorem ip_none : IP X none (fun _ : E => none) okT := po_imp po_none fun σ H Q ⟨F0, H0, F, e, s, _, q⟩ => q F H (Ext.refl s.ext.fh)
theorem ip_some {a : Expr} {f : E → Int} {ok : E → Prop} (h : IE X a f ok) : IP X (some a) (fun e => some (f e)) ok :=
  po_imp (po_some h) fun σ H Q ⟨F0, H0, F, e, s, o, q⟩ => ⟨F0, H0, F, e, s, o, fun F' H' v x r => ⟨_, r, q F' H' x⟩⟩
section
variable {α : Type} [Enc α] {a : Expr} {lo hi : Option Expr} {fa : E → List α} {fl fh : E → Option Int} {oka okl okh : E → Prop}
theorem io_slice (ha : IE X a fa oka) (hl : IP X lo fl okl) (hh : IP X hi fh okh) : IO X (.Subscript a (.Slice lo hi none p2s) pos) (fun e => sl (fa e) (fl e) (fh e)) (fun e => oka e ∧ okl e ∧ okh e) := by
  refine pe_imp (pe_slice sl_list ha hl hh) fun σ H Q ⟨F0, H0, F, e, s, ⟨o1, o2, o3⟩, q⟩ => ?_
  refine ⟨F0, H0, F, e, s, o1, fun F1 H1 x X1 r1 => ⟨F0, H0, F1, e, s.more X1, o2, fun F2 H2 X2 => ⟨F0, H0, F2, e, (s.more X1).more X2, o3, fun F3 H3 X3 => ?_⟩⟩⟩
  obtain ⟨p, vs, rfl, hp, z, rr⟩ := Enc.mono (X2.ff.trans X3.ff) r1
  refine ⟨p, vs, rfl, SqL.of (X3.fh _ _ hp), fun p' hp' => ?_⟩
  have x := (X1.trans (X2.trans X3)).newO (o := .lst (cutV vs (fl e) (fh e))) hp'
  refine q F3 _ p' _ x ((X1.trans (X2.trans X3)).hh.free hp') (X3.fh.free hp') upd_same ?_ (reps_sl rr _ _)
  exact Nat.le_trans (cutV_length vs _ _) z
theorem ie_sliceS {fa : E → S} (ha : IE X a fa oka) (hl : IP X lo fl okl) (hh : IP X hi fh okh) : IE X (.Subscript a (.Slice lo hi none p2s) pos) (fun e => (sl (fa e) (fl e) (fh e) : S)) (fun e => oka e ∧ okl e ∧ okh e) := by
  refine pe_imp (pe_slice sl_str ha hl hh) fun σ H Q ⟨F0, H0, F, e, s, ⟨o1, o2, o3⟩, q⟩ => ?_
  refine ⟨F0, H0, F, e, s, o1, fun F1 H1 x X1 r1 => ⟨F0, H0, F1, e, s.more X1, o2, fun F2 H2 X2 => ⟨F0, H0, F2, e, (s.more X1).more X2, o3, fun F3 H3 X3 => ?_⟩⟩⟩
  obtain ⟨rfl, z⟩ := r1
  have hl : (toS (fa e)).length = (fa e).length := SX.S_len _
  refine ⟨toS (fa e), rfl, by rw [hl]; exact z.len, q F3 H3 _ (X1.trans (X2.trans X3)) ⟨?_, z.sub (Nat.le_trans (sl_len _ _ _) z.len) fun c hc => List.mem_of_mem_drop (List.mem_of_mem_take hc)⟩⟩
  unfold cutS sl
  rw [hl]
  rfl
/-- s[::-1] -/
def minus1 (k : Nat) (q1 q2 : Pos) : Expr := .UnaryOp .USub (.Constant (.int 1) k q1) q2
theorem rev_places (a : List Nat) : (Builtin.Str.strSliceIndices none none (-1) (toS a).length).filterMap ((toS a).cps[·]?) = a.reverse := by
  show (sliceRange (((toS a).length : Int) - 1) (-1) (-1)).filterMap ((toS a).cps[·]?) = _
  rw [PySem.W.krv_sliceRange, PySem.W.krv_range, List.filterMap_reverse, show (toS a).length = (toS a).cps.size from rfl, PySem.W.krv_all]
  rfl
theorem ie_revS {k : Nat} {q1 q2 q3 : Pos} {fa : E → S} (ha : IE X a fa oka) : IE X (.Subscript a (.Slice none none (some (.UnaryOp .USub (.Constant (.int 1) k q1) q2)) q3) pos) (fun e => ((fa e).reverse : S)) oka := by
  refine ⟨fun pins s σ H Q I h => ?_⟩
  obtain ⟨F0, H0, F, e, sr, o, q⟩ := h
  refine Subscript_ (thn (ha.run pins s σ H (fun x H1 => rep F x (fa e) ∧ Q (.str (toS (fa e).reverse)) H1) I ⟨F0, H0, F, e, sr, o, fun F' H' v x r => ⟨r, q F' H' _ x ⟨rfl, r.2.sub (by rw [List.length_reverse]; exact r.2.len) fun c hc => List.mem_reverse.mp hc⟩⟩⟩) fun v s1 w => ?_)
  obtain ⟨x, H1, I1, r1, rx, qq⟩ := w
  obtain ⟨rfl, z⟩ := rx
  obtain ⟨t, rfl⟩ := r1
  have st : PO X (some (.UnaryOp .USub (.Constant (.int 1) k q1) q2)) (tPart (tUn (rU fun i => .int (-i)) (tC (.int 1)))) := po_some (pe_un un_neg pe_int)
  refine wpAny_Slice (thn (po_none.run pins s1 σ H1 (fun o H2 => o = none ∧ H2 = H1) I1 ⟨rfl, rfl⟩) fun vl s2 w2 => ?_)
  obtain ⟨l, H2, I2, pl, rfl, rfl⟩ := w2
  refine thn (po_none.run pins s2 σ H2 (fun o H3 => o = none ∧ H3 = H2) I2 ⟨rfl, rfl⟩) fun vu s3 w3 => ?_
  obtain ⟨u, H3, I3, pu, rfl, rfl⟩ := w3
  refine thn (st.run pins s3 σ H3 (fun o H4 => o = some (-1) ∧ H4 = H3) I3 ⟨1, rfl, -1, rfl, rfl, rfl⟩) fun vs s4 w4 => ?_
  obtain ⟨o4, H4, I4, ps, rfl, rfl⟩ := w4
  have I5 : Inv X pins σ H4 { s4 with heap := s4.heap.push { cls := .type "slice", data := .fields #[vl, vu, vs] } } := I4.kept (t' := s4.toks) fun b ob q => Heap.get?_push_of_some _ q
  obtain ⟨l', rfl, el⟩ := IsPart.raw pl
  obtain ⟨u', rfl, eu⟩ := IsPart.raw pu
  obtain ⟨w', rfl, ew⟩ := IsPart.raw ps
  refine tail_any (ops := [.ref s4.heap.objs.size, .str (toS (fa e)) t]) (typeIs_str _ _ _) (PySem.F.slot_str_getitem.lookup) ?_ (by with_unfolding_all rfl)
  refine wpAny_getItem_str_slice (l := l') (u := u') (st := w') ⟨_, Heap.get?_push_size _ rfl, rfl, rfl⟩ (by rw [ew]; rfl) ?_
  unfold sliceMade slicePicked
  rw [el, eu, ew]
  rw [if_neg (by rw [Bool.and_eq_true]; intro c; exact absurd c.1 (by decide))]
  show Made.post (Made.str ⟨((Builtin.Str.strSliceIndices none none (-1) (toS (fa e)).length).filterMap ((toS (fa e)).cps[·]?)).toArray⟩) (EP X pins σ Q) _
  rw [rev_places]
  refine ⟨?_, .str (toS (fa e).reverse), H4, I5.tok _, ⟨_, rfl⟩, qq⟩
  show (toS (fa e).reverse).length ≤ sizeLine
  rw [show (toS (fa e).reverse).length = _ from SX.S_len _, List.length_reverse]
  exact z.len
theorem io_revL {k : Nat} {q1 q2 q3 : Pos} (ha : IE X a fa oka) : IO X (.Subscript a (.Slice none none (some (.UnaryOp .USub (.Constant (.int 1) k q1) q2)) q3) pos) (fun e => (fa e).reverse) oka := by
  refine pe_imp (pe_revL ha) fun σ H Q ⟨F0, H0, F, e, s, o, q⟩ => ⟨F0, H0, F, e, s, o, fun F1 H1 x X1 r1 => ?_⟩
  obtain ⟨p, vs, rfl, hp, z, rr⟩ := r1
  refine ⟨p, vs, rfl, SqL.of (X1.fh _ _ hp), fun p' hp' => ?_⟩
  exact q F1 _ p' _ (X1.newO hp') (X1.hh.free hp') (X1.fh.free hp') upd_same (by rw [List.length_reverse]; exact z) (reps_rev rr)
end

/-! ## texts, lists put together -/
section
variable {α : Type} [Enc α] {a b : Expr} {oka okb : E → Prop}
theorem r2_addS : R2S (fun x y H Q => ∃ i j, x = .str i ∧ y = .str j ∧ i.length + j.length ≤ sizeLine ∧ Q (.str (i ++ j)) H) (fun (s t : S) => (s ++ t : S)) (fun s t => s.length + t.length ≤ sizeLine) := fun F H x y a b Q h r1 r2 k q => by
  obtain ⟨rfl, z1⟩ := r1
  obtain ⟨rfl, z2⟩ := r2
  have e1 : (toS a).length = a.length := SX.S_len a
  have e2 : (toS b).length = b.length := SX.S_len b
  refine ⟨_, _, rfl, rfl, by rw [e1, e2]; exact k, q F H _ (Ext.refl h) ⟨?_, by rw [List.length_append]; exact k, fun c hc => (List.mem_append.mp hc).elim (z1.cps c) (z2.cps c)⟩⟩
  exact congrArg V.str (SX.S_cat a b)
theorem ie_addS {fa fb : E → S} (ha : IE X a fa oka) (hb : IE X b fb okb) : IE X (.BinOp a .Add b pos) (fun e => (fa e ++ fb e : S)) (fun e => oka e ∧ okb e ∧ (fa e).length + (fb e).length ≤ sizeLine) := ie_op op_add_str r2_addS ha hb
theorem r2_cat : R2O rCat (fun (s t : List α) => s ++ t) (fun s t => s.length + t.length ≤ sizeLine) := fun F H x y a b Q h r1 r2 k q => by
  obtain ⟨p1, v1, rfl, hp1, z1, rr1⟩ := r1
  obtain ⟨p2, v2, rfl, hp2, z2, rr2⟩ := r2
  refine ⟨p1, p2, v1, v2, rfl, rfl, h _ _ hp1, h _ _ hp2, by rw [rr1.length, rr2.length]; exact k, fun p hp => ?_⟩
  exact q F _ p _ ((Ext.refl h).newO hp) hp (h.free hp) upd_same (by rw [List.length_append, rr1.length, rr2.length]; exact k) (reps_append rr1 rr2)
theorem io_cat {fa fb : E → List α} (ha : IE X a fa oka) (hb : IE X b fb okb) : IO X (.BinOp a .Add b pos) (fun e => fa e ++ fb e) (fun e => oka e ∧ okb e ∧ (fa e).length + (fb e).length ≤ sizeLine) := io_op op_cat r2_cat ha hb
/-- s * n -/
def mulS (s : S) (n : Int) : S := (List.replicate n.toNat s).flatten
theorem mulS_len (s : S) (n : Int) : (mulS s n).length = n.toNat * s.length := by
  unfold mulS
  induction n.toNat with
  | zero => simp
  | succ k ih => rw [List.replicate_succ, List.flatten_cons, List.length_append, ih, Nat.succ_mul]; omega
theorem fold_app : ∀ (k : Nat) (c acc : Array Nat), ((List.replicate k c).foldl (· ++ ·) acc).toList = acc.toList ++ (List.replicate k c.toList).flatten
  | 0, c, acc => by simp
  | k + 1, c, acc => by
    rw [List.replicate_succ, List.foldl_cons, fold_app k c, List.replicate_succ, List.flatten_cons, Array.toList_append, List.append_assoc]
theorem mul_toS (s : S) (n : Int) : Txt.mul (toS s) n = toS (mulS s n) := by
  unfold Txt.mul mulS
  by_cases h1 : n < 1
  · rw [if_pos h1, show n.toNat = 0 by omega]; rfl
  · rw [if_neg h1]
    by_cases h2 : (n == 1 || (toS s).length == 0) = true
    · rw [if_pos h2]
      rw [Bool.or_eq_true] at h2
      rcases h2 with h2 | h2
      · have : n = 1 := by simpa using h2
        subst this
        simp
      · have : s = [] := by
          have : (toS s).length = s.length := SX.S_len s
          rw [this] at h2
          simpa using h2
        subst this
        congr 1
        induction n.toNat with
        | zero => rfl
        | succ k ih => rw [List.replicate_succ, List.flatten_cons, ← ih]; rfl
    · rw [if_neg h2]
      have e := fold_app n.toNat (toS s).cps #[]
      refine TL.ext_tl ?_
      show (List.foldl (· ++ ·) #[] (List.replicate n.toNat (toS s).cps)).toList = _
      rw [e]
      show [] ++ (List.replicate n.toNat (toS s).cps.toList).flatten = _
      rfl
def MulSOk (s : S) (n : Int) : Prop := -(2 ^ 63 : Int) ≤ n ∧ n ≤ 16777216 ∧ n.toNat * s.length ≤ 16777216
theorem op_mulS : OpR X (binaryOp .Mult) (fun x y H Q => ∃ (s : S) (n : Int), x = .str (toS s) ∧ y = .int n ∧ MulSOk s n ∧ Q (.str (toS (mulS s n))) H) := by
  intro pins st σ H x y v u Q I rx ry h
  obtain ⟨s, n, rfl, rfl, ⟨h1, h2, h3⟩, q⟩ := h
  obtain ⟨t, rfl⟩ := rx
  obtain ⟨t', rfl⟩ := ry
  have hs : (toS s).length = s.length := SX.S_len s
  refine SB.mul (mulOk_of s.length n.toNat (by rw [hs]; exact Nat.le_refl _) (by omega) h1 (by omega) (by rw [Nat.mul_comm]; exact h3)) fun t2 k => ?_
  rw [mul_toS]
  exact ⟨.str _, H, I.tok _, ⟨_, rfl⟩, q⟩
theorem ie_mulS {fa : E → S} {fb : E → Int} (ha : IE X a fa oka) (hb : IE X b fb okb) : IE X (.BinOp a .Mult b pos) (fun e => mulS (fa e) (fb e)) (fun e => oka e ∧ okb e ∧ MulSOk (fa e) (fb e)) :=
  ie_op op_mulS (fun F H x y a b Q h r1 r2 k q => by
    obtain ⟨rfl, z⟩ := r1
    exact ⟨a, b, rfl, r2, k, q F H _ (Ext.refl h) ⟨rfl, z.sub (by rw [mulS_len]; exact k.2.2) fun c hc => by
      unfold mulS at hc
      obtain ⟨l, h1, h2⟩ := List.mem_flatten.mp hc
      rw [List.eq_of_mem_replicate h1] at h2
      exact h2⟩⟩) ha hb
/-- startswith, endswith -/
theorem at_list (x y : S) (i : Nat) : Builtin.Str.subAt (toS x) (toS y) i = decide ((x.drop i).take y.length = y) := by
  unfold Builtin.Str.subAt
  have hy : (toS y).length = y.length := SX.S_len y
  rw [hy]
  have e : ((toS x).cps.extract i (i + y.length)).toList = (x.drop i).take y.length := by
    rw [Array.toList_extract]
    show (x.drop i).take (i + y.length - i) = _
    rw [Nat.add_sub_cancel_left]
  by_cases h : (x.drop i).take y.length = y
  · rw [decide_eq_true h, beq_iff_eq]
    apply Array.toList_inj.mp
    rw [e, h]; rfl
  · rw [decide_eq_false h, beq_eq_false_iff_ne]
    intro z
    apply h
    rw [← e, z]; rfl
theorem starts_S (x y : S) : Txt.startswith (toS x) (toS y) = y.isPrefixOf x := by
  unfold Txt.startswith
  rw [at_list, show (toS x).length = x.length from SX.S_len x, show (toS y).length = y.length from SX.S_len y, List.drop_zero, Bool.eq_iff_iff, List.isPrefixOf_iff_prefix, Bool.and_eq_true, decide_eq_true_iff, decide_eq_true_iff]
  constructor
  · rintro ⟨_, h⟩
    exact ⟨x.drop y.length, by conv => lhs; lhs; rw [← h]
                               exact List.take_append_drop _ _⟩
  · rintro ⟨t, rfl⟩
    exact ⟨by simp, by simp⟩
theorem ends_S (x y : S) : Txt.endswith (toS x) (toS y) = y.isSuffixOf x := by
  unfold Txt.endswith
  rw [at_list, show (toS x).length = x.length from SX.S_len x, show (toS y).length = y.length from SX.S_len y, Bool.eq_iff_iff, List.isSuffixOf_iff_suffix, Bool.and_eq_true, decide_eq_true_iff, decide_eq_true_iff]
  constructor
  · rintro ⟨h1, h⟩
    refine ⟨x.take (x.length - y.length), ?_⟩
    have e : (x.drop (x.length - y.length)).take y.length = x.drop (x.length - y.length) := List.take_of_length_le (by rw [List.length_drop]; omega)
    rw [e] at h
    conv => lhs; rhs; rw [← h]
    exact List.take_append_drop _ _
  · rintro ⟨t, rfl⟩
    refine ⟨by simp, ?_⟩
    simp
theorem ie_m1 {id : String} {name : Str} {g : Str → Str → V} {β : Type} [Enc β] {k : S → S → β} {fa fb : E → S} (slot : Slot "str" name id) (ty : typeOf (.builtin id) = pure (.type "method_descriptor"))
    (rule : MtR X id (fun x xs H Q => ∃ a b, x = .str a ∧ xs = [.str b] ∧ Q (g a b) H)) (hg : ∀ F s t, rep F (g (toS s) (toS t)) (k s t)) (ha : IE X a fa oka) (hb : IE X b fb okb)
    (hs : starEach [b] X.env = [(false, eval b X.env)] := by rfl) (hbase : attributeBase a name X.env (eval a X.env) = eval a X.env := by rfl) (hline : (p1s.endLine == pos.line) = true := by rfl) :
    IE X (.Call (.Attribute a name p1s) [b] [] pos) (fun e => k (fa e) (fb e)) (fun e => oka e ∧ okb e) :=
  pe_imp (pe_m1 slot ty rule ha hb hs hbase hline) fun σ H Q ⟨F0, H0, F, e, s, ⟨o1, o2⟩, q⟩ =>
    ⟨F0, H0, F, e, s, o1, fun F1 H1 x X1 r1 => ⟨⟨_, r1.1⟩, F0, H0, F1, e, s.more X1, o2, fun F2 H2 y X2 r2 => ⟨_, _, r1.1, by rw [r2.1], q F2 H2 _ (X1.trans X2) (hg F2 _ _)⟩⟩⟩
theorem ie_starts {fa fb : E → S} (ha : IE X a fa oka) (hb : IE X b fb okb) (hs : starEach [b] X.env = [(false, eval b X.env)] := by rfl) (hbase : attributeBase a "startswith" X.env (eval a X.env) = eval a X.env := by rfl) (hline : (p1s.endLine == pos.line) = true := by rfl) :
    IE X (.Call (.Attribute a "startswith" p1s) [b] [] pos) (fun e => (fb e).isPrefixOf (fa e)) (fun e => oka e ∧ okb e) :=
  ie_m1 (k := fun s t => List.isPrefixOf t s) PySem.F.slot_str_startswith PySem.F.type_str_startswith mt_startswith (fun F s t => congrArg V.bl (starts_S s t)) ha hb hs hbase hline
theorem ie_ends {fa fb : E → S} (ha : IE X a fa oka) (hb : IE X b fb okb) (hs : starEach [b] X.env = [(false, eval b X.env)] := by rfl) (hbase : attributeBase a "endswith" X.env (eval a X.env) = eval a X.env := by rfl) (hline : (p1s.endLine == pos.line) = true := by rfl) :
    IE X (.Call (.Attribute a "endswith" p1s) [b] [] pos) (fun e => (fb e).isSuffixOf (fa e)) (fun e => oka e ∧ okb e) :=
  ie_m1 (k := fun s t => List.isSuffixOf t s) PySem.F.slot_str_endswith PySem.F.type_str_endswith mt_endswith (fun F s t => congrArg V.bl (ends_S s t)) ha hb hs hbase hline
/-- sep.join(xs) -/
theorem strs_of {F : Hp} : ∀ {vs : List V} {xs : List S}, Reps F vs xs → vs = (xs.map toS).map V.str
  | _, _, .nil => rfl
  | _, _, .cons r t => by rw [List.map_cons, List.map_cons, ← strs_of t, r.1]
def joinOk (s : S) (xs : List S) : Prop := (xs.map (·.length)).sum + xs.length * s.length ≤ 16777216
theorem joinL_len (s : S) : ∀ xs : List S, (TL.joinL s xs).length ≤ (xs.map (·.length)).sum + xs.length * s.length
  | [] => by simp [TL.joinL]
  | [p] => by simp [TL.joinL]
  | p :: q :: r => by
    have ih := joinL_len s (q :: r)
    show (p ++ (s ++ TL.joinL s (q :: r))).length ≤ _
    simp only [List.length_append, List.map_cons, List.sum_cons, List.length_cons, Nat.succ_mul] at ih ⊢
    omega
theorem joinL_mem (s : S) : ∀ (xs : List S) (c : Nat), c ∈ TL.joinL s xs → c ∈ s ∨ ∃ y ∈ xs, c ∈ y
  | [], c, h => by simp [TL.joinL] at h
  | [p], c, h => .inr ⟨p, List.mem_cons_self, h⟩
  | p :: q :: r, c, h => by
    have h' : c ∈ p ++ (s ++ TL.joinL s (q :: r)) := h
    rcases List.mem_append.mp h' with h | h
    · exact .inr ⟨p, List.mem_cons_self, h⟩
    · rcases List.mem_append.mp h with h | h
      · exact .inl h
      · rcases joinL_mem s (q :: r) c h with h | ⟨y, hy, hm⟩
        · exact .inl h
        · exact .inr ⟨y, List.mem_cons_of_mem _ hy, hm⟩
theorem reps_sok {F : Hp} : ∀ {vs : List V} {xs : List S}, Reps F vs xs → ∀ y ∈ xs, ∀ c ∈ y, c < 1114112
  | _, _, .nil, _, h => nomatch h
  | _, _, .cons r t, y, h => by
    rcases List.mem_cons.mp h with e | h
    · subst e; exact r.2.cps
    · exact reps_sok t y h
theorem ie_join {fa : E → S} {fb : E → List S} (ha : IE X a fa oka) (hb : IE X b fb okb) (hs : starEach [b] X.env = [(false, eval b X.env)] := by rfl) (hbase : attributeBase a "join" X.env (eval a X.env) = eval a X.env := by rfl) (hline : (p1s.endLine == pos.line) = true := by rfl) :
    IE X (.Call (.Attribute a "join" p1s) [b] [] pos) (fun e => (TL.joinL (fa e) (fb e) : S)) (fun e => oka e ∧ okb e ∧ joinOk (fa e) (fb e)) :=
  pe_imp (pe_join ha hb hs hbase hline) fun σ H Q ⟨F0, H0, F, e, s, ⟨o1, o2, o3⟩, q⟩ =>
    ⟨F0, H0, F, e, s, o1, fun F1 H1 x X1 r1 => ⟨⟨_, r1.1⟩, F0, H0, F1, e, s.more X1, o2, fun F2 H2 y X2 r2 => by
      obtain ⟨p, vs, rfl, hp, z, rr⟩ := r2
      refine ⟨toS (fa e), p, (fb e).map toS, r1.1, rfl, .inl (SqL.of (X2.fh _ _ (by rw [← strs_of rr]; exact hp))), ?_, q F2 H2 _ (X1.trans X2) ⟨?_, ?_⟩⟩
      · rw [show (toS (fa e)).length = (fa e).length from SX.S_len _, List.length_map, show ((fb e).map toS).map (·.length) = (fb e).map (·.length) from SX.lens _]
        exact o3
      · exact congrArg V.str (SX.join_S _ _)
      · exact ⟨Nat.le_trans (joinL_len _ _) o3, fun c hc => (joinL_mem _ _ c hc).elim (r1.2.cps c) fun ⟨y, hy, hm⟩ => reps_sok rr y hy c hm⟩⟩⟩
end
end PL
set_option Elab.async false
set_option linter.all false
set_option maxRecDepth 100000
/-! PL4: built-ins, displays, calls, truth, own lists. -/
namespace PL
open PySem PySem.Spec PyProof.Rows L2
variable {X : Cx} {E : Type} [ES E] {pos p0s p1s p2s : Pos}

/-! ## arguments -/
theorem ia_nil : IA X [] (fun _ : E => ()) okT := pa_imp pa_nil fun σ H Q ⟨F0, H0, F, e, s, _, q⟩ => q F H [] (Ext.refl s.ext.fh) rfl
theorem ia_cons {α A : Type} [Enc α] [EA A] {a : Expr} {es : List Expr} {f : E → α} {g : E → A} {ok ok' : E → Prop} (h : IE X a f ok) (t : IA X es g ok') (hs : starEach (a :: es) X.env = (false, eval a X.env) :: starEach es X.env := by rfl) :
    IA X (a :: es) (fun e => (f e, g e)) (fun e => ok e ∧ ok' e) :=
  pa_imp (pa_cons h t hs) fun σ H Q ⟨F0, H0, F, e, s, ⟨o1, o2⟩, q⟩ => ⟨F0, H0, F, e, s, o1, fun F1 H1 x X1 r1 => ⟨F0, H0, F1, e, s.more X1, o2, fun F2 H2 xs X2 r2 => q F2 H2 _ (X1.trans X2) ⟨_, _, rfl, Enc.mono X2.ff r1, r2⟩⟩⟩

/-! ## calls of defs -/
/-- the def that the module's name x holds keeps sp, at most k levels deep -/
structure Cal (P : Program) (w : World) (K : PySem.W.Frag) (mg : Str → Option Value) (base : Heap) (k : Nat) (x : Str) (sp : Sp) : Prop where
  ex : ∃ (f : Addr) (fd : FuncData) (ps : List Str), FnOk P w K mg base CX0 k f fd ps sp ∧ mg x = some (.ref f) ∧ PySem.W.keepIn K (.ref f) = true ∧ Binds K fd ps []
def spP {A β : Type} [EA A] [Enc β] (m : A → β) (ok : A → Prop) : Sp := fun vs H Q _ => ∃ (F : Hp) (a : A), Same F H ∧ EA.rep F vs a ∧ ok a ∧ ∀ F' H' r, Ext F H F' H' → rep F' r (m a) → Q r H'
/-- .. that hands back a new list -/
def spO {A β : Type} [EA A] [Enc β] (m : A → List β) (ok : A → Prop) : Sp := fun vs H Q _ => ∃ (F : Hp) (a : A), Same F H ∧ EA.rep F vs a ∧ ok a ∧
  ∀ F' H' p ws, Ext F H F' H' → H p = none → F' p = none → H' p = some (.lst ws) → ws.length ≤ sizeLine → Reps F' ws (m a) → Q (.ref p) H'
section
variable {A β : Type} [EA A] [Enc β] {e : Expr} {es : List Expr} {f : E → A} {okA : E → Prop} {ok : A → Prop} {k j : Nat} {x : Str}
theorem ie_call {m : A → β} (c : Cal X.prog X.w X.K X.mg X.base k x (spP m ok)) (hr : Room j X.A) (hk : k ≤ j) (hg : Gl X x) (ha : IA X (e :: es) f okA)
    (hdb : (x == ("__debug__" : Str)) = false := by decide) (he : starEach (e :: es) X.env = (false, eval e X.env) :: starEach es X.env := by rfl) (hpl : (backTo pos (starEach es X.env)).any (·.1) = false := by rfl) :
    IE X (.Call (.Name x p1s) (e :: es) [] pos) (fun e => m (f e)) (fun e => okA e ∧ ok (f e)) :=
  let ⟨_, _, _, F, hm, kp, b⟩ := c.ex
  pe_imp (pe_call F (hr.mono hk) hg hm kp b .nil pass0 ha hdb he hpl) fun σ H Q ⟨F0, H0, F, e, s, ⟨o1, o2⟩, q⟩ => ⟨F0, H0, F, e, s, o1, fun F1 H1 vs X1 r1 => by
    show spP m ok (vs ++ []) H1 Q E0
    rw [List.append_nil]
    exact ⟨F1, f e, X1.fh, r1, o2, fun F' H' r X2 r2 => q F' H' r (X1.trans X2) r2⟩⟩
theorem io_call {m : A → List β} (c : Cal X.prog X.w X.K X.mg X.base k x (spO m ok)) (hr : Room j X.A) (hk : k ≤ j) (hg : Gl X x) (ha : IA X (e :: es) f okA)
    (hdb : (x == ("__debug__" : Str)) = false := by decide) (he : starEach (e :: es) X.env = (false, eval e X.env) :: starEach es X.env := by rfl) (hpl : (backTo pos (starEach es X.env)).any (·.1) = false := by rfl) :
    IO X (.Call (.Name x p1s) (e :: es) [] pos) (fun e => m (f e)) (fun e => okA e ∧ ok (f e)) :=
  let ⟨_, _, _, F, hm, kp, b⟩ := c.ex
  pe_imp (pe_call F (hr.mono hk) hg hm kp b .nil pass0 ha hdb he hpl) fun σ H Q ⟨F0, H0, F, e, s, ⟨o1, o2⟩, q⟩ => ⟨F0, H0, F, e, s, o1, fun F1 H1 vs X1 r1 => by
    show spO m ok (vs ++ []) H1 Q E0
    rw [List.append_nil]
    exact ⟨F1, f e, X1.fh, r1, o2, fun F' H' p ws X2 hp fp h' z r2 => q F' H' p ws (X1.trans X2) (X1.hh.free hp) fp h' z r2⟩⟩
end

/-! ## built-ins by values -/
def CB (r : List V → Hp → VK → Prop) {A β : Type} [EA A] [Enc β] (g : A → β) (c : A → Prop) : Prop := ∀ F H vs a Q, Same F H → EA.rep F vs a → c a → (∀ F' H' v, Ext F H F' H' → rep F' v (g a) → Q v H') → r vs H Q
def CBO (r : List V → Hp → VK → Prop) {A β : Type} [EA A] [Enc β] (g : A → List β) (c : A → Prop) : Prop := ∀ F H vs a Q, Same F H → EA.rep F vs a → c a →
  (∀ F' H' p ws, Ext F H F' H' → H p = none → F' p = none → H' p = some (.lst ws) → ws.length ≤ sizeLine → Reps F' ws (g a) → Q (.ref p) H') → r vs H Q
section
variable {A β : Type} [EA A] [Enc β] {e : Expr} {es : List Expr} {f : E → A} {okA : E → Prop} {c : A → Prop} {r : List V → Hp → VK → Prop} {x : Str} {id : String}
theorem cb_of {g : A → β} (h : CB r g c) {t : TA} {σ : L2.St} {H : Hp} {Q : VK} (w : tE (fun e => g (f e)) (fun e => okA e ∧ c (f e)) σ H Q) : tCB r (tA f okA) σ H Q := by
  obtain ⟨F0, H0, F, e, s, ⟨o1, o2⟩, q⟩ := w
  exact ⟨F0, H0, F, e, s, o1, fun F1 H1 vs X1 r1 => h F1 H1 vs _ Q X1.fh r1 o2 fun F' H' v X2 rv => q F' H' v (X1.trans X2) rv⟩
theorem cbo_of {g : A → List β} (h : CBO r g c) {t : TA} {σ : L2.St} {H : Hp} {Q : VK} (w : tO (fun e => g (f e)) (fun e => okA e ∧ c (f e)) σ H Q) : tCB r (tA f okA) σ H Q := by
  obtain ⟨F0, H0, F, e, s, ⟨o1, o2⟩, q⟩ := w
  exact ⟨F0, H0, F, e, s, o1, fun F1 H1 vs X1 r1 => h F1 H1 vs _ Q X1.fh r1 o2 fun F' H' p ws X2 hp fp h' z rv => q F' H' p ws (X1.trans X2) (X1.hh.free hp) fp h' z rv⟩
theorem ie_B {g : A → β} (hc : CallR X (.builtin id) r) (h : CB r g c) (hg : Gl X x) (hm : X.mg x = none) (hv : bootBuiltins x = some (.builtin id)) (ha : IA X (e :: es) f okA) (hn : x ≠ "__name__" := by decide) (hdb : (x == ("__debug__" : Str)) = false := by decide)
    (he : starEach (e :: es) X.env = (false, eval e X.env) :: starEach es X.env := by rfl) (hpl : (backTo pos (starEach es X.env)).any (·.1) = false := by rfl) :
    IE X (.Call (.Name x p1s) (e :: es) [] pos) (fun e => g (f e)) (fun e => okA e ∧ c (f e)) := pe_imp (pe_callB hc hg hm hv ha hn hdb he hpl) fun _ _ _ w => cb_of (t := tNil) h w
theorem ie_BT {g : A → β} (hc : CallR X (.type id) r) (h : CB r g c) (hg : Gl X x) (hm : X.mg x = none) (hv : bootBuiltins x = some (.type id)) (ha : IA X (e :: es) f okA) (hn : x ≠ "__name__" := by decide) (hdb : (x == ("__debug__" : Str)) = false := by decide)
    (he : starEach (e :: es) X.env = (false, eval e X.env) :: starEach es X.env := by rfl) (hpl : (backTo pos (starEach es X.env)).any (·.1) = false := by rfl) :
    IE X (.Call (.Name x p1s) (e :: es) [] pos) (fun e => g (f e)) (fun e => okA e ∧ c (f e)) := pe_imp (pe_callTy hc hg hm hv ha hn hdb he hpl) fun _ _ _ w => cb_of (t := tNil) h w
theorem io_BT {g : A → List β} (hc : CallR X (.type id) r) (h : CBO r g c) (hg : Gl X x) (hm : X.mg x = none) (hv : bootBuiltins x = some (.type id)) (ha : IA X (e :: es) f okA) (hn : x ≠ "__name__" := by decide) (hdb : (x == ("__debug__" : Str)) = false := by decide)
    (he : starEach (e :: es) X.env = (false, eval e X.env) :: starEach es X.env := by rfl) (hpl : (backTo pos (starEach es X.env)).any (·.1) = false := by rfl) :
    IO X (.Call (.Name x p1s) (e :: es) [] pos) (fun e => g (f e)) (fun e => okA e ∧ c (f e)) := pe_imp (pe_callTy hc hg hm hv ha hn hdb he hpl) fun _ _ _ w => cbo_of (t := tNil) h w
end
/-- one argument: the clause «and nothing more» left out -/
theorem ia_one {α : Type} [Enc α] {a : Expr} {f : E → α} {ok : E → Prop} (h : IE X a f ok) (hs : starEach [a] X.env = (false, eval a X.env) :: starEach [] X.env := by rfl) : IA X [a] (fun e => (f e, ())) ok :=
  pa_imp (ia_cons h ia_nil hs) fun σ H Q ⟨F0, H0, F, e, s, o, q⟩ => ⟨F0, H0, F, e, s, ⟨o, trivial⟩, q⟩
section
variable {α : Type} [Enc α] {a b : Expr} {oka okb : E → Prop}
theorem ie_lenL {f : E → List α} (ha : IE X a f oka) (hm : X.mg "len" = none) (hg : Gl X "len" := by rfl) (he : starEach [a] X.env = (false, eval a X.env) :: starEach [] X.env := by rfl) : IE X (.Call (.Name "len" p1s) [a] [] pos) (fun e => ((f e).length : Int)) oka :=
  ie_imp (ie_B (c := fun _ => True) (g := fun (t : List α × Unit) => (t.1.length : Int)) call_len (fun F H vs a Q h r _ q => by
    obtain ⟨v, ws, rfl, ⟨p, us, rfl, hp, z, rr⟩, rfl⟩ := r
    exact ⟨_, us.length, rfl, .inl ⟨us, SqL.of (h _ _ hp), rfl⟩, q F H _ (Ext.refl h) (by rw [rr.length]; rfl)⟩) hg hm PySem.boot_len (ia_one ha he) (he := he)) (fun _ _ => rfl) fun e o => ⟨o, trivial⟩
theorem ie_lenT {f : E → Tup α} (ha : IE X a f oka) (hm : X.mg "len" = none) (hg : Gl X "len" := by rfl) (he : starEach [a] X.env = (false, eval a X.env) :: starEach [] X.env := by rfl) : IE X (.Call (.Name "len" p1s) [a] [] pos) (fun e => ((f e).l.length : Int)) oka :=
  ie_imp (ie_B (c := fun _ => True) (g := fun (t : Tup α × Unit) => (t.1.l.length : Int)) call_len (fun F H vs a Q h r _ q => by
    obtain ⟨v, ws, rfl, ⟨p, us, rfl, hp, z, rr⟩, rfl⟩ := r
    exact ⟨_, us.length, rfl, .inr ⟨us, SqT.of (h _ _ hp), rfl⟩, q F H _ (Ext.refl h) (by rw [rr.length]; rfl)⟩) hg hm PySem.boot_len (ia_one ha he) (he := he)) (fun _ _ => rfl) fun e o => ⟨o, trivial⟩
theorem ie_lenS {f : E → S} (ha : IE X a f oka) (hm : X.mg "len" = none) (hg : Gl X "len" := by rfl) (he : starEach [a] X.env = (false, eval a X.env) :: starEach [] X.env := by rfl) : IE X (.Call (.Name "len" p1s) [a] [] pos) (fun e => ((f e).length : Int)) oka :=
  ie_imp (ie_B (c := fun _ => True) (g := fun (t : S × Unit) => (t.1.length : Int)) call_len (fun F H vs a Q h r _ q => by
    obtain ⟨v, ws, rfl, ⟨rfl, z⟩, rfl⟩ := r
    have e : (toS a.1).length = a.1.length := SX.S_len a.1
    exact ⟨_, a.1.length, rfl, ⟨by rw [e]; exact z.len, e.symm⟩, q F H _ (Ext.refl h) rfl⟩) hg hm PySem.boot_len (ia_one ha he) (he := he)) (fun _ _ => rfl) fun e o => ⟨o, trivial⟩
/-- the script -/
theorem ie_lenR {f : E → Scr} (ha : IE X a f oka) (hm : X.mg "len" = none) (hg : Gl X "len" := by rfl) (he : starEach [a] X.env = (false, eval a X.env) :: starEach [] X.env := by rfl) : IE X (.Call (.Name "len" p1s) [a] [] pos) (fun e => ((f e).l.length : Int)) oka :=
  ie_imp (ie_B (c := fun _ => True) (g := fun (t : Scr × Unit) => (t.1.l.length : Int)) call_len (fun F H vs a Q h r _ q => by
    obtain ⟨v, ws, rfl, ⟨p, rfl, hp, z⟩, rfl⟩ := r
    refine ⟨_, (a.1.l.map V.int).length, rfl, .inl ⟨a.1.l.map V.int, .inl ?_, rfl⟩, q F H _ (Ext.refl h) (by rw [List.length_map]; rfl)⟩
    exact hp.elim (fun y => .inl (h _ _ y)) fun ⟨o, y⟩ => .inr ⟨o, h _ _ y⟩) hg hm PySem.boot_len (ia_one ha he) (he := he)) (fun _ _ => rfl) fun e o => ⟨o, trivial⟩
theorem ie_ixR {f : E → Scr} {fb : E → Int} (ha : IE X a f oka) (hb : IE X b fb okb) (hs : PlainIx b := by exact fun _ _ => rfl) : IE X (.Subscript a b pos) (fun e => ixD (f e).l (fb e)) (fun e => oka e ∧ okb e ∧ ixOk (f e).l (fb e)) :=
  pe_imp (pe_ix ix_list ha hb hs) fun _ _ _ w => two (k := fun (s : Scr) i => ixOk s.l i) (g := fun (s : Scr) i => ixD s.l i) (fun F H x y a b Q h r1 r2 k q => by
    obtain ⟨p, rfl, hp, z⟩ := r1
    obtain ⟨j, v, h1, h2, h3⟩ := atI_map (xs := a.l.map V.int) (List.length_map (f := V.int)) k
    rw [List.getElem?_map, h3] at h2
    cases h2
    exact ⟨p, _, b, _, rfl, r2, .inl (hp.elim (fun y => .inl (h _ _ y)) fun ⟨o, y⟩ => .inr ⟨o, h _ _ y⟩), h1, flat_k h rfl q⟩) w
theorem ints_of {F : Hp} : ∀ {vs : List V} {xs : List Int}, Reps F vs xs → vs = xs.map V.int
  | _, _, .nil => rfl
  | _, _, .cons r t => by rw [List.map_cons, ← ints_of t]; exact congrArg (· :: _) r
theorem bools_of {F : Hp} : ∀ {vs : List V} {xs : List Bool}, Reps F vs xs → vs = xs.map V.bl
  | _, _, .nil => rfl
  | _, _, .cons r t => by rw [List.map_cons, ← bools_of t]; exact congrArg (· :: _) r
theorem ie_sum {f : E → List Int} (hc : X.calm = true) (ha : IE X a f oka) (hm : X.mg "sum" = none) (hg : Gl X "sum" := by rfl) (he : starEach [a] X.env = (false, eval a X.env) :: starEach [] X.env := by rfl) : IE X (.Call (.Name "sum" p1s) [a] [] pos) (fun e => (f e).sum) oka :=
  ie_imp (ie_B (c := fun _ => True) (g := fun (t : List Int × Unit) => t.1.sum) (cr_sum hc) (fun F H vs a Q h r _ q => by
    obtain ⟨v, ws, rfl, ⟨p, us, rfl, hp, z, rr⟩, rfl⟩ := r
    have e := ints_of rr
    subst e
    exact ⟨p, a.1, rfl, SqL.of (h _ _ hp), q F H _ (Ext.refl h) rfl⟩) hg hm (by decide +kernel) (ia_one ha he) (he := he)) (fun _ _ => rfl) fun e o => ⟨o, trivial⟩
theorem ie_any {f : E → List Bool} (hc : X.calm = true) (ha : IE X a f oka) (hm : X.mg "any" = none) (hg : Gl X "any" := by rfl) (he : starEach [a] X.env = (false, eval a X.env) :: starEach [] X.env := by rfl) : IE X (.Call (.Name "any" p1s) [a] [] pos) (fun e => (f e).any id) oka :=
  ie_imp (ie_B (c := fun _ => True) (g := fun (t : List Bool × Unit) => t.1.any id) (cr_any hc) (fun F H vs a Q h r _ q => by
    obtain ⟨v, ws, rfl, ⟨p, us, rfl, hp, z, rr⟩, rfl⟩ := r
    have e := bools_of rr
    subst e
    exact ⟨p, a.1, rfl, SqL.of (h _ _ hp), q F H _ (Ext.refl h) rfl⟩) hg hm (by decide +kernel) (ia_one ha he) (he := he)) (fun _ _ => rfl) fun e o => ⟨o, trivial⟩
theorem ie_all {f : E → List Bool} (hc : X.calm = true) (ha : IE X a f oka) (hm : X.mg "all" = none) (hg : Gl X "all" := by rfl) (he : starEach [a] X.env = (false, eval a X.env) :: starEach [] X.env := by rfl) : IE X (.Call (.Name "all" p1s) [a] [] pos) (fun e => (f e).all id) oka :=
  ie_imp (ie_B (c := fun _ => True) (g := fun (t : List Bool × Unit) => t.1.all id) (cr_all hc) (fun F H vs a Q h r _ q => by
    obtain ⟨v, ws, rfl, ⟨p, us, rfl, hp, z, rr⟩, rfl⟩ := r
    have e := bools_of rr
    subst e
    exact ⟨p, a.1, rfl, SqL.of (h _ _ hp), q F H _ (Ext.refl h) rfl⟩) hg hm (by decide +kernel) (ia_one ha he) (he := he)) (fun _ _ => rfl) fun e o => ⟨o, trivial⟩
/-- the greatest, the least of some ints -/
def maxI (xs : List Int) : Int := xs.foldl max (xs.headD 0)
def minI (xs : List Int) : Int := xs.foldl min (xs.headD 0)
theorem fold_max : ∀ (xs : List Int) (a : Int), a ≤ xs.foldl max a ∧ (∀ x ∈ xs, x ≤ xs.foldl max a) ∧ (xs.foldl max a = a ∨ xs.foldl max a ∈ xs)
  | [], a => ⟨Int.le_refl _, (fun _ h => nomatch h), .inl rfl⟩
  | x :: xs, a => by
    obtain ⟨h1, h2, h3⟩ := fold_max xs (max a x)
    rw [List.foldl_cons]
    refine ⟨by omega, fun y hy => ?_, ?_⟩
    · rcases List.mem_cons.mp hy with e | hy
      · rw [e]; omega
      · exact h2 y hy
    · rcases h3 with h3 | h3
      · by_cases c : a ≤ x
        · right; rw [h3, Int.max_eq_right c]; exact List.mem_cons_self
        · left; rw [h3, Int.max_eq_left (by omega)]
      · exact .inr (List.mem_cons_of_mem _ h3)
theorem fold_min : ∀ (xs : List Int) (a : Int), xs.foldl min a ≤ a ∧ (∀ x ∈ xs, xs.foldl min a ≤ x) ∧ (xs.foldl min a = a ∨ xs.foldl min a ∈ xs)
  | [], a => ⟨Int.le_refl _, (fun _ h => nomatch h), .inl rfl⟩
  | x :: xs, a => by
    obtain ⟨h1, h2, h3⟩ := fold_min xs (min a x)
    rw [List.foldl_cons]
    refine ⟨by omega, fun y hy => ?_, ?_⟩
    · rcases List.mem_cons.mp hy with e | hy
      · rw [e]; omega
      · exact h2 y hy
    · rcases h3 with h3 | h3
      · by_cases c : a ≤ x
        · left; rw [h3, Int.min_eq_left c]
        · right; rw [h3, Int.min_eq_right (by omega)]; exact List.mem_cons_self
      · exact .inr (List.mem_cons_of_mem _ h3)
theorem maxI_mem {xs : List Int} (h : xs ≠ []) : maxI xs ∈ xs ∧ ∀ x ∈ xs, x ≤ maxI xs := by
  cases xs with
  | nil => exact absurd rfl h
  | cons x xs =>
    obtain ⟨h1, h2, h3⟩ := fold_max (x :: xs) x
    refine ⟨?_, h2⟩
    rcases h3 with h3 | h3
    · show (x :: xs).foldl max x ∈ x :: xs
      rw [h3]; exact List.mem_cons_self
    · exact h3
theorem minI_mem {xs : List Int} (h : xs ≠ []) : minI xs ∈ xs ∧ ∀ x ∈ xs, minI xs ≤ x := by
  cases xs with
  | nil => exact absurd rfl h
  | cons x xs =>
    obtain ⟨h1, h2, h3⟩ := fold_min (x :: xs) x
    refine ⟨?_, h2⟩
    rcases h3 with h3 | h3
    · show (x :: xs).foldl min x ∈ x :: xs
      rw [h3]; exact List.mem_cons_self
    · exact h3
theorem ie_maxL {f : E → List Int} (hc : X.calm = true) (ha : IE X a f oka) (hm : X.mg "max" = none) (hg : Gl X "max" := by rfl) (he : starEach [a] X.env = (false, eval a X.env) :: starEach [] X.env := by rfl) : IE X (.Call (.Name "max" p1s) [a] [] pos) (fun e => maxI (f e)) (fun e => oka e ∧ f e ≠ []) :=
  ie_B (c := fun (t : List Int × Unit) => t.1 ≠ []) (g := fun (t : List Int × Unit) => maxI t.1) (cr_max hc) (fun F H vs a Q h r k q => by
    obtain ⟨v, ws, rfl, ⟨p, us, rfl, hp, z, rr⟩, rfl⟩ := r
    have e := ints_of rr
    subst e
    refine ⟨p, a.1, rfl, SqL.of (h _ _ hp), List.length_pos_iff.mpr k, fun m hm hle => ?_⟩
    have e : m = maxI a.1 := Int.le_antisymm ((maxI_mem k).2 m hm) (hle _ (maxI_mem k).1)
    exact q F H _ (Ext.refl h) (by rw [e]; rfl)) hg hm (by decide +kernel) (ia_one ha he) (he := he)
theorem ie_minL {f : E → List Int} (hc : X.calm = true) (ha : IE X a f oka) (hm : X.mg "min" = none) (hg : Gl X "min" := by rfl) (he : starEach [a] X.env = (false, eval a X.env) :: starEach [] X.env := by rfl) : IE X (.Call (.Name "min" p1s) [a] [] pos) (fun e => minI (f e)) (fun e => oka e ∧ f e ≠ []) :=
  ie_B (c := fun (t : List Int × Unit) => t.1 ≠ []) (g := fun (t : List Int × Unit) => minI t.1) (cr_min hc) (fun F H vs a Q h r k q => by
    obtain ⟨v, ws, rfl, ⟨p, us, rfl, hp, z, rr⟩, rfl⟩ := r
    have e := ints_of rr
    subst e
    refine ⟨p, a.1, rfl, SqL.of (h _ _ hp), List.length_pos_iff.mpr k, fun m hm hle => ?_⟩
    have e : m = minI a.1 := Int.le_antisymm (hle _ (minI_mem k).1) ((minI_mem k).2 m hm)
    exact q F H _ (Ext.refl h) (by rw [e]; rfl)) hg hm (by decide +kernel) (ia_one ha he) (he := he)
theorem ie_max2 {f g : E → Int} (hc : X.calm = true) (ha : IE X a f oka) (hb : IE X b g okb) (hm : X.mg "max" = none) (hg : Gl X "max" := by rfl) (he : starEach [a, b] X.env = (false, eval a X.env) :: starEach [b] X.env := by rfl) (he2 : starEach [b] X.env = (false, eval b X.env) :: starEach [] X.env := by rfl)
    (hpl : (backTo pos (starEach [b] X.env)).any (·.1) = false := by rfl) : IE X (.Call (.Name "max" p1s) [a, b] [] pos) (fun e => max (f e) (g e)) (fun e => oka e ∧ okb e) :=
  ie_imp (ie_B (c := fun _ => True) (g := fun (t : Int × Int × Unit) => max t.1 t.2.1) (call_max2 hc) (fun F H vs a Q h r _ q => by
    obtain ⟨v, ws, rfl, r1, w, us, rfl, r2, rfl⟩ := r
    cases r1; cases r2
    refine ⟨_, _, rfl, ?_⟩
    rw [show (if a.2.1 > a.1 then a.2.1 else a.1) = max a.1 a.2.1 by split <;> omega]
    exact q F H _ (Ext.refl h) rfl) hg hm (by decide +kernel) (ia_cons ha (ia_one hb he2) he) (he := he) (hpl := hpl)) (fun _ _ => rfl) fun e o => ⟨o, trivial⟩
theorem ie_min2 {f g : E → Int} (hc : X.calm = true) (ha : IE X a f oka) (hb : IE X b g okb) (hm : X.mg "min" = none) (hg : Gl X "min" := by rfl) (he : starEach [a, b] X.env = (false, eval a X.env) :: starEach [b] X.env := by rfl) (he2 : starEach [b] X.env = (false, eval b X.env) :: starEach [] X.env := by rfl)
    (hpl : (backTo pos (starEach [b] X.env)).any (·.1) = false := by rfl) : IE X (.Call (.Name "min" p1s) [a, b] [] pos) (fun e => min (f e) (g e)) (fun e => oka e ∧ okb e) :=
  ie_imp (ie_B (c := fun _ => True) (g := fun (t : Int × Int × Unit) => min t.1 t.2.1) (call_min2 hc) (fun F H vs a Q h r _ q => by
    obtain ⟨v, ws, rfl, r1, w, us, rfl, r2, rfl⟩ := r
    cases r1; cases r2
    refine ⟨_, _, rfl, ?_⟩
    rw [show (if a.2.1 < a.1 then a.2.1 else a.1) = min a.1 a.2.1 by split <;> omega]
    exact q F H _ (Ext.refl h) rfl) hg hm (by decide +kernel) (ia_cons ha (ia_one hb he2) he) (he := he) (hpl := hpl)) (fun _ _ => rfl) fun e o => ⟨o, trivial⟩
/-- int(n), int(flag) -/
theorem ie_intI {f : E → Int} (ha : IE X a f oka) (hm : X.mg "int" = none) (hg : Gl X "int" := by rfl) (he : starEach [a] X.env = (false, eval a X.env) :: starEach [] X.env := by rfl) : IE X (.Call (.Name "int" p1s) [a] [] pos) f oka :=
  ie_imp (ie_BT (c := fun _ => True) (g := fun (t : Int × Unit) => t.1) call_int1 (fun F H vs a Q h r _ q => by
    obtain ⟨v, ws, rfl, r1, rfl⟩ := r
    cases r1
    exact .inl ⟨_, rfl, q F H _ (Ext.refl h) rfl⟩) hg hm (by decide +kernel) (ia_one ha he) (he := he)) (fun _ _ => rfl) fun e o => ⟨o, trivial⟩
def b2i (b : Bool) : Int := if b then 1 else 0
theorem ie_intB {f : E → Bool} (ha : IE X a f oka) (hm : X.mg "int" = none) (hg : Gl X "int" := by rfl) (he : starEach [a] X.env = (false, eval a X.env) :: starEach [] X.env := by rfl) : IE X (.Call (.Name "int" p1s) [a] [] pos) (fun e => b2i (f e)) oka :=
  ie_imp (ie_BT (c := fun _ => True) (g := fun (t : Bool × Unit) => b2i t.1) call_int1 (fun F H vs a Q h r _ q => by
    obtain ⟨v, ws, rfl, r1, rfl⟩ := r
    cases r1
    exact .inr ⟨_, rfl, q F H _ (Ext.refl h) rfl⟩) hg hm (by decide +kernel) (ia_one ha he) (he := he)) (fun _ _ => rfl) fun e o => ⟨o, trivial⟩
/-- list(xs) -/
theorem io_list {f : E → List α} (ha : IE X a f oka) (hm : X.mg "list" = none) (hg : Gl X "list" := by rfl) (he : starEach [a] X.env = (false, eval a X.env) :: starEach [] X.env := by rfl) : IO X (.Call (.Name "list" p1s) [a] [] pos) f oka :=
  pe_imp (io_BT (c := fun _ => True) (g := fun (t : List α × Unit) => t.1) call_list_of (fun F H vs a Q h r _ q => by
    obtain ⟨v, ws, rfl, ⟨p, us, rfl, hp, z, rr⟩, rfl⟩ := r
    exact ⟨p, us, rfl, .inl (SqL.of (h _ _ hp)), fun l hl => q F _ l us ((Ext.refl h).newO hl) hl (h.free hl) upd_same z rr⟩) hg hm (by decide +kernel) (ia_one ha he) (he := he)) fun σ H Q ⟨F0, H0, F, e, s, o, q⟩ => ⟨F0, H0, F, e, s, ⟨o, trivial⟩, q⟩
theorem io_listT {f : E → Tup α} (ha : IE X a f oka) (hm : X.mg "list" = none) (hg : Gl X "list" := by rfl) (he : starEach [a] X.env = (false, eval a X.env) :: starEach [] X.env := by rfl) : IO X (.Call (.Name "list" p1s) [a] [] pos) (fun e => (f e).l) oka :=
  pe_imp (io_BT (c := fun _ => True) (g := fun (t : Tup α × Unit) => t.1.l) call_list_of (fun F H vs a Q h r _ q => by
    obtain ⟨v, ws, rfl, ⟨p, us, rfl, hp, z, rr⟩, rfl⟩ := r
    exact ⟨p, us, rfl, .inr (SqT.of (h _ _ hp)), fun l hl => q F _ l us ((Ext.refl h).newO hl) hl (h.free hl) upd_same z rr⟩) hg hm (by decide +kernel) (ia_one ha he) (he := he)) fun σ H Q ⟨F0, H0, F, e, s, o, q⟩ => ⟨F0, H0, F, e, s, ⟨o, trivial⟩, q⟩
end

/-! ## displays -/
section
variable {α β γ : Type} [Enc α] [Enc β] [Enc γ] {a b c : Expr} {fa : E → α} {fb : E → β} {fc : E → γ} {oka okb okc : E → Prop} {i1 : Nat}
theorem ie_tup2 {k : Nat} (ha : IE X a fa oka) (hb : IE X b fb okb) (h1 : starEach [a, b] X.env = (false, eval a X.env) :: starEach [b] X.env := by rfl) (h2 : starEach [b] X.env = (false, eval b X.env) :: starEach [] X.env := by rfl) :
    IE X (.Tuple [a, b] k pos) (fun e => (fa e, fb e)) (fun e => oka e ∧ okb e) :=
  pe_imp (pe_tup (ia_cons ha (ia_one hb h2) h1)) fun σ H Q ⟨F0, H0, F, e, s, o, q⟩ => ⟨F0, H0, F, e, s, o, fun F1 H1 vs X1 r => by
    obtain ⟨v, ws, rfl, r1, w, us, rfl, r2, rfl⟩ := r
    refine ⟨by show 2 ≤ sizeLine; decide, fun p hp => q _ _ _ (X1.new hp) ⟨p, v, w, rfl, upd_same, Enc.mono (same_new (X1.fh.free hp)) r1, Enc.mono (same_new (X1.fh.free hp)) r2⟩⟩⟩
theorem ie_tup3 {k : Nat} (ha : IE X a fa oka) (hb : IE X b fb okb) (hc : IE X c fc okc) (h1 : starEach [a, b, c] X.env = (false, eval a X.env) :: starEach [b, c] X.env := by rfl) (h2 : starEach [b, c] X.env = (false, eval b X.env) :: starEach [c] X.env := by rfl)
    (h3 : starEach [c] X.env = (false, eval c X.env) :: starEach [] X.env := by rfl) : IE X (.Tuple [a, b, c] k pos) (fun e => (⟨fa e, fb e, fc e⟩ : T3 α β γ)) (fun e => oka e ∧ okb e ∧ okc e) :=
  pe_imp (pe_tup (ia_cons ha (ia_cons hb (ia_one hc h3) h2) h1)) fun σ H Q ⟨F0, H0, F, e, s, o, q⟩ => ⟨F0, H0, F, e, s, o, fun F1 H1 vs X1 r => by
    obtain ⟨v, ws, rfl, r1, w, us, rfl, r2, w3, us3, rfl, r3, rfl⟩ := r
    refine ⟨by show 3 ≤ sizeLine; decide, fun p hp => q _ _ _ (X1.new hp) ⟨p, v, w, w3, rfl, upd_same, Enc.mono (same_new (X1.fh.free hp)) r1, Enc.mono (same_new (X1.fh.free hp)) r2, Enc.mono (same_new (X1.fh.free hp)) r3⟩⟩⟩
/-- items of one kind -/
def tI (f : E → List α) (ok : E → Prop) : TA := fun σ H Q => ∃ (F0 H0 F : Hp) (e : E), SR F0 H0 F H σ e ∧ ok e ∧ ∀ F' H' vs, Ext F H F' H' → Reps F' vs (f e) → Q vs H'
structure IL (X : Cx) (es : List Expr) (f : E → List α) (ok : E → Prop) : Prop where
  pa : PA X es (tI f ok)
  len : ∀ e, (f e).length = es.length
theorem il_nil : IL X [] (fun _ : E => ([] : List α)) okT := ⟨pa_imp pa_nil fun σ H Q ⟨F0, H0, F, e, s, _, q⟩ => q F H [] (Ext.refl s.ext.fh) .nil, fun _ => rfl⟩
theorem il_cons {es : List Expr} {g : E → List α} {ok' : E → Prop} (h : IE X a fa oka) (t : IL X es g ok') (hs : starEach (a :: es) X.env = (false, eval a X.env) :: starEach es X.env := by rfl) : IL X (a :: es) (fun e => fa e :: g e) (fun e => oka e ∧ ok' e) :=
  ⟨pa_imp (pa_cons h t.pa hs) fun σ H Q ⟨F0, H0, F, e, s, ⟨o1, o2⟩, q⟩ => ⟨F0, H0, F, e, s, o1, fun F1 H1 x X1 r1 => ⟨F0, H0, F1, e, s.more X1, o2, fun F2 H2 xs X2 r2 => q F2 H2 _ (X1.trans X2) (.cons (Enc.mono X2.ff r1) r2)⟩⟩,
    fun e => by rw [List.length_cons, List.length_cons, t.len e]⟩
theorem io_lst {es : List Expr} {g : E → List α} {ok' : E → Prop} (h : IL X es g ok') (hz : decide (es.length ≤ 1000) = true := by rfl) : IO X (.List es pos) g ok' :=
  pe_imp (pe_lst h.pa) fun σ H Q ⟨F0, H0, F, e, s, o, q⟩ => ⟨F0, H0, F, e, s, o, fun F1 H1 vs X1 r => by
    have z : vs.length ≤ sizeLine := by rw [r.length, h.len e]; exact Nat.le_trans (of_decide_eq_true hz) (by decide)
    exact ⟨z, fun p hp => q F1 _ p vs (X1.newO hp) (X1.hh.free hp) (X1.fh.free hp) upd_same z r⟩⟩
end

/-! ## truth -/
section
variable {a b c : Expr} {fa fb fc : E → Bool} {oka okb okc : E → Prop}
theorem it_val (h : IE X a fa oka) (he : ∀ whole, isTrue a X.env whole = (do let v ← whole; standAt a.pos; holding [v] (truthy v)) := by intro _; rfl) : IT X a fa oka :=
  pt_imp (pt_val h he) fun σ H Q ⟨F0, H0, F, e, s, o, q⟩ => ⟨F0, H0, F, e, s, o, fun F1 H1 v X1 r => ⟨_, r, q F1 H1 X1⟩⟩
abbrev IW (X : Cx) (e : Expr) (f : E → Bool) (ok : E → Prop) : Prop := PW X e (tT f ok)
theorem pw_imp {e : Expr} {t t' : TT} (h : PW X e t) (i : ∀ σ H Q, t' σ H Q → t σ H Q) : PW X e t' := ⟨fun wh pins s σ H Q I w => h.run wh pins s σ H Q I (i _ _ _ w)⟩
theorem iw_and1 (h : IT X a fa oka) : IW X (.BoolOp .And [a] pos) fa oka := pw_and1 h
theorem iw_or1 (h : IT X a fa oka) : IW X (.BoolOp .Or [a] pos) fa oka := pw_or1 h
theorem iw_and {rest : List Expr} (h : IT X a fa oka) (t : IW X (.BoolOp .And (b :: rest) pos) fb okb) : IW X (.BoolOp .And (a :: b :: rest) pos) (fun e => fa e && fb e) (fun e => oka e ∧ (fa e = true → okb e)) :=
  pw_imp (pw_and h t) fun σ H Q ⟨F0, H0, F, e, s, ⟨o1, o2⟩, q⟩ => ⟨F0, H0, F, e, s, o1, fun F1 H1 X1 => by
    cases hc : fa e with
    | true => exact iteT ⟨F0, H0, F1, e, s.more X1, o2 hc, fun F2 H2 X2 => by have := q F2 H2 (X1.trans X2); simpa [hc] using this⟩
    | false => exact iteF (by have := q F1 H1 X1; simpa [hc] using this)⟩
theorem iw_or {rest : List Expr} (h : IT X a fa oka) (t : IW X (.BoolOp .Or (b :: rest) pos) fb okb) : IW X (.BoolOp .Or (a :: b :: rest) pos) (fun e => fa e || fb e) (fun e => oka e ∧ (fa e = false → okb e)) :=
  pw_imp (pw_or h t) fun σ H Q ⟨F0, H0, F, e, s, ⟨o1, o2⟩, q⟩ => ⟨F0, H0, F, e, s, o1, fun F1 H1 X1 => by
    cases hc : fa e with
    | true => exact iteT (by have := q F1 H1 X1; simpa [hc] using this)
    | false => exact iteF ⟨F0, H0, F1, e, s.more X1, o2 hc, fun F2 H2 X2 => by have := q F2 H2 (X1.trans X2); simpa [hc] using this⟩⟩
theorem it_w {e : Expr} (h : IW X e fa oka) : IT X e fa oka := h.pt
theorem it_not (h : IT X a fa oka) : IT X (.UnaryOp .Not a pos) (fun e => !fa e) oka :=
  pt_imp (pt_not h) fun σ H Q ⟨F0, H0, F, e, s, o, q⟩ => ⟨F0, H0, F, e, s, o, fun F1 H1 X1 => q F1 H1 X1⟩
theorem ie_one {op : BoolOp} (h : IE X a fa oka) : IE X (.BoolOp op [a] pos) fa oka := pe_one h
theorem ie_and {rest : List Expr} (h : IE X a fa oka) (t : IE X (.BoolOp .And (b :: rest) pos) fb okb) : IE X (.BoolOp .And (a :: b :: rest) pos) (fun e => fa e && fb e) (fun e => oka e ∧ (fa e = true → okb e)) :=
  pe_imp (pe_and h t) fun σ H Q ⟨F0, H0, F, e, s, ⟨o1, o2⟩, q⟩ => ⟨F0, H0, F, e, s, o1, fun F1 H1 v X1 r => ⟨fa e, r, by
    cases hc : fa e with
    | true => exact iteT ⟨F0, H0, F1, e, s.more X1, o2 hc, fun F2 H2 v X2 r2 => q F2 H2 v (X1.trans X2) (by simpa [hc] using r2)⟩
    | false => exact iteF (q F1 H1 _ X1 (show _ = _ by simp [hc]))⟩⟩
theorem ie_or {rest : List Expr} (h : IE X a fa oka) (t : IE X (.BoolOp .Or (b :: rest) pos) fb okb) : IE X (.BoolOp .Or (a :: b :: rest) pos) (fun e => fa e || fb e) (fun e => oka e ∧ (fa e = false → okb e)) :=
  pe_imp (pe_or h t) fun σ H Q ⟨F0, H0, F, e, s, ⟨o1, o2⟩, q⟩ => ⟨F0, H0, F, e, s, o1, fun F1 H1 v X1 r => ⟨fa e, r, by
    cases hc : fa e with
    | true => exact iteT (q F1 H1 _ X1 (show _ = _ by simp [hc]))
    | false => exact iteF ⟨F0, H0, F1, e, s.more X1, o2 hc, fun F2 H2 v X2 r2 => q F2 H2 v (X1.trans X2) (by simpa [hc] using r2)⟩⟩⟩
theorem ie_not (h : IE X a fa oka) : IE X (.UnaryOp .Not a pos) (fun e => !fa e) oka :=
  pe_imp (pe_not h) fun σ H Q ⟨F0, H0, F, e, s, o, q⟩ => ⟨F0, H0, F, e, s, o, fun F1 H1 v X1 r => ⟨_, r, q F1 H1 _ X1 rfl⟩⟩
theorem ie_if {α : Type} [Enc α] {g h : E → α} (hc : IT X c fc okc) (ha : IE X a g oka) (hb : IE X b h okb) : IE X (.IfExp c a b pos) (fun e => if fc e = true then g e else h e) (fun e => okc e ∧ (fc e = true → oka e) ∧ (fc e = false → okb e)) :=
  pe_imp (pe_ifExp hc ha hb) fun σ H Q ⟨F0, H0, F, e, s, ⟨o1, o2, o3⟩, q⟩ => ⟨F0, H0, F, e, s, o1, fun F1 H1 X1 => by
    cases hc : fc e with
    | true => exact iteT ⟨F0, H0, F1, e, s.more X1, o2 hc, fun F2 H2 v X2 r2 => q F2 H2 v (X1.trans X2) (by simpa [hc] using r2)⟩
    | false => exact iteF ⟨F0, H0, F1, e, s.more X1, o3 hc, fun F2 H2 v X2 r2 => q F2 H2 v (X1.trans X2) (by simpa [hc] using r2)⟩⟩
/-! is None -/
variable {α : Type} [Enc α] [NotNone α]
theorem none_iff {F : Hp} {v : V} {o : Option α} (r : rep F v o) : (v = .non) ↔ o = none := by
  cases o with
  | none => exact ⟨fun _ => rfl, fun _ => r⟩
  | some a =>
    constructor
    · intro h; subst h; exact (NotNone.nn (α := α) r).elim
    · intro h; cases h
theorem dec_none {F : Hp} {v : V} {o : Option α} (r : rep F v o) : decide (v = .non) = o.isNone := by
  have h := none_iff r
  cases o with
  | none => exact decide_eq_true (h.mpr rfl)
  | some a => exact decide_eq_false fun z => nomatch h.mp z
theorem dec_some {F : Hp} {v : V} {o : Option α} (r : rep F v o) : (!decide (v = .non)) = o.isSome := by
  rw [dec_none r]; cases o <;> rfl
theorem ie_isN {j : Nat} {f : E → Option α} (h : IE X a f oka) : IE X (.Compare a [.Is] [.Constant .none j p1s] pos) (fun e => (f e).isNone) oka :=
  pe_imp (pe_cmpR op_isN h pe_non (nomark _)) fun σ H Q ⟨F0, H0, F, e, s, o, q⟩ => ⟨F0, H0, F, e, s, o, fun F1 H1 v X1 r => ⟨rfl, q F1 H1 _ X1 (congrArg V.bl (dec_none r))⟩⟩
theorem ie_notN {j : Nat} {f : E → Option α} (h : IE X a f oka) : IE X (.Compare a [.IsNot] [.Constant .none j p1s] pos) (fun e => (f e).isSome) oka :=
  pe_imp (pe_cmpR op_notN h pe_non (nomark _)) fun σ H Q ⟨F0, H0, F, e, s, o, q⟩ => ⟨F0, H0, F, e, s, o, fun F1 H1 v X1 r => ⟨rfl, q F1 H1 _ X1 (congrArg V.bl (dec_some r))⟩⟩
theorem it_isN {j : Nat} {f : E → Option α} (h : IE X a f oka) : IT X (.Compare a [.Is] [.Constant .none j p1s] pos) (fun e => (f e).isNone) oka :=
  pt_imp (pt_cmpR op_isN h pe_non (nomark _)) fun σ H Q ⟨F0, H0, F, e, s, o, q⟩ => ⟨F0, H0, F, e, s, o, fun F1 H1 v X1 r => ⟨rfl, _, rfl, by rw [dec_none r]; exact q F1 H1 X1⟩⟩
theorem it_notN {j : Nat} {f : E → Option α} (h : IE X a f oka) : IT X (.Compare a [.IsNot] [.Constant .none j p1s] pos) (fun e => (f e).isSome) oka :=
  pt_imp (pt_cmpR op_notN h pe_non (nomark _)) fun σ H Q ⟨F0, H0, F, e, s, o, q⟩ => ⟨F0, H0, F, e, s, o, fun F1 H1 v X1 r => ⟨rfl, _, rfl, by rw [dec_some r]; exact q F1 H1 X1⟩⟩
end

/-! ## own lists looked at: e is read with the list standing still -/
section
variable {E' : Type} [ES E'] {a : Expr} {ok : E' → Prop}
theorem peek_ext {F H F'' H'' : Hp} {p : Addr} {ob : HO} (fp : F p = none) (h : Same F H) (x : Ext (upd F p ob) H F'' H'') : Ext F H F H'' :=
  ⟨Same.refl _, x.hh, h.trans x.hh, fun _ a b => absurd a b⟩
theorem ie_peek {α : Type} [Enc α] [Flat α] (f : Frz E E') {g : E' → α} (h : IE X a g ok) : IE X a (fun e : E => g (f.w e)) (fun e => ok (f.w e)) :=
  pe_imp h fun σ H Q ⟨F0, H0, F, e, s, o, q⟩ => by
    obtain ⟨p, vs, fp, hp, s'⟩ := f.sr s
    exact ⟨F0, H0, _, f.w e, s', o, fun F' H' v x r => q F H' v (peek_ext fp s.ext.fh x) (Flat.flat r)⟩
theorem it_peek (f : Frz E E') {g : E' → Bool} (h : IT X a g ok) : IT X a (fun e : E => g (f.w e)) (fun e => ok (f.w e)) :=
  pt_imp h fun σ H Q ⟨F0, H0, F, e, s, o, q⟩ => by
    obtain ⟨p, vs, fp, hp, s'⟩ := f.sr s
    exact ⟨F0, H0, _, f.w e, s', o, fun F' H' x => q F H' (peek_ext fp s.ext.fh x)⟩
theorem io_peek {α : Type} [Enc α] [Flat α] (f : Frz E E') {g : E' → List α} (h : IO X a g ok) : IO X a (fun e : E => g (f.w e)) (fun e => ok (f.w e)) :=
  pe_imp h fun σ H Q ⟨F0, H0, F, e, s, o, q⟩ => by
    obtain ⟨p, vs, fp, hp, s'⟩ := f.sr s
    exact ⟨F0, H0, _, f.w e, s', o, fun F' H' p' ws x hp' fp' h' z r => q F H' p' ws (peek_ext fp s.ext.fh x) hp' (s.ext.fh.free hp') h' z r.flat⟩
end
theorem SR.own {α : Type} [Enc α] (v : VarO E α) {F0 H0 F H : Hp} {σ : L2.St} {e : E} (s : SR F0 H0 F H σ e) : ∃ p vs, σ[v.i]? = some (some (.ref p)) ∧ F p = none ∧ H p = some (.lst vs) ∧ vs.length ≤ sizeLine ∧ Reps F vs (v.get e) ∧
    ∀ vs' xs', vs'.length ≤ sizeLine → Reps F vs' xs' → SR F0 H0 F (upd H p (.lst vs')) σ (v.set e xs') := by
  obtain ⟨os, nd, fr, r⟩ := s.st
  obtain ⟨p, vs, h1, h2, h3, h4, h5, h6⟩ := v.ok nd r
  obtain ⟨fp, h0, _⟩ := fr p h1
  refine ⟨p, vs, h2, fp, h3, h4, h5, fun vs' xs' z r' => ⟨⟨s.ext.ff, fun b o e => ?_, fun b o e => ?_, s.ext.nw⟩, os, nd, fun q hq => ?_, h6 F _ vs' xs' (Same.refl _) (fun q hq hn => upd_ne hn) upd_same z r'⟩⟩
  · rw [upd_ne (ne_of_none e h0)]; exact s.ext.hh _ _ e
  · rw [upd_ne (ne_of_none e fp)]; exact s.ext.fh _ _ e
  · obtain ⟨a, b, c⟩ := fr q hq
    refine ⟨a, b, ?_⟩
    by_cases e : q = p
    · subst e; rw [upd_same]; exact Option.some_ne_none _
    · rw [upd_ne e]; exact c
end PL
set_option Elab.async false
set_option linter.all false
set_option maxRecDepth 100000
/-! PL5: what is walked, comprehensions. -/
namespace PL
open PySem PySem.Spec PyProof.Rows L2
variable {X : Cx} {E : Type} [ES E] {pos p0s p1s p2s : Pos}

/-! ## what is walked -/
structure JOk {α : Type} [Enc α] (J : It) (Fb : Hp) (xs : List α) : Prop where
  sz : xs.length ≤ sizeLine
  at' : ∀ (i : Nat) (F H : Hp), Same Fb F → Same F H → (∀ x, xs[i]? = some x → J.go i H ∧ ∀ v H', J.yld i H v H' → ∃ F', Ext F H F' H' ∧ rep F' v x) ∧ (i = xs.length → J.stop i H)
def tS {α : Type} [Enc α] (f : E → List α) (ok : E → Prop) : TI := fun σ H R => ∃ (F0 H0 F : Hp) (e : E), SR F0 H0 F H σ e ∧ ok e ∧ ∀ J F' H', Ext F H F' H' → JOk J F' (f e) → R J H'
abbrev IS (X : Cx) {α : Type} [Enc α] (tg iter : Expr) (f : E → List α) (ok : E → Prop) : Prop := PI X tg iter (tS f ok)
theorem pi_imp {tg e : Expr} {t t' : TI} (h : PI X tg e t) (i : ∀ σ H R, t' σ H R → t σ H R) : PI X tg e t' := ⟨fun pins s σ H R I w => h.run pins s σ H R I (i _ _ _ w)⟩
section
variable {α β : Type} [Enc α] [Enc β] {a b tg : Expr} {oka okb : E → Prop}
theorem is_list {f : E → List α} (h : IE X a f oka) : IS X tg a f oka :=
  pi_imp (pi_list h) fun σ H R ⟨F0, H0, F, e, s, o, q⟩ => ⟨F0, H0, F, e, s, o, fun F1 H1 x X1 r => by
    obtain ⟨p, vs, rfl, hp, z, rr⟩ := r
    refine ⟨p, rfl, ⟨vs, SqL.of (X1.fh _ _ hp)⟩, q _ F1 H1 X1 ⟨by rw [← rr.length]; exact z, fun i F H hb hs => ⟨fun x hx => ?_, fun hi => ?_⟩⟩⟩
    · obtain ⟨v, hv, rv⟩ := reps_of rr hx
      refine ⟨⟨vs, v, SqL.of (hs _ _ (hb _ _ hp)), hv⟩, fun v' H' y => ?_⟩
      obtain ⟨rfl, y⟩ := y
      have := y vs (SqL.of (hs _ _ (hb _ _ hp)))
      rw [hv] at this; cases this
      exact ⟨F, Ext.refl hs, Enc.mono hb rv⟩
    · exact ⟨vs, SqL.of (hs _ _ (hb _ _ hp)), by rw [hi, rr.length]; exact Nat.le_refl _⟩⟩
theorem is_tup {f : E → Tup α} (h : IE X a f oka) : IS X tg a (fun e => (f e).l) oka :=
  pi_imp (pi_tup h) fun σ H R ⟨F0, H0, F, e, s, o, q⟩ => ⟨F0, H0, F, e, s, o, fun F1 H1 x X1 r => by
    obtain ⟨p, vs, rfl, hp, z, rr⟩ := r
    refine ⟨p, rfl, ⟨vs, SqT.of (X1.fh _ _ hp)⟩, q _ F1 H1 X1 ⟨by rw [← rr.length]; exact z, fun i F H hb hs => ⟨fun x hx => ?_, fun hi => ?_⟩⟩⟩
    · obtain ⟨v, hv, rv⟩ := reps_of rr hx
      refine ⟨⟨vs, v, SqT.of (hs _ _ (hb _ _ hp)), hv⟩, fun v' H' y => ?_⟩
      obtain ⟨rfl, y⟩ := y
      have := y vs (SqT.of (hs _ _ (hb _ _ hp)))
      rw [hv] at this; cases this
      exact ⟨F, Ext.refl hs, Enc.mono hb rv⟩
    · exact ⟨vs, SqT.of (hs _ _ (hb _ _ hp)), by rw [hi, rr.length]; exact Nat.le_refl _⟩⟩
/-- a new own list -/
theorem is_new {f : E → List α} (h : IO X a f oka) : IS X tg a f oka := is_list (ie_fz h)
/-- the ints from a below b -/
def irange (a b : Int) : List Int := (List.range (b - a).toNat).map fun k => a + (k : Nat)
theorem irange_len (a b : Int) : (irange a b).length = (b - a).toNat := by unfold irange; rw [List.length_map, List.length_range]
theorem irange_at {a b : Int} {i : Nat} {x : Int} (h : (irange a b)[i]? = some x) : i < (b - a).toNat ∧ x = a + (i : Nat) := by
  unfold irange at h
  rw [List.getElem?_map] at h
  by_cases hi : i < (b - a).toNat
  · rw [List.getElem?_range hi] at h
    cases h
    exact ⟨hi, rfl⟩
  · rw [List.getElem?_eq_none (by rw [List.length_range]; omega)] at h
    cases h
theorem jok_range {lo : Int} {n : Nat} {F : Hp} {xs : List Int} (hz : n ≤ sizeLine) (hx : xs = irange lo (lo + n)) : JOk (Itr lo n) F xs := by
  subst hx
  have hl : (irange lo (lo + n)).length = n := by rw [irange_len]; omega
  refine ⟨by rw [hl]; exact hz, fun i F H hb hs => ⟨fun x hx => ?_, fun hi => ?_⟩⟩
  · obtain ⟨h1, h2⟩ := irange_at hx
    refine ⟨?_, fun v H' y => ?_⟩
    · show i < n; omega
    · obtain ⟨rfl, rfl⟩ := y
      exact ⟨F, Ext.refl hs, by rw [h2]; rfl⟩
  · show n ≤ i; omega
def rgOk (a b : Int) : Prop := -(2 ^ 40) ≤ a ∧ a ≤ 2 ^ 40 ∧ -(2 ^ 40) ≤ b ∧ b ≤ 2 ^ 40 ∧ b - a ≤ 16777216
theorem is_range1 {f : E → Int} (ha : IE X a f oka) (hm : X.mg "range" = none) (hg : Gl X "range" := by rfl) (hs : starEach [a] X.env = [(false, eval a X.env)] := by rfl) : IS X tg (.Call (.Name "range" p1s) [a] [] pos) (fun e => irange 0 (f e)) (fun e => oka e ∧ rgOk 0 (f e)) :=
  pi_imp (pi_range1 hg hm (ia_one ha hs) hs) fun σ H R ⟨F0, H0, F, e, s, ⟨o, k⟩, q⟩ => ⟨F0, H0, F, e, s, o, fun F1 H1 vs X1 r => by
    obtain ⟨v, ws, rfl, r1, rfl⟩ := r
    cases r1
    obtain ⟨k1, k2, k3, k4, k5⟩ := k
    refine ⟨f e, rfl, by omega, by omega, q _ F1 H1 X1 (jok_range ?_ ?_)⟩
    · rw [sizeLine_eq]; omega
    · show irange 0 (f e) = _
      unfold irange
      rw [show (f e - 0).toNat = (0 + ((f e).toNat : Int) - 0).toNat by omega]⟩
theorem is_range2 {f g : E → Int} (ha : IE X a f oka) (hb : IE X b g okb) (hm : X.mg "range" = none) (hg : Gl X "range" := by rfl) (hs : starEach [a, b] X.env = [(false, eval a X.env), (false, eval b X.env)] := by rfl) (hs2 : starEach [b] X.env = [(false, eval b X.env)] := by rfl) :
    IS X tg (.Call (.Name "range" p1s) [a, b] [] pos) (fun e => irange (f e) (g e)) (fun e => (oka e ∧ okb e) ∧ rgOk (f e) (g e)) :=
  pi_imp (pi_range2 hg hm (ia_cons ha (ia_one hb hs2) (by rw [hs, hs2])) hs hs2) fun σ H R ⟨F0, H0, F, e, s, ⟨o, k⟩, q⟩ => ⟨F0, H0, F, e, s, o, fun F1 H1 vs X1 r => by
    obtain ⟨v, ws, rfl, r1, w, us, rfl, r2, rfl⟩ := r
    cases r1; cases r2
    obtain ⟨k1, k2, k3, k4, k5⟩ := k
    refine ⟨f e, g e, rfl, ⟨by omega, by omega, by omega, by omega⟩, q _ F1 H1 X1 (jok_range ?_ ?_)⟩
    · rw [sizeLine_eq]; omega
    · show irange (f e) (g e) = _
      have e1 : (g e - f e).toNat = (f e + ((g e - f e).toNat : Int) - f e).toNat := by omega
      exact congrArg (fun n => (List.range n).map fun k : Nat => f e + (k : Int)) e1⟩
/-- the signs of a text -/
def chars (s : S) : List S := s.map fun c => [c]
theorem is_str {f : E → S} (h : IE X a f oka) : IS X tg a (fun e => chars (f e)) oka :=
  pi_imp (pi_str h) fun σ H R ⟨F0, H0, F, e, s, o, q⟩ => ⟨F0, H0, F, e, s, o, fun F1 H1 x X1 r => by
    obtain ⟨rfl, z⟩ := r
    refine ⟨_, rfl, q _ F1 H1 X1 ⟨by unfold chars; rw [List.length_map]; exact z.len, fun i F H hb hs => ⟨fun x hx => ?_, fun hi => ?_⟩⟩⟩
    · unfold chars at hx
      rw [List.getElem?_map] at hx
      cases hc : (f e)[i]? with
      | none => rw [hc] at hx; cases hx
      | some c =>
        rw [hc] at hx
        cases hx
        have hi : i < (f e).length := (List.getElem?_eq_some_iff.mp hc).1
        refine ⟨show i < (toS (f e)).cps.size from hi, fun v H' y => ?_⟩
        obtain ⟨rfl, c', h1, rfl⟩ := y
        have e2 : (toS (f e)).cps[i]? = (f e)[i]? := by show (f e).toArray[i]? = _; simp
        rw [e2, hc] at h1
        cases h1
        exact ⟨F, Ext.refl hs, rfl, z.sub (by show 1 ≤ sizeLine; decide) fun d hd => by rw [List.mem_singleton.mp hd]; exact List.mem_of_getElem? hc⟩
    · show (toS (f e)).cps.size ≤ i
      unfold chars at hi
      rw [List.length_map] at hi
      show (f e).length ≤ i
      omega⟩
/-- enumerate(xs) -/
def enum {α : Type} (xs : List α) : List (Int × α) := xs.zipIdx.map fun p => ((p.2 : Nat), p.1)
theorem enum_at {xs : List α} {i : Nat} {t : Int × α} (h : (enum xs)[i]? = some t) : t.1 = (i : Nat) ∧ xs[i]? = some t.2 := by
  unfold enum at h
  rw [List.getElem?_map, List.getElem?_zipIdx] at h
  cases hc : xs[i]? with
  | none => rw [hc] at h; cases h
  | some c => rw [hc] at h; cases h; exact ⟨by simp, rfl⟩
theorem enum_len (xs : List α) : (enum xs).length = xs.length := by unfold enum; rw [List.length_map, List.length_zipIdx]
theorem is_enum {k : Nat} {elts : List Expr} {f : E → List α} (ha : IE X a f oka) (hm : X.mg "enumerate" = none) (hg : Gl X "enumerate" := by rfl) (hs : starEach [a] X.env = [(false, eval a X.env)] := by rfl) :
    IS X (.Tuple elts k p2s) (.Call (.Name "enumerate" p1s) [a] [] pos) (fun e => enum (f e)) oka :=
  pi_imp (pi_enum hg hm (ia_one ha hs) hs) fun σ H R ⟨F0, H0, F, e, s, o, q⟩ => ⟨F0, H0, F, e, s, o, fun F1 H1 vs X1 r => by
    obtain ⟨v, ws, rfl, ⟨p, us, rfl, hp, z, rr⟩, rfl⟩ := r
    refine ⟨p, us, rfl, SqL.of (X1.fh _ _ hp), q _ F1 H1 X1 ⟨by rw [enum_len, ← rr.length]; exact z, fun i F H hb hs => ⟨fun x hx => ?_, fun hi => ?_⟩⟩⟩
    · obtain ⟨h1, h2⟩ := enum_at hx
      obtain ⟨v, hv, rv⟩ := reps_of rr h2
      have hq := SqL.of (K := X.K) (hs _ _ (hb _ _ hp))
      refine ⟨⟨us, v, hq, hv⟩, fun v' H' y => ?_⟩
      obtain ⟨T, x', rfl, hT, rfl, y⟩ := y
      have := y us hq
      rw [hv] at this; cases this
      have ff := hs.free hT
      refine ⟨_, (Ext.refl hs).new hT, T, _, _, rfl, upd_same, ?_, Enc.mono (hb.trans (same_new ff)) rv⟩
      rw [h1]; rfl
    · exact ⟨us, SqL.of (hs _ _ (hb _ _ hp)), by rw [hi, enum_len, rr.length]; exact Nat.le_refl _⟩⟩
end

/-! ## targets -/
theorem wipe_set {σ : L2.St} {i : Nat} {x : Option V} : ∀ {ws : List Nat}, i ∈ ws → wipe (σ.set i x) ws = wipe σ ws
  | [], h => nomatch h
  | w :: ws, h => by
    have com : ∀ vs : List Nat, i ∉ vs → wipe (σ.set i x) vs = (wipe σ vs).set i x := by
      intro vs
      induction vs with
      | nil => intro _; rfl
      | cons v vs ih =>
        intro hn
        show (wipe (σ.set i x) vs).set v none = ((wipe σ vs).set v none).set i x
        rw [ih fun z => hn (List.mem_cons_of_mem _ z)]
        exact List.set_comm _ _ (fun e => hn (by rw [e]; exact List.mem_cons_self))
    show (wipe (σ.set i x) ws).set w none = (wipe σ ws).set w none
    by_cases hw : i ∈ ws
    · rw [wipe_set hw]
    · have e : i = w := by
        rcases List.mem_cons.mp h with e | e
        · exact e
        · exact absurd e hw
      subst e
      rw [com ws hw, List.set_set]
theorem wipe_idem {σ : L2.St} : ∀ vs : List Nat, ∀ ws : List Nat, (∀ i ∈ vs, i ∈ ws) → wipe (wipe σ vs) ws = wipe σ ws
  | [], _, _ => rfl
  | v :: vs, ws, h => by
    show wipe ((wipe σ vs).set v none) ws = _
    rw [wipe_set (h v List.mem_cons_self), wipe_idem vs ws fun i hi => h i (List.mem_cons_of_mem _ hi)]
structure Pat (g : TG) (E α E' : Type) [ES E] [Enc α] [ES E'] (put : E → α → E') (vs : List Nat) : Prop where
  run : ∀ {F0 H0 F H : Hp} {σ : L2.St} {e : E} {v : V} {a : α} {Q : L2.St → Hp → Prop}, SR F0 H0 F H σ e → rep F v a → (∀ σ', (∀ F2 H2, SR F0 H0 F2 H2 σ e → Same F F2 → SR F0 H0 F2 H2 σ' (put e a)) → (∀ ws, (∀ i ∈ vs, i ∈ ws) → wipe σ' ws = wipe σ ws) → Q σ' H) → g v σ H Q
theorem pat1 {α E' : Type} [Enc α] [ES E'] (q : Put E α E') : Pat (gName q.i) E α E' q.put [q.i] :=
  ⟨fun s r h => h _ (fun F2 H2 s2 m => s2.put q (Enc.mono m r)) fun ws hw => wipe_set (hw _ List.mem_cons_self)⟩
theorem pat2 {α β E1 E2 : Type} [Enc α] [Enc β] [ES E1] [ES E2] {K : PySem.W.Frag} {g1 g2 : TG} {f1 : E → α → E1} {f2 : E1 → β → E2} {v1 v2 : List Nat} (a : Pat g1 E α E1 f1 v1) (b : Pat g2 E1 β E2 f2 v2) :
    Pat (gTup K 2 (gCons g1 (gCons g2 gNil))) E (α × β) E2 (fun e t => f2 (f1 e t.1) t.2) (v1 ++ v2) :=
  ⟨fun {F0 H0 F H σ e v t Q} s r h => by
    obtain ⟨p, x, y, rfl, hp, rx, ry⟩ := r
    refine ⟨p, [x, y], rfl, SqT.of (s.ext.fh _ _ hp), rfl, x, [y], rfl, a.run s rx fun σ1 s1 w1 => ⟨y, [], rfl, b.run (s1 F H s (Same.refl _)) ry fun σ2 s2 w2 => ⟨rfl, h σ2 (fun F2 H2 sx m => s2 F2 H2 (s1 F2 H2 sx m) m) fun ws hw => ?_⟩⟩⟩
    rw [w2 ws fun i hi => hw i (List.mem_append_right _ hi), w1 ws fun i hi => hw i (List.mem_append_left _ hi)]⟩
theorem pat3 {α β γ E1 E2 E3 : Type} [Enc α] [Enc β] [Enc γ] [ES E1] [ES E2] [ES E3] {K : PySem.W.Frag} {g1 g2 g3 : TG} {f1 : E → α → E1} {f2 : E1 → β → E2} {f3 : E2 → γ → E3} {v1 v2 v3 : List Nat} (a : Pat g1 E α E1 f1 v1) (b : Pat g2 E1 β E2 f2 v2) (c : Pat g3 E2 γ E3 f3 v3) :
    Pat (gTup K 3 (gCons g1 (gCons g2 (gCons g3 gNil)))) E (T3 α β γ) E3 (fun e t => f3 (f2 (f1 e t.a) t.b) t.c) (v1 ++ (v2 ++ v3)) :=
  ⟨fun {F0 H0 F H σ e v t Q} s r h => by
    obtain ⟨p, x, y, z, rfl, hp, rx, ry, rz⟩ := r
    refine ⟨p, [x, y, z], rfl, SqT.of (s.ext.fh _ _ hp), rfl, x, [y, z], rfl, a.run s rx fun σ1 s1 w1 => ⟨y, [z], rfl, b.run (s1 F H s (Same.refl _)) ry fun σ2 s2 w2 => ⟨z, [], rfl, c.run (s2 F H (s1 F H s (Same.refl _)) (Same.refl _)) rz fun σ3 s3 w3 => ⟨rfl, h σ3 (fun F2 H2 sx m => s3 F2 H2 (s2 F2 H2 (s1 F2 H2 sx m) m) m) fun ws hw => ?_⟩⟩⟩⟩
    rw [w3 ws fun i hi => hw i (List.mem_append_right _ (List.mem_append_right _ hi)), w2 ws fun i hi => hw i (List.mem_append_right _ (List.mem_append_left _ hi)), w1 ws fun i hi => hw i (List.mem_append_left _ hi)]⟩

/-- slots forgotten -/
structure Nn (E E' : Type) [ES E] [ES E'] where
  i : Nat
  w : E → E'
  ok : ∀ {F H : Hp} {os : List Addr} {σ : L2.St} {e : E}, ES.rep F H os σ e → ∃ os', os'.Sublist os ∧ ES.rep F H os' (σ.set i none) (w e)
@[reducible] def n0 {T E : Type} [SK T] [ES E] : Nn (T × E) (No × E) := ⟨0, fun e => (⟨⟩, e.2), fun r => by
  obtain ⟨x, σ', a, b, e1, e2, ra, rb⟩ := r
  subst e1; subst e2
  exact ⟨b, List.sublist_append_right _ _, none, σ', [], b, rfl, rfl, rfl, rb⟩⟩
@[reducible] def nS {T E E' : Type} [SK T] [ES E] [ES E'] (n : Nn E E') : Nn (T × E) (T × E') := ⟨n.i + 1, fun e => (e.1, n.w e.2), fun r => by
  obtain ⟨x, σ', a, b, e1, e2, ra, rb⟩ := r
  subst e1; subst e2
  obtain ⟨os', sl, r'⟩ := n.ok rb
  exact ⟨a ++ os', List.Sublist.append (List.Sublist.refl _) sl, x, _, a, os', rfl, rfl, ra, r'⟩⟩
structure Wp (E E' : Type) [ES E] [ES E'] (vs : List Nat) where
  w : E → E'
  ok : ∀ {F H : Hp} {os : List Addr} {σ : L2.St} {e : E}, ES.rep F H os σ e → ∃ os', os'.Sublist os ∧ ES.rep F H os' (wipe σ vs) (w e)
@[reducible] def wp0 : Wp E E [] := ⟨fun e => e, fun r => ⟨_, List.Sublist.refl _, r⟩⟩
@[reducible] def wpS {E1 E2 : Type} [ES E1] [ES E2] {vs : List Nat} (n : Nn E1 E2) (w : Wp E E1 vs) : Wp E E2 (n.i :: vs) := ⟨fun e => n.w (w.w e), fun r => by
  obtain ⟨o1, s1, r1⟩ := w.ok r
  obtain ⟨o2, s2, r2⟩ := n.ok r1
  exact ⟨o2, s2.trans s1, r2⟩⟩
theorem SR.wipe {E' : Type} [ES E'] {vs : List Nat} (w : Wp E E' vs) {F0 H0 F H : Hp} {σ : L2.St} {e : E} (s : SR F0 H0 F H σ e) : SR F0 H0 F H (L2.wipe σ vs) (w.w e) := by
  obtain ⟨os, nd, fr, r⟩ := s.st
  obtain ⟨os', sl, r'⟩ := w.ok r
  exact ⟨s.ext, os', nd.sublist sl, fun p hp => fr p (sl.subset hp), r'⟩

/-! ## comprehensions -/
section
variable {α β : Type} [Enc α] [Enc β] {E1 E2 : Type} [ES E1] [ES E2]
theorem reps_snoc {F : Hp} {vs : List V} {xs : List α} {v : V} {x : α} (r : Reps F vs xs) (h : rep F v x) : Reps F (vs ++ [v]) (xs ++ [x]) := reps_append r (.cons h .nil)
theorem take_succ_of {xs : List α} {i : Nat} {x : α} (h : xs[i]? = some x) : xs.take (i + 1) = xs.take i ++ [x] := by
  rw [List.take_add_one, h]; rfl
theorem Ext.redo {F H F' H' : Hp} {p : Addr} {o : HO} (x : Ext F H F' H') (hp : H p = none) (fp : F' p = none) : Ext F H F' (upd H' p o) :=
  ⟨x.ff, fun b y e => by rw [upd_ne (ne_of_none e hp)]; exact x.hh _ _ e, fun b y e => by rw [upd_ne (ne_of_none e fp)]; exact x.fh _ _ e, x.nw⟩
/-- a comprehension's reading -/
theorem lc_read {vs : List Nat} {src : E → List α} {oks : E → Prop} {wp : Wp E E1 vs} {g : TG} {put : E1 → α → E2} {us : List Nat} (pt : Pat g E1 α E2 put us) (hus : ∀ i ∈ us, i ∈ vs) {c : E2 → Bool} {okc : E2 → Prop} {f : E2 → β} {okf : E2 → Prop} {σ : L2.St} {H : Hp} {Q : VK}
    (h : tO (fun e => ((src e).filter fun a => c (put (wp.w e) a)).map fun a => f (put (wp.w e) a)) (fun e => oks e ∧ ∀ a ∈ src e, okc (put (wp.w e) a) ∧ (c (put (wp.w e) a) = true → okf (put (wp.w e) a))) σ H Q) :
    tLc (tS src oks) g (tT c okc) (tE f okf) vs σ H Q := by
  obtain ⟨F0, H0, F, e, s, ⟨o1, o2⟩, q⟩ := h
  refine ⟨F0, H0, F, e, s, o1, fun J F1 H1 X1 jk D hD => ?_⟩
  have fD : F1 D = none := X1.fh.free hD
  refine ⟨fun i m Hc => m = (src e).length - i ∧ i ≤ (src e).length ∧ ∃ Fc ws, Ext F1 H1 Fc Hc ∧ Fc D = none ∧ Hc D = some (.lst ws) ∧ ws.length ≤ i ∧ Reps Fc ws ((((src e).take i).filter fun a => c (put (wp.w e) a)).map fun a => f (put (wp.w e) a)),
    ⟨_, rfl, Nat.zero_le _, F1, [], (Ext.refl X1.fh).newO hD, fD, upd_same, Nat.le_refl _, by simpa using Paired.nil⟩, ?_⟩
  rintro i m Hc ⟨rfl, hi, Fc, ws, Xc, fc, hc, zl, rr⟩
  by_cases hlt : i < (src e).length
  · refine .inr ?_
    have hx : (src e)[i]? = some (src e)[i] := List.getElem?_eq_getElem hlt
    obtain ⟨go, yld⟩ := (jk.at' i Fc Hc Xc.ff Xc.fh).1 _ hx
    refine ⟨go, fun H' => ∃ Fn ws, Ext F1 H1 Fn H' ∧ Fn D = none ∧ H' D = some (.lst ws) ∧ ws.length ≤ i + 1 ∧ Reps Fn ws ((((src e).take (i + 1)).filter fun a => c (put (wp.w e) a)).map fun a => f (put (wp.w e) a)),
      fun H' ⟨Fn, ws', a1, a2, a3, a4, a5⟩ => ⟨(src e).length - (i + 1), by omega, rfl, hlt, Fn, ws', a1, a2, a3, a4, a5⟩, fun v H' hy => ?_⟩
    obtain ⟨F2, X2, rv⟩ := yld v H' hy
    have keep : ∀ {F' H' : Hp}, Ext Fc Hc F' H' → F' D = none ∧ H' D = some (.lst ws) := fun {F' H'} x => ⟨(by
      cases y : F' D with
      | none => rfl
      | some o =>
        have z := x.nw D fc (by rw [y]; exact Option.some_ne_none _)
        rw [hc] at z
        cases z), x.hh _ _ hc⟩
    have S2 : SR F0 H0 F2 H' (L2.wipe σ vs) (wp.w e) := ((s.more X1).more (Xc.trans X2)).wipe wp
    refine pt.run S2 rv fun σ' S3' hw => ?_
    have S3 := S3' F2 H' S2 (Same.refl _)
    refine ⟨?_, F0, H0, F2, _, S3, (o2 _ (List.mem_of_getElem? hx)).1, fun F3 H3 X3 => ?_⟩
    · rw [hw vs hus, wipe_idem vs vs fun _ h => h]
    · have tk := take_succ_of (α := α) hx
      cases hb : c (put (wp.w e) (src e)[i]) with
      | true =>
        refine iteT ⟨F0, H0, F3, _, S3.more X3, (o2 _ (List.mem_of_getElem? hx)).2 hb, fun F4 H4 y X4 ry => ?_⟩
        have X24 := X2.trans (X3.trans X4)
        obtain ⟨k1, k2⟩ := keep X24
        refine ⟨ws, k2, Nat.lt_of_le_of_lt zl (Nat.lt_of_lt_of_le hlt jk.sz), F4, ws ++ [y], (Xc.trans X24).redo hD k1, k1, upd_same, by simp; omega, ?_⟩
        rw [tk, List.filter_append, List.map_append]
        refine reps_append (rr.mono X24.ff) ?_
        simp only [List.filter_cons, List.filter_nil, hb, if_true, List.map_cons, List.map_nil]
        exact .cons ry .nil
      | false =>
        have X23 := X2.trans X3
        obtain ⟨k1, k2⟩ := keep X23
        refine iteF ⟨F3, ws, Xc.trans X23, k1, k2, by omega, ?_⟩
        rw [tk, List.filter_append, List.map_append]
        simp only [List.filter_cons, List.filter_nil, hb, Bool.false_eq_true, if_false, List.map_nil, List.append_nil]
        exact rr.mono X23.ff
  · have e1 : i = (src e).length := by omega
    refine .inl ⟨(jk.at' i Fc Hc Xc.ff Xc.fh).2 e1, ?_⟩
    rw [e1, List.take_length] at rr
    exact q Fc Hc D ws (X1.trans Xc) (X1.hh.free hD) fc hc (Nat.le_trans zl (by rw [e1]; exact jk.sz)) rr
/-- the test that is always passed -/
theorem its_nil : PTs X [] (tT (fun _ : E => true) okT) := ⟨fun pins s σ H Q I ⟨F0, H0, F, e, sr, _, q⟩ => pts_nil.run pins s σ H Q I (q F H (Ext.refl sr.ext.fh))⟩
theorem its_one {a : Expr} {c : E → Bool} {ok : E → Prop} (h : IT X a c ok) : PTs X [a] (tT c ok) := pts_one h
end
end PL
set_option Elab.async false
set_option linter.all false
set_option maxRecDepth 100000
/-! PL6: statements, defs. -/
namespace PL
open PySem PySem.Spec PyProof.Rows L2
variable {X : Cx} {E : Type} [ES E] {pos p0s p1s p2s : Pos}

/-! ## comprehensions as expressions -/
section
variable {α β : Type} [Enc α] [Enc β] {E1 E2 : Type} [ES E1] [ES E2]
theorem io_lc {elt tg iter : Expr} {ifs : List Expr} {scope : Scope} {own : List (Str × Nat)} {src : E → List α} {oks : E → Prop} {wp : Wp E E1 (own.map (·.2))} {g : TG} {put : E1 → α → E2} {us : List Nat} {c : E2 → Bool} {okc : E2 → Prop} {f : E2 → β} {okf : E2 → Prop}
    (hc : X.calm = true) (hN : X.N.Nodup) (hi : IS X tg iter src oks) (ok : blkC X.N X.env.scope scope own = true) (pt : Pat g E1 α E2 put us) (hus : ∀ i ∈ us, i ∈ own.map (·.2))
    (hg : ∀ (s : Shared) (H : Hp) (C : Addr) (cl : List (Str × Addr)) (fp : List Addr), PG (X.blk s H scope (compEnvC scope cl C X.env) fp) tg g)
    (ht : ∀ (s : Shared) (H : Hp) (C : Addr) (cl : List (Str × Addr)) (fp : List Addr), PTs (X.blk s H scope (compEnvC scope cl C X.env) fp) ifs (tT c okc))
    (he : ∀ (s : Shared) (H : Hp) (C : Addr) (cl : List (Str × Addr)) (fp : List Addr), IE (X.blk s H scope (compEnvC scope cl C X.env) fp) elt f okf) (hs : ∀ x, foldedSetIterable iter X.env x = pure x := by intro _; rfl) :
    IO X (.ListComp elt [⟨tg, iter, ifs, 0⟩] scope pos) (fun e => ((src e).filter fun a => c (put (wp.w e) a)).map fun a => f (put (wp.w e) a)) (fun e => oks e ∧ ∀ a ∈ src e, okc (put (wp.w e) a) ∧ (c (put (wp.w e) a) = true → okf (put (wp.w e) a))) :=
  pe_imp (pe_lc hc hN hi (blkOk_by ok) hg ht he hs) fun σ H Q h => lc_read pt hus h
/-- without a test -/
theorem io_lm {elt tg iter : Expr} {scope : Scope} {own : List (Str × Nat)} {src : E → List α} {oks : E → Prop} {wp : Wp E E1 (own.map (·.2))} {g : TG} {put : E1 → α → E2} {us : List Nat} {f : E2 → β} {okf : E2 → Prop}
    (hc : X.calm = true) (hN : X.N.Nodup) (hi : IS X tg iter src oks) (ok : blkC X.N X.env.scope scope own = true) (pt : Pat g E1 α E2 put us) (hus : ∀ i ∈ us, i ∈ own.map (·.2))
    (hg : ∀ (s : Shared) (H : Hp) (C : Addr) (cl : List (Str × Addr)) (fp : List Addr), PG (X.blk s H scope (compEnvC scope cl C X.env) fp) tg g)
    (he : ∀ (s : Shared) (H : Hp) (C : Addr) (cl : List (Str × Addr)) (fp : List Addr), IE (X.blk s H scope (compEnvC scope cl C X.env) fp) elt f okf) (hs : ∀ x, foldedSetIterable iter X.env x = pure x := by intro _; rfl) :
    IO X (.ListComp elt [⟨tg, iter, [], 0⟩] scope pos) (fun e => (src e).map fun a => f (put (wp.w e) a)) (fun e => oks e ∧ ∀ a ∈ src e, okf (put (wp.w e) a)) :=
  pe_imp (io_lc (c := fun _ => true) (okc := okT) (wp := wp) hc hN hi ok pt hus hg (fun _ _ _ _ _ => its_nil) he hs) fun σ H Q ⟨F0, H0, F, e, s, ⟨o1, o2⟩, q⟩ => ⟨F0, H0, F, e, s, ⟨o1, fun a ha => ⟨trivial, fun _ => o2 a ha⟩⟩, by
    intro F' H' p vs x hp fp h' z r
    have e1 : (src e).filter (fun _ => true) = src e := List.filter_eq_self.mpr (fun _ _ => rfl)
    have r' : Reps F' vs (((src e).filter fun _ => true).map fun a => f (put (wp.w e) a)) := r
    rw [e1] at r'
    exact q F' H' p vs x hp fp h' z r'⟩
end

/-! ## statements -/
/-- what follows: behind the statement, behind the loop, in the loop's next turn -/
structure K3 (E' EB EC R : Type) where
  nx : E' → R
  bk : EB → R
  ct : EC → R
structure P3 (E' EB EC : Type) where
  nx : E' → Prop
  bk : EB → Prop
  ct : EC → Prop
/-- how what is handed back stands -/
structure RetK (β : Type) where
  rt : Hp → Hp → Hp → V → β → Prop
  xq : Hp → Hp → β → Prop
def retF {β : Type} [Enc β] : RetK β := ⟨fun _ F' _ v b => rep F' v b, fun _ _ _ => True⟩
def retO {β : Type} [Enc β] : RetK (List β) := ⟨fun H0 F' H' v b => ∃ p vs, v = .ref p ∧ H0 p = none ∧ F' p = none ∧ H' p = some (.lst vs) ∧ vs.length ≤ sizeLine ∧ Reps F' vs b, fun _ _ _ => True⟩
section
variable {E1 E2 E' EB EC β : Type} [ES E1] [ES E2] [ES E'] [ES EB] [ES EC] {RR : RetK β}
def sS (RR : RetK β) (g : K3 E' EB EC β → E → β) (ok : P3 E' EB EC → E → Prop) : TS := fun D σ H => ∃ (F0 H0 F : Hp) (e : E) (K : K3 E' EB EC β) (KO : P3 E' EB EC) (b : β), SR F0 H0 F H σ e ∧ ok KO e ∧ g K e = b ∧
  (∀ F' H' σ' e', SR F0 H0 F' H' σ' e' → Same F F' → KO.nx e' → K.nx e' = b → D.nx σ' H') ∧
  (∀ F' H' σ' e', SR F0 H0 F' H' σ' e' → Same F F' → KO.bk e' → K.bk e' = b → D.bk σ' H') ∧
  (∀ F' H' σ' e', SR F0 H0 F' H' σ' e' → Same F F' → KO.ct e' → K.ct e' = b → D.ct σ' H') ∧
  ((∀ F' H' v, Ext F0 H0 F' H' → RR.rt H0 F' H' v b → D.rt v H') ∧ RR.xq F0 H0 b)
abbrev SS (X : Cx) (RR : RetK β) (st : Stmt) (g : K3 E' EB EC β → E → β) (ok : P3 E' EB EC → E → Prop) : Prop := PS X st (sS RR g ok)
abbrev SSs (X : Cx) (RR : RetK β) (st : List Stmt) (g : K3 E' EB EC β → E → β) (ok : P3 E' EB EC → E → Prop) : Prop := PSs X st (sS RR g ok)

theorem ss_end (t : Gh E E') : SSs (EB := EB) (EC := EC) X RR [] (fun K e => K.nx (t.w e)) (fun K e => K.nx (t.w e)) :=
  pss_imp pss_nil fun D σ H ⟨F0, H0, F, e, K, KO, b, s, o, hb, q, _⟩ => by
    obtain ⟨F', sm, s'⟩ := t.ok s
    exact q F' H σ _ s' sm o hb
theorem ss_cons {st : Stmt} {rest : List Stmt} {g1 : K3 E1 EB EC β → E → β} {ok1 : P3 E1 EB EC → E → Prop} {g2 : K3 E' EB EC β → E1 → β} {ok2 : P3 E' EB EC → E1 → Prop} (h1 : SS X RR st g1 ok1) (h2 : SSs X RR rest g2 ok2) :
    SSs X RR (st :: rest) (fun K e => g1 ⟨g2 K, K.bk, K.ct⟩ e) (fun K e => ok1 ⟨ok2 K, K.bk, K.ct⟩ e) :=
  pss_imp (pss_cons h1 h2) fun D σ H ⟨F0, H0, F, e, K, KO, b, s, o, hb, q1, q2, q3, q4⟩ =>
    ⟨F0, H0, F, e, ⟨g2 K, K.bk, K.ct⟩, ⟨ok2 KO, KO.bk, KO.ct⟩, b, s, o, hb, fun F' H' σ' e' s' sm o' hb' => ⟨F0, H0, F', e', K, KO, b, s', o', hb', fun F2 H2 σ2 e2 s2 m2 => q1 F2 H2 σ2 e2 s2 (sm.trans m2), fun F2 H2 σ2 e2 s2 m2 => q2 F2 H2 σ2 e2 s2 (sm.trans m2), fun F2 H2 σ2 e2 s2 m2 => q3 F2 H2 σ2 e2 s2 (sm.trans m2), q4⟩, q2, q3, q4⟩
/-- the last statement of a block -/
theorem ss_last {st : Stmt} {g : K3 E' EB EC β → E → β} {ok : P3 E' EB EC → E → Prop} (h : SS X RR st g ok) : SSs X RR [st] g ok := pss_one h
/-- a step of the state ahead of the rest -/
theorem ss_gh {sts : List Stmt} (t : Gh E E1) {g : K3 E' EB EC β → E1 → β} {ok : P3 E' EB EC → E1 → Prop} (h : SSs X RR sts g ok) : SSs X RR sts (fun K e => g K (t.w e)) (fun K e => ok K (t.w e)) :=
  pss_imp h fun D σ H ⟨F0, H0, F, e, K, KO, b, s, o, hb, q1, q2, q3, q4⟩ => by
    obtain ⟨F', sm, s'⟩ := t.ok s
    exact ⟨F0, H0, F', t.w e, K, KO, b, s', o, hb, fun F2 H2 σ2 e2 s2 m2 => q1 F2 H2 σ2 e2 s2 (sm.trans m2), fun F2 H2 σ2 e2 s2 m2 => q2 F2 H2 σ2 e2 s2 (sm.trans m2), fun F2 H2 σ2 e2 s2 m2 => q3 F2 H2 σ2 e2 s2 (sm.trans m2), q4⟩
theorem s_gh {st : Stmt} (t : Gh E E1) {g : K3 E' EB EC β → E1 → β} {ok : P3 E' EB EC → E1 → Prop} (h : SS X RR st g ok) : SS X RR st (fun K e => g K (t.w e)) (fun K e => ok K (t.w e)) :=
  ps_imp h fun D σ H ⟨F0, H0, F, e, K, KO, b, s, o, hb, q1, q2, q3, q4⟩ => by
    obtain ⟨F', sm, s'⟩ := t.ok s
    exact ⟨F0, H0, F', t.w e, K, KO, b, s', o, hb, fun F2 H2 σ2 e2 s2 m2 => q1 F2 H2 σ2 e2 s2 (sm.trans m2), fun F2 H2 σ2 e2 s2 m2 => q2 F2 H2 σ2 e2 s2 (sm.trans m2), fun F2 H2 σ2 e2 s2 m2 => q3 F2 H2 σ2 e2 s2 (sm.trans m2), q4⟩
theorem s_doc {x : Str} {j : Nat} : SS (EB := EB) (EC := EC) X RR (.Expr (.Constant (.str x) j p1s) pos) (fun K (e : E) => K.nx e) (fun K e => K.nx e) :=
  ps_imp ps_doc fun D σ H ⟨F0, H0, F, e, K, KO, b, s, o, hb, q, _⟩ => q F H σ e s (Same.refl _) o hb
theorem s_pass : SS (EB := EB) (EC := EC) X RR (.Pass pos) (fun K (e : E) => K.nx e) (fun K e => K.nx e) :=
  ps_imp ps_pass fun D σ H ⟨F0, H0, F, e, K, KO, b, s, o, hb, q, _⟩ => q F H σ e s (Same.refl _) o hb
theorem s_brk (t : Gh E EB) : SS (E' := E') (EC := EC) X RR (.Break pos) (fun K e => K.bk (t.w e)) (fun K e => K.bk (t.w e)) :=
  ps_imp ps_break fun D σ H ⟨F0, H0, F, e, K, KO, b, s, o, hb, _, q, _⟩ => by
    obtain ⟨F', sm, s'⟩ := t.ok s
    exact q F' H σ _ s' sm o hb
theorem s_cont (t : Gh E EC) : SS (E' := E') (EB := EB) X RR (.Continue pos) (fun K e => K.ct (t.w e)) (fun K e => K.ct (t.w e)) :=
  ps_imp ps_continue fun D σ H ⟨F0, H0, F, e, K, KO, b, s, o, hb, _, _, q, _⟩ => by
    obtain ⟨F', sm, s'⟩ := t.ok s
    exact q F' H σ _ s' sm o hb
theorem s_set {α : Type} [Enc α] (q : Put E α E') {x : Str} {a : Expr} {f : E → α} {ok : E → Prop} (hN : X.N.Nodup) (h : IE X a f ok) (hi : X.N[q.i]? = some x := by rfl) (hx : Loc X.env.scope x := by first | exact Or.inl rfl | exact Or.inr rfl) (hs : swapsWith a (some (.Name x p1s)) pos.line X.env = pure false := by rfl)
    (hf : X.fn x = true ∨ X.env.scope.names.lookup x = some .local := by first | exact .inl rfl | exact .inr rfl) : SS (EB := EB) (EC := EC) X RR (.Assign [.Name x p1s] a pos) (fun K e => K.nx (q.put e (f e))) (fun K e => ok e ∧ K.nx (q.put e (f e))) :=
  ps_imp (ps_set hN hi hx h hs hf) fun D σ H ⟨F0, H0, F, e, K, KO, b, s, ⟨o1, o2⟩, hb, k, _⟩ => ⟨F0, H0, F, e, s, o1, fun F1 H1 v X1 r => k F1 H1 _ _ ((s.more X1).put q r) X1.ff o2 hb⟩
theorem s_setO {α : Type} [Enc α] (q : Put E (Ow α) E') {x : Str} {a : Expr} {f : E → List α} {ok : E → Prop} (hN : X.N.Nodup) (h : IO X a f ok) (hi : X.N[q.i]? = some x := by rfl) (hx : Loc X.env.scope x := by first | exact Or.inl rfl | exact Or.inr rfl) (hs : swapsWith a (some (.Name x p1s)) pos.line X.env = pure false := by rfl)
    (hf : X.fn x = true ∨ X.env.scope.names.lookup x = some .local := by first | exact .inl rfl | exact .inr rfl) : SS (EB := EB) (EC := EC) X RR (.Assign [.Name x p1s] a pos) (fun K e => K.nx (q.put e ⟨f e⟩)) (fun K e => ok e ∧ K.nx (q.put e ⟨f e⟩)) :=
  ps_imp (ps_set hN hi hx h hs hf) fun D σ H ⟨F0, H0, F, e, K, KO, b, s, ⟨o1, o2⟩, hb, k, _⟩ => ⟨F0, H0, F, e, s, o1, fun F1 H1 p vs X1 hp fp h' z r => k F1 H1 _ _ (s.putO q X1 hp fp h' z r) X1.ff o2 hb⟩
/-- targets of any form -/
theorem s_pat {α : Type} [Enc α] {tg a : Expr} {g : TG} {put : E → α → E'} {us : List Nat} {f : E → α} {ok : E → Prop} (pt : Pat g E α E' put us) (hg : PG X tg g) (h : IE X a f ok) (hs : swapsWithSole [tg] a pos.line X.env = pure false := by rfl) (hw : swappedStores [tg] a X.env = pure none := by rfl)
    (h1 : (assignEach [tg] X.env).map (·.2) = [assign tg X.env] := by rfl) : SS (EB := EB) (EC := EC) X RR (.Assign [tg] a pos) (fun K e => K.nx (put e (f e))) (fun K e => ok e ∧ K.nx (put e (f e))) :=
  ps_imp (ps_asg h hg hs hw h1) fun D σ H ⟨F0, H0, F, e, K, KO, b, s, ⟨o1, o2⟩, hb, k, _⟩ => ⟨F0, H0, F, e, s, o1, fun F1 H1 v X1 r => pt.run (s.more X1) r fun σ' s' _ => k F1 H1 σ' _ (s' F1 H1 (s.more X1) (Same.refl _)) X1.ff o2 hb⟩
theorem s_expr {α : Type} [Enc α] {a : Expr} {f : E → α} {ok : E → Prop} (h : IE X a f ok) (hs : swapsWith a none pos.line X.env = pure false := by rfl) : SS (EB := EB) (EC := EC) X RR (.Expr a pos) (fun K e => K.nx e) (fun K e => ok e ∧ K.nx e) :=
  ps_imp (ps_expr h hs) fun D σ H ⟨F0, H0, F, e, K, KO, b, s, ⟨o1, o2⟩, hb, k, _⟩ => ⟨F0, H0, F, e, s, o1, fun F1 H1 v X1 r => k F1 H1 σ e (s.more X1) X1.ff o2 hb⟩
theorem s_ret {β : Type} [Enc β] {a : Expr} {f : E → β} {ok : E → Prop} (h : IE X a f ok) : SS (E' := E') (EB := EB) (EC := EC) X retF (.Return (some a) pos) (fun _ e => f e) (fun _ e => ok e) :=
  ps_imp (ps_ret h) fun D σ H ⟨F0, H0, F, e, K, KO, b, s, o, hb, _, _, _, q, _⟩ => ⟨F0, H0, F, e, s, o, fun F1 H1 v X1 r => q F1 H1 v (s.ext.trans X1) (by rw [← hb]; exact r)⟩
theorem s_retO {β : Type} [Enc β] {a : Expr} {f : E → List β} {ok : E → Prop} (h : IO X a f ok) : SS (E' := E') (EB := EB) (EC := EC) X retO (.Return (some a) pos) (fun _ e => f e) (fun _ e => ok e) :=
  ps_imp (ps_ret h) fun D σ H ⟨F0, H0, F, e, K, KO, b, s, o, hb, _, _, _, q, _⟩ => ⟨F0, H0, F, e, s, o, fun F1 H1 p vs X1 hp fp h' z r => q F1 H1 _ (s.ext.trans X1) ⟨p, vs, rfl, s.ext.hh.free hp, fp, h', z, by rw [← hb]; exact r⟩⟩
theorem s_retN : SS (E' := E') (EB := EB) (EC := EC) X retF (.Return none pos) (fun _ (e : E) => ()) okT2 :=
  ps_imp ps_retN fun D σ H ⟨F0, H0, F, e, K, KO, b, s, o, hb, _, _, _, q, _⟩ => q F H .non s.ext rfl
where okT2 : P3 E' EB EC → E → Prop := fun _ _ => True
/-- an own list handed back -/
theorem s_retV {β : Type} [Enc β] (v : VarO E β) {x : Str} (hN : X.N[v.i]? = some x := by rfl) (hv : Vis X.env.scope x := by first | exact Or.inl rfl | exact Or.inr (Or.inl rfl) | exact Or.inr (Or.inr rfl)) (hd : (x == ("__debug__" : Str)) = false := by decide) (hcd : (x == ("__classdict__" : Str)) = false := by decide) :
    SS (E' := E') (EB := EB) (EC := EC) X retO (.Return (some (.Name x p1s)) pos) (fun _ e => v.get e) (fun _ e => True) :=
  ps_imp (ps_ret (pe_var hN hv hd hcd)) fun D σ H ⟨F0, H0, F, e, K, KO, b, s, o, hb, _, _, _, q, _⟩ => by
    obtain ⟨os, nd, fr, r⟩ := s.st
    obtain ⟨p, vs, h1, h2, h3, h4, h5, _⟩ := v.ok nd r
    obtain ⟨fp, h0, _⟩ := fr p h1
    exact ⟨_, h2, q F H _ s.ext ⟨p, vs, rfl, h0, fp, h3, h4, by rw [← hb]; exact h5⟩⟩
theorem s_if {c : Expr} {xs ys : List Stmt} {fc : E → Bool} {okc : E → Prop} {ga gb : K3 E' EB EC β → E → β} {oa ob : P3 E' EB EC → E → Prop} (hc : IT X c fc okc) (ha : SSs X RR xs ga oa) (hb : SSs X RR ys gb ob) :
    SS X RR (.If c xs ys pos) (fun K e => if fc e = true then ga K e else gb K e) (fun K e => okc e ∧ (fc e = true → oa K e) ∧ (fc e = false → ob K e)) :=
  ps_imp (ps_if hc ha hb) fun D σ H ⟨F0, H0, F, e, K, KO, b, s, ⟨o1, o2, o3⟩, hb, q1, q2, q3, q4⟩ => ⟨F0, H0, F, e, s, o1, fun F1 H1 X1 => by
    have go : ∀ {g : K3 E' EB EC β → E → β} {ok : P3 E' EB EC → E → Prop}, ok KO e → g K e = b → sS RR g ok D σ H1 := fun {g ok} o h =>
      ⟨F0, H0, F1, e, K, KO, b, s.more X1, o, h, fun F2 H2 σ2 e2 s2 m2 => q1 F2 H2 σ2 e2 s2 (X1.ff.trans m2), fun F2 H2 σ2 e2 s2 m2 => q2 F2 H2 σ2 e2 s2 (X1.ff.trans m2), fun F2 H2 σ2 e2 s2 m2 => q3 F2 H2 σ2 e2 s2 (X1.ff.trans m2), q4⟩
    cases hf : fc e with
    | true => exact iteT (go (o2 hf) (by simpa [hf] using hb))
    | false => exact iteF (go (o3 hf) (by simpa [hf] using hb))⟩
/-! loops -/
def forC {α R : Type} (put : E → α → E1) (g : K3 E E E R → E1 → R) (k : E → R) : List α → E → R
  | [], e => k e
  | x :: xs, e => g ⟨forC put g k xs, k, forC put g k xs⟩ (put e x)
def forP {α : Type} (put : E → α → E1) (g : P3 E E E → E1 → Prop) (k : E → Prop) : List α → E → Prop
  | [], e => k e
  | x :: xs, e => g ⟨forP put g k xs, k, forP put g k xs⟩ (put e x)
theorem s_for {α : Type} [Enc α] {tg iter : Expr} {body : List Stmt} {src : E → List α} {oks : E → Prop} {g : TG} {put : E → α → E1} {us : List Nat} {gb : K3 E E E β → E1 → β} {ob : P3 E E E → E1 → Prop} (hp : PassesOwn (model X.prog X.w) X.A X.env X.xe) (hc : X.calm = true)
    (hi : IS X tg iter src oks) (pt : Pat g E α E1 put us) (hg : PG X tg g) (hb : SSs X RR body gb ob) (hs : ∀ x, foldedSetIterable iter X.env x = pure x := by intro _; rfl) :
    SS (EB := EB) (EC := EC) X RR (.For tg iter body [] pos) (fun K e => forC put gb K.nx (src e) e) (fun K e => oks e ∧ forP put ob K.nx (src e) e) :=
  ps_imp (ps_for hp hc hi hg hb hs) fun D σ H ⟨F0, H0, F, e, K, KO, b, s, ⟨o1, o2⟩, hb, q1, q2, q3, q4⟩ => ⟨F0, H0, F, e, s, o1, fun J F1 H1 X1 jk => by
    have q1' := fun F' H' σ' e' (s' : SR F0 H0 F' H' σ' e') (m : Same F1 F') => q1 F' H' σ' e' s' (X1.ff.trans m)
    have hb : forC put gb K.nx (src e) e = b := hb
    generalize hxs : src e = xs at o2 hb jk
    refine ⟨fun i m σ H => m = xs.length - i ∧ i ≤ xs.length ∧ ∃ Fc ec, SR F0 H0 Fc H σ ec ∧ Same F1 Fc ∧ forP put ob KO.nx (xs.drop i) ec ∧ forC put gb K.nx (xs.drop i) ec = b,
      ⟨_, rfl, Nat.zero_le _, F1, e, s.more X1, Same.refl _, o2, hb⟩, ?_⟩
    rintro i m σ H ⟨rfl, hi, Fc, ec, sc, mc, oc, bc⟩
    by_cases hlt : i < xs.length
    · refine .inr ?_
      have hx : xs[i]? = some xs[i] := List.getElem?_eq_getElem hlt
      obtain ⟨go, yld⟩ := (jk.at' i Fc H mc sc.ext.fh).1 _ hx
      have hd : xs.drop i = xs[i] :: xs.drop (i + 1) := by rw [List.drop_eq_getElem_cons hlt]
      rw [hd] at oc bc
      refine ⟨go, fun σ' H' => ∃ Fn en, SR F0 H0 Fn H' σ' en ∧ Same F1 Fn ∧ forP put ob KO.nx (xs.drop (i + 1)) en ∧ forC put gb K.nx (xs.drop (i + 1)) en = b, fun σ' H' ⟨Fn, en, a1, a2, a3, a4⟩ => ⟨xs.length - (i + 1), by omega, rfl, hlt, Fn, en, a1, a2, a3, a4⟩, fun v H' hy => ?_⟩
      obtain ⟨F2, X2, rv⟩ := yld v H' hy
      refine pt.run (sc.more X2) rv fun σ' sf _ => ?_
      have s' := sf F2 H' (sc.more X2) (Same.refl _)
      refine ⟨F0, H0, F2, _, ⟨forC put gb K.nx (xs.drop (i + 1)), K.nx, forC put gb K.nx (xs.drop (i + 1))⟩, ⟨forP put ob KO.nx (xs.drop (i + 1)), KO.nx, forP put ob KO.nx (xs.drop (i + 1))⟩, b, s', oc, bc, ?_, ?_, ?_, q4⟩
      · exact fun F' H' σ' e' s' m o h => ⟨F', e', s', (mc.trans X2.ff).trans m, o, h⟩
      · exact fun F' H' σ' e' s' m o h => q1' F' H' σ' e' s' ((mc.trans X2.ff).trans m) o h
      · exact fun F' H' σ' e' s' m o h => ⟨F', e', s', (mc.trans X2.ff).trans m, o, h⟩
    · have e1 : i = xs.length := by omega
      rw [e1, List.drop_length] at oc bc
      exact .inl ⟨(jk.at' i Fc H mc sc.ext.fh).2 e1, q1' Fc H σ ec sc mc oc bc⟩⟩
def whC {R : Type} (c : E → Bool) (g : K3 E E E R → E → R) (k : E → R) : Nat → E → R
  | 0, e => k e
  | n + 1, e => if c e = true then g ⟨whC c g k n, k, whC c g k n⟩ e else k e
def whP (c : E → Bool) (okc : E → Prop) (g : P3 E E E → E → Prop) (k : E → Prop) : Nat → E → Prop
  | 0, e => False
  | n + 1, e => okc e ∧ (c e = true → g ⟨whP c okc g k n, k, whP c okc g k n⟩ e) ∧ (c e = false → k e)
theorem s_while (fuel : E → Nat) {c : Expr} {body : List Stmt} {fc : E → Bool} {okc : E → Prop} {gb : K3 E E E β → E → β} {ob : P3 E E E → E → Prop} (hp : PassesOwn (model X.prog X.w) X.A X.env X.xe) (hc : IT X c fc okc) (hb : SSs X RR body gb ob) :
    SS (EB := EB) (EC := EC) X RR (.While c body [] pos) (fun K e => whC fc gb K.nx (fuel e) e) (fun K e => whP fc okc ob K.nx (fuel e) e) :=
  ps_imp (ps_while hp hc hb) fun D σ H ⟨F0, H0, F, e, K, KO, b, s, o, hb, q1, q2, q3, q4⟩ => by
    refine ⟨fun m σ H => ∃ Fc ec, SR F0 H0 Fc H σ ec ∧ Same F Fc ∧ whP fc okc ob KO.nx m ec ∧ whC fc gb K.nx m ec = b, ⟨_, F, e, s, Same.refl _, o, hb⟩, ?_⟩
    rintro m σ H ⟨Fc, ec, sc, mc, oc, bc⟩
    cases m with
    | zero => exact oc.elim
    | succ n =>
      obtain ⟨o1, o2, o3⟩ := oc
      refine ⟨F0, H0, Fc, ec, sc, o1, fun F1 H1 X1 => ?_⟩
      have mc' := mc.trans X1.ff
      cases hf : fc ec with
      | true =>
        refine iteT ⟨fun σ' H' => ∃ Fn en, SR F0 H0 Fn H' σ' en ∧ Same F Fn ∧ whP fc okc ob KO.nx n en ∧ whC fc gb K.nx n en = b, fun σ' H' ⟨Fn, en, a1, a2, a3, a4⟩ => ⟨n, Nat.lt_succ_self _, Fn, en, a1, a2, a3, a4⟩, ?_⟩
        refine ⟨F0, H0, F1, ec, ⟨whC fc gb K.nx n, K.nx, whC fc gb K.nx n⟩, ⟨whP fc okc ob KO.nx n, KO.nx, whP fc okc ob KO.nx n⟩, b, sc.more X1, o2 hf, ?_, ?_, ?_, ?_, q4⟩
        · rw [← bc]; show _ = if fc ec = true then _ else _; rw [if_pos hf]
        · exact fun F' H' σ' e' s' m o h => ⟨F', e', s', mc'.trans m, o, h⟩
        · exact fun F' H' σ' e' s' m o h => q1 F' H' σ' e' s' (mc'.trans m) o h
        · exact fun F' H' σ' e' s' m o h => ⟨F', e', s', mc'.trans m, o, h⟩
      | false =>
        refine iteF (q1 F1 H1 σ ec (sc.more X1) mc' (o3 hf) ?_)
        rw [← bc]; show _ = if fc ec = true then _ else _; rw [if_neg (by rw [hf]; exact Bool.false_ne_true)]
/-! own lists changed -/
theorem s_append {α : Type} [Enc α] (v : VarO E α) {x : Str} {a : Expr} {f : E → α} {ok : E → Prop} {q1 q2 : Pos} (h : IE X a f ok) (hN : X.N[v.i]? = some x := by rfl) (hv : Vis X.env.scope x := by first | exact Or.inl rfl | exact Or.inr (Or.inl rfl) | exact Or.inr (Or.inr rfl))
    (hd : (x == ("__debug__" : Str)) = false := by decide) (hcd : (x == ("__classdict__" : Str)) = false := by decide) (hbase : attributeBase (.Name x q1) "append" X.env (eval (.Name x q1) X.env) = eval (.Name x q1) X.env := by rfl)
    (hfew : ((backTo p1s (starEach [a] X.env)).all (fun x => !x.1) && (backToKw p1s (keywordEach [] X.env)).all (fun x => x.1.isSome) && decide ([a].length + ([] : List Keyword).length + (if ([] : List Keyword).isEmpty then 0 else 1) < 30)) = true := by rfl)
    (hline : (q2.endLine == p1s.line) = true := by rfl) (hs : starEach [a] X.env = (false, eval a X.env) :: starEach [] X.env := by rfl) (hpl : (backTo p1s (starEach [] X.env)).any (·.1) = false := by rfl)
    (hsw : swapsWith (.Call (.Attribute (.Name x q1) "append" q2) [a] [] p1s) none pos.line X.env = pure false := by rfl) :
    SS (EB := EB) (EC := EC) X RR (.Expr (.Call (.Attribute (.Name x q1) "append" q2) [a] [] p1s) pos) (fun K e => K.nx (v.set e (v.get e ++ [f e]))) (fun K e => ok e ∧ (v.get e).length < sizeLine ∧ K.nx (v.set e (v.get e ++ [f e]))) :=
  ps_imp (ps_expr (pe_bm PySem.F.plainAttrs_list PySem.F.slot_list_append PySem.F.type_list_append mt_append (pe_var hN hv hd hcd) (pa_cons h pa_nil hs) hbase hfew hline hs hpl) hsw) fun D σ H ⟨F0, H0, F, e, K, KO, b, s, ⟨o1, o2, o3⟩, hb, k, _⟩ => by
    obtain ⟨p, vs, h1, h2, h3, h4, h5, _⟩ := s.own v
    refine ⟨_, h1, .inl ⟨rfl, vs, SqL.of h3⟩, F0, H0, F, e, s, o1, fun F1 H1 y X1 r => ?_⟩
    obtain ⟨p', vs', g1, g2, g3, g4, g5, g6⟩ := (s.more X1).own v
    rw [h1] at g1
    cases g1
    have hl : vs'.length < sizeLine := by rw [g5.length]; exact o2
    refine ⟨p, vs', y, rfl, rfl, g3, hl, k F1 _ σ _ (g6 (vs' ++ [y]) _ (by rw [List.length_append]; exact hl) (reps_snoc g5 r)) X1.ff o3 hb⟩
end

/-! ## defs -/
structure Ini (A E : Type) [EA A] [ES E] (N P : Nat) where
  w : A → E
  len : ∀ {F : Hp} {vs : List V} {a : A}, EA.rep F vs a → vs.length = P
  ok : ∀ {F H : Hp} {vs : List V} {a : A}, EA.rep F vs a → ES.rep F H [] (vs.map some ++ List.replicate (N - P) none) (w a)
@[reducible] def ini0 : Ini Unit Unit 0 0 := ⟨fun _ => (), fun h => by cases h; rfl, fun h => by cases h; exact ⟨rfl, rfl⟩⟩
@[reducible] def iniN {E : Type} [ES E] {N : Nat} (t : Ini Unit E N 0) : Ini Unit (No × E) (N + 1) 0 := ⟨fun _ => (⟨⟩, t.w ()), fun h => by cases h; rfl, fun {F H vs a} h => by
  cases h
  exact ⟨none, List.replicate N none, [], [], by rw [Nat.sub_zero]; rfl, rfl, rfl, by simpa using t.ok (F := F) (H := H) (vs := []) (a := ()) rfl⟩⟩
@[reducible] def iniA {α A E : Type} [Enc α] [EA A] [ES E] {N P : Nat} (t : Ini A E N P) : Ini (α × A) (α × E) (N + 1) (P + 1) := ⟨fun a => (a.1, t.w a.2), fun h => by
  obtain ⟨v, ws, rfl, _, r⟩ := h
  rw [List.length_cons, t.len r], fun {F H vs a} h => by
  obtain ⟨v, ws, rfl, rv, r⟩ := h
  have q := t.ok (F := F) (H := H) r
  refine ⟨some v, _, [], [], ?_, rfl, ⟨rfl, v, rfl, rv⟩, q⟩
  rw [Nat.add_sub_add_right]
  rfl⟩
section
variable {P : Program} {w : World} {K : PySem.W.Frag} {mg : Str → Option Value} {base : Heap} {A β : Type} [EA A] [Enc β] {x : Str} {st : Stmt} {f : Addr} {fd : FuncData} {N ps : List Str} {k : Nat}
/-- a def whose every way returns -/
theorem cal_of [Inhabited β] {g : K3 Unit Unit Unit β → E → β} {ok : P3 Unit Unit Unit → E → Prop} (F : Fun K x x st f fd) (hm : mg x = some (.ref f)) (bd : Binds K fd ps []) (S : FnScope N ps (defScope st)) (ini : Ini A E N.length ps.length)
    (hb : ∀ (cdv : Value) (A' : Around) (outer : List Env) (s : Shared) (H : Hp) (E' : XK), Room k (A'.deeper (envOfC x (defScope st) s.heap.objs.size f cdv)) → SSs (cxOf CX0 P w K mg base N x (defScope st) f cdv A' outer s H E').nox retF (defBody st) g ok) :
    Cal P w K mg base (k + 1) x (spP (fun a => g ⟨fun _ => default, fun _ => default, fun _ => default⟩ (ini.w a)) (fun a => ok ⟨fun _ => False, fun _ => False, fun _ => False⟩ (ini.w a))) := by
  refine ⟨f, fd, ps, F.ok S (fun vs H Q E h => ?_) (fun cdv A' outer s H vs Q E hr h => ?_), hm, F.kp, bd⟩
  · obtain ⟨F, a, _, r, _⟩ := h
    exact ini.len r
  · obtain ⟨F, a, hs, r, o, q⟩ := h
    refine ⟨_, hb cdv A' outer s H E hr, F, H, F, ini.w a, ⟨fun _ => default, fun _ => default, fun _ => default⟩, _, _, ⟨Ext.refl hs, [], .nil, (fun _ z => nomatch z), ?_⟩, o, rfl, (fun _ _ _ _ _ _ z => z.elim), (fun _ _ _ _ _ _ z => z.elim), (fun _ _ _ _ _ _ z => z.elim), (fun F' H' v X r => q F' H' v X r), trivial⟩
    have z := ini.ok (F := F) (H := H) r
    unfold L2.start
    rw [ini.len r]
    exact z
theorem cal_ofO {g : K3 Unit Unit Unit (List β) → E → List β} {ok : P3 Unit Unit Unit → E → Prop} (F : Fun K x x st f fd) (hm : mg x = some (.ref f)) (bd : Binds K fd ps []) (S : FnScope N ps (defScope st)) (ini : Ini A E N.length ps.length)
    (hb : ∀ (cdv : Value) (A' : Around) (outer : List Env) (s : Shared) (H : Hp) (E' : XK), Room k (A'.deeper (envOfC x (defScope st) s.heap.objs.size f cdv)) → SSs (cxOf CX0 P w K mg base N x (defScope st) f cdv A' outer s H E').nox retO (defBody st) g ok) :
    Cal P w K mg base (k + 1) x (spO (fun a => g ⟨fun _ => [], fun _ => [], fun _ => []⟩ (ini.w a)) (fun a => ok ⟨fun _ => False, fun _ => False, fun _ => False⟩ (ini.w a))) := by
  refine ⟨f, fd, ps, F.ok S (fun vs H Q E h => ?_) (fun cdv A' outer s H vs Q E hr h => ?_), hm, F.kp, bd⟩
  · obtain ⟨F, a, _, r, _⟩ := h
    exact ini.len r
  · obtain ⟨F, a, hs, r, o, q⟩ := h
    refine ⟨_, hb cdv A' outer s H E hr, F, H, F, ini.w a, ⟨fun _ => [], fun _ => [], fun _ => []⟩, _, _, ⟨Ext.refl hs, [], .nil, (fun _ z => nomatch z), ?_⟩, o, rfl, (fun _ _ _ _ _ _ z => z.elim), (fun _ _ _ _ _ _ z => z.elim), (fun _ _ _ _ _ _ z => z.elim), (fun F' H' v X r => ?_), trivial⟩
    · have z := ini.ok (F := F) (H := H) r
      unfold L2.start
      rw [ini.len r]
      exact z
    · obtain ⟨p, vs', rfl, h0, fp, h', z, rr⟩ := r
      exact q F' H' p vs' X h0 fp h' z rr
/-- a new list, as any list -/
theorem Cal.plain {m : A → List β} {ok : A → Prop} (c : Cal P w K mg base k x (spO m ok)) : Cal P w K mg base k x (spP m ok) := by
  obtain ⟨f, fd, ps, F, h1, h2, h3⟩ := c.ex
  refine ⟨f, fd, ps, F.imp fun vs H Q E h => ?_, h1, h2, h3⟩
  obtain ⟨F, a, hs, r, o, q⟩ := h
  refine ⟨F, a, hs, r, o, fun F' H' p ws X hp fp h' z rr => ?_⟩
  have sm : Same F' (upd F' p (.lst ws)) := same_new fp
  refine q (upd F' p (.lst ws)) H' (.ref p) ⟨X.ff.trans sm, X.hh, fun b y e => ?_, fun b e n => ?_⟩ ⟨p, ws, rfl, upd_same, z, rr.mono sm⟩
  · by_cases hb : b = p
    · subst hb; rw [upd_same] at e; rw [h']; exact e
    · rw [upd_ne hb] at e; exact X.fh _ _ e
  · by_cases hb : b = p
    · subst hb; exact hp
    · rw [upd_ne hb] at n; exact X.nw b e n
theorem Cal.mono {sp : Sp} {j : Nat} (c : Cal P w K mg base j x sp) (h : j ≤ k) : Cal P w K mg base k x sp := by
  obtain ⟨f, fd, ps, F, h1, h2, h3⟩ := c.ex
  exact ⟨f, fd, ps, F.mono h, h1, h2, h3⟩
end
end PL
set_option Elab.async false
set_option linter.all false
set_option maxRecDepth 100000
/-! PL7: stores by an operator, by a place; pop; comprehensions over two. -/
namespace PL
open PySem PySem.Spec PyProof.Rows L2
variable {X : Cx} {E : Type} [ES E] {pos p0s p1s p2s : Pos}
section
variable {E1 E2 E' EB EC β : Type} [ES E1] [ES E2] [ES E'] [ES EB] [ES EC] {RR : RetK β}
/-! x op= e -/
theorem s_aug {α γ δ : Type} [Enc α] [Enc γ] [Enc δ] {op : Operator} {r : R2} {g : α → γ → δ} {k : α → γ → Prop} (ho : PIp X op r) (hr : R2S r g k) (v : Var E α) (q : Put E δ E') (hvq : q.i = v.i) {x : Str} {a : Expr} {f : E → γ} {ok : E → Prop} (hN : X.N.Nodup) (h : IE X a f ok) (hi : X.N[v.i]? = some x := by rfl)
    (hx : Loc X.env.scope x := by first | exact Or.inl rfl | exact Or.inr rfl) (hf : X.fn x = true ∨ X.env.scope.names.lookup x = some .local := by first | exact .inl rfl | exact .inr rfl) :
    SS (EB := EB) (EC := EC) X RR (.AugAssign (.Name x p1s) op a pos) (fun K e => K.nx (q.put e (g (v.get e) (f e)))) (fun K e => ok e ∧ k (v.get e) (f e) ∧ K.nx (q.put e (g (v.get e) (f e)))) :=
  ps_imp (ps_aug hN hi hx h ho hf) fun D σ H ⟨F0, H0, F, e, K, KO, b, s, ⟨o1, o2, o3⟩, hb, kk, _⟩ => by
    obtain ⟨os, nd, fr, rr⟩ := s.st
    obtain ⟨u, h1, h2⟩ := v.ok rr
    refine ⟨u, h1, F0, H0, F, e, s, o1, fun F1 H1 y X1 ry => hr F1 H1 u y _ _ _ X1.fh (Enc.mono X1.ff h2) ry o2 fun F2 H2 z X2 rz => ?_⟩
    have := (s.more (X1.trans X2)).put q rz
    rw [hvq] at this
    exact kk F2 H2 _ _ this (X1.trans X2).ff o3 hb
theorem ip_mulC : PIp X .Mult (rI CMul fun i j => .int (i * j)) := by
  intro pins s σ H x y v u Q I r1 r2 h
  obtain ⟨i, j, rfl, rfl, hc, q⟩ := h
  obtain ⟨t, rfl⟩ := r1
  obtain ⟨t', rfl⟩ := r2
  exact PySem.P.imul_int ⟨.int _, H, I.tok _, ⟨_, rfl⟩, q⟩ hc.ok
theorem ip_addS : PIp X .Add (fun x y H Q => ∃ i j, x = .str i ∧ y = .str j ∧ i.length + j.length ≤ sizeLine ∧ Q (.str (i ++ j)) H) := by
  intro pins s σ H x y v u Q I r1 r2 h
  obtain ⟨i, j, rfl, rfl, hz, q⟩ := h
  obtain ⟨t, rfl⟩ := r1
  obtain ⟨t', rfl⟩ := r2
  exact SB.iadd (fun t2 k => ⟨.str _, H, I.tok _, ⟨_, rfl⟩, q⟩) hz
theorem r2_addI : R2S (ipI fun i j => i + j) (fun a b : Int => a + b) Tr2 := r2_int
theorem r2_subI : R2S (ipI fun i j => i - j) (fun a b : Int => a - b) Tr2 := r2_int
end
end PL
set_option Elab.async false
set_option linter.all false
set_option maxRecDepth 100000
/-! PL8: equality at any depth; values of any kind. -/
namespace PL
open PySem PySem.Spec PyProof.Rows L2
variable {X : Cx} {E : Type} [ES E] {pos p0s p1s p2s : Pos}

/-! ## == of data -/
class DEq (α : Type) [Enc α] [DecidableEq α] where
  py : α → PyData
  dep : Nat
  dp : ∀ {K : PySem.W.Frag} {F H : Hp} {v : V} {a : α}, Same F H → rep F v a → Dp K H v (py a)
  lay : ∀ {F : Hp} {v : V} {a : α}, rep F v a → (py a).canLay0 = true
  hdep : ∀ a : α, (py a).depth ≤ dep
  eqv : ∀ a b : α, PyData.eqv (py a) (py b) = decide (a = b)
theorem strOk_of {s : S} (h : SOk s) : PyData.canLay0 (.str (toS s)) = true := by
  simp only [PyData.canLay0, PyData.strOk]
  rw [← Array.all_toList, List.all_eq_true]
  exact fun c hc => decide_eq_true (h.cps c hc)
instance : DEq Int := ⟨fun i => .int i, 0, fun _ r => by cases r; exact .int _, fun _ => by simp [PyData.canLay0], fun _ => by simp [PyData.depth], fun a b => by simp only [PyData.eqv]; exact Bool.beq_eq_decide_eq a b⟩
instance : DEq Bool := ⟨fun i => .bool i, 0, fun _ r => by cases r; exact .bl _, fun _ => by simp [PyData.canLay0], fun _ => by simp [PyData.depth], fun a b => by simp only [PyData.eqv]; exact Bool.beq_eq_decide_eq a b⟩
instance : DEq S := ⟨fun s => .str (toS s), 0, fun _ r => by obtain ⟨rfl, _⟩ := r; exact .str _, fun r => strOk_of r.2, fun _ => by simp [PyData.depth], fun a b => by simp only [PyData.eqv]; exact SX.S_beq_eq⟩
section
variable {α β γ : Type} [Enc α] [Enc β] [Enc γ] [DecidableEq α] [DecidableEq β] [DecidableEq γ] [DEq α] [DEq β] [DEq γ]
theorem dp_all {K : PySem.W.Frag} {F H : Hp} (h : Same F H) : ∀ {vs : List V} {xs : List α}, Reps F vs xs → DpAll K H vs (xs.map DEq.py)
  | _, _, .nil => .nil
  | _, _, .cons r t => .cons (DEq.dp h r) (dp_all h t)
theorem lay_all {F : Hp} : ∀ {vs : List V} {xs : List α}, Reps F vs xs → PyData.canLayAll0 (xs.map DEq.py) = true
  | _, _, .nil => by simp [PyData.canLayAll0]
  | _, _, .cons r t => by rw [List.map_cons]; simp only [PyData.canLayAll0]; rw [DEq.lay r, lay_all t]; rfl
theorem dep_all : ∀ xs : List α, PyData.depthAll (xs.map DEq.py) ≤ DEq.dep α
  | [] => by simp [PyData.depthAll]
  | x :: xs => by
    rw [List.map_cons]
    simp only [PyData.depthAll]
    have h1 := DEq.hdep x
    have h2 := dep_all xs
    omega
theorem eqv_all : ∀ xs ys : List α, PyData.eqvAll (xs.map DEq.py) (ys.map DEq.py) = decide (xs = ys)
  | [], [] => by simp [PyData.eqvAll]
  | [], _ :: _ => by simp [PyData.eqvAll]
  | _ :: _, [] => by simp [PyData.eqvAll]
  | x :: xs, y :: ys => by
    rw [List.map_cons, List.map_cons]
    simp only [PyData.eqvAll]
    rw [DEq.eqv, eqv_all xs ys]
    by_cases h : x = y <;> by_cases h' : xs = ys <;> simp [h, h']
instance : DEq (List α) := ⟨fun xs => .list (xs.map DEq.py), DEq.dep α + 1, fun h r => by
    obtain ⟨p, vs, rfl, hp, z, rr⟩ := r
    exact .lst (SqL.of (h _ _ hp)) (dp_all h rr), fun r => by
    obtain ⟨p, vs, rfl, hp, z, rr⟩ := r
    simp only [PyData.canLay0]; exact lay_all rr, fun a => by simp only [PyData.depth]; have := dep_all a; omega, fun a b => by simp only [PyData.eqv]; exact eqv_all a b⟩
instance : DEq (Tup α) := ⟨fun xs => .tuple (xs.l.map DEq.py), DEq.dep α + 1, fun h r => by
    obtain ⟨p, vs, rfl, hp, z, rr⟩ := r
    exact .tup (SqT.of (h _ _ hp)) (dp_all h rr), fun r => by
    obtain ⟨p, vs, rfl, hp, z, rr⟩ := r
    simp only [PyData.canLay0]; exact lay_all rr, fun a => by simp only [PyData.depth]; have := dep_all a.l; omega, fun a b => by
    simp only [PyData.eqv]; rw [eqv_all]; cases a; cases b; simp⟩
instance : DEq (α × β) := ⟨fun t => .tuple [DEq.py t.1, DEq.py t.2], max (DEq.dep α) (DEq.dep β) + 1, fun h r => by
    obtain ⟨p, x, y, rfl, hp, rx, ry⟩ := r
    exact .tup (SqT.of (h _ _ hp)) (.cons (DEq.dp h rx) (.cons (DEq.dp h ry) .nil)), fun r => by
    obtain ⟨p, x, y, rfl, hp, rx, ry⟩ := r
    simp only [PyData.canLay0, PyData.canLayAll0]; rw [DEq.lay rx, DEq.lay ry]; rfl, fun a => by
    simp only [PyData.depth, PyData.depthAll]; have h1 := DEq.hdep a.1; have h2 := DEq.hdep a.2; omega, fun a b => by
    simp only [PyData.eqv, PyData.eqvAll]; rw [DEq.eqv, DEq.eqv]; obtain ⟨a1, a2⟩ := a; obtain ⟨b1, b2⟩ := b
    by_cases h : a1 = b1 <;> by_cases h' : a2 = b2 <;> simp [h, h']⟩
instance : DEq (T3 α β γ) := ⟨fun t => .tuple [DEq.py t.a, DEq.py t.b, DEq.py t.c], max (DEq.dep α) (max (DEq.dep β) (DEq.dep γ)) + 1, fun h r => by
    obtain ⟨p, x, y, z, rfl, hp, rx, ry, rz⟩ := r
    exact .tup (SqT.of (h _ _ hp)) (.cons (DEq.dp h rx) (.cons (DEq.dp h ry) (.cons (DEq.dp h rz) .nil))), fun r => by
    obtain ⟨p, x, y, z, rfl, hp, rx, ry, rz⟩ := r
    simp only [PyData.canLay0, PyData.canLayAll0]; rw [DEq.lay rx, DEq.lay ry, DEq.lay rz]; rfl, fun a => by
    simp only [PyData.depth, PyData.depthAll]; have h1 := DEq.hdep a.a; have h2 := DEq.hdep a.b; have h3 := DEq.hdep a.c; omega, fun a b => by
    simp only [PyData.eqv, PyData.eqvAll]; rw [DEq.eqv, DEq.eqv, DEq.eqv]; obtain ⟨a1, a2, a3⟩ := a; obtain ⟨b1, b2, b3⟩ := b
    by_cases h : a1 = b1 <;> by_cases h' : a2 = b2 <;> by_cases h'' : a3 = b3 <;> simp [h, h', h'']⟩
variable {a b : Expr} {fa fb : E → α} {oka okb : E → Prop}
theorem shaped_of {F : Hp} {v : V} {x : α} (r : rep F v x) (hd : DEq.dep α ≤ 64) : SeqAt.shaped (DEq.py x) = true := by
  unfold SeqAt.shaped
  rw [DEq.lay r, decide_eq_true (Nat.le_trans (DEq.hdep x) hd)]
  rfl
theorem r2_eqD (K : PySem.W.Frag) (hd : DEq.dep α ≤ 64) : R2S (rEqD K) (fun a b : α => decide (a = b)) Tr2 := fun F H x y a b Q h r1 r2 _ q => by
  refine ⟨_, _, DEq.dp h r1, DEq.dp h r2, shaped_of r1 hd, shaped_of r2 hd, ?_⟩
  rw [DEq.eqv]
  exact flat_k h rfl q
theorem r2_neD (K : PySem.W.Frag) (hd : DEq.dep α ≤ 64) : R2S (rNeD K) (fun a b : α => !decide (a = b)) Tr2 := fun F H x y a b Q h r1 r2 _ q => by
  refine ⟨_, _, DEq.dp h r1, DEq.dp h r2, shaped_of r1 hd, shaped_of r2 hd, ?_⟩
  rw [DEq.eqv]
  exact flat_k h rfl q
theorem ie_eqD {k : Nat} (hr : Room k X.A) (ha : IE X a fa oka) (hb : IE X b fb okb) (hd : DEq.dep α ≤ 64 := by decide) : IE X (.Compare a [.Eq] [b] pos) (fun e => decide (fa e = fb e)) (fun e => oka e ∧ okb e) := ie_imp (ie_cmp (op_eqD hr.units) (r2_eqD _ hd) ha hb (nomark _)) (fun _ _ => rfl) fun e o => ⟨o.1, o.2, trivial⟩
theorem ie_neD {k : Nat} (hr : Room k X.A) (ha : IE X a fa oka) (hb : IE X b fb okb) (hd : DEq.dep α ≤ 64 := by decide) : IE X (.Compare a [.NotEq] [b] pos) (fun e => !decide (fa e = fb e)) (fun e => oka e ∧ okb e) := ie_imp (ie_cmp (op_neD hr.units) (r2_neD _ hd) ha hb (nomark _)) (fun _ _ => rfl) fun e o => ⟨o.1, o.2, trivial⟩
theorem it_eqD {k : Nat} (hr : Room k X.A) (ha : IE X a fa oka) (hb : IE X b fb okb) (hd : DEq.dep α ≤ 64 := by decide) : IT X (.Compare a [.Eq] [b] pos) (fun e => decide (fa e = fb e)) (fun e => oka e ∧ okb e) := it_imp (it_cmp (op_eqD hr.units) (r2_eqD _ hd) ha hb (nomark _)) (fun _ _ => rfl) fun e o => ⟨o.1, o.2, trivial⟩
theorem it_neD {k : Nat} (hr : Room k X.A) (ha : IE X a fa oka) (hb : IE X b fb okb) (hd : DEq.dep α ≤ 64 := by decide) : IT X (.Compare a [.NotEq] [b] pos) (fun e => !decide (fa e = fb e)) (fun e => oka e ∧ okb e) := it_imp (it_cmp (op_neD hr.units) (r2_neD _ hd) ha hb (nomark _)) (fun _ _ => rfl) fun e o => ⟨o.1, o.2, trivial⟩
end

/-! ## values of any kind -/
inductive D where
  | non
  | bl (b : Bool)
  | int (i : Int)
  | str (s : S)
  | lst (xs : List D)
  | tup (xs : List D)
  deriving Inhabited
mutual
def D.rep (F : Hp) : D → V → Prop
  | .non, v => v = .non
  | .bl b, v => v = .bl b
  | .int i, v => v = .int i
  | .str s, v => v = .str (toS s) ∧ SOk s
  | .lst xs, v => ∃ p vs, v = .ref p ∧ F p = some (.lst vs) ∧ vs.length ≤ sizeLine ∧ D.reps F xs vs
  | .tup xs, v => ∃ p vs, v = .ref p ∧ F p = some (.tup vs) ∧ vs.length ≤ sizeLine ∧ D.reps F xs vs
def D.reps (F : Hp) : List D → List V → Prop
  | [], vs => vs = []
  | d :: ds, vs => ∃ v ws, vs = v :: ws ∧ D.rep F d v ∧ D.reps F ds ws
end
mutual
theorem D.rep_mono {F F' : Hp} (h : Same F F') : ∀ (d : D) (v : V), D.rep F d v → D.rep F' d v
  | .non, _, r => r
  | .bl _, _, r => r
  | .int _, _, r => r
  | .str _, _, r => r
  | .lst xs, _, r => by
    obtain ⟨p, vs, e, hp, z, q⟩ := r
    exact ⟨p, vs, e, h _ _ hp, z, D.reps_mono h xs vs q⟩
  | .tup xs, _, r => by
    obtain ⟨p, vs, e, hp, z, q⟩ := r
    exact ⟨p, vs, e, h _ _ hp, z, D.reps_mono h xs vs q⟩
theorem D.reps_mono {F F' : Hp} (h : Same F F') : ∀ (ds : List D) (vs : List V), D.reps F ds vs → D.reps F' ds vs
  | [], _, r => r
  | d :: ds, _, r => by
    obtain ⟨v, ws, e, a, b⟩ := r
    exact ⟨v, ws, e, D.rep_mono h d v a, D.reps_mono h ds ws b⟩
end
instance : Enc D := ⟨fun F v d => D.rep F d v, fun h r => D.rep_mono h _ _ r⟩
theorem dreps {F : Hp} : ∀ {ds : List D} {vs : List V}, D.reps F ds vs → Reps F vs ds
  | [], vs, r => by cases (show vs = [] from r); exact .nil
  | d :: ds, vs, r => by
    obtain ⟨v, ws, rfl, a, b⟩ := r
    exact .cons a (dreps b)
theorem dreps' {F : Hp} : ∀ {ds : List D} {vs : List V}, Reps F vs ds → D.reps F ds vs
  | _, _, .nil => rfl
  | _, _, .cons r t => ⟨_, _, rfl, r, dreps' t⟩
/-- a value of a kind, as one of any kind -/
class ToD (α : Type) [Enc α] where
  d : α → D
  ok : ∀ {F : Hp} {v : V} {a : α}, rep F v a → D.rep F (d a) v
theorem ie_D {α : Type} [Enc α] [ToD α] {a : Expr} {f : E → α} {ok : E → Prop} (h : IE X a f ok) : IE X a (fun e => ToD.d (f e)) ok :=
  pe_imp h fun σ H Q ⟨F0, H0, F, e, s, o, q⟩ => ⟨F0, H0, F, e, s, o, fun F' H' v x r => q F' H' v x (ToD.ok r)⟩
instance : ToD D := ⟨fun d => d, fun r => r⟩
instance : ToD Int := ⟨.int, fun r => r⟩
instance : ToD Bool := ⟨.bl, fun r => r⟩
instance : ToD S := ⟨.str, fun r => r⟩
instance : ToD Unit := ⟨fun _ => .non, fun r => r⟩
section
variable {α β γ : Type} [Enc α] [Enc β] [Enc γ] [ToD α] [ToD β] [ToD γ]
instance : ToD (Option α) := ⟨fun o => match o with | none => .non | some a => ToD.d a, fun {F v a} r => by
  cases a with
  | none => exact r
  | some a => exact ToD.ok (α := α) r⟩
theorem tod_all {F : Hp} : ∀ {vs : List V} {xs : List α}, Reps F vs xs → D.reps F (xs.map ToD.d) vs
  | _, _, .nil => rfl
  | _, _, .cons r t => ⟨_, _, rfl, ToD.ok r, tod_all t⟩
instance : ToD (List α) := ⟨fun xs => .lst (xs.map ToD.d), fun r => by
  obtain ⟨p, vs, rfl, hp, z, rr⟩ := r
  exact ⟨p, vs, rfl, hp, z, tod_all rr⟩⟩
instance : ToD (Tup α) := ⟨fun xs => .tup (xs.l.map ToD.d), fun r => by
  obtain ⟨p, vs, rfl, hp, z, rr⟩ := r
  exact ⟨p, vs, rfl, hp, z, tod_all rr⟩⟩
instance : ToD (α × β) := ⟨fun t => .tup [ToD.d t.1, ToD.d t.2], fun r => by
  obtain ⟨p, x, y, rfl, hp, rx, ry⟩ := r
  exact ⟨p, [x, y], rfl, hp, by show 2 ≤ sizeLine; decide, _, _, rfl, ToD.ok rx, _, _, rfl, ToD.ok ry, rfl⟩⟩
instance : ToD (T3 α β γ) := ⟨fun t => .tup [ToD.d t.a, ToD.d t.b, ToD.d t.c], fun r => by
  obtain ⟨p, x, y, z, rfl, hp, rx, ry, rz⟩ := r
  exact ⟨p, [x, y, z], rfl, hp, by show 3 ≤ sizeLine; decide, _, _, rfl, ToD.ok rx, _, _, rfl, ToD.ok ry, _, _, rfl, ToD.ok rz, rfl⟩⟩
end
def D.items : D → List D
  | .lst xs => xs
  | .tup xs => xs
  | _ => []
def D.isL : D → Bool
  | .lst _ => true
  | _ => false
def D.isT : D → Bool
  | .tup _ => true
  | _ => false
def D.isB : D → Bool
  | .bl _ => true
  | _ => false
def D.isI : D → Bool
  | .bl _ => true
  | .int _ => true
  | _ => false
def D.isS : D → Bool
  | .str _ => true
  | _ => false
def D.isN : D → Bool
  | .non => true
  | _ => false
def D.tyName : D → String
  | .non => "NoneType"
  | .bl _ => "bool"
  | .int _ => "int"
  | .str _ => "str"
  | .lst _ => "list"
  | .tup _ => "tuple"
theorem d_ty {K : PySem.W.Frag} {F H : Hp} (h : Same F H) {d : D} {v : V} (r : D.rep F d v) : TyX K H v (.type d.tyName) := by
  cases d with
  | non => cases (show v = _ from r); exact .base .non
  | bl b => cases (show v = _ from r); exact .base (.bl b)
  | int b => cases (show v = _ from r); exact .base (.int b)
  | str b => cases (show v = _ from r.1); exact .base (.str _)
  | lst xs => obtain ⟨p, vs, rfl, hp, _⟩ := r; exact .base (.lst (h _ _ hp))
  | tup xs => obtain ⟨p, vs, rfl, hp, _⟩ := r; exact .base (.tup (h _ _ hp))
section
variable {a b : Expr} {f g : E → D} {oka okb : E → Prop}
theorem ie_isi (T : String) {x : Str} (is : D → Bool) (hk : ∀ d : D, kitB d.tyName T = some (is d)) (ha : IE X a f oka) (hT : X.mg x = none) (hm : X.mg "isinstance" = none) (hv : bootBuiltins x = some (.type T)) (hgT : Gl X x := by rfl) (hg : Gl X "isinstance" := by rfl)
    (hn : x ≠ "__name__" := by decide) (hd : (x == ("__debug__" : Str)) = false := by decide)
    (he : starEach [a, .Name x p2s] X.env = (false, eval a X.env) :: starEach [.Name x p2s] X.env := by rfl) (he2 : starEach [.Name x p2s] X.env = (false, eval (.Name x p2s) X.env) :: starEach [] X.env := by rfl) (hpl : (backTo pos (starEach [.Name x p2s] X.env)).any (·.1) = false := by rfl) :
    IE X (.Call (.Name "isinstance" p1s) [a, .Name x p2s] [] pos) (fun e => is (f e)) oka :=
  pe_imp (pe_callB call_isi hg hm (by decide +kernel) (pa_cons ha (pa_cons (pe_bltn (v := .ty T) hgT hT hv rfl hn hd) pa_nil he2) he) (he := he) (hpl := hpl)) fun σ H Q ⟨F0, H0, F, e, s, o, q⟩ =>
    ⟨F0, H0, F, e, s, o, fun F1 H1 v X1 r => ⟨v, .ty T, _, .type T, is (f e), rfl, .ty T, d_ty X1.fh r, kit_ty (hk (f e)), q F1 H1 _ X1 rfl⟩⟩
theorem d_isN {F : Hp} {d : D} {v : V} (r : D.rep F d v) : decide (v = .non) = d.isN := by
  cases d with
  | non => cases (show v = _ from r); rfl
  | bl b => cases (show v = _ from r); rfl
  | int b => cases (show v = _ from r); rfl
  | str b => cases (show v = _ from r.1); rfl
  | lst xs => obtain ⟨p, vs, rfl, hp, _⟩ := r; rfl
  | tup xs => obtain ⟨p, vs, rfl, hp, _⟩ := r; rfl
theorem ie_isD (ha : IE X a f oka) {j : Nat} : IE X (.Compare a [.Is] [.Constant .none j p1s] pos) (fun e => (f e).isN) oka :=
  pe_imp (pe_cmpR op_isN ha pe_non (nomark _)) fun σ H Q ⟨F0, H0, F, e, s, o, q⟩ => ⟨F0, H0, F, e, s, o, fun F1 H1 v X1 r => ⟨rfl, q F1 H1 _ X1 (congrArg V.bl (d_isN r))⟩⟩
theorem it_isD (ha : IE X a f oka) {j : Nat} : IT X (.Compare a [.Is] [.Constant .none j p1s] pos) (fun e => (f e).isN) oka :=
  pt_imp (pt_cmpR op_isN ha pe_non (nomark _)) fun σ H Q ⟨F0, H0, F, e, s, o, q⟩ => ⟨F0, H0, F, e, s, o, fun F1 H1 v X1 r => ⟨rfl, _, rfl, by rw [d_isN r]; exact q F1 H1 X1⟩⟩
theorem ie_lenD (ha : IE X a f oka) (hm : X.mg "len" = none) (hg : Gl X "len" := by rfl) (he : starEach [a] X.env = (false, eval a X.env) :: starEach [] X.env := by rfl) : IE X (.Call (.Name "len" p1s) [a] [] pos) (fun e => ((f e).items.length : Int)) (fun e => oka e ∧ ((f e).isL || (f e).isT) = true) :=
  ie_B (c := fun (t : D × Unit) => (t.1.isL || t.1.isT) = true) (g := fun (t : D × Unit) => (t.1.items.length : Int)) call_len (fun F H vs a Q h r k q => by
    obtain ⟨v, ws, rfl, r, rfl⟩ := r
    obtain ⟨d, _⟩ := a
    cases d with
    | lst xs =>
      obtain ⟨p, us, rfl, hp, z, rr⟩ := r
      exact ⟨_, us.length, rfl, .inl ⟨us, SqL.of (h _ _ hp), rfl⟩, q F H _ (Ext.refl h) (by rw [(dreps rr).length]; rfl)⟩
    | tup xs =>
      obtain ⟨p, us, rfl, hp, z, rr⟩ := r
      exact ⟨_, us.length, rfl, .inr ⟨us, SqT.of (h _ _ hp), rfl⟩, q F H _ (Ext.refl h) (by rw [(dreps rr).length]; rfl)⟩
    | _ => cases k) hg hm PySem.boot_len (ia_one ha he) (he := he)
theorem r2_ixD (K : PySem.W.Frag) : R2S (rIx K) (fun (d : D) (i : Int) => ixD d.items i) (fun d i => (d.isL || d.isT) = true ∧ ixOk d.items i) := fun F H x y a b Q h r1 r2 k q => by
  obtain ⟨k1, k2⟩ := k
  cases a with
  | lst xs =>
    obtain ⟨p, us, rfl, hp, z, rr⟩ := r1
    obtain ⟨v, e, rv⟩ := reps_atI (dreps rr) k2
    exact .inl ⟨p, us, b, v, rfl, r2, SqL.of (h _ _ hp), e, flat_k h rv q⟩
  | tup xs =>
    obtain ⟨p, us, rfl, hp, z, rr⟩ := r1
    obtain ⟨v, e, rv⟩ := reps_atI (dreps rr) k2
    exact .inr (.inl ⟨p, us, b, v, rfl, r2, SqT.of (h _ _ hp), e, flat_k h rv q⟩)
  | _ => cases k1
theorem ie_ixD {fi : E → Int} (ha : IE X a f oka) (hb : IE X b fi okb) (hs : PlainIx b := by exact fun _ _ => rfl) : IE X (.Subscript a b pos) (fun e => ixD (f e).items (fi e)) (fun e => oka e ∧ okb e ∧ ((f e).isL || (f e).isT) = true ∧ ixOk (f e).items (fi e)) :=
  pe_imp (pe_ix ix_seq ha hb hs) fun _ _ _ w => two (r2_ixD _) w
/-- == of flat ones of one kind -/
def D.flatEq : D → D → Bool
  | .non, .non => true
  | .bl a, .bl b => a == b
  | .int a, .int b => a == b
  | .str a, .str b => a == b
  | _, _ => false
def D.flatOk : D → D → Prop
  | .bl _, .bl _ => True
  | .int _, .int _ => True
  | .str _, .str _ => True
  | _, _ => False
theorem ie_eqF (ha : IE X a f oka) (hb : IE X b g okb) : IE X (.Compare a [.Eq] [b] pos) (fun e => (f e).flatEq (g e)) (fun e => oka e ∧ okb e ∧ (f e).flatOk (g e)) :=
  ie_cmp op_eq (fun F H x y a b Q h r1 r2 k q => by
    cases a <;> cases b <;> first | exact k.elim | skip
    · cases (show x = _ from r1); cases (show y = _ from r2)
      refine ⟨rfl, q F H _ (Ext.refl h) (congrArg V.bl ?_)⟩
      simp [D.flatEq, Bool.beq_eq_decide_eq]
    · cases (show x = _ from r1); cases (show y = _ from r2)
      refine ⟨rfl, q F H _ (Ext.refl h) (congrArg V.bl ?_)⟩
      simp [D.flatEq, Bool.beq_eq_decide_eq]
    · cases (show x = _ from r1.1); cases (show y = _ from r2.1)
      rename_i s t
      refine ⟨rfl, q F H _ (Ext.refl h) (congrArg V.bl ?_)⟩
      show decide (V.str (toS s) = V.str (toS t)) = (s == t)
      rw [Bool.beq_eq_decide_eq]
      exact decide_eq_decide.mpr ⟨fun z => toS_inj (V.str.inj z), fun z => by rw [z]⟩) ha hb (nomark _)
end
/-! what _law_same tells -/
mutual
def D.same : D → D → Bool
  | .non, .non => true
  | .bl a, .bl b => a == b
  | .int a, .int b => a == b
  | .str a, .str b => a == b
  | .lst xs, .lst ys => D.sames xs ys
  | .tup xs, .tup ys => D.sames xs ys
  | _, _ => false
def D.sames : List D → List D → Bool
  | [], [] => true
  | x :: xs, y :: ys => D.same x y && D.sames xs ys
  | _, _ => false
end
end PL
set_option Elab.async false
set_option linter.all false
set_option maxRecDepth 100000
/-! PL9: more words. -/
namespace PL
open PySem PySem.Spec PyProof.Rows L2
variable {X : Cx} {E : Type} [ES E] {pos p0s p1s p2s : Pos}
/-- what a def computes, and where it is safe -/
structure DefS (A β : Type) where
  m : A → β
  ok : A → Prop
theorem ie_pow {a b : Expr} {fa fb : E → Int} {oka okb : E → Prop} (ha : IE X a fa oka) (hb : IE X b fb okb) : IE X (.BinOp a .Pow b pos) (fun e => (fa e) ^ (fb e).toNat) (fun e => oka e ∧ okb e ∧ CPow (fa e) (fb e)) := ie_op op_pow r2_intc ha hb
theorem ie_unO {α : Type} [Enc α] [Inhabited α] {a : Expr} {f : E → Option α} {ok : E → Prop} (h : IE X a f ok) : IE X a (fun e => (f e).getD default) (fun e => ok e ∧ (f e).isSome = true) :=
  pe_imp h fun σ H Q ⟨F0, H0, F, e, s, ⟨o, k⟩, q⟩ => ⟨F0, H0, F, e, s, o, fun F' H' v x r => q F' H' v x (by
    cases hf : f e with
    | none => rw [hf] at k; cases k
    | some a => rw [hf] at r; show rep F' v ((f e).getD default); rw [hf]; exact r)⟩
/-! ## comprehensions, as values and assigned at once -/
structure LC (X : Cx) {E : Type} [ES E] {α : Type} [Enc α] (node : Expr) (f : E → List α) (ok : E → Prop) : Prop where
  io : IO X node f ok
  set : ∀ (i : Nat) (y : Str) (py spos : Pos), X.N[i]? = some y → X.env.scope.names.lookup y = some .local → swapsWith node (some (.Name y py)) spos.line X.env = pure true →
    ∃ te : TE, PS X (.Assign [.Name y py] node spos) (tAsg te (gName i)) ∧ ∀ σ H Q, tO f ok σ H Q → te σ H Q
section
variable {α β γ : Type} [Enc α] [Enc β] [Enc γ] {E1 E2 E3 E4 : Type} [ES E1] [ES E2] [ES E3] [ES E4]
theorem LC.imp {node : Expr} {f f' : E → List α} {ok ok' : E → Prop} (h : LC X node f ok) (hf : ∀ e, ok' e → f e = f' e) (ho : ∀ e, ok' e → ok e) : LC X node f' ok' := by
  have k : ∀ σ H Q, tO f' ok' σ H Q → tO f ok σ H Q := fun σ H Q ⟨F0, H0, F, e, s, o, q⟩ => ⟨F0, H0, F, e, s, ho e o, fun F' H' p vs x hp fp h' z r => q F' H' p vs x hp fp h' z (hf e o ▸ r)⟩
  refine ⟨pe_imp h.io k, fun i y py spos a b c => ?_⟩
  obtain ⟨te, h1, h2⟩ := h.set i y py spos a b c
  exact ⟨te, h1, fun σ H Q q => h2 σ H Q (k σ H Q q)⟩
theorem lc_c {elt tg iter : Expr} {ifs : List Expr} {scope : Scope} {own : List (Str × Nat)} {src : E → List α} {oks : E → Prop} {wp : Wp E E1 (own.map (·.2))} {g : TG} {put : E1 → α → E2} {us : List Nat} {c : E2 → Bool} {okc : E2 → Prop} {f : E2 → β} {okf : E2 → Prop}
    (hc : X.calm = true) (hN : X.N.Nodup) (hi : IS X tg iter src oks) (ok : blkC X.N X.env.scope scope own = true) (pt : Pat g E1 α E2 put us) (hus : ∀ i ∈ us, i ∈ own.map (·.2))
    (hg : ∀ (s : Shared) (H : Hp) (C : Addr) (cl : List (Str × Addr)) (fp : List Addr), PG (X.blk s H scope (compEnvC scope cl C X.env) fp) tg g)
    (ht : ∀ (s : Shared) (H : Hp) (C : Addr) (cl : List (Str × Addr)) (fp : List Addr), PTs (X.blk s H scope (compEnvC scope cl C X.env) fp) ifs (tT c okc))
    (he : ∀ (s : Shared) (H : Hp) (C : Addr) (cl : List (Str × Addr)) (fp : List Addr), IE (X.blk s H scope (compEnvC scope cl C X.env) fp) elt f okf) (hs : ∀ x, foldedSetIterable iter X.env x = pure x := by intro _; rfl) :
    LC X (.ListComp elt [⟨tg, iter, ifs, 0⟩] scope pos) (fun e => ((src e).filter fun a => c (put (wp.w e) a)).map fun a => f (put (wp.w e) a)) (fun e => oks e ∧ ∀ a ∈ src e, okc (put (wp.w e) a) ∧ (c (put (wp.w e) a) = true → okf (put (wp.w e) a))) :=
  ⟨io_lc hc hN hi ok pt hus hg ht he hs, fun i y py spos a b d => ⟨_, ps_setLc hc hN a b d hi (blkOk_by ok) hg ht he hs, fun σ H Q h => lc_read pt hus h⟩⟩
theorem lc_m {elt tg iter : Expr} {scope : Scope} {own : List (Str × Nat)} {src : E → List α} {oks : E → Prop} {wp : Wp E E1 (own.map (·.2))} {g : TG} {put : E1 → α → E2} {us : List Nat} {f : E2 → β} {okf : E2 → Prop}
    (hc : X.calm = true) (hN : X.N.Nodup) (hi : IS X tg iter src oks) (ok : blkC X.N X.env.scope scope own = true) (pt : Pat g E1 α E2 put us) (hus : ∀ i ∈ us, i ∈ own.map (·.2))
    (hg : ∀ (s : Shared) (H : Hp) (C : Addr) (cl : List (Str × Addr)) (fp : List Addr), PG (X.blk s H scope (compEnvC scope cl C X.env) fp) tg g)
    (he : ∀ (s : Shared) (H : Hp) (C : Addr) (cl : List (Str × Addr)) (fp : List Addr), IE (X.blk s H scope (compEnvC scope cl C X.env) fp) elt f okf) (hs : ∀ x, foldedSetIterable iter X.env x = pure x := by intro _; rfl) :
    LC X (.ListComp elt [⟨tg, iter, [], 0⟩] scope pos) (fun e => (src e).map fun a => f (put (wp.w e) a)) (fun e => oks e ∧ ∀ a ∈ src e, okf (put (wp.w e) a)) :=
  (lc_c (c := fun _ => true) (okc := okT) (wp := wp) hc hN hi ok pt hus hg (fun _ _ _ _ _ => its_nil) he hs).imp (fun e _ => by
    have e1 : (src e).filter (fun _ => true) = src e := List.filter_eq_self.mpr (fun _ _ => rfl)
    show ((src e).filter fun _ => true).map _ = _
    rw [e1]) fun e o => ⟨o.1, fun a ha => ⟨trivial, fun _ => o.2 a ha⟩⟩
/-- two clauses -/
theorem lc2_read {vs vs1 : List Nat} {src : E → List α} {oks : E → Prop} {wp : Wp E E1 vs} {g : TG} {put : E1 → α → E2} {us : List Nat} (pt : Pat g E1 α E2 put us) (hus : ∀ i ∈ us, i ∈ vs)
    {src1 : E2 → List γ} {oks1 : E2 → Prop} {wp1 : Wp E2 E3 vs1} {g1 : TG} {put1 : E3 → γ → E4} {us1 : List Nat} (pt1 : Pat g1 E3 γ E4 put1 us1) (hus1 : ∀ i ∈ us1, i ∈ vs1) {f : E4 → β} {okf : E4 → Prop} {σ : L2.St} {H : Hp} {Q : VK}
    (h : tO (fun e => (src e).flatMap fun a => (src1 (put (wp.w e) a)).map fun b => f (put1 (wp1.w (put (wp.w e) a)) b))
      (fun e => oks e ∧ (∀ a ∈ src e, oks1 (put (wp.w e) a) ∧ ∀ b ∈ src1 (put (wp.w e) a), okf (put1 (wp1.w (put (wp.w e) a)) b)) ∧ ((src e).flatMap fun a => src1 (put (wp.w e) a)).length ≤ sizeLine) σ H Q) :
    tLc2 (tS src oks) g tYes (tS src1 oks1) g1 tYes (tE f okf) vs vs1 σ H Q := by
  obtain ⟨F0, H0, F, e, s, ⟨o1, o2, o3⟩, q⟩ := h
  refine ⟨F0, H0, F, e, s, o1, fun J F1 H1 X1 jk D hD => ?_⟩
  have fD : F1 D = none := X1.fh.free hD
  have hlen : ∀ xs : List α, (xs.flatMap fun a => src1 (put (wp.w e) a)).length = (xs.flatMap fun a => (src1 (put (wp.w e) a)).map fun b => f (put1 (wp1.w (put (wp.w e) a)) b)).length := by
    intro xs
    induction xs with
    | nil => rfl
    | cons x xs ih => rw [List.flatMap_cons, List.flatMap_cons, List.length_append, List.length_append, ih, List.length_map]
  rw [hlen] at o3
  have q' : ∀ F' H' p vs, Ext F H F' H' → H p = none → F' p = none → H' p = some (.lst vs) → vs.length ≤ sizeLine → Reps F' vs ((src e).flatMap fun a => (src1 (put (wp.w e) a)).map fun b => f (put1 (wp1.w (put (wp.w e) a)) b)) → Q (.ref p) H' := q
  generalize hR : (fun a => (src1 (put (wp.w e) a)).map fun b => f (put1 (wp1.w (put (wp.w e) a)) b)) = R at q' o3
  have hRa : ∀ a, R a = (src1 (put (wp.w e) a)).map fun b => f (put1 (wp1.w (put (wp.w e) a)) b) := fun a => by rw [← hR]
  refine ⟨fun i m Hc => m = (src e).length - i ∧ i ≤ (src e).length ∧ ∃ Fc ws, Ext F1 H1 Fc Hc ∧ Fc D = none ∧ Hc D = some (.lst ws) ∧ Reps Fc ws (((src e).take i).flatMap R),
    ⟨_, rfl, Nat.zero_le _, F1, [], (Ext.refl X1.fh).newO hD, fD, upd_same, by simpa using Paired.nil⟩, ?_⟩
  rintro i m Hc ⟨rfl, hi, Fc, ws, Xc, fc, hc, rr⟩
  have keep : ∀ {Fa Ha Fb Hb : Hp} {ws : List V}, Ext Fa Ha Fb Hb → Fa D = none → Ha D = some (.lst ws) → Fb D = none ∧ Hb D = some (.lst ws) := fun {Fa Ha Fb Hb ws} x fa ha => ⟨(by
    cases y : Fb D with
    | none => rfl
    | some o =>
      have z := x.nw D fa (by rw [y]; exact Option.some_ne_none _)
      rw [ha] at z
      cases z), x.hh _ _ ha⟩
  by_cases hlt : i < (src e).length
  · refine .inr ?_
    have hx : (src e)[i]? = some (src e)[i] := List.getElem?_eq_getElem hlt
    obtain ⟨go, yld⟩ := (jk.at' i Fc Hc Xc.ff Xc.fh).1 _ hx
    refine ⟨go, fun H' => ∃ Fn ws, Ext F1 H1 Fn H' ∧ Fn D = none ∧ H' D = some (.lst ws) ∧ Reps Fn ws (((src e).take (i + 1)).flatMap R),
      fun H' ⟨Fn, ws', a1, a2, a3, a5⟩ => ⟨(src e).length - (i + 1), by omega, rfl, hlt, Fn, ws', a1, a2, a3, a5⟩, fun v H' hy => ?_⟩
    obtain ⟨F2, X2, rv⟩ := yld v H' hy
    have S2 : SR F0 H0 F2 H' (L2.wipe σ vs) (wp.w e) := ((s.more X1).more (Xc.trans X2)).wipe wp
    obtain ⟨p1, p2⟩ := o2 _ (List.mem_of_getElem? hx)
    refine pt.run S2 rv fun σ' S3' hw => ⟨by rw [hw vs hus, wipe_idem vs vs fun _ h => h], ?_⟩
    have S3 := S3' F2 H' S2 (Same.refl _)
    dsimp only [tYes]
    rw [if_pos rfl]
    refine ⟨F0, H0, F2, _, S3, p1, fun J1 F3 H3 X3 jk1 => ?_⟩
    have tk := take_succ_of (α := α) hx
    have hRx := hRa (src e)[i]
    have tot : (((src e).take i).flatMap R).length + (R (src e)[i]).length ≤ sizeLine := by
      have h1 : (((src e).take (i + 1)).flatMap R).length ≤ ((src e).flatMap R).length := by
        conv => rhs; rw [← List.take_append_drop (i + 1) (src e)]
        rw [List.flatMap_append, List.length_append]
        exact Nat.le_add_right _ _
      rw [tk, List.flatMap_append, List.flatMap_singleton, List.length_append] at h1
      omega
    generalize hxs : src1 (put (wp.w e) (src e)[i]) = ys at jk1 p2 hRx
    have X23 := X2.trans X3
    obtain ⟨k1, k2⟩ := keep X23 fc hc
    refine ⟨fun j k Hd => k = ys.length - j ∧ j ≤ ys.length ∧ ∃ Fd wd, Ext F1 H1 Fd Hd ∧ Same F3 Fd ∧ Fd D = none ∧ Hd D = some (.lst wd) ∧ Reps Fd wd (((src e).take i).flatMap R ++ (ys.take j).map fun b => f (put1 (wp1.w (put (wp.w e) (src e)[i])) b)),
      ⟨_, rfl, Nat.zero_le _, F3, ws, Xc.trans X23, Same.refl _, k1, k2, by simpa using rr.mono X23.ff⟩, ?_⟩
    rintro j k Hd ⟨rfl, hj, Fd, wd, Xd, md, fd, hd, rd⟩
    by_cases hlj : j < ys.length
    · refine .inr ?_
      have hy1 : ys[j]? = some ys[j] := List.getElem?_eq_getElem hlj
      obtain ⟨go1, yld1⟩ := (jk1.at' j Fd Hd md Xd.fh).1 _ hy1
      refine ⟨go1, fun H' => ∃ Fn wn, Ext F1 H1 Fn H' ∧ Same F3 Fn ∧ Fn D = none ∧ H' D = some (.lst wn) ∧ Reps Fn wn (((src e).take i).flatMap R ++ (ys.take (j + 1)).map fun b => f (put1 (wp1.w (put (wp.w e) (src e)[i])) b)),
        fun H' ⟨Fn, wn, a1, a2, a3, a4, a5⟩ => ⟨ys.length - (j + 1), by omega, rfl, hlj, Fn, wn, a1, a2, a3, a4, a5⟩, fun v1 H5 hy5 => ?_⟩
      obtain ⟨F5, X5, rv5⟩ := yld1 v1 H5 hy5
      have S5 : SR F0 H0 F5 H5 σ' (put (wp.w e) (src e)[i]) := S3' F5 H5 (((s.more X1).more (Xd.trans X5)).wipe wp) (X3.ff.trans (md.trans X5.ff))
      refine pt1.run (S5.wipe wp1) rv5 fun σ3 S6' hw3 => ⟨by rw [hw3 vs1 hus1, wipe_idem vs1 vs1 fun _ h => h], ?_⟩
      have S6 := S6' F5 H5 (S5.wipe wp1) (Same.refl _)
      dsimp only [tYes]
      rw [if_pos rfl]
      refine ⟨F0, H0, F5, _, S6, p2 _ (List.mem_of_getElem? hy1), fun F7 H7 y X7 ry => ?_⟩
      obtain ⟨g1', g2'⟩ := keep (X5.trans X7) fd hd
      refine ⟨wd, g2', ?_, F7, wd ++ [y], (Xd.trans (X5.trans X7)).redo hD g1', md.trans (X5.trans X7).ff, g1', upd_same, ?_⟩
      · rw [rd.length, List.length_append, List.length_map, List.length_take, Nat.min_eq_left hj]
        rw [hRx, List.length_map] at tot
        omega
      · rw [take_succ_of hy1, List.map_append, ← List.append_assoc]
        exact reps_append (rd.mono (X5.trans X7).ff) (.cons ry .nil)
    · have e2 : j = ys.length := by omega
      refine .inl ⟨(jk1.at' j Fd Hd md Xd.fh).2 e2, Fd, wd, Xd, fd, hd, ?_⟩
      rw [e2, List.take_length, ← hRx] at rd
      rw [tk, List.flatMap_append, List.flatMap_singleton]
      exact rd
  · have e1 : i = (src e).length := by omega
    refine .inl ⟨(jk.at' i Fc Hc Xc.ff Xc.fh).2 e1, ?_⟩
    rw [e1, List.take_length] at rr
    exact q' Fc Hc D ws (X1.trans Xc) (X1.hh.free hD) fc hc (by rw [rr.length]; exact o3) rr
theorem lc_m2 {elt tg iter tg1 iter1 : Expr} {scope : Scope} {own : List (Str × Nat)} {vs1 : List Nat} {src : E → List α} {oks : E → Prop} {wp : Wp E E1 (own.map (·.2))} {g : TG} {put : E1 → α → E2} {us : List Nat}
    {src1 : E2 → List γ} {oks1 : E2 → Prop} {wp1 : Wp E2 E3 vs1} {g1 : TG} {put1 : E3 → γ → E4} {us1 : List Nat} {f : E4 → β} {okf : E4 → Prop}
    (hc : X.calm = true) (hN : X.N.Nodup) (hi : IS X tg iter src oks) (ok : blkC X.N X.env.scope scope own = true) (hv : ∀ i ∈ vs1, i ∈ own.map (·.2)) (pt : Pat g E1 α E2 put us) (hus : ∀ i ∈ us, i ∈ own.map (·.2))
    (hg : ∀ (s : Shared) (H : Hp) (C : Addr) (cl : List (Str × Addr)) (fp : List Addr), PG (X.blk s H scope (compEnvC scope cl C X.env) fp) tg g)
    (hi1 : ∀ (s : Shared) (H : Hp) (C : Addr) (cl : List (Str × Addr)) (fp : List Addr), IS (X.blk s H scope (compEnvC scope cl C X.env) fp) tg1 iter1 src1 oks1) (pt1 : Pat g1 E3 γ E4 put1 us1) (hus1 : ∀ i ∈ us1, i ∈ vs1)
    (hg1 : ∀ (s : Shared) (H : Hp) (C : Addr) (cl : List (Str × Addr)) (fp : List Addr), PG (X.blk s H scope (compEnvC scope cl C X.env) fp) tg1 g1)
    (he : ∀ (s : Shared) (H : Hp) (C : Addr) (cl : List (Str × Addr)) (fp : List Addr), IE (X.blk s H scope (compEnvC scope cl C X.env) fp) elt f okf) (hs : ∀ x, foldedSetIterable iter X.env x = pure x := by intro _; rfl) (hs1 : ∀ env x, foldedSetIterable iter1 env x = pure x := by intro _ _; rfl) :
    LC X (.ListComp elt [⟨tg, iter, [], 0⟩, ⟨tg1, iter1, [], 0⟩] scope pos) (fun e => (src e).flatMap fun a => (src1 (put (wp.w e) a)).map fun b => f (put1 (wp1.w (put (wp.w e) a)) b))
      (fun e => oks e ∧ (∀ a ∈ src e, oks1 (put (wp.w e) a) ∧ ∀ b ∈ src1 (put (wp.w e) a), okf (put1 (wp1.w (put (wp.w e) a)) b)) ∧ ((src e).flatMap fun a => src1 (put (wp.w e) a)).length ≤ sizeLine) :=
  ⟨pe_imp (pe_lc2 hc hN hi (blkOk_by ok) hv hg (fun _ _ _ _ _ => pts_nil) hi1 hg1 (fun _ _ _ _ _ => pts_nil) he hs hs1) fun σ H Q h => lc2_read pt hus pt1 hus1 h,
    fun i y py spos a b d => ⟨_, ps_setLc2 hc hN a b d hi (blkOk_by ok) hv hg (fun _ _ _ _ _ => pts_nil) hi1 hg1 (fun _ _ _ _ _ => pts_nil) he hs hs1, fun σ H Q h => lc2_read pt hus pt1 hus1 h⟩⟩
end
section
variable {E' EB EC β : Type} [ES E'] [ES EB] [ES EC] {RR : RetK β}
theorem s_setLcO {α : Type} [Enc α] (q : Put E (Ow α) E') {x : Str} {node : Expr} {f : E → List α} {ok : E → Prop} (h : LC X node f ok) (hl : X.env.scope.names.lookup x = some .local) (hsw : swapsWith node (some (.Name x p1s)) pos.line X.env = pure true) (hi : X.N[q.i]? = some x := by rfl) :
    SS (EB := EB) (EC := EC) X RR (.Assign [.Name x p1s] node pos) (fun K e => K.nx (q.put e ⟨f e⟩)) (fun K e => ok e ∧ K.nx (q.put e ⟨f e⟩)) := by
  obtain ⟨te, h1, hr⟩ := h.set q.i x p1s pos hi hl hsw
  exact ps_imp h1 fun D σ H ⟨F0, H0, F, e, K, KO, b, s, ⟨o1, o2⟩, hb, k, _⟩ => hr σ H _ ⟨F0, H0, F, e, s, o1, fun F1 H1 p vs X1 hp fp h' z r => k F1 H1 _ _ (s.putO q X1 hp fp h' z r) X1.ff o2 hb⟩
theorem fz_read {α : Type} [Enc α] {f : E → List α} {ok : E → Prop} {σ : L2.St} {H : Hp} {Q : VK} (h : tE f ok σ H Q) : tO f ok σ H Q := by
  obtain ⟨F0, H0, F, e, s, o, q⟩ := h
  refine ⟨F0, H0, F, e, s, o, fun F' H' p vs x hp fp h' z r => ?_⟩
  have sm : Same F' (upd F' p (.lst vs)) := same_new fp
  refine q (upd F' p (.lst vs)) H' (.ref p) ⟨x.ff.trans sm, x.hh, fun b y e => ?_, fun b e n => ?_⟩ ⟨p, vs, rfl, upd_same, z, r.mono sm⟩
  · by_cases hb : b = p
    · subst hb; rw [upd_same] at e; rw [h']; exact e
    · rw [upd_ne hb] at e; exact x.fh _ _ e
  · by_cases hb : b = p
    · subst hb; exact hp
    · rw [upd_ne hb] at n; exact x.nw b e n
theorem s_setLc {α : Type} [Enc α] (q : Put E (List α) E') {x : Str} {node : Expr} {f : E → List α} {ok : E → Prop} (h : LC X node f ok) (hl : X.env.scope.names.lookup x = some .local) (hsw : swapsWith node (some (.Name x p1s)) pos.line X.env = pure true) (hi : X.N[q.i]? = some x := by rfl) :
    SS (EB := EB) (EC := EC) X RR (.Assign [.Name x p1s] node pos) (fun K e => K.nx (q.put e (f e))) (fun K e => ok e ∧ K.nx (q.put e (f e))) := by
  obtain ⟨te, h1, hr⟩ := h.set q.i x p1s pos hi hl hsw
  exact ps_imp h1 fun D σ H ⟨F0, H0, F, e, K, KO, b, s, ⟨o1, o2⟩, hb, k, _⟩ => hr σ H _ (fz_read ⟨F0, H0, F, e, s, o1, fun F1 H1 v X1 r => k F1 H1 _ _ ((s.more X1).put q r) X1.ff o2 hb⟩)
end
end PL
set_option Elab.async false
set_option linter.all false
set_option maxRecDepth 100000
set_option maxHeartbeats 1000000
/-! PLD: dict comprehensions with two clauses. -/
namespace PL
open PySem PySem.Spec PyProof.Rows L2

/-- the node -/
abbrev dcN (kx vx ta ia tb ib : Expr) (fa fb : List Expr) (sc : Scope) (pos : Pos) : Expr := .DictComp kx vx [⟨ta, ia, fa, 0⟩, ⟨tb, ib, fb, 0⟩] sc pos
section
variable {prog : Program} {w : World} {A : Around} {R : Result → Shared → Prop} {s : Shared} {kx vx ta ia tb ib : Expr} {fa fb : List Expr} {sc : Scope} {pos : Pos} {it : Value} {D : Addr} {env : Env}
theorem turn0 : compTurn (dcN kx vx ta ia tb ib fa fb sc pos) 0 it (.ref D) env = (do
    standAt ia.pos
    match ← pyNext it with
    | none => pure (.done .next)
    | some v =>
      letOwnedTupleGo ta it v
      assign ta env v
      let mut go := true
      for c in fa do
        if go then go ← isTrue c env (eval c env)
      if go then
        let y ← eval ib env
        standAt ib.pos
        let y ← foldedSetIterable ib env y
        let _ ← runOwn (.compStart (dcN kx vx ta ia tb ib fa fb sc pos) 1 (← holding [y] (pyIter y)) (.ref D) env) env
      again (.compLoop (dcN kx vx ta ia tb ib fa fb sc pos) 0 it (.ref D) env)) := by rfl
theorem turn1 : compTurn (dcN kx vx ta ia tb ib fa fb sc pos) 1 it (.ref D) env = (do
    standAt ib.pos
    match ← pyNext it with
    | none => pure (.done .next)
    | some v =>
      letOwnedTupleGo tb it v
      assign tb env v
      let mut go := true
      for c in fb do
        if go then go ← isTrue c env (eval c env)
      if go then
        (do
          let a ← eval kx env
          let b ← holding [a] (eval vx env)
          standAt { kx.pos with endLine := vx.pos.endLine, endCol := vx.pos.endCol }
          holding [a, b] (dictSet D a b))
      again (.compLoop (dcN kx vx ta ia tb ib fa fb sc pos) 1 it (.ref D) env)) := by rfl
/-- what is wanted of errors within the block -/
abbrev nb (prog : Program) (w : World) (A : Around) (env : Env) (R : Result → Shared → Prop) : Value → Shared → Prop := notedBy (model prog w) A env fun e z => R (.error e) z
/-- a clause's tests -/
abbrev chk (fs : List Expr) (env : Env) : Sem Bool := forIn fs true fun c r => if r = true then do let ok ← isTrue c env (eval c env); pure (ForInStep.yield ok) else pure (ForInStep.yield r)
theorem loop0 (hs : ∀ x, foldedSetIterable ib env x = pure x) (J : Nat → Shared → Prop)
    (step : ∀ n s, J n s → wpAny (model prog w) A (pyNext it) (fun r s1 => match r with
      | none => R (.ok .next) s1
      | some v => wpAny (model prog w) A (letOwnedTupleGo ta it v) (fun _ s2 => wpAny (model prog w) A (assign ta env v) (fun _ s3 => wpAny (model prog w) A (chk fa env) (fun ok s4 =>
          if ok = true then wpAny (model prog w) A (eval ib env) (fun y s5 => wpAny (model prog w) A (pyIter y) (fun it1 s6 =>
              codeAny (model prog w) A (.compStart (dcN kx vx ta ia tb ib fa fb sc pos) 1 it1 (.ref D) env) (fun r z => match r with
                | .ok _ => ∃ m, m < n ∧ J m z
                | .error _ => False) s6) (nb prog w A env R) s5) (nb prog w A env R) s4
          else ∃ m, m < n ∧ J m s4) (nb prog w A env R) s3) (nb prog w A env R) s2) (nb prog w A env R) s1) (nb prog w A env R) s)
    (n : Nat) (h : J n s) : codeAny (model prog w) A (.compLoop (dcN kx vx ta ia tb ib fa fb sc pos) 0 it (.ref D) env) R s := by
  refine codeAny_loop rfl J (fun n s hj => ?_) n h
  show wpAny _ A ((compTurn (dcN kx vx ta ia tb ib fa fb sc pos) 0 it (.ref D) env).onRaise fun x => do noteFrame x env; theTreesLotGoes x) _ _ s
  apply wpAny_noted
  rw [turn0]
  apply wpAny_bind; apply wpAny_standAt; apply wpAny_bind
  refine wpAny_mono (step n s hj) (fun r s1 h1 => ?_) (fun _ _ z => z)
  cases r with
  | none => exact wpAny_pure h1
  | some v =>
    apply wpAny_bind
    refine wpAny_mono h1 (fun _ s2 h2 => ?_) (fun _ _ z => z)
    apply wpAny_bind
    refine wpAny_mono h2 (fun _ s3 h3 => ?_) (fun _ _ z => z)
    apply wpAny_bind
    refine wpAny_mono h3 (fun ok s4 h4 => ?_) (fun _ _ z => z)
    cases ok with
    | false => exact wpAny_pure ⟨rfl, h4⟩
    | true =>
      apply wpAny_bind
      refine wpAny_mono h4 (fun y s5 h5 => ?_) (fun _ _ z => z)
      apply wpAny_bind; apply wpAny_standAt; apply wpAny_bind
      refine wpAny_of_eq (hs y) ?_
      apply wpAny_bind; apply wpAny_holding
      refine wpAny_mono h5 (fun it1 s6 h6 => ?_) (fun _ _ z => z)
      refine wpAny_bind (wpAny_runOwn ?_)
      rw [Around.mark_none]
      refine codeAny_mono h6 fun r z hr => ?_
      cases r with
      | error e => exact hr.elim
      | ok f =>
        first
          | exact wpAny_bind (wpAny_pure (wpAny_pure ⟨rfl, hr⟩))
          | exact wpAny_pure ⟨rfl, hr⟩
theorem loop1 (J : Nat → Shared → Prop)
    (step : ∀ n s, J n s → wpAny (model prog w) A (pyNext it) (fun r s1 => match r with
      | none => R (.ok .next) s1
      | some v => wpAny (model prog w) A (letOwnedTupleGo tb it v) (fun _ s2 => wpAny (model prog w) A (assign tb env v) (fun _ s3 => wpAny (model prog w) A (chk fb env) (fun ok s4 =>
          if ok = true then wpAny (model prog w) A (eval kx env) (fun a s5 => wpAny (model prog w) A (eval vx env) (fun b s6 =>
              wpAny (model prog w) A (dictSet D a b) (fun _ s7 => ∃ m, m < n ∧ J m s7) (nb prog w A env R) s6) (nb prog w A env R) s5) (nb prog w A env R) s4
          else ∃ m, m < n ∧ J m s4) (nb prog w A env R) s3) (nb prog w A env R) s2) (nb prog w A env R) s1) (nb prog w A env R) s)
    (n : Nat) (h : J n s) : codeAny (model prog w) A (.compLoop (dcN kx vx ta ia tb ib fa fb sc pos) 1 it (.ref D) env) R s := by
  refine codeAny_loop rfl J (fun n s hj => ?_) n h
  show wpAny _ A ((compTurn (dcN kx vx ta ia tb ib fa fb sc pos) 1 it (.ref D) env).onRaise fun x => do noteFrame x env; theTreesLotGoes x) _ _ s
  apply wpAny_noted
  rw [turn1]
  apply wpAny_bind; apply wpAny_standAt; apply wpAny_bind
  refine wpAny_mono (step n s hj) (fun r s1 h1 => ?_) (fun _ _ z => z)
  cases r with
  | none => exact wpAny_pure h1
  | some v =>
    apply wpAny_bind
    refine wpAny_mono h1 (fun _ s2 h2 => ?_) (fun _ _ z => z)
    apply wpAny_bind
    refine wpAny_mono h2 (fun _ s3 h3 => ?_) (fun _ _ z => z)
    apply wpAny_bind
    refine wpAny_mono h3 (fun ok s4 h4 => ?_) (fun _ _ z => z)
    cases ok with
    | false => exact wpAny_pure ⟨rfl, h4⟩
    | true =>
      apply wpAny_bind; apply wpAny_bind
      refine wpAny_mono h4 (fun a s5 h5 => ?_) (fun _ _ z => z)
      apply wpAny_bind; apply wpAny_holding
      refine wpAny_mono h5 (fun b s6 h6 => ?_) (fun _ _ z => z)
      apply wpAny_bind; apply wpAny_standAt; apply wpAny_holding
      refine wpAny_mono h6 (fun _ s7 h7 => ?_) (fun _ _ z => z)
      exact wpAny_pure ⟨rfl, h7⟩
/-- the second clause begins -/
theorem begin1 (h0 : codeAny (model prog w) A (.compLoop (dcN kx vx ta ia tb ib fa fb sc pos) 1 it (.ref D) env) R s)
    (h : wpAny (model prog w) A (pyIter it) (fun i2 z => codeAny (model prog w) A (.compLoop (dcN kx vx ta ia tb ib fa fb sc pos) 1 i2 (.ref D) env) R z) (nb prog w A env R) s) :
    codeAny (model prog w) A (.compStart (dcN kx vx ta ia tb ib fa fb sc pos) 1 it (.ref D) env) R s := by
  apply codeAny_of_tree
  show wpAny _ _ ((compStart (dcN kx vx ta ia tb ib fa fb sc pos) 1 it (.ref D) env).onRaise fun x => do noteFrame x env; standAt theWindowsPlace) _ _ s
  apply wpAny_notedAt
  unfold compStart
  show wpAny _ _ (ask >>= _) _ _ s
  apply wpAny_bind; apply wpAny_askSetting; apply wpAny_ite
  split
  · first
      | exact wpAny_pure (And.intro rfl h0)
      | exact wpAny_bind (wpAny_pure (wpAny_pure (And.intro rfl h0)))
  · refine wpAny_bind (wpAny_rule ?_)
    first
      | exact wpAny_bind (wpAny_standAt (wpAny_bind (wpAny_mono h (fun i2 z q => wpAny_pure (And.intro rfl q)) fun _ _ x => x)))
      | (show wpAny _ _ (standAt ib.pos >>= _) _ _ s; exact wpAny_bind (wpAny_standAt (wpAny_bind (wpAny_mono h (fun i2 z q => wpAny_pure (And.intro rfl q)) fun _ _ x => x))))
end

/-! the rule -/
section
variable {X : Cx}
/-- what a dict comprehension of two clauses (no tests) asks: Dd the new dict -/
def tDc2 (wi : TI) (g : TG) (wi1 : TI) (g1 : TG) (tk tv : TE) (vs vs1 : List Nat) : TE := fun σ H Q => wi σ H fun J Ha => ∀ Dd, Ha Dd = none → ∃ W : Nat → Nat → Hp → Prop, (∃ m, W 0 m (upd Ha Dd (.dK []))) ∧ ∀ i m H, W i m H →
  (J.stop i H ∧ Q (.ref Dd) H) ∨ (J.go i H ∧ ∃ Nx : Hp → Prop, (∀ H', Nx H' → ∃ m', m' < m ∧ W (i + 1) m' H') ∧ ∀ x H', J.yld i H x H' → g x (wipe σ vs) H' fun σ2 H2 => wipe σ2 vs = wipe σ vs ∧
    wi1 σ2 H2 fun J1 H4 => ∃ W1 : Nat → Nat → Hp → Prop, (∃ m, W1 0 m H4) ∧ ∀ j k H, W1 j k H →
      (J1.stop j H ∧ Nx H) ∨ (J1.go j H ∧ ∃ Ny : Hp → Prop, (∀ H', Ny H' → ∃ k', k' < k ∧ W1 (j + 1) k' H') ∧ ∀ x H', J1.yld j H x H' → g1 x (wipe σ2 vs1) H' fun σ3 H5 => wipe σ3 vs1 = wipe σ2 vs1 ∧
        tk σ3 H5 fun y H6 => tv σ3 H6 fun z H7 => ∃ kvs key, y = kV key ∧ H7 Dd = some (.dK kvs) ∧ kvs.length < sizeLine ∧ Ny (upd H7 Dd (.dK (putK kvs key z)))))
abbrev Blk (X : Cx) (sc : Scope) (f : Cx → Prop) : Prop := ∀ (s : Shared) (H : Hp) (C : Addr) (cl : List (Str × Addr)) (fp : List Addr), f (X.blk s H sc (compEnvC sc cl C X.env) fp)
theorem pe_dc2 {kx vx ta ia tb ib : Expr} {sc : Scope} {own : List (Str × Nat)} {vs1 : List Nat} {pos : Pos} {wi wi1 : TI} {g g1 : TG} {tk tv : TE} (hc : X.calm = true) (hN : X.N.Nodup) (hi : PI X ta ia wi) (ok : BlkOk X.N X.env.scope sc own) (hv : ∀ i ∈ vs1, i ∈ own.map (·.2))
    (hg : Blk X sc fun Y => PG Y ta g) (hi1 : Blk X sc fun Y => PI Y tb ib wi1) (hg1 : Blk X sc fun Y => PG Y tb g1) (hk : Blk X sc fun Y => PE Y kx tk) (he : Blk X sc fun Y => PE Y vx tv)
    (hs : ∀ x, foldedSetIterable ia X.env x = pure x := by intro _; rfl) (hs1 : ∀ env x, foldedSetIterable ib env x = pure x := by intro _ _; rfl) :
    PE X (dcN kx vx ta ia tb ib [] [] sc pos) (tDc2 wi g wi1 g1 tk tv (own.map (·.2)) vs1) := by
  refine ⟨fun pins s σ H Q I h => ?_⟩
  rw [arm_eval_DictComp]
  have free : ∀ y ∈ sc.names, y.2 = .free → ∃ c, X.env.cells.lookup y.1 = some c := fun y hy e => (ok.free y hy e).elim (fun k => I.ok.has _ (.inl k)) fun k => I.ok.has _ (.inr k)
  show wpAny _ _ (comprehension (dcN kx vx ta ia tb ib [] [] sc pos) sc X.env _ newDict false (eval ia X.env) none) _ _ s
  refine wpAny_comprehension_free (use := none) rfl hs (closure_ok free) ok.kind (fun y hy e => by rw [ok.uniq y hy, e]) (thn (hi.run pins s σ H _ I h) fun xv sa hx => thn hx fun itv sb hb => ?_)
  obtain ⟨it, fp, tn, J, Hb, e, Ib, T, tnb, fpb, body⟩ := hb
  subst e
  refine wpAny_newObj_type (newEnv_comp ?_)
  -- the new dict at Dd
  generalize eD : sb.heap.objs.size = Dd
  have freeD : Hb Dd = none := Ib.hok.fresh (Nat.le_of_eq eD)
  obtain ⟨W, ⟨m0, w0⟩, turn⟩ := body Dd freeD
  generalize eS : ({ sb with heap := sb.heap.push { cls := .type "dict", data := .dict #[] } } : Shared) = sd
  have hpS : sd.heap = sb.heap.push { cls := .type "dict", data := .dict #[] } := by rw [← eS]
  have old : ∀ b o, sb.heap.get? b = some o → sd.heap.get? b = some o := fun b o q => by rw [hpS]; exact Heap.get?_push_of_some _ q
  have Id : Inv X pins σ (upd Hb Dd (.dK [])) sd := by
    rw [← eS]
    refine Ib.laid (t' := sb.toks) (fun b o q => Heap.get?_push_of_some _ q) (Nat.le_of_eq eD) ?_
    rw [← eD]
    exact dk_empty sb.heap Ib.big
  have fpd : ∀ b ∈ fp, FpOk X pins (upd Hb Dd (.dK [])) b ∧ b < sd.heap.objs.size := fun b hb => by
    obtain ⟨o, q, _⟩ := T.obj _ _ tnb b hb
    have lt := Heap.lt_size q
    exact ⟨⟨by rw [upd_ne (by rw [← eD]; exact Nat.ne_of_lt lt)]; exact (fpb b hb).1, (fpb b hb).2⟩, by rw [hpS, Heap.size_push]; exact Nat.lt_succ_of_lt lt⟩
  have tnd : tn 0 sd.heap := T.keep _ _ _ tnb fun b _ o q => old b o q
  have Ie := block_start Id ok hN fpd
  generalize eH : upd Hb Dd (.dK []) = Hd at Id Ie w0 fpd
  generalize eC : cellsFrom (sd.heap.objs.size + 1) sc.names (cloFrom X.env.cells sc.names []) = cls at Ie
  have rg := hg sd Hd sd.heap.objs.size cls fp
  have ri := hi1 sd Hd sd.heap.objs.size cls fp
  have rg1 := hg1 sd Hd sd.heap.objs.size cls fp
  have rk := hk sd Hd sd.heap.objs.size cls fp
  have rv := he sd Hd sd.heap.objs.size cls fp
  show codeAny _ _ (.compStart (dcN kx vx ta ia tb ib [] [] sc pos) 0 (.ref it) (.ref Dd) (compEnvC sc cls sd.heap.objs.size X.env)) (compPost (model X.prog X.w) X.A X.xe none (EP X pins σ Q) (.ref Dd) sd.heap.objs.size) { sd with heap := pushCells (sd.heap.push { cls := .type "dict", data := .dict #[] }) sc.names }
  have eL : (compEnvC sc cls sd.heap.objs.size X.env).locals = sd.heap.objs.size := rfl
  generalize compEnvC sc cls sd.heap.objs.size X.env = ce at Ie rg ri rg1 rk rv eL ⊢
  have none0 : ∀ b ∈ fp, Hd b = none := fun b hb => (fpd b hb).1.1
  generalize eE : ({ sd with heap := pushCells (sd.heap.push { cls := .type "dict", data := .dict #[] }) sc.names } : Shared) = se at Ie ⊢
  have tne : tn 0 se.heap := T.keep _ _ _ tnd fun b _ o q => by rw [← eE]; exact pushCells_keeps _ _ _ _ (Heap.get?_push_of_some _ q)
  have fpo : ∀ {σ' : L2.St} {H' : Hp} {z : Shared}, Inv (X.blk sd Hd sc ce fp) [] σ' H' z → (∀ b ∈ fp, H' b = none) → ∀ b ∈ fp, FpOk (X.blk sd Hd sc ce fp) [] H' b := fun {σ' H' z} I' hn b hb =>
    ⟨hn b hb, (I'.ok.exf b hb).1, I'.ok.exfs b hb, .inl hb, fun x c q => (I'.ok.exf b hb).2 x c q, fun p hp => by cases hp⟩
  have loop : codeAny (model X.prog X.w) X.A (.compLoop (dcN kx vx ta ia tb ib [] [] sc pos) 0 (.ref it) (.ref Dd) ce) (compPost (model X.prog X.w) X.A X.xe none (EP X pins σ Q) (.ref Dd) sd.heap.objs.size) se := by
    refine loop0 (hs1 ce) (fun n z => ∃ i H', Inv (X.blk sd Hd sc ce fp) [] (wipe σ (own.map (·.2))) H' z ∧ tn i z.heap ∧ (∀ b ∈ fp, H' b = none) ∧ W i n H') ?_ m0 ⟨0, Hd, Ie, tne, none0, w0⟩
    rintro n z1 ⟨i, H1, I1, tn1, no1, w1⟩
    rcases turn i n H1 w1 with ⟨stop, fin⟩ | ⟨go, Nx, hNx, step⟩
    · refine thnF (T.done (X.blk sd Hd sc ce fp) rfl rfl rfl hc i [] z1 _ H1 (fun _ _ => False) I1 (fpo I1 no1) tn1 stop) fun r z2 hr => ?_
      obtain ⟨rfl, I2⟩ := hr
      have back : Inv X pins σ H1 z2 := Id.call' (ch := fp) I2.os I2.base I2.hok I2.bare fun b hb => ⟨(fpd b hb).1.2.2.2.1, (fpd b hb).1.2.1, (fpd b hb).1.2.2.2.2.1, (fpd b hb).1.2.2.2.2.2⟩
      obtain ⟨m, ns, _⟩ := I2.loc
      have ns : z2.heap.Ns ce.locals m := ns
      rw [eL] at ns
      have cl : H1 sd.heap.objs.size = none := by have q : H1 ce.locals = none := I2.free; rw [eL] at q; exact q
      obtain ⟨f0, f1, f2, f3, f4, f5⟩ := Id.fpOk (Nat.le_refl _) cl
      exact ⟨m, ns, fun h'' sb => ⟨.ref Dd, H1, back.turned (t' := z2.toks) (fun b o hb q => (sb.2 b hb).trans q) f0 f1 f3 f4 f5, rfl, fin⟩⟩
    · refine thnF (T.item (X.blk sd Hd sc ce fp) rfl rfl rfl hc i [] z1 _ H1 (fun _ _ => False) I1 (fpo I1 no1) tn1 go) fun r z2 hr => ?_
      obtain ⟨u, rfl, nxt⟩ := hr
      refine thnF nxt fun _ z3 h3 => ?_
      obtain ⟨x, H3, I3, r3, y3, tn3, no3⟩ := h3
      have I3p := I3.pinned (fpo I3 no3) (T.obj _ _ tn3)
      refine thnF (rg.run _ z3 _ H3 x u _ I3p r3 (step x H3 y3)) fun _ z4 h4 => ?_
      obtain ⟨σ4, H4, I4, w4, q4⟩ := h4
      have ends : ∀ {σ' : L2.St} {z : Shared} {H' : Hp}, Inv (X.blk sd Hd sc ce fp) ([] ++ pinsAt fp z3.heap) σ' H' z → (wipe σ (own.map (·.2))).length = σ'.length → (∀ (j : Nat) v, (wipe σ (own.map (·.2)))[j]? = some (some v) → σ'[j]? = some (some v)) → Nx H' →
          ∃ m, m < n ∧ ∃ i H', Inv (X.blk sd Hd sc ce fp) [] (wipe σ (own.map (·.2))) H' z ∧ tn i z.heap ∧ (∀ b ∈ fp, H' b = none) ∧ W i m H' := fun {σ' z H'} I' len kn nx => by
        obtain ⟨m', lt, w'⟩ := hNx H' nx
        have held : ∀ b ∈ fp, ∀ o, z3.heap.get? b = some o → z.heap.get? b = some o ∧ H' b = none := fun b hb o q => ⟨(I'.pin (b, o) (List.mem_append_right _ (List.mem_append_right _ (mem_pinsAt hb q)))).1, (I'.pin (b, o) (List.mem_append_right _ (List.mem_append_right _ (mem_pinsAt hb q)))).2.1⟩
        refine ⟨m', lt, i + 1, H', (I'.unpinned (pins := [])).weak len kn, T.keep _ _ _ tn3 fun b hb o q => (held b hb o q).1, fun b hb => ?_, w'⟩
        obtain ⟨o, q, _⟩ := T.obj _ _ tn3 b hb
        exact (held b hb o q).2
      have len4 : (wipe σ (own.map (·.2))).length = σ4.length := by rw [← w4, wipe_length]
      have kn5 : ∀ (j : Nat) v, (wipe σ (own.map (·.2)))[j]? = some (some v) → (wipe σ4 vs1)[j]? = some (some v) := fun j v q => by
        rw [← w4] at q
        obtain ⟨a, b⟩ := wipe_some q
        rw [wipe_out fun z => b (hv j z)]
        exact a
      refine wpAny_tests_nil ?_
      rw [if_pos rfl]
      refine thnF (ri.run _ z4 σ4 H4 _ I4 q4) fun xv z5 hx => thnF hx fun itv z6 h6 => ?_
      obtain ⟨it1, fp1, tm, J1, H6, e1, I6, T1, tm6, fp6, W1, ⟨m1, v1⟩, turn1⟩ := h6
      subst e1
      have fpo1 : ∀ {H' : Hp}, (∀ b ∈ fp1, H' b = none) → ∀ b ∈ fp1, FpOk (X.blk sd Hd sc ce fp) ([] ++ pinsAt fp z3.heap) H' b := fun hn b hb => ⟨hn b hb, (fp6 b hb).2⟩
      have inner : codeAny (model X.prog X.w) X.A (.compLoop (dcN kx vx ta ia tb ib [] [] sc pos) 1 (.ref it1) (.ref Dd) ce) (fun r z => match r with
          | .ok _ => ∃ m, m < n ∧ ∃ i H', Inv (X.blk sd Hd sc ce fp) [] (wipe σ (own.map (·.2))) H' z ∧ tn i z.heap ∧ (∀ b ∈ fp, H' b = none) ∧ W i m H'
          | .error _ => False) z6 := by
        refine loop1 (fun k z => ∃ j H', Inv (X.blk sd Hd sc ce fp) ([] ++ pinsAt fp z3.heap) (wipe σ4 vs1) H' z ∧ tm j z.heap ∧ (∀ b ∈ fp1, H' b = none) ∧ W1 j k H') ?_ m1 ⟨0, H6, I6.weak (wipe_length _ _) (fun j v q => (wipe_some q).1), tm6, fun b hb => (fp6 b hb).1, v1⟩
        rintro k y1 ⟨j, G1, K1, tk1, no, ww⟩
        rcases turn1 j k G1 ww with ⟨stop1, nx1⟩ | ⟨go1, Ny, hNy, step1⟩
        · refine thnF (T1.done (X.blk sd Hd sc ce fp) rfl rfl rfl hc j _ y1 (wipe σ4 vs1) G1 (fun _ _ => False) K1 (fpo1 no) tk1 stop1) fun r y2 hr => ?_
          obtain ⟨rfl, K2⟩ := hr
          exact ends K2 (len4.trans (wipe_length σ4 vs1).symm) kn5 nx1
        · refine thnF (T1.item (X.blk sd Hd sc ce fp) rfl rfl rfl hc j _ y1 (wipe σ4 vs1) G1 (fun _ _ => False) K1 (fpo1 no) tk1 go1) fun r y2 hr => ?_
          obtain ⟨u1, rfl, nxt1⟩ := hr
          refine thnF nxt1 fun _ y3 h3 => ?_
          obtain ⟨x1, G3, K3, s3, yy, tk3, no3'⟩ := h3
          have K3p := K3.pinned (fpo1 no3') (T1.obj _ _ tk3)
          refine thnF (rg1.run _ y3 (wipe σ4 vs1) G3 x1 u1 _ K3p s3 (step1 x1 G3 yy)) fun _ y4 h4 => ?_
          obtain ⟨σ6, G4, K4, w6, q6⟩ := h4
          have ends1 : ∀ {z : Shared} {H' : Hp}, Inv (X.blk sd Hd sc ce fp) (([] ++ pinsAt fp z3.heap) ++ pinsAt fp1 y3.heap) σ6 H' z → Ny H' → ∃ m, m < k ∧ ∃ j H', Inv (X.blk sd Hd sc ce fp) ([] ++ pinsAt fp z3.heap) (wipe σ4 vs1) H' z ∧ tm j z.heap ∧ (∀ b ∈ fp1, H' b = none) ∧ W1 j m H' := fun {z H'} I' nx => by
            obtain ⟨m', lt, w'⟩ := hNy H' nx
            have held : ∀ b ∈ fp1, ∀ o, y3.heap.get? b = some o → z.heap.get? b = some o ∧ H' b = none := fun b hb o q => ⟨(I'.pin (b, o) (List.mem_append_right _ (List.mem_append_right _ (mem_pinsAt hb q)))).1, (I'.pin (b, o) (List.mem_append_right _ (List.mem_append_right _ (mem_pinsAt hb q)))).2.1⟩
            refine ⟨m', lt, j + 1, H', I'.unpinned.weak (by rw [← w6, wipe_length]) (fun j v q => by rw [← w6] at q; exact (wipe_some q).1), T1.keep _ _ _ tk3 fun b hb o q => (held b hb o q).1, fun b hb => ?_, w'⟩
            obtain ⟨o, q, _⟩ := T1.obj _ _ tk3 b hb
            exact (held b hb o q).2
          refine wpAny_tests_nil ?_
          rw [if_pos rfl]
          refine thnF (rk.run _ y4 σ6 G4 _ K4 q6) fun a y5 h5 => ?_
          obtain ⟨ya, G5, K5, r5, q5⟩ := h5
          refine thnF (rv.run _ y5 σ6 G5 _ K5 q5) fun b y6 h6 => ?_
          obtain ⟨yb, G6, K6, r6, kvs, key, ek, hD6, sz6, nx⟩ := h6
          subst ek
          exact d_dictSet (X := X.blk sd Hd sc ce fp) K6 hD6 sz6 r5 r6 fun y7 K7 => ends1 K7 nx
      exact begin1 inner (T1.self X.A 0 _ _ _ tm6 inner)
  exact codeAny_compStart_dict loop (T.self X.A 0 _ _ _ tne loop)
end
end PL
set_option Elab.async false
set_option linter.all false
set_option maxRecDepth 100000
/-! PLE: dicts with keys that are ints or texts. -/
namespace PL
open PySem PySem.Spec PyProof.Rows L2
variable {X : Cx} {E : Type} [ES E] {pos p0s p1s p2s : Pos}

class KeyE (κ : Type) [Enc κ] [DecidableEq κ] where
  key : κ → Key
  inj : ∀ {a b : κ}, key a = key b → a = b
  ok : ∀ {F : Hp} {v : V} {k : κ}, rep F v k → v = kV (key k)
instance : KeyE Int := ⟨.inl, fun h => Sum.inl.inj h, fun h => h⟩
instance : KeyE S := ⟨fun s => .inr (toS s), fun h => toS_inj (Sum.inr.inj h), fun h => h.1⟩
/-- keys of dicts: ints and texts, or tuples of these -/
class DKey (κ : Type) [Enc κ] where
  K : Type
  dec : DecidableEq K
  key : κ → K
  inj : ∀ {a b : κ}, key a = key b → a = b
  ho : List (K × V) → HO
  get : ∀ {F H : Hp} {v : V} {k : κ} {a : Addr} {kvs : List (K × V)}, Same F H → rep F v k → H a = some (ho kvs) → DGet H a v (@valV K dec kvs (key k))
  put : ∀ {F H : Hp} {v x : V} {k : κ} {a : Addr} {kvs : List (K × V)}, Same F H → rep F v k → H a = some (ho kvs) → kvs.length < sizeLine → DPut H a v x (upd H a (ho (@putK K dec kvs (key k) x)))
  len : ∀ {X : Cx} {pins : List (Addr × Obj)} {σ : L2.St} {H : Hp} {s : Shared} {a : Addr} {kvs : List (K × V)}, Inv X pins σ H s → H a = some (ho kvs) → kvs.length ≤ sizeLine
  emp : ho [] = .dK [] ∨ ho [] = .dT []
@[reducible] instance (priority := low) {κ : Type} [Enc κ] [DecidableEq κ] [KeyE κ] : DKey κ := ⟨Key, inferInstance, KeyE.key, KeyE.inj, .dK, fun _ r e => by rw [KeyE.ok r]; exact .k e, fun _ r e z => by rw [KeyE.ok r]; exact .k e z, fun I e => (dk_of I.hok e).1, .inl rfl⟩
@[reducible] instance {α β : Type} [Enc α] [Enc β] [DecidableEq α] [DecidableEq β] [KeyE α] [KeyE β] : DKey (α × β) := ⟨List Key, inferInstance, fun t => [KeyE.key t.1, KeyE.key t.2], fun h => by
    obtain ⟨h1, h2⟩ := List.cons.inj h
    exact Prod.ext (KeyE.inj h1) (KeyE.inj (List.cons.inj h2).1), .dT, fun h r e => by
    obtain ⟨p, x, y, rfl, hp, rx, ry⟩ := r
    exact .t e (by rw [h _ _ hp, KeyE.ok rx, KeyE.ok ry]; rfl), fun h r e z => by
    obtain ⟨p, x, y, rfl, hp, rx, ry⟩ := r
    exact .t e (by rw [h _ _ hp, KeyE.ok rx, KeyE.ok ry]; rfl) z, fun I e => (dt_of I.hok e).1, .inr rfl⟩
@[reducible] instance {α β γ : Type} [Enc α] [Enc β] [Enc γ] [DecidableEq α] [DecidableEq β] [DecidableEq γ] [KeyE α] [KeyE β] [KeyE γ] : DKey (T3 α β γ) := ⟨List Key, inferInstance, fun t => [KeyE.key t.a, KeyE.key t.b, KeyE.key t.c], fun {a b} h => by
    obtain ⟨h1, h2⟩ := List.cons.inj h
    obtain ⟨h2, h3⟩ := List.cons.inj h2
    obtain ⟨a1, a2, a3⟩ := a
    obtain ⟨b1, b2, b3⟩ := b
    have e1 : a1 = b1 := KeyE.inj h1
    have e2 : a2 = b2 := KeyE.inj h2
    have e3 : a3 = b3 := KeyE.inj (List.cons.inj h3).1
    rw [e1, e2, e3], .dT, fun h r e => by
    obtain ⟨p, x, y, z, rfl, hp, rx, ry, rz⟩ := r
    exact .t e (by rw [h _ _ hp, KeyE.ok rx, KeyE.ok ry, KeyE.ok rz]; rfl), fun h r e lz => by
    obtain ⟨p, x, y, z, rfl, hp, rx, ry, rz⟩ := r
    exact .t e (by rw [h _ _ hp, KeyE.ok rx, KeyE.ok ry, KeyE.ok rz]; rfl) lz, fun I e => (dt_of I.hok e).1, .inr rfl⟩
instance {κ : Type} [Enc κ] [DKey κ] : DecidableEq (DKey.K κ) := DKey.dec
section
variable {κ β : Type} [DecidableEq κ]
def putD (l : List (κ × β)) (k : κ) (v : β) : List (κ × β) :=
  if (l.any fun p => decide (p.1 = k)) = true then l.map (fun p => if p.1 = k then (p.1, v) else p) else l ++ [(k, v)]
def lookD (l : List (κ × β)) (k : κ) : Option β := (l.find? fun p => decide (p.1 = k)).map (·.2)
theorem putD_len (l : List (κ × β)) (k : κ) (v : β) : (putD l k v).length ≤ l.length + 1 := by
  unfold putD
  split
  · rw [List.length_map]; omega
  · rw [List.length_append]; exact Nat.le_refl _
variable [Enc κ] [DKey κ] [Enc β]
abbrev DPair (F : Hp) : DKey.K κ × V → κ × β → Prop := fun p q => p.1 = DKey.key q.1 ∧ rep F p.2 q.2 ∧ ∃ u, rep F u q.1
abbrev DPairs (F : Hp) : List (DKey.K κ × V) → List (κ × β) → Prop := Paired (DPair F)
theorem DPairs.mono {F F' : Hp} (h : Same F F') {a : List (DKey.K κ × V)} {l : List (κ × β)} (r : DPairs F a l) : DPairs F' a l := Paired.mapP r fun _ _ q => ⟨q.1, Enc.mono h q.2.1, q.2.2.imp fun _ z => Enc.mono h z⟩
theorem dp_any {F : Hp} (k : κ) : ∀ {a : List (DKey.K κ × V)} {l : List (κ × β)}, DPairs F a l → (a.any fun p => decide (p.1 = DKey.key k)) = l.any fun p => decide (p.1 = k)
  | _, _, .nil => rfl
  | _, _, .cons r t => by
    rw [List.any_cons, List.any_cons, dp_any k t, r.1]
    congr 1
    exact decide_eq_decide.mpr ⟨fun h => DKey.inj h, fun h => by rw [h]⟩
theorem dp_map {F : Hp} (k : κ) {v : V} {x : β} (h : rep F v x) : ∀ {a : List (DKey.K κ × V)} {l : List (κ × β)}, DPairs F a l → DPairs F (a.map fun p => if p.1 = DKey.key k then (p.1, v) else p) (l.map fun p => if p.1 = k then (p.1, x) else p)
  | _, _, .nil => .nil
  | _, _, .cons (a := p1) (b := p2) q t => by
    rw [List.map_cons, List.map_cons]
    refine .cons ?_ (dp_map k h t)
    by_cases e : p2.1 = k
    · rw [if_pos e, if_pos (by rw [q.1, e])]; exact ⟨q.1, h, q.2.2⟩
    · rw [if_neg e, if_neg (fun z => e (DKey.inj (q.1.symm.trans z)))]; exact q
theorem dp_snoc {F : Hp} (k : κ) (hk : ∃ u, rep F u k) {v : V} {x : β} (h : rep F v x) : ∀ {a : List (DKey.K κ × V)} {l : List (κ × β)}, DPairs F a l → DPairs F (a ++ [(DKey.key k, v)]) (l ++ [(k, x)])
  | _, _, .nil => .cons ⟨rfl, h, hk⟩ .nil
  | _, _, .cons q t => .cons q (dp_snoc k hk h t)
theorem dp_put {F : Hp} {a : List (DKey.K κ × V)} {l : List (κ × β)} (r : DPairs F a l) (k : κ) (hk : ∃ u, rep F u k) {v : V} {x : β} (h : rep F v x) : DPairs F (putK a (DKey.key k) v) (putD l k x) := by
  unfold putK putD
  rw [dp_any k r]
  split
  · exact dp_map k h r
  · exact dp_snoc k hk h r
theorem dp_look {F : Hp} (k : κ) : ∀ {a : List (DKey.K κ × V)} {l : List (κ × β)}, DPairs F a l → (∀ x, lookD l k = some x → ∃ v, valV a (DKey.key k) = some v ∧ rep F v x) ∧ (lookD l k = none → valV a (DKey.key k) = none)
  | _, _, .nil => ⟨fun x h => by simp [lookD] at h, fun _ => rfl⟩
  | _, _, .cons (a := p) (b := q) (l₁ := a) (l₂ := l) r t => by
    obtain ⟨h1, h2⟩ := dp_look k t
    by_cases e : q.1 = k
    · have e' : p.1 = DKey.key k := by rw [r.1, e]
      refine ⟨fun x h => ?_, fun h => ?_⟩
      · unfold lookD at h
        rw [List.find?_cons_of_pos (by simpa using e)] at h
        cases h
        exact ⟨p.2, valV_pos e', r.2.1⟩
      · unfold lookD at h
        rw [List.find?_cons_of_pos (by simpa using e)] at h
        cases h
    · have e' : ¬ p.1 = DKey.key k := fun z => e (DKey.inj (r.1.symm.trans z))
      have el : lookD (q :: l) k = lookD l k := by unfold lookD; rw [List.find?_cons_of_neg (by simpa using e)]
      rw [el, valV_neg e']
      exact ⟨h1, h2⟩
end
/-- dicts: their pairs in the order of the first stores -/
structure Dk (κ β : Type) where
  l : List (κ × β)
instance {κ β : Type} : Inhabited (Dk κ β) := ⟨⟨[]⟩⟩
instance {κ β : Type} [DecidableEq κ] [Enc κ] [DKey κ] [Enc β] : Enc (Dk κ β) := ⟨fun F v d => ∃ p a, v = .ref p ∧ F p = some (DKey.ho a) ∧ DPairs F a d.l, fun h r => by
  obtain ⟨p, a, e, f, q⟩ := r
  exact ⟨p, a, e, h _ _ f, q.mono h⟩⟩
section
variable {κ β α γ : Type} [DecidableEq κ] [Enc κ] [KeyE κ] [Enc β] [Enc α] [Enc γ] {E1 E2 E3 E4 : Type} [ES E1] [ES E2] [ES E3] [ES E4] {a b : Expr} {oka okb : E → Prop}
theorem ie_lenK {f : E → Dk κ β} (ha : IE X a f oka) (hm : X.mg "len" = none) (hg : Gl X "len" := by rfl) (he : starEach [a] X.env = (false, eval a X.env) :: starEach [] X.env := by rfl) : IE X (.Call (.Name "len" p1s) [a] [] pos) (fun e => ((f e).l.length : Int)) oka :=
  ie_imp (ie_B (c := fun _ => True) (g := fun (t : Dk κ β × Unit) => (t.1.l.length : Int)) call_lenD (fun F H vs a Q h r _ q => by
    obtain ⟨v, ws, rfl, ⟨p, us, rfl, hp, rr⟩, rfl⟩ := r
    exact ⟨p, us, rfl, h _ _ hp, q F H _ (Ext.refl h) (by rw [Paired.length rr]; rfl)⟩) hg hm PySem.boot_len (ia_one ha he) (he := he)) (fun _ _ => rfl) fun e o => ⟨o, trivial⟩
/-- a new dict that stands still from here on -/
theorem froz {F H F' H' : Hp} {p : Addr} {o : HO} (x : Ext F H F' H') (hp : H p = none) (fp : F' p = none) (h' : H' p = some o) : Ext F H (upd F' p o) H' ∧ Same F' (upd F' p o) := by
  have sm : Same F' (upd F' p o) := same_new fp
  refine ⟨⟨x.ff.trans sm, x.hh, fun b y e => ?_, fun b e n => ?_⟩, sm⟩
  · by_cases hb : b = p
    · subst hb; rw [upd_same] at e; rw [h']; exact e
    · rw [upd_ne hb] at e; exact x.fh _ _ e
  · by_cases hb : b = p
    · subst hb; exact hp
    · rw [upd_ne hb] at n; exact x.nw b e n
def fillD (l : List (κ × β)) (ps : List (κ × β)) : List (κ × β) := ps.foldl (fun d p => putD d p.1 p.2) l
theorem fillD_len : ∀ (ps l : List (κ × β)), (fillD l ps).length ≤ l.length + ps.length
  | [], l => Nat.le_refl _
  | p :: ps, l => by
    have h := fillD_len ps (putD l p.1 p.2)
    have h2 := putD_len l p.1 p.2
    show (fillD (putD l p.1 p.2) ps).length ≤ _
    rw [List.length_cons]
    omega
theorem fillD_append (l ps qs : List (κ × β)) : fillD l (ps ++ qs) = fillD (fillD l ps) qs := List.foldl_append
theorem dc2_read {vs vs1 : List Nat} {src : E → List α} {oks : E → Prop} {wp : Wp E E1 vs} {g : TG} {put : E1 → α → E2} {us : List Nat} (pt : Pat g E1 α E2 put us) (hus : ∀ i ∈ us, i ∈ vs)
    {src1 : E2 → List γ} {oks1 : E2 → Prop} {wp1 : Wp E2 E3 vs1} {g1 : TG} {put1 : E3 → γ → E4} {us1 : List Nat} (pt1 : Pat g1 E3 γ E4 put1 us1) (hus1 : ∀ i ∈ us1, i ∈ vs1) {kf : E4 → κ} {vf : E4 → β} {okk okv : E4 → Prop} {σ : L2.St} {H : Hp} {Q : VK}
    (h : tE (fun e => (⟨fillD [] ((src e).flatMap fun a => (src1 (put (wp.w e) a)).map fun b => (kf (put1 (wp1.w (put (wp.w e) a)) b), vf (put1 (wp1.w (put (wp.w e) a)) b)))⟩ : Dk κ β))
      (fun e => oks e ∧ (∀ a ∈ src e, oks1 (put (wp.w e) a) ∧ ∀ b ∈ src1 (put (wp.w e) a), okk (put1 (wp1.w (put (wp.w e) a)) b) ∧ okv (put1 (wp1.w (put (wp.w e) a)) b)) ∧ ((src e).flatMap fun a => src1 (put (wp.w e) a)).length ≤ sizeLine) σ H Q) :
    tDc2 (tS src oks) g (tS src1 oks1) g1 (tE kf okk) (tE vf okv) vs vs1 σ H Q := by
  obtain ⟨F0, H0, F, e, s, ⟨o1, o2, o3⟩, q⟩ := h
  refine ⟨F0, H0, F, e, s, o1, fun J F1 H1 X1 jk D hD => ?_⟩
  have fD : F1 D = none := X1.fh.free hD
  have hlen : ∀ xs : List α, (xs.flatMap fun a => src1 (put (wp.w e) a)).length = (xs.flatMap fun a => (src1 (put (wp.w e) a)).map fun b => (kf (put1 (wp1.w (put (wp.w e) a)) b), vf (put1 (wp1.w (put (wp.w e) a)) b))).length := by
    intro xs
    induction xs with
    | nil => rfl
    | cons x xs ih => rw [List.flatMap_cons, List.flatMap_cons, List.length_append, List.length_append, ih, List.length_map]
  rw [hlen] at o3
  have q' : ∀ F' H' p ws, Ext F H F' H' → H p = none → F' p = none → H' p = some (.dK ws) → DPairs F' ws (fillD [] ((src e).flatMap fun a => (src1 (put (wp.w e) a)).map fun b => (kf (put1 (wp1.w (put (wp.w e) a)) b), vf (put1 (wp1.w (put (wp.w e) a)) b)))) → Q (.ref p) H' := fun F' H' p ws x hp fp h' r => by
    obtain ⟨x', sm⟩ := froz x hp fp h'
    exact q _ H' _ x' ⟨p, ws, rfl, upd_same, r.mono sm⟩
  generalize hR : (fun a => (src1 (put (wp.w e) a)).map fun b => (kf (put1 (wp1.w (put (wp.w e) a)) b), vf (put1 (wp1.w (put (wp.w e) a)) b))) = R at q' o3
  have hRa : ∀ a, R a = (src1 (put (wp.w e) a)).map fun b => (kf (put1 (wp1.w (put (wp.w e) a)) b), vf (put1 (wp1.w (put (wp.w e) a)) b)) := fun a => by rw [← hR]
  refine ⟨fun i m Hc => m = (src e).length - i ∧ i ≤ (src e).length ∧ ∃ Fc ws, Ext F1 H1 Fc Hc ∧ Fc D = none ∧ Hc D = some (.dK ws) ∧ DPairs Fc ws (fillD [] (((src e).take i).flatMap R)),
    ⟨_, rfl, Nat.zero_le _, F1, [], (Ext.refl X1.fh).newO hD, fD, upd_same, by simpa [fillD] using Paired.nil⟩, ?_⟩
  rintro i m Hc ⟨rfl, hi, Fc, ws, Xc, fc, hc, rr⟩
  have keep : ∀ {Fa Ha Fb Hb : Hp} {ws : List (Key × V)}, Ext Fa Ha Fb Hb → Fa D = none → Ha D = some (.dK ws) → Fb D = none ∧ Hb D = some (.dK ws) := fun {Fa Ha Fb Hb ws} x fa ha => ⟨(by
    cases y : Fb D with
    | none => rfl
    | some o =>
      have z := x.nw D fa (by rw [y]; exact Option.some_ne_none _)
      rw [ha] at z
      cases z), x.hh _ _ ha⟩
  by_cases hlt : i < (src e).length
  · refine .inr ?_
    have hx : (src e)[i]? = some (src e)[i] := List.getElem?_eq_getElem hlt
    obtain ⟨go, yld⟩ := (jk.at' i Fc Hc Xc.ff Xc.fh).1 _ hx
    refine ⟨go, fun H' => ∃ Fn ws, Ext F1 H1 Fn H' ∧ Fn D = none ∧ H' D = some (.dK ws) ∧ DPairs Fn ws (fillD [] (((src e).take (i + 1)).flatMap R)),
      fun H' ⟨Fn, ws', a1, a2, a3, a5⟩ => ⟨(src e).length - (i + 1), by omega, rfl, hlt, Fn, ws', a1, a2, a3, a5⟩, fun v H' hy => ?_⟩
    obtain ⟨F2, X2, rv⟩ := yld v H' hy
    have S2 : SR F0 H0 F2 H' (L2.wipe σ vs) (wp.w e) := ((s.more X1).more (Xc.trans X2)).wipe wp
    obtain ⟨p1, p2⟩ := o2 _ (List.mem_of_getElem? hx)
    refine pt.run S2 rv fun σ' S3' hw => ⟨by rw [hw vs hus, wipe_idem vs vs fun _ h => h], ?_⟩
    have S3 := S3' F2 H' S2 (Same.refl _)
    refine ⟨F0, H0, F2, _, S3, p1, fun J1 F3 H3 X3 jk1 => ?_⟩
    have tk := take_succ_of (α := α) hx
    have hRx := hRa (src e)[i]
    have tot : (((src e).take i).flatMap R).length + (R (src e)[i]).length ≤ sizeLine := by
      have h1 : (((src e).take (i + 1)).flatMap R).length ≤ ((src e).flatMap R).length := by
        conv => rhs; rw [← List.take_append_drop (i + 1) (src e)]
        rw [List.flatMap_append, List.length_append]
        exact Nat.le_add_right _ _
      rw [tk, List.flatMap_append, List.flatMap_singleton, List.length_append] at h1
      omega
    generalize hxs : src1 (put (wp.w e) (src e)[i]) = ys at jk1 p2 hRx
    have X23 := X2.trans X3
    obtain ⟨k1, k2⟩ := keep X23 fc hc
    refine ⟨fun j k Hd => k = ys.length - j ∧ j ≤ ys.length ∧ ∃ Fd wd, Ext F1 H1 Fd Hd ∧ Same F3 Fd ∧ Fd D = none ∧ Hd D = some (.dK wd) ∧
        DPairs Fd wd (fillD [] (((src e).take i).flatMap R ++ (ys.take j).map fun b => (kf (put1 (wp1.w (put (wp.w e) (src e)[i])) b), vf (put1 (wp1.w (put (wp.w e) (src e)[i])) b)))),
      ⟨_, rfl, Nat.zero_le _, F3, ws, Xc.trans X23, Same.refl _, k1, k2, by simpa using rr.mono X23.ff⟩, ?_⟩
    rintro j k Hd ⟨rfl, hj, Fd, wd, Xd, md, fd, hd, rd⟩
    by_cases hlj : j < ys.length
    · refine .inr ?_
      have hy1 : ys[j]? = some ys[j] := List.getElem?_eq_getElem hlj
      obtain ⟨go1, yld1⟩ := (jk1.at' j Fd Hd md Xd.fh).1 _ hy1
      refine ⟨go1, fun H' => ∃ Fn wn, Ext F1 H1 Fn H' ∧ Same F3 Fn ∧ Fn D = none ∧ H' D = some (.dK wn) ∧
          DPairs Fn wn (fillD [] (((src e).take i).flatMap R ++ (ys.take (j + 1)).map fun b => (kf (put1 (wp1.w (put (wp.w e) (src e)[i])) b), vf (put1 (wp1.w (put (wp.w e) (src e)[i])) b)))),
        fun H' ⟨Fn, wn, a1, a2, a3, a4, a5⟩ => ⟨ys.length - (j + 1), by omega, rfl, hlj, Fn, wn, a1, a2, a3, a4, a5⟩, fun v1 H5 hy5 => ?_⟩
      obtain ⟨F5, X5, rv5⟩ := yld1 v1 H5 hy5
      have S5 : SR F0 H0 F5 H5 σ' (put (wp.w e) (src e)[i]) := S3' F5 H5 (((s.more X1).more (Xd.trans X5)).wipe wp) (X3.ff.trans (md.trans X5.ff))
      refine pt1.run (S5.wipe wp1) rv5 fun σ3 S6' hw3 => ⟨by rw [hw3 vs1 hus1, wipe_idem vs1 vs1 fun _ h => h], ?_⟩
      have S6 := S6' F5 H5 (S5.wipe wp1) (Same.refl _)
      obtain ⟨pk, pv⟩ := p2 _ (List.mem_of_getElem? hy1)
      refine ⟨F0, H0, F5, _, S6, pk, fun F6 H6 yk X6 rk => ⟨F0, H0, F6, _, S6.more X6, pv, fun F7 H7 yv X7 ry => ?_⟩⟩
      obtain ⟨g1', g2'⟩ := keep (X5.trans (X6.trans X7)) fd hd
      have ek := KeyE.ok (Enc.mono X7.ff rk)
      refine ⟨wd, _, ek, g2', ?_, F7, _, (Xd.trans (X5.trans (X6.trans X7))).redo hD g1', md.trans (X5.trans (X6.trans X7)).ff, g1', upd_same, ?_⟩
      · rw [Paired.length rd]
        refine Nat.lt_of_le_of_lt (fillD_len _ _) ?_
        rw [List.length_append, List.length_map, List.length_take, Nat.min_eq_left hj]
        rw [hRx, List.length_map] at tot
        simp only [List.length_nil]
        omega
      · rw [take_succ_of hy1, List.map_append, ← List.append_assoc, fillD_append]
        exact dp_put (rd.mono (X5.trans (X6.trans X7)).ff) _ ⟨_, Enc.mono X7.ff rk⟩ ry
    · have e2 : j = ys.length := by omega
      refine .inl ⟨(jk1.at' j Fd Hd md Xd.fh).2 e2, Fd, wd, Xd, fd, hd, ?_⟩
      rw [e2, List.take_length, ← hRx] at rd
      rw [tk, List.flatMap_append, List.flatMap_singleton]
      exact rd
  · have e1 : i = (src e).length := by omega
    refine .inl ⟨(jk.at' i Fc Hc Xc.ff Xc.fh).2 e1, ?_⟩
    rw [e1, List.take_length] at rr
    exact q' Fc Hc D ws (X1.trans Xc) (X1.hh.free hD) fc hc rr
theorem ie_dc2 {kx vx tg iter tg1 iter1 : Expr} {scope : Scope} {own : List (Str × Nat)} {vs1 : List Nat} {src : E → List α} {oks : E → Prop} {wp : Wp E E1 (own.map (·.2))} {g : TG} {put : E1 → α → E2} {us : List Nat}
    {src1 : E2 → List γ} {oks1 : E2 → Prop} {wp1 : Wp E2 E3 vs1} {g1 : TG} {put1 : E3 → γ → E4} {us1 : List Nat} {kf : E4 → κ} {vf : E4 → β} {okk okv : E4 → Prop}
    (hc : X.calm = true) (hN : X.N.Nodup) (hi : IS X tg iter src oks) (ok : blkC X.N X.env.scope scope own = true) (hv : ∀ i ∈ vs1, i ∈ own.map (·.2)) (pt : Pat g E1 α E2 put us) (hus : ∀ i ∈ us, i ∈ own.map (·.2))
    (hg : Blk X scope fun Y => PG Y tg g) (hi1 : Blk X scope fun Y => IS Y tg1 iter1 src1 oks1) (pt1 : Pat g1 E3 γ E4 put1 us1) (hus1 : ∀ i ∈ us1, i ∈ vs1) (hg1 : Blk X scope fun Y => PG Y tg1 g1)
    (hk : Blk X scope fun Y => IE Y kx kf okk) (he : Blk X scope fun Y => IE Y vx vf okv) (hs : ∀ x, foldedSetIterable iter X.env x = pure x := by intro _; rfl) (hs1 : ∀ env x, foldedSetIterable iter1 env x = pure x := by intro _ _; rfl) :
    IE X (.DictComp kx vx [⟨tg, iter, [], 0⟩, ⟨tg1, iter1, [], 0⟩] scope pos) (fun e => (⟨fillD [] ((src e).flatMap fun a => (src1 (put (wp.w e) a)).map fun b => (kf (put1 (wp1.w (put (wp.w e) a)) b), vf (put1 (wp1.w (put (wp.w e) a)) b)))⟩ : Dk κ β))
      (fun e => oks e ∧ (∀ a ∈ src e, oks1 (put (wp.w e) a) ∧ ∀ b ∈ src1 (put (wp.w e) a), okk (put1 (wp1.w (put (wp.w e) a)) b) ∧ okv (put1 (wp1.w (put (wp.w e) a)) b)) ∧ ((src e).flatMap fun a => src1 (put (wp.w e) a)).length ≤ sizeLine) :=
  pe_imp (pe_dc2 hc hN hi (blkOk_by ok) hv hg hi1 hg1 hk he hs hs1) fun σ H Q h => dc2_read pt hus pt1 hus1 h
end
end PL
set_option Elab.async false
set_option linter.all false
set_option maxRecDepth 100000
/-! PLF: signs of a text as a list, parts of texts, pop, stores by a place. -/
namespace PL
open PySem PySem.Spec PyProof.Rows L2
variable {X : Cx} {E : Type} [ES E] {pos p0s p1s p2s : Pos}

/-! ## list(text) -/
theorem call_listS (hc : X.calm = true) : CallR X (.type "list") (fun xs H Q => ∃ s : S, xs = [.str (toS s)] ∧ s.length ≤ sizeLine ∧ ∀ p, H p = none → Q (.ref p) (upd H p (.lst ((chars s).map fun c => V.str (toS c))))) := by
  intro pins st σ H xs us Q I r h
  obtain ⟨s, e, z, q⟩ := h
  subst e
  obtain ⟨u, eu, t, et⟩ := vals1 r
  subst eu; subst et
  refine PySem.call_list_str (I.ok.hd hc) (toS s) t (fun h' tk acc c keep hS items => ?_) (show (toS s).cps.size ≤ sizeLine from z)
  refine ⟨.ref st.heap.objs.size, _, I.laid keep (Nat.le_refl _) (show ObjOk X.prog X.w _ _ _ (.lst ((chars s).map fun c => V.str (toS c))) from ⟨?_, acc.toList, c, ?_, ?_⟩), rfl, q _ (I.hok.fresh (Nat.le_refl _))⟩
  · unfold chars; rw [List.length_map, List.length_map]; exact z
  · refine vals_of_at ?_ fun j x w h1 h2 => ?_
    · unfold chars
      rw [List.length_map, List.length_map]
      have := items.1
      simp only [Array.length_toList]
      rw [this]; rfl
    · obtain ⟨ch, tk', hch, rfl⟩ := items.2 j w (by simpa using h2)
      have e2 : (toS s).cps[j]? = s[j]? := by show s.toArray[j]? = _; simp
      rw [e2] at hch
      unfold chars at h1
      rw [List.getElem?_map, List.getElem?_map, hch] at h1
      cases h1
      exact ⟨tk', rfl⟩
  · simpa using hS
theorem chars_reps {F : Hp} {s : S} (h : SOk s) : ∀ {l : List Nat}, (∀ c ∈ l, c ∈ s) → Reps F ((l.map fun c => ([c] : S)).map fun c => V.str (toS c)) (l.map fun c => ([c] : S))
  | [], _ => .nil
  | c :: l, k => .cons ⟨rfl, h.sub (by show 1 ≤ sizeLine; decide) fun d hd => by rw [List.mem_singleton.mp hd]; exact k c List.mem_cons_self⟩ (chars_reps h fun d hd => k d (List.mem_cons_of_mem _ hd))
theorem io_listS {a : Expr} {f : E → S} {ok : E → Prop} (hc : X.calm = true) (ha : IE X a f ok) (hm : X.mg "list" = none) (hg : Gl X "list" := by rfl) (he : starEach [a] X.env = (false, eval a X.env) :: starEach [] X.env := by rfl) : IO X (.Call (.Name "list" p1s) [a] [] pos) (fun e => chars (f e)) ok :=
  pe_imp (io_BT (c := fun _ => True) (g := fun (t : S × Unit) => chars t.1) (call_listS hc) (fun F H vs a Q h r _ q => by
    obtain ⟨v, ws, rfl, ⟨rfl, z⟩, rfl⟩ := r
    refine ⟨a.1, rfl, z.len, fun p hp => q F _ p _ ((Ext.refl h).newO hp) hp (h.free hp) upd_same ?_ (chars_reps z fun c hc => hc)⟩
    unfold chars; rw [List.length_map, List.length_map]; exact z.len) hg hm (by decide +kernel) (ia_one ha he) (he := he)) fun σ H Q ⟨F0, H0, F, e, s, o, q⟩ => ⟨F0, H0, F, e, s, ⟨o, trivial⟩, q⟩

/-! ## x in a text -/
def inS (s t : S) : Bool := !(Builtin.Str.occurrences (toS t) (toS s) 0 (toS t).length 1).isEmpty
theorem inS_one (c : Nat) (t : S) : inS [c] t = decide (c ∈ t) := PySem.StrLaws.found_one (toS t) c
theorem r2_inS : R2S (fun x y H Q => ∃ i j, x = .str i ∧ y = .str j ∧ Q (.bl (!(Builtin.Str.occurrences j i 0 j.length 1).isEmpty)) H) (fun s t : S => inS s t) Tr2 := fun F H x y a b Q h r1 r2 _ q => ⟨toS a, toS b, r1.1, r2.1, flat_k h rfl q⟩
theorem r2_ninS : R2S (fun x y H Q => ∃ i j, x = .str i ∧ y = .str j ∧ Q (.bl (!(!(Builtin.Str.occurrences j i 0 j.length 1).isEmpty))) H) (fun s t : S => !inS s t) Tr2 := fun F H x y a b Q h r1 r2 _ q => ⟨toS a, toS b, r1.1, r2.1, flat_k h rfl q⟩
section
variable {a b : Expr} {fa fb : E → S} {oka okb : E → Prop}
theorem ie_inS (ha : IE X a fa oka) (hb : IE X b fb okb) (hm : behindInMarks .In b = false := by rfl) : IE X (.Compare a [.In] [b] pos) (fun e => inS (fa e) (fb e)) (fun e => oka e ∧ okb e) := ie_imp (ie_cmp op_in_str r2_inS ha hb hm) (fun _ _ => rfl) fun e o => ⟨o.1, o.2, trivial⟩
theorem it_inS (ha : IE X a fa oka) (hb : IE X b fb okb) (hm : behindInMarks .In b = false := by rfl) : IT X (.Compare a [.In] [b] pos) (fun e => inS (fa e) (fb e)) (fun e => oka e ∧ okb e) := it_imp (it_cmp op_in_str r2_inS ha hb hm) (fun _ _ => rfl) fun e o => ⟨o.1, o.2, trivial⟩
theorem ie_ninS (ha : IE X a fa oka) (hb : IE X b fb okb) (hm : behindInMarks .NotIn b = false := by rfl) : IE X (.Compare a [.NotIn] [b] pos) (fun e => !inS (fa e) (fb e)) (fun e => oka e ∧ okb e) := ie_imp (ie_cmp op_notin_str r2_ninS ha hb hm) (fun _ _ => rfl) fun e o => ⟨o.1, o.2, trivial⟩
theorem it_ninS (ha : IE X a fa oka) (hb : IE X b fb okb) (hm : behindInMarks .NotIn b = false := by rfl) : IT X (.Compare a [.NotIn] [b] pos) (fun e => !inS (fa e) (fb e)) (fun e => oka e ∧ okb e) := it_imp (it_cmp op_notin_str r2_ninS ha hb hm) (fun _ _ => rfl) fun e o => ⟨o.1, o.2, trivial⟩
end

/-! ## expressions that change own lists -/
def tM {α : Type} [Enc α] (f : E → α) (g : E → E) (ok : E → Prop) : TE := fun σ H Q => ∃ (F0 H0 F : Hp) (e : E), SR F0 H0 F H σ e ∧ ok e ∧ ∀ F' H' v, SR F0 H0 F' H' σ (g e) → Same F F' → rep F' v (f e) → Q v H'
abbrev IM (X : Cx) {α : Type} [Enc α] (e : Expr) (f : E → α) (g : E → E) (ok : E → Prop) : Prop := PE X e (tM f g ok)
section
variable {α : Type} [Enc α] {a : Expr} {oka : E → Prop} {q1 q2 : Pos}
/-- xs.pop() -/
theorem im_pop [Inhabited α] (v : VarO E α) {x : Str} (hN : X.N[v.i]? = some x := by rfl) (hv : Vis X.env.scope x := by first | exact Or.inl rfl | exact Or.inr (Or.inl rfl) | exact Or.inr (Or.inr rfl))
    (hd : (x == ("__debug__" : Str)) = false := by decide) (hcd : (x == ("__classdict__" : Str)) = false := by decide) (hbase : attributeBase (.Name x q1) "pop" X.env (eval (.Name x q1) X.env) = eval (.Name x q1) X.env := by rfl) (hline : (q2.endLine == pos.line) = true := by rfl) :
    IM X (.Call (.Attribute (.Name x q1) "pop" q2) [] [] pos) (fun e => (v.get e).getLastD default) (fun e => v.set e (v.get e).dropLast) (fun e => v.get e ≠ []) :=
  pe_imp (pe_bm0 PySem.F.plainAttrs_list PySem.F.slot_list_pop PySem.F.type_list_pop mt_pop (pe_var hN hv hd hcd) hbase hline) fun σ H Q ⟨F0, H0, F, e, s, o, q⟩ => by
    obtain ⟨p, vs, h1, h2, h3, h4, h5, h6⟩ := s.own v
    have ne : v.get e ≠ [] := o
    have hl := h5.length
    have hpos : 0 < (v.get e).length := List.length_pos_iff.mpr ne
    have hx : (v.get e)[(v.get e).length - 1]? = some ((v.get e).getLastD default) := by
      rw [← List.getLast?_eq_getElem?, List.getLastD_eq_getLast?]
      cases hg : (v.get e).getLast? with
      | none => rw [List.getLast?_eq_none_iff] at hg; exact absurd hg ne
      | some y => rfl
    obtain ⟨y, hy, ry⟩ := reps_of h5 hx
    refine ⟨_, h1, .inl ⟨rfl, vs, SqL.of h3⟩, p, vs, y, rfl, rfl, h3, by rw [hl]; exact hy, q F _ y (h6 vs.dropLast _ (by rw [List.length_dropLast]; omega) ?_) (Same.refl _) ry⟩
    rw [List.dropLast_eq_take, List.dropLast_eq_take, hl]
    exact reps_take _ h5
/-- xs.pop(i) -/
theorem im_popAt [Inhabited α] (v : VarO E α) {fi : E → Int} (h : IE X a fi oka) {x : Str} (hN : X.N[v.i]? = some x := by rfl) (hv : Vis X.env.scope x := by first | exact Or.inl rfl | exact Or.inr (Or.inl rfl) | exact Or.inr (Or.inr rfl))
    (hd : (x == ("__debug__" : Str)) = false := by decide) (hcd : (x == ("__classdict__" : Str)) = false := by decide) (hbase : attributeBase (.Name x q1) "pop" X.env (eval (.Name x q1) X.env) = eval (.Name x q1) X.env := by rfl)
    (hfew : ((backTo pos (starEach [a] X.env)).all (fun x => !x.1) && (backToKw pos (keywordEach [] X.env)).all (fun x => x.1.isSome) && decide ([a].length + ([] : List Keyword).length + (if ([] : List Keyword).isEmpty then 0 else 1) < 30)) = true := by rfl)
    (hline : (q2.endLine == pos.line) = true := by rfl) (hs : starEach [a] X.env = (false, eval a X.env) :: starEach [] X.env := by rfl) (hpl : (backTo pos (starEach [] X.env)).any (·.1) = false := by rfl) :
    IM X (.Call (.Attribute (.Name x q1) "pop" q2) [a] [] pos) (fun e => (v.get e).getD (fi e).toNat default) (fun e => v.set e ((v.get e).eraseIdx (fi e).toNat)) (fun e => oka e ∧ 0 ≤ fi e ∧ fi e < (v.get e).length) :=
  pe_imp (pe_bm PySem.F.plainAttrs_list PySem.F.slot_list_pop PySem.F.type_list_pop mt_popAt (pe_var hN hv hd hcd) (pa_cons h pa_nil hs) hbase hfew hline hs hpl) fun σ H Q ⟨F0, H0, F, e, s, ⟨o1, o2, o3⟩, q⟩ => by
    obtain ⟨p, vs, h1, h2, h3, h4, h5, _⟩ := s.own v
    refine ⟨_, h1, .inl ⟨rfl, vs, SqL.of h3⟩, F0, H0, F, e, s, o1, fun F1 H1 y X1 r => ?_⟩
    cases (show y = V.int (fi e) from r)
    obtain ⟨p', vs', g1, g2, g3, g4, g5, g6⟩ := (s.more X1).own v
    rw [h1] at g1
    cases g1
    have hl := g5.length
    have hlt : (fi e).toNat < (v.get e).length := by omega
    have hx : (v.get e)[(fi e).toNat]? = some ((v.get e).getD (fi e).toNat default) := by simp [hlt]
    obtain ⟨y, hy, ry⟩ := reps_of g5 hx
    have z : (v.get e).length ≤ 16777216 := by rw [← hl]; have := g4; rw [sizeLine_eq] at this; exact this
    refine ⟨p, vs', fi e, (fi e).toNat, y, rfl, rfl, g3, by omega, by omega, ?_, hy, q F1 _ y (g6 (vs'.eraseIdx (fi e).toNat) _ ?_ ?_) X1.ff ry⟩
    · rw [hl]
      exact seqIndex_of (by omega) (by omega)
    · exact Nat.le_trans (List.length_eraseIdx_le _ _) g4
    · rw [List.eraseIdx_eq_take_drop_succ, List.eraseIdx_eq_take_drop_succ]
      exact reps_append (reps_take _ g5) (reps_drop _ g5)
variable {E' EB EC β : Type} [ES E'] [ES EB] [ES EC] {RR : RetK β} {f : E → α} {g : E → E}
theorem s_setM (q : Put E α E') {x : Str} (hN : X.N.Nodup) (h : IM X a f g oka) (hi : X.N[q.i]? = some x := by rfl) (hx : Loc X.env.scope x := by first | exact Or.inl rfl | exact Or.inr rfl) (hs : swapsWith a (some (.Name x p1s)) pos.line X.env = pure false := by rfl)
    (hf : X.fn x = true ∨ X.env.scope.names.lookup x = some .local := by first | exact .inl rfl | exact .inr rfl) : SS (EB := EB) (EC := EC) X RR (.Assign [.Name x p1s] a pos) (fun K e => K.nx (q.put (g e) (f e))) (fun K e => oka e ∧ K.nx (q.put (g e) (f e))) :=
  ps_imp (ps_set hN hi hx h hs hf) fun D σ H ⟨F0, H0, F, e, K, KO, b, s, ⟨o1, o2⟩, hb, k, _⟩ => ⟨F0, H0, F, e, s, o1, fun F1 H1 v s1 m r => k F1 H1 _ _ (s1.put q r) m o2 hb⟩
theorem s_patM {tg : Expr} {gg : TG} {put : E → α → E'} {us : List Nat} (pt : Pat gg E α E' put us) (hg : PG X tg gg) (h : IM X a f g oka) (hs : swapsWithSole [tg] a pos.line X.env = pure false := by rfl) (hw : swappedStores [tg] a X.env = pure none := by rfl)
    (h1 : (assignEach [tg] X.env).map (·.2) = [assign tg X.env] := by rfl) : SS (EB := EB) (EC := EC) X RR (.Assign [tg] a pos) (fun K e => K.nx (put (g e) (f e))) (fun K e => oka e ∧ K.nx (put (g e) (f e))) :=
  ps_imp (ps_asg h hg hs hw h1) fun D σ H ⟨F0, H0, F, e, K, KO, b, s, ⟨o1, o2⟩, hb, k, _⟩ => ⟨F0, H0, F, e, s, o1, fun F1 H1 v s1 m r => pt.run s1 r fun σ' s' _ => k F1 H1 σ' _ (s' F1 H1 s1 (Same.refl _)) m o2 hb⟩
theorem s_appendM (v : VarO E α) {x : Str} {q1 q2 : Pos} (h : IM X a f g oka) (hN : X.N[v.i]? = some x := by rfl) (hv : Vis X.env.scope x := by first | exact Or.inl rfl | exact Or.inr (Or.inl rfl) | exact Or.inr (Or.inr rfl))
    (hd : (x == ("__debug__" : Str)) = false := by decide) (hcd : (x == ("__classdict__" : Str)) = false := by decide) (hbase : attributeBase (.Name x q1) "append" X.env (eval (.Name x q1) X.env) = eval (.Name x q1) X.env := by rfl)
    (hfew : ((backTo p1s (starEach [a] X.env)).all (fun x => !x.1) && (backToKw p1s (keywordEach [] X.env)).all (fun x => x.1.isSome) && decide ([a].length + ([] : List Keyword).length + (if ([] : List Keyword).isEmpty then 0 else 1) < 30)) = true := by rfl)
    (hline : (q2.endLine == p1s.line) = true := by rfl) (hs : starEach [a] X.env = (false, eval a X.env) :: starEach [] X.env := by rfl) (hpl : (backTo p1s (starEach [] X.env)).any (·.1) = false := by rfl)
    (hsw : swapsWith (.Call (.Attribute (.Name x q1) "append" q2) [a] [] p1s) none pos.line X.env = pure false := by rfl) :
    SS (EB := EB) (EC := EC) X RR (.Expr (.Call (.Attribute (.Name x q1) "append" q2) [a] [] p1s) pos) (fun K e => K.nx (v.set (g e) (v.get (g e) ++ [f e]))) (fun K e => oka e ∧ (v.get (g e)).length < sizeLine ∧ K.nx (v.set (g e) (v.get (g e) ++ [f e]))) :=
  ps_imp (ps_expr (pe_bm PySem.F.plainAttrs_list PySem.F.slot_list_append PySem.F.type_list_append mt_append (pe_var hN hv hd hcd) (pa_cons h pa_nil hs) hbase hfew hline hs hpl) hsw) fun D σ H ⟨F0, H0, F, e, K, KO, b, s, ⟨o1, o2, o3⟩, hb, k, _⟩ => by
    obtain ⟨p, vs, h1, h2, h3, h4, h5, _⟩ := s.own v
    refine ⟨_, h1, .inl ⟨rfl, vs, SqL.of h3⟩, F0, H0, F, e, s, o1, fun F1 H1 y s1 m r => ?_⟩
    obtain ⟨p', vs', g1, g2, g3, g4, g5, g6⟩ := s1.own v
    rw [h1] at g1
    cases g1
    have hl : vs'.length < sizeLine := by rw [g5.length]; exact o2
    refine ⟨p, vs', y, rfl, rfl, g3, hl, k F1 _ σ _ (g6 (vs' ++ [y]) _ (by rw [List.length_append]; exact hl) (reps_snoc g5 r)) m o3 hb⟩
theorem reps_set {F : Hp} {v : V} {x : α} (h : rep F v x) : ∀ {vs : List V} {xs : List α} (j : Nat), Reps F vs xs → Reps F (vs.set j v) (xs.set j x)
  | _, _, _, .nil => .nil
  | _, _, 0, .cons _ t => .cons h t
  | _, _, j + 1, .cons a t => .cons a (reps_set h j t)
/-- xs[i] = e -/
theorem s_setix (v : VarO E α) {x : Str} {q1 q2 : Pos} {i : Expr} {fi : E → Int} {oki : E → Prop} (h : IE X a f oka) (hi : IE X i fi oki) (hN : X.N[v.i]? = some x := by rfl) (hv : Vis X.env.scope x := by first | exact Or.inl rfl | exact Or.inr (Or.inl rfl) | exact Or.inr (Or.inr rfl))
    (hd : (x == ("__debug__" : Str)) = false := by decide) (hcd : (x == ("__classdict__" : Str)) = false := by decide)
    (ha : ∀ v, assign (.Subscript (.Name x q1) i q2) X.env v = (do
      let ov ← holding [v] (eval (.Name x q1) X.env)
      let iv ← holding [v, ov] (eval i X.env)
      standAt q2
      holding [v, ov, iv] (setItem ov iv v)
      release [v, ov, iv] []) := by intro _; rfl) (hs : swapsWithSole [.Subscript (.Name x q1) i q2] a pos.line X.env = pure false := by rfl) (hw : swappedStores [.Subscript (.Name x q1) i q2] a X.env = pure none := by rfl)
    (h1 : (assignEach [.Subscript (.Name x q1) i q2] X.env).map (·.2) = [assign (.Subscript (.Name x q1) i q2) X.env] := by rfl) :
    SS (EB := EB) (EC := EC) X RR (.Assign [.Subscript (.Name x q1) i q2] a pos) (fun K e => K.nx (v.set e ((v.get e).set (if 0 ≤ fi e then (fi e).toNat else (fi e + (v.get e).length).toNat) (f e))))
      (fun K e => oka e ∧ oki e ∧ ixOk (v.get e) (fi e) ∧ K.nx (v.set e ((v.get e).set (if 0 ≤ fi e then (fi e).toNat else (fi e + (v.get e).length).toNat) (f e)))) :=
  ps_imp (ps_asg h (pg_sub (pe_var hN hv hd hcd) hi set_list ha) hs hw h1) fun D σ H ⟨F0, H0, F, e, K, KO, b, s, ⟨o1, o2, o3, o4⟩, hb, k, _⟩ => ⟨F0, H0, F, e, s, o1, fun F1 H1 y X1 r => by
    obtain ⟨p, vs, h1, h2, h3, h4, h5, _⟩ := s.own v
    refine ⟨_, h1, F0, H0, F1, e, s.more X1, o2, fun F2 H2 yi X2 ri => ?_⟩
    cases (show yi = V.int (fi e) from ri)
    obtain ⟨p', vs', g1, g2, g3, g4, g5, g6⟩ := ((s.more X1).more X2).own v
    rw [h1] at g1
    cases g1
    have hl := g5.length
    refine ⟨p, vs', fi e, (if 0 ≤ fi e then (fi e).toNat else (fi e + (v.get e).length).toNat), rfl, rfl, g3, ?_, k F2 _ σ _ (g6 _ _ (by rw [List.length_set]; exact g4) ?_) (X1.trans X2).ff o4 hb⟩
    · obtain ⟨a1, a2⟩ := o3
      unfold ixN
      rw [hl]
      by_cases c : 0 ≤ fi e
      · rw [if_pos c, if_pos c, if_pos a2]
      · rw [if_neg c, if_neg c, if_pos a1]
    · exact reps_set (Enc.mono X2.ff r) _ g5⟩
end
end PL
set_option Elab.async false
set_option linter.all false
set_option maxRecDepth 100000
/-! PLG: what _law_same tells; loops of fixed sorts. -/
namespace PL
open PySem PySem.Spec PyProof.Rows L2
theorem isi_L (d : D) : kitB d.tyName "list" = some d.isL := by cases d <;> (dsimp only [D.tyName, D.isL]; decide +kernel)
theorem isi_T (d : D) : kitB d.tyName "tuple" = some d.isT := by cases d <;> (dsimp only [D.tyName, D.isT]; decide +kernel)
theorem isi_B (d : D) : kitB d.tyName "bool" = some d.isB := by cases d <;> (dsimp only [D.tyName, D.isB]; decide +kernel)
theorem isi_I (d : D) : kitB d.tyName "int" = some d.isI := by cases d <;> (dsimp only [D.tyName, D.isI]; decide +kernel)
theorem isi_S (d : D) : kitB d.tyName "str" = some d.isS := by cases d <;> (dsimp only [D.tyName, D.isS]; decide +kernel)
/-- depth and width are small -/
def fitD : Nat → D → Bool
  | 0, _ => false
  | n + 1, .lst xs => decide (xs.length ≤ 16777216) && xs.all (fitD n)
  | n + 1, .tup xs => decide (xs.length ≤ 16777216) && xs.all (fitD n)
  | _ + 1, _ => true
theorem sames_all : ∀ (xs ys : List D), D.sames xs ys = (decide (xs.length = ys.length) && (List.range ys.length).all fun k => D.same (xs.getD k default) (ys.getD k default))
  | [], [] => by simp [D.sames]
  | [], _ :: _ => by simp [D.sames]
  | _ :: _, [] => by simp [D.sames]
  | x :: xs, y :: ys => by
    simp only [D.sames]
    rw [sames_all xs ys, List.length_cons, List.length_cons, List.range_succ_eq_map, List.all_cons, List.all_map]
    simp only [List.getD_cons_zero, Function.comp_def, List.getD_cons_succ, Nat.succ_eq_add_one, Nat.add_right_cancel_iff]
    cases decide (xs.length = ys.length) <;> simp
theorem sames_ir (xs ys : List D) (h : xs.length = ys.length) : (irange 0 (ys.length : Int)).all (fun k => D.same (ixD xs k) (ixD ys k)) = D.sames xs ys := by
  rw [sames_all, decide_eq_true h, Bool.true_and]
  unfold irange
  rw [List.all_map]
  have e : ((ys.length : Int) - 0).toNat = ys.length := by omega
  rw [e]
  congr 1
  funext k
  show D.same (ixD xs (0 + (k : Nat))) (ixD ys (0 + (k : Nat))) = _
  have z : ∀ l : List D, ixD l (0 + (k : Int)) = l.getD k default := fun l => by
    unfold ixD
    rw [if_pos (by omega)]
    congr 1
    omega
  rw [z, z]
theorem ir_mem {a b k : Int} (h : k ∈ irange a b) : a ≤ k ∧ k < b := by
  unfold irange at h
  obtain ⟨j, hj, rfl⟩ := List.mem_map.mp h
  have := List.mem_range.mp hj
  omega
theorem rgOk_len {n : Nat} (h : n ≤ 16777216) : rgOk 0 (n : Nat) := by unfold rgOk; omega
theorem ixD_mem {α : Type} [Inhabited α] {xs : List α} {k : Int} (h0 : 0 ≤ k) (h : k < xs.length) : ixD xs k ∈ xs := by
  unfold ixD
  rw [if_pos h0, List.getD_eq_getElem?_getD, List.getElem?_eq_getElem (by omega)]
  exact List.getElem_mem _
/-! `for k in l: if not g(..): return false` -/
theorem loop_all {E E1 α : Type} (put : E → α → E1) (c : E1 → Bool) (bk : E1 → E) (hb : ∀ e a, bk (put e a) = e) (p : E → Bool) (l : List α) (e : E) :
    forC put (fun K x => if (!c x) = true then false else K.nx (bk x)) p l e = ((l.all fun a => c (put e a)) && p e) := by
  induction l with
  | nil => rfl
  | cons a l ih =>
    show (if (!c (put e a)) = true then false else forC put _ p l (bk (put e a))) = _
    rw [hb, ih, List.all_cons]
    cases c (put e a) <;> simp
theorem loopP_all {E E1 α : Type} (put : E → α → E1) (g : P3 E E E → E1 → Prop) (p : E → Prop) (l : List α) (e : E) (c : E1 → Prop) (bk : E1 → E) (hb : ∀ e a, bk (put e a) = e)
    (h : ∀ (K : P3 E E E) (x : E1), c x → K.nx (bk x) → g K x) (hc : ∀ a ∈ l, c (put e a)) (hp : p e) : forP put g p l e := by
  induction l with
  | nil => exact hp
  | cons a l ih =>
    refine h ⟨_, _, _⟩ _ (hc a (by simp)) ?_
    show forP put g p l (bk (put e a))
    rw [hb]
    exact ih fun b hb => hc b (by simp [hb])
theorem all_congr {α : Type} {p q : α → Bool} {l : List α} (h : ∀ a ∈ l, p a = q a) : l.all p = l.all q := by
  induction l with
  | nil => rfl
  | cons a l ih => rw [List.all_cons, List.all_cons, h a (by simp), ih fun b hb => h b (by simp [hb])]
/-- equal shapes -/
class SmD (α : Type) [Enc α] [ToD α] where
  sm : ∀ a b : α, D.same (ToD.d a) (ToD.d b) = true ↔ a = b
theorem sm_dec {α : Type} [Enc α] [ToD α] [SmD α] [DecidableEq α] (a b : α) : D.same (ToD.d a) (ToD.d b) = decide (a = b) := by
  by_cases h : a = b
  · rw [decide_eq_true h, SmD.sm]; exact h
  · rw [decide_eq_false h]
    cases hs : D.same (ToD.d a) (ToD.d b) with
    | false => rfl
    | true => exact absurd ((SmD.sm a b).mp hs) h
instance : SmD Int := ⟨fun a b => by show (a == b) = true ↔ _; simp⟩
instance : SmD Bool := ⟨fun a b => by show (a == b) = true ↔ _; simp⟩
instance : SmD S := ⟨fun a b => by show (a == b) = true ↔ _; simp⟩
instance : SmD Unit := ⟨fun a b => by simp [ToD.d, D.same]⟩
section
variable {α β γ : Type} [Enc α] [Enc β] [Enc γ] [ToD α] [ToD β] [ToD γ] [SmD α] [SmD β] [SmD γ]
theorem sm_all : ∀ xs ys : List α, D.sames (xs.map ToD.d) (ys.map ToD.d) = true ↔ xs = ys
  | [], [] => by simp [D.sames]
  | [], _ :: _ => by simp [D.sames]
  | _ :: _, [] => by simp [D.sames]
  | x :: xs, y :: ys => by
    rw [List.map_cons, List.map_cons]
    simp only [D.sames]
    rw [Bool.and_eq_true, SmD.sm, sm_all xs ys, List.cons.injEq]
instance : SmD (List α) := ⟨fun a b => sm_all a b⟩
instance : SmD (Tup α) := ⟨fun a b => by
  obtain ⟨a⟩ := a; obtain ⟨b⟩ := b
  rw [Tup.mk.injEq]; exact sm_all a b⟩
instance : SmD (α × β) := ⟨fun a b => by
  obtain ⟨a1, a2⟩ := a; obtain ⟨b1, b2⟩ := b
  show D.sames [_, _] [_, _] = true ↔ _
  simp only [D.sames]
  rw [Bool.and_true, Bool.and_eq_true, SmD.sm, SmD.sm, Prod.mk.injEq]⟩
instance : SmD (T3 α β γ) := ⟨fun a b => by
  obtain ⟨a1, a2, a3⟩ := a; obtain ⟨b1, b2, b3⟩ := b
  show D.sames [_, _, _] [_, _, _] = true ↔ _
  simp only [D.sames]
  rw [Bool.and_true, Bool.and_eq_true, Bool.and_eq_true, SmD.sm, SmD.sm, SmD.sm, T3.mk.injEq]⟩
end
/-- fits: by kinds -/
class FitD (α : Type) [Enc α] [ToD α] where
  n : Nat
  g : α → Prop
  ok : ∀ {a : α} {k : Nat}, g a → n ≤ k → fitD k (ToD.d a) = true
theorem fit_flat {d : D} {k : Nat} (h : d.isL = false) (h' : d.isT = false) (hk : 1 ≤ k) : fitD k d = true := by
  cases k with
  | zero => omega
  | succ k => cases d <;> simp_all [fitD, D.isL, D.isT]
instance : FitD Int := ⟨1, fun _ => True, fun _ h => fit_flat rfl rfl h⟩
instance : FitD Bool := ⟨1, fun _ => True, fun _ h => fit_flat rfl rfl h⟩
instance : FitD S := ⟨1, fun _ => True, fun _ h => fit_flat rfl rfl h⟩
instance : FitD Unit := ⟨1, fun _ => True, fun _ h => fit_flat rfl rfl h⟩
section
variable {α β γ : Type} [Enc α] [Enc β] [Enc γ] [ToD α] [ToD β] [ToD γ] [FitD α] [FitD β] [FitD γ]
instance : FitD (List α) := ⟨FitD.n α + 1, fun xs => xs.length ≤ 16777216 ∧ ∀ x ∈ xs, FitD.g x, fun {xs k} h hk => by
  cases k with
  | zero => omega
  | succ k =>
    show (decide ((xs.map ToD.d).length ≤ 16777216) && (xs.map ToD.d).all (fitD k)) = true
    rw [List.length_map, decide_eq_true h.1, Bool.true_and, List.all_map, List.all_eq_true]
    exact fun x hx => FitD.ok (h.2 x hx) (by omega)⟩
instance : FitD (Tup α) := ⟨FitD.n α + 1, fun xs => xs.l.length ≤ 16777216 ∧ ∀ x ∈ xs.l, FitD.g x, fun {xs k} h hk => by
  cases k with
  | zero => omega
  | succ k =>
    show (decide ((xs.l.map ToD.d).length ≤ 16777216) && (xs.l.map ToD.d).all (fitD k)) = true
    rw [List.length_map, decide_eq_true h.1, Bool.true_and, List.all_map, List.all_eq_true]
    exact fun x hx => FitD.ok (h.2 x hx) (by omega)⟩
instance : FitD (α × β) := ⟨max (FitD.n α) (FitD.n β) + 1, fun t => FitD.g t.1 ∧ FitD.g t.2, fun {t k} h hk => by
  cases k with
  | zero => omega
  | succ k =>
    show (decide ([ToD.d t.1, ToD.d t.2].length ≤ 16777216) && [ToD.d t.1, ToD.d t.2].all (fitD k)) = true
    simp only [List.all_cons, List.all_nil, List.length_cons, List.length_nil]
    rw [FitD.ok h.1 (by omega), FitD.ok h.2 (by omega)]
    rfl⟩
instance : FitD (T3 α β γ) := ⟨max (FitD.n α) (max (FitD.n β) (FitD.n γ)) + 1, fun t => FitD.g t.a ∧ FitD.g t.b ∧ FitD.g t.c, fun {t k} h hk => by
  cases k with
  | zero => omega
  | succ k =>
    show (decide ([ToD.d t.a, ToD.d t.b, ToD.d t.c].length ≤ 16777216) && [ToD.d t.a, ToD.d t.b, ToD.d t.c].all (fitD k)) = true
    simp only [List.all_cons, List.all_nil, List.length_cons, List.length_nil]
    rw [FitD.ok h.1 (by omega), FitD.ok h.2.1 (by omega), FitD.ok h.2.2 (by omega)]
    rfl⟩
end
end PL
set_option Elab.async false
set_option linter.all false
set_option maxRecDepth 100000
/-! PLH: the end: from what the law's def computes to the wanted statement. -/
namespace PL
open PySem PySem.Spec PyProof.Rows L2
section
variable {P : Program} {w : World} {K : PySem.W.Frag} {mg : Str → Option Value} {base : Heap} {A β E : Type} [EA A] [ES E] [Enc β] {x : Str} {st : Stmt} {f : Addr} {fd : FuncData} {N ps : List Str} {k : Nat}
theorem fnok_of [Inhabited β] {g : K3 Unit Unit Unit β → E → β} {ok : P3 Unit Unit Unit → E → Prop} (F : Fun K x x st f fd) (S : FnScope N ps (defScope st)) (ini : Ini A E N.length ps.length)
    (hb : ∀ (cdv : Value) (A' : Around) (outer : List Env) (s : Shared) (H : Hp) (E' : XK), Room k (A'.deeper (envOfC x (defScope st) s.heap.objs.size f cdv)) → SSs (cxOf CX0 P w K mg base N x (defScope st) f cdv A' outer s H E').nox retF (defBody st) g ok) :
    FnOk P w K mg base CX0 (k + 1) f fd ps (spP (fun a => g ⟨fun _ => default, fun _ => default, fun _ => default⟩ (ini.w a)) (fun a => ok ⟨fun _ => False, fun _ => False, fun _ => False⟩ (ini.w a))) := by
  refine F.ok S (fun vs H Q E h => ?_) (fun cdv A' outer s H vs Q E hr h => ?_)
  · obtain ⟨F, a, _, r, _⟩ := h
    exact ini.len r
  · obtain ⟨F, a, hs, r, o, q⟩ := h
    refine ⟨_, hb cdv A' outer s H E hr, F, H, F, ini.w a, ⟨fun _ => default, fun _ => default, fun _ => default⟩, _, _, ⟨Ext.refl hs, [], .nil, (fun _ z => nomatch z), ?_⟩, o, rfl, (fun _ _ _ _ _ _ z => z.elim), (fun _ _ _ _ _ _ z => z.elim), (fun _ _ _ _ _ _ z => z.elim), (fun F' H' v X r => q F' H' v X r), trivial⟩
    have z := ini.ok (F := F) (H := H) r
    unfold L2.start
    rw [ini.len r]
    exact z
end
/-! the module's objects without the script, should that be one of them -/
def Less (K K' : PySem.W.Frag) : Prop := ∀ (b : Addr) (o : Obj), K.lookup b = some o → (∀ its n, o.data ≠ .seq its n) → K'.lookup b = some o
theorem less_l {K K' : PySem.W.Frag} (h : Less K K') {f : Addr} {oc : Value} {od : Option Addr} {fd : FuncData} {sl : Array (Option Value)} (l : K.lookup f = some ⟨oc, od, .func fd, sl⟩) : K'.lookup f = some ⟨oc, od, .func fd, sl⟩ := h _ _ l fun _ _ z => nomatch z
theorem less_k {K K' : PySem.W.Frag} (h : Less K K') {f : Addr} {oc : Value} {od : Option Addr} {fd : FuncData} {sl : Array (Option Value)} (l : K.lookup f = some ⟨oc, od, .func fd, sl⟩) : PySem.W.keepIn K' (.ref f) = true := by
  unfold PySem.W.keepIn
  simp only [less_l h l]
theorem less_c {K K' : PySem.W.Frag} (h : Less K K') {cd : Value} {q : Str} (e : PySem.W.codeIn K cd q = true) : PySem.W.codeIn K' cd q = true := by
  unfold PySem.W.codeIn at e ⊢
  split at e
  · rename_i c
    split at e
    · rename_i oc od vs sl hl
      have l2 := h _ _ hl fun _ _ z => nomatch z
      show (match K'.lookup c with | some ⟨_, _, .fields vs, _⟩ => _ | _ => false) = true
      rw [l2]
      exact e
    · cases e
  · cases e
theorem less_n {K K' : PySem.W.Frag} (h : Less K K') {ns : Addr} {x : Str} {r : Option Value} (e : PySem.W.nsIn K ns x = some r) : PySem.W.nsIn K' ns x = some r := by
  unfold PySem.W.nsIn at e ⊢
  split at e
  · rename_i oc od es ep sl hl
    have l2 := h _ _ hl fun _ _ z => nomatch z
    rw [l2]
    exact e
  · cases e
theorem lookup_filter (a : Addr) : ∀ (K : PySem.W.Frag) (b : Addr), (K.filter fun p => p.1 != a).lookup b = if b = a then none else K.lookup b
  | [], b => by simp
  | (c, o) :: K, b => by
    rw [List.filter_cons]
    have ih := lookup_filter a K b
    by_cases hc : c = a
    · subst hc
      rw [if_neg (by simp), ih]
      by_cases hb : b = c
      · rw [if_pos hb, if_pos hb]
      · rw [if_neg hb, if_neg hb, List.lookup_cons, beq_eq_false_iff_ne.mpr hb]
    · rw [if_pos (by simpa using hc), List.lookup_cons, List.lookup_cons]
      cases hbc : b == c with
      | true =>
        have e : b = c := eq_of_beq hbc
        subst e
        rw [if_neg hc]
      | false => exact ih
theorem walk_scr {l : PySem.W.OpenLaw} {k : Nat} {q : Program} {loose : List Str} {XP : (Str → Option Value) → Heap → Prop} {YP : World → Heap → Prop} {d : DefRec} {K : Params → PySem.W.Frag} {x : Str} (m : Scr × Unit → Bool) (ok : Scr × Unit → Prop)
    (hn : l.most = some 63) (hdf : d.params.defaults = []) (hr : Room k callerA) (hY : ∀ (w : World) (h : Heap), YP w h → (K w.params).In h)
    (F : ∀ (w : World) (mg : Str → Option Value) (fa : Addr) (h : Heap) (K' : PySem.W.Frag), Less (K w.params) K' → (K w.params).In h → K'.In h → h.Ns mainGlobals mg → mg d.name = some (.ref fa) →
      ∃ fd : FuncData, (∀ (s : Shared) (u : Value), BindsTo s fd ⟨[u], []⟩ [(x, u)]) ∧ ∀ base : Heap, K'.In base → base.Ns mainGlobals mg → FnOk l.prog w K' mg base CX0 k fa fd [x] (spP m ok))
    (hsp : ∀ ns : List Int, ns.length ≤ 63 → m (⟨ns⟩, ()) = true ∧ ok (⟨ns⟩, ())) :
    PySem.W.WalkO q loose XP YP l.row.toRowW d [] (fun f vs => PySem.call f vs) := by
  refine Att.attach_call hn hdf fun w s₀ s₁ mg mb fa o pm cd doc a vs ns G Y ho hd hcd hmg hobj hints hlen hg => ?_
  have KX := hY w _ Y
  have core : ∀ K' : PySem.W.Frag, K'.lookup a = none → Less (K w.params) K' → K'.In s₁.heap → codeAny (model l.prog w) callerA (.call (.ref fa) ⟨[.ref a], []⟩) (fun r s' => r = .ok (.ret (.bool true)) ∧ OldK s₁.heap s'.heap ∧ s'.os = s₁.os ∧ AllBare s'.gens) s₁ := fun K' hl hL hI => by
    obtain ⟨fd, hb, hF⟩ := F w mg fa _ K' hL KX hI G.T.g hmg
    refine law_call hI G.T.g G.T.b G.T.builtins G.T.nolimit hg hobj hints (Nat.le_trans hlen (by decide)) hr hF hb (fun H hO hS => ?_) fun H e s' h => h
    refine ⟨H, (⟨ns⟩, ()), Same.refl _, ⟨_, [], rfl, ⟨a, rfl, ?_, hlen⟩, rfl⟩, (hsp ns hlen).2, fun F' H' r X rr => ?_⟩
    · rcases hS with hS | ⟨o, its, n, hk, _⟩
      · exact hS
      · rw [hl] at hk; cases hk
    · rw [(hsp ns hlen).1] at rr
      exact rr
  refine core ((K w.params).filter fun p => p.1 != a) (by rw [lookup_filter, if_pos rfl]) (fun b o hb ho => ?_) fun b o hb => ?_
  · rw [lookup_filter]
    by_cases e : b = a
    · subst e
      have z := KX _ _ hb
      rw [hobj] at z
      cases z
      exact absurd rfl (ho _ _)
    · rw [if_neg e]; exact hb
  · rw [lookup_filter] at hb
    by_cases e : b = a
    · rw [if_pos e] at hb; cases hb
    · rw [if_neg e] at hb; exact KX _ _ hb
end PL
set_option Elab.async false
set_option linter.all false
set_option maxRecDepth 100000
/-! PLI: plain facts: loops with an invariant, slices, greatest ones, keys of dicts. No program in sight. -/
namespace PL
section
variable {E E1 α R : Type} {put : E → α → E1} {gC : K3 E E E R → E1 → R} {gP : P3 E E E → E1 → Prop} {kC : E → R} {kP : E → Prop} {Q : R → Prop}
theorem for_ind (I : Nat → E → Prop) {l : List α} {e : E} (h0 : I 0 e)
    (step : ∀ i (a : α), l[i]? = some a → ∀ (e : E) (K : K3 E E E R) (KO : P3 E E E), I i e → (∀ e', I (i + 1) e' → KO.nx e' ∧ Q (K.nx e')) → gP KO (put e a) ∧ Q (gC K (put e a)))
    (fin : ∀ e, I l.length e → kP e ∧ Q (kC e)) : forP put gP kP l e ∧ Q (forC put gC kC l e) := by
  have go : ∀ (r : List α) (i : Nat) (e : E), r = l.drop i → i ≤ l.length → I i e → forP put gP kP r e ∧ Q (forC put gC kC r e) := by
    intro r
    induction r with
    | nil =>
      intro i e hr hi hI
      have hz : l.length ≤ i := by
        have := congrArg List.length hr
        simp at this
        omega
      have e2 : i = l.length := by omega
      subst e2
      exact fin e hI
    | cons a r ih =>
      intro i e hr hi hI
      have hlt : i < l.length := by
        have := congrArg List.length hr
        simp at this
        omega
      have ha : l[i]? = some a := by
        have h2 : (l.drop i)[0]? = some a := by rw [← hr]; rfl
        rw [List.getElem?_drop] at h2
        exact h2
      have hr2 : r = l.drop (i + 1) := by
        have h2 : (l.drop i).drop 1 = r := by rw [← hr]; rfl
        rw [List.drop_drop] at h2
        exact h2.symm
      exact step i a ha e ⟨forC put gC kC r, kC, forC put gC kC r⟩ ⟨forP put gP kP r, kP, forP put gP kP r⟩ hI fun e' h' => ih (i + 1) e' hr2 hlt h'
  exact go l 0 e (by simp) (Nat.zero_le _) h0
end
section
variable {E E1 R : Type} {put : E → Int → E1} {gC : K3 E E E R → E1 → R} {gP : P3 E E E → E1 → Prop} {kC : E → R} {kP : E → Prop} {Q : R → Prop}
theorem for_rng (I : Nat → E → Prop) {n : Int} {e : E} (h0 : I 0 e)
    (step : ∀ i : Nat, i < n.toNat → ∀ (e : E) (K : K3 E E E R) (KO : P3 E E E), I i e → (∀ e', I (i + 1) e' → KO.nx e' ∧ Q (K.nx e')) → gP KO (put e i) ∧ Q (gC K (put e i)))
    (fin : ∀ e, I n.toNat e → kP e ∧ Q (kC e)) : forP put gP kP (irange 0 n) e ∧ Q (forC put gC kC (irange 0 n) e) := by
  refine for_ind I h0 (fun i a ha e K KO hI hn => ?_) fun e hI => fin e (by rw [irange_len] at hI; simpa using hI)
  obtain ⟨h1, h2⟩ := irange_at ha
  have e1 : a = (i : Int) := by omega
  subst e1
  exact step i (by omega) e K KO hI hn
end
section
variable {α : Type}
theorem sl_to {xs : List α} {k : Int} (h : 0 ≤ k) : sl xs (some 0) (some k) = xs.take k.toNat := by
  unfold sl HT.sIx
  simp only
  rw [if_neg (by omega), if_neg (by omega)]
  simp only [Int.toNat_zero, Nat.zero_min, List.drop_zero, Nat.sub_zero]
  rw [← List.take_eq_take_min]
theorem sl_none_to {xs : List α} {k : Int} (h : 0 ≤ k) : sl xs none (some k) = xs.take k.toNat := by
  unfold sl HT.sIx
  simp only
  rw [if_neg (by omega)]
  simp only [List.drop_zero, Nat.sub_zero]
  rw [← List.take_eq_take_min]
theorem sl_from {xs : List α} {k : Int} (h : 0 ≤ k) : sl xs (some k) none = xs.drop k.toNat := by
  unfold sl HT.sIx
  simp only
  rw [if_neg (by omega)]
  by_cases h2 : k.toNat ≤ xs.length
  · rw [Nat.min_eq_left h2]
    exact List.take_of_length_le (by rw [List.length_drop]; omega)
  · rw [Nat.min_eq_right (by omega), Nat.sub_self]
    rw [List.take_zero, List.drop_eq_nil_of_le (by omega)]
theorem sl_last {xs : List α} {k : Int} (h : k < 0) : sl xs (some k) none = xs.drop (k + xs.length).toNat := by
  unfold sl HT.sIx
  simp only
  rw [if_pos h]
  exact List.take_of_length_le (by rw [List.length_drop]; omega)
theorem sl_sub {xs : List α} {a b : Option Int} {x : α} (h : x ∈ sl xs a b) : x ∈ xs := by
  unfold sl at h
  exact List.mem_of_mem_drop (List.mem_of_mem_take h)
theorem ixD_nat [Inhabited α] (xs : List α) (k : Nat) : ixD xs (k : Int) = xs.getD k default := by
  unfold ixD
  rw [if_pos (by omega), Int.toNat_natCast]
theorem ixD_get [Inhabited α] {xs : List α} {k : Nat} (h : k < xs.length) : ixD xs (k : Int) = xs[k] := by
  rw [ixD_nat, List.getD_eq_getElem?_getD, List.getElem?_eq_getElem h]; rfl
theorem ixOk_nat {xs : List α} {k : Nat} (h : k < xs.length) : ixOk xs (k : Int) := by unfold ixOk; omega
theorem ixOk_of {xs : List α} {k : Int} (h0 : 0 ≤ k) (h : k < xs.length) : ixOk xs k := by unfold ixOk; omega
theorem irange_nat (n : Nat) : irange 0 (n : Int) = (List.range n).map fun k : Nat => (k : Int) := by
  unfold irange
  have e : ((n : Int) - 0).toNat = n := by omega
  rw [e]
  exact List.map_congr_left fun k _ => by omega
theorem map_ix [Inhabited α] {β : Type} (xs : List α) (f : α → β) : ((irange 0 (xs.length : Int)).map fun k => f (ixD xs k)) = xs.map f := by
  rw [irange_nat, List.map_map]
  apply List.ext_getElem?
  intro i
  rw [List.getElem?_map, List.getElem?_map]
  by_cases h : i < xs.length
  · rw [List.getElem?_range h, List.getElem?_eq_getElem h]
    show some (f (ixD xs (i : Nat))) = _
    rw [ixD_get h]; rfl
  · rw [List.getElem?_eq_none (by simpa using h), List.getElem?_eq_none (by omega)]; rfl
theorem fm_bounds {a n : Int} (h : 0 < n) : 0 ≤ a.fmod n ∧ a.fmod n < n := ⟨Int.fmod_nonneg_of_pos a h, Int.fmod_lt_of_pos a h⟩
end
/-! what is safe, and the rest -/
theorem nx1 {A1 P Q : Prop} (a1 : A1) (h : P ∧ Q) : (A1 ∧ P) ∧ Q := ⟨⟨a1, h.1⟩, h.2⟩
theorem nx2 {A1 A2 P Q : Prop} (a1 : A1) (a2 : A2) (h : P ∧ Q) : (A1 ∧ A2 ∧ P) ∧ Q := ⟨⟨a1, a2, h.1⟩, h.2⟩
theorem nx3 {A1 A2 A3 P Q : Prop} (a1 : A1) (a2 : A2) (a3 : A3) (h : P ∧ Q) : (A1 ∧ A2 ∧ A3 ∧ P) ∧ Q := ⟨⟨a1, a2, a3, h.1⟩, h.2⟩
theorem nx4 {A1 A2 A3 A4 P Q : Prop} (a1 : A1) (a2 : A2) (a3 : A3) (a4 : A4) (h : P ∧ Q) : (A1 ∧ A2 ∧ A3 ∧ A4 ∧ P) ∧ Q := ⟨⟨a1, a2, a3, a4, h.1⟩, h.2⟩
theorem nx5 {A1 A2 A3 A4 A5 P Q : Prop} (a1 : A1) (a2 : A2) (a3 : A3) (a4 : A4) (a5 : A5) (h : P ∧ Q) : (A1 ∧ A2 ∧ A3 ∧ A4 ∧ A5 ∧ P) ∧ Q := ⟨⟨a1, a2, a3, a4, a5, h.1⟩, h.2⟩
theorem nx6 {A1 A2 A3 A4 A5 A6 P Q : Prop} (a1 : A1) (a2 : A2) (a3 : A3) (a4 : A4) (a5 : A5) (a6 : A6) (h : P ∧ Q) : (A1 ∧ A2 ∧ A3 ∧ A4 ∧ A5 ∧ A6 ∧ P) ∧ Q := ⟨⟨a1, a2, a3, a4, a5, a6, h.1⟩, h.2⟩
theorem nx7 {A1 A2 A3 A4 A5 A6 A7 P Q : Prop} (a1 : A1) (a2 : A2) (a3 : A3) (a4 : A4) (a5 : A5) (a6 : A6) (a7 : A7) (h : P ∧ Q) : (A1 ∧ A2 ∧ A3 ∧ A4 ∧ A5 ∧ A6 ∧ A7 ∧ P) ∧ Q := ⟨⟨a1, a2, a3, a4, a5, a6, a7, h.1⟩, h.2⟩
theorem nx8 {A1 A2 A3 A4 A5 A6 A7 A8 P Q : Prop} (a1 : A1) (a2 : A2) (a3 : A3) (a4 : A4) (a5 : A5) (a6 : A6) (a7 : A7) (a8 : A8) (h : P ∧ Q) : (A1 ∧ A2 ∧ A3 ∧ A4 ∧ A5 ∧ A6 ∧ A7 ∧ A8 ∧ P) ∧ Q := ⟨⟨a1, a2, a3, a4, a5, a6, a7, a8, h.1⟩, h.2⟩
theorem nx9 {A1 A2 A3 A4 A5 A6 A7 A8 A9 P Q : Prop} (a1 : A1) (a2 : A2) (a3 : A3) (a4 : A4) (a5 : A5) (a6 : A6) (a7 : A7) (a8 : A8) (a9 : A9) (h : P ∧ Q) : (A1 ∧ A2 ∧ A3 ∧ A4 ∧ A5 ∧ A6 ∧ A7 ∧ A8 ∧ A9 ∧ P) ∧ Q := ⟨⟨a1, a2, a3, a4, a5, a6, a7, a8, a9, h.1⟩, h.2⟩
theorem nx10 {A1 A2 A3 A4 A5 A6 A7 A8 A9 A10 P Q : Prop} (a1 : A1) (a2 : A2) (a3 : A3) (a4 : A4) (a5 : A5) (a6 : A6) (a7 : A7) (a8 : A8) (a9 : A9) (a10 : A10) (h : P ∧ Q) : (A1 ∧ A2 ∧ A3 ∧ A4 ∧ A5 ∧ A6 ∧ A7 ∧ A8 ∧ A9 ∧ A10 ∧ P) ∧ Q := ⟨⟨a1, a2, a3, a4, a5, a6, a7, a8, a9, a10, h.1⟩, h.2⟩
/-! greatest ones -/
theorem maxI_le {xs : List Int} {c : Int} (hn : xs ≠ []) : maxI xs ≤ c ↔ ∀ x ∈ xs, x ≤ c := by
  obtain ⟨h1, h2⟩ := maxI_mem hn
  exact ⟨fun h x hx => Int.le_trans (h2 x hx) h, fun h => h _ h1⟩
/-! keys of a dict -/
section
variable {κ β : Type} [DecidableEq κ]
theorem putD_keys (l : List (κ × β)) (k : κ) (v : β) : (putD l k v).map (·.1) = if k ∈ l.map (·.1) then l.map (·.1) else l.map (·.1) ++ [k] := by
  unfold putD
  by_cases h : (l.any fun p => decide (p.1 = k)) = true
  · rw [if_pos h]
    have hm : k ∈ l.map (·.1) := by
      rw [List.any_eq_true] at h
      obtain ⟨p, hp, e⟩ := h
      exact List.mem_map.mpr ⟨p, hp, of_decide_eq_true e⟩
    rw [if_pos hm, List.map_map]
    refine List.map_congr_left fun p _ => ?_
    show (if p.1 = k then (p.1, v) else p).1 = p.1
    split <;> rfl
  · rw [if_neg h]
    have hm : k ∉ l.map (·.1) := fun hm => h (by
      obtain ⟨p, hp, e⟩ := List.mem_map.mp hm
      exact List.any_eq_true.mpr ⟨p, hp, decide_eq_true e⟩)
    rw [if_neg hm, List.map_append]; rfl
theorem fillD_keys : ∀ (ps l : List (κ × β)), (l.map (·.1)).Nodup → ((fillD l ps).map (·.1)).Nodup ∧ ∀ k, k ∈ (fillD l ps).map (·.1) ↔ k ∈ l.map (·.1) ∨ k ∈ ps.map (·.1)
  | [], l, h => ⟨h, fun k => by simp [fillD]⟩
  | p :: ps, l, h => by
    have hn : ((putD l p.1 p.2).map (·.1)).Nodup := by
      rw [putD_keys]
      split
      · exact h
      · rename_i hm
        rw [List.nodup_append]
        exact ⟨h, by simp, fun a ha b hb => by
          have e : b = p.1 := by simpa using hb
          subst e
          intro e2
          subst e2
          exact hm ha⟩
    obtain ⟨g1, g2⟩ := fillD_keys ps (putD l p.1 p.2) hn
    refine ⟨g1, fun k => ?_⟩
    show k ∈ (fillD (putD l p.1 p.2) ps).map (·.1) ↔ _
    rw [g2 k, putD_keys, List.map_cons, List.mem_cons]
    split
    · rename_i hm
      constructor
      · rintro (h | h)
        · exact .inl h
        · exact .inr (.inr h)
      · rintro (h | h | h)
        · exact .inl h
        · exact .inl (h ▸ hm)
        · exact .inr h
    · rw [List.mem_append, List.mem_singleton]
      constructor
      · rintro ((h | h) | h)
        · exact .inl h
        · exact .inr (.inl h)
        · exact .inr (.inr h)
      · rintro (h | h | h)
        · exact .inl (.inl h)
        · exact .inl (.inr h)
        · exact .inr h
/-- as many as one wants -/
theorem same_len {α : Type} {xs ys : List α} (h1 : xs.Nodup) (h2 : ys.Nodup) (h : ∀ a, a ∈ xs ↔ a ∈ ys) : xs.length = ys.length := ((List.perm_ext_iff_of_nodup h1 h2).mpr h).length_eq
end
end PL
set_option Elab.async false
set_option linter.all false
set_option maxRecDepth 100000
/-! PLJ: tuples of four, tuple(..), names of the module, sorted texts, dead ways. -/
namespace PL
open PySem PySem.Spec PyProof.Rows L2
variable {X : Cx} {E : Type} [ES E] {pos p0s p1s p2s : Pos}

/-! ## four in a tuple -/
structure T4 (α β γ δ : Type) where
  a : α
  b : β
  c : γ
  d : δ
  deriving DecidableEq, Inhabited
section
variable {α β γ δ : Type} [Enc α] [Enc β] [Enc γ] [Enc δ]
instance : Enc (T4 α β γ δ) := ⟨fun F v t => ∃ p x y z u, v = .ref p ∧ F p = some (.tup [x, y, z, u]) ∧ rep F x t.a ∧ rep F y t.b ∧ rep F z t.c ∧ rep F u t.d, fun h r => by
  obtain ⟨p, x, y, z, u, e, hp, r1, r2, r3, r4⟩ := r
  exact ⟨p, x, y, z, u, e, h _ _ hp, Enc.mono h r1, Enc.mono h r2, Enc.mono h r3, Enc.mono h r4⟩⟩
instance : NotNone (T4 α β γ δ) := ⟨fun ⟨_, _, _, _, _, e, _⟩ => nomatch e⟩
instance [DecidableEq α] [DecidableEq β] [DecidableEq γ] [DecidableEq δ] [DEq α] [DEq β] [DEq γ] [DEq δ] : DEq (T4 α β γ δ) := ⟨fun t => .tuple [DEq.py t.a, DEq.py t.b, DEq.py t.c, DEq.py t.d], max (DEq.dep α) (max (DEq.dep β) (max (DEq.dep γ) (DEq.dep δ))) + 1, fun h r => by
    obtain ⟨p, x, y, z, u, rfl, hp, rx, ry, rz, ru⟩ := r
    exact .tup (SqT.of (h _ _ hp)) (.cons (DEq.dp h rx) (.cons (DEq.dp h ry) (.cons (DEq.dp h rz) (.cons (DEq.dp h ru) .nil)))), fun r => by
    obtain ⟨p, x, y, z, u, rfl, hp, rx, ry, rz, ru⟩ := r
    simp only [PyData.canLay0, PyData.canLayAll0]; rw [DEq.lay rx, DEq.lay ry, DEq.lay rz, DEq.lay ru]; rfl, fun a => by
    simp only [PyData.depth, PyData.depthAll]; have h1 := DEq.hdep a.a; have h2 := DEq.hdep a.b; have h3 := DEq.hdep a.c; have h4 := DEq.hdep a.d; omega, fun a b => by
    simp only [PyData.eqv, PyData.eqvAll]; rw [DEq.eqv, DEq.eqv, DEq.eqv, DEq.eqv]; obtain ⟨a1, a2, a3, a4⟩ := a; obtain ⟨b1, b2, b3, b4⟩ := b
    by_cases h : a1 = b1 <;> by_cases h' : a2 = b2 <;> by_cases h'' : a3 = b3 <;> by_cases h4 : a4 = b4 <;> simp [h, h', h'', h4]⟩
instance [ToD α] [ToD β] [ToD γ] [ToD δ] : ToD (T4 α β γ δ) := ⟨fun t => .tup [ToD.d t.a, ToD.d t.b, ToD.d t.c, ToD.d t.d], fun r => by
  obtain ⟨p, x, y, z, u, rfl, hp, rx, ry, rz, ru⟩ := r
  exact ⟨p, [x, y, z, u], rfl, hp, by show 4 ≤ sizeLine; decide, _, _, rfl, ToD.ok rx, _, _, rfl, ToD.ok ry, _, _, rfl, ToD.ok rz, _, _, rfl, ToD.ok ru, rfl⟩⟩
theorem ie_tup4 {a b c d : Expr} {fa : E → α} {fb : E → β} {fc : E → γ} {fd : E → δ} {oka okb okc okd : E → Prop} {k : Nat} (ha : IE X a fa oka) (hb : IE X b fb okb) (hc : IE X c fc okc) (hd : IE X d fd okd)
    (h1 : starEach [a, b, c, d] X.env = (false, eval a X.env) :: starEach [b, c, d] X.env := by rfl) (h2 : starEach [b, c, d] X.env = (false, eval b X.env) :: starEach [c, d] X.env := by rfl)
    (h3 : starEach [c, d] X.env = (false, eval c X.env) :: starEach [d] X.env := by rfl) (h4 : starEach [d] X.env = (false, eval d X.env) :: starEach [] X.env := by rfl) :
    IE X (.Tuple [a, b, c, d] k pos) (fun e => (⟨fa e, fb e, fc e, fd e⟩ : T4 α β γ δ)) (fun e => oka e ∧ okb e ∧ okc e ∧ okd e) :=
  pe_imp (pe_tup (ia_cons ha (ia_cons hb (ia_cons hc (ia_one hd h4) h3) h2) h1)) fun σ H Q ⟨F0, H0, F, e, s, o, q⟩ => ⟨F0, H0, F, e, s, o, fun F1 H1 vs X1 r => by
    obtain ⟨v, ws, rfl, r1, w, us, rfl, r2, w3, us3, rfl, r3, w4, us4, rfl, r4, rfl⟩ := r
    refine ⟨by show 4 ≤ sizeLine; decide, fun p hp => q _ _ _ (X1.new hp) ⟨p, v, w, w3, w4, rfl, upd_same, Enc.mono (same_new (X1.fh.free hp)) r1, Enc.mono (same_new (X1.fh.free hp)) r2, Enc.mono (same_new (X1.fh.free hp)) r3, Enc.mono (same_new (X1.fh.free hp)) r4⟩⟩⟩
theorem pat4 {E1 E2 E3 E4 : Type} [ES E1] [ES E2] [ES E3] [ES E4] {K : PySem.W.Frag} {g1 g2 g3 g4 : TG} {f1 : E → α → E1} {f2 : E1 → β → E2} {f3 : E2 → γ → E3} {f4 : E3 → δ → E4} {v1 v2 v3 v4 : List Nat}
    (a : Pat g1 E α E1 f1 v1) (b : Pat g2 E1 β E2 f2 v2) (c : Pat g3 E2 γ E3 f3 v3) (d : Pat g4 E3 δ E4 f4 v4) :
    Pat (gTup K 4 (gCons g1 (gCons g2 (gCons g3 (gCons g4 gNil))))) E (T4 α β γ δ) E4 (fun e t => f4 (f3 (f2 (f1 e t.a) t.b) t.c) t.d) (v1 ++ (v2 ++ (v3 ++ v4))) :=
  ⟨fun {F0 H0 F H σ e v t Q} s r h => by
    obtain ⟨p, x, y, z, u, rfl, hp, rx, ry, rz, ru⟩ := r
    refine ⟨p, [x, y, z, u], rfl, SqT.of (s.ext.fh _ _ hp), rfl, x, [y, z, u], rfl, a.run s rx fun σ1 s1 w1 => ⟨y, [z, u], rfl, b.run (s1 F H s (Same.refl _)) ry fun σ2 s2 w2 => ⟨z, [u], rfl, c.run (s2 F H (s1 F H s (Same.refl _)) (Same.refl _)) rz fun σ3 s3 w3 =>
      ⟨u, [], rfl, d.run (s3 F H (s2 F H (s1 F H s (Same.refl _)) (Same.refl _)) (Same.refl _)) ru fun σ4 s4 w4 => ⟨rfl, h σ4 (fun F2 H2 sx m => s4 F2 H2 (s3 F2 H2 (s2 F2 H2 (s1 F2 H2 sx m) m) m) m) fun ws hw => ?_⟩⟩⟩⟩⟩
    rw [w4 ws fun i hi => hw i (List.mem_append_right _ (List.mem_append_right _ (List.mem_append_right _ hi))), w3 ws fun i hi => hw i (List.mem_append_right _ (List.mem_append_right _ (List.mem_append_left _ hi))), w2 ws fun i hi => hw i (List.mem_append_right _ (List.mem_append_left _ hi)), w1 ws fun i hi => hw i (List.mem_append_left _ hi)]⟩
end
instance {α : Type} : Inhabited (Tup α) := ⟨⟨[]⟩⟩
instance {α β γ : Type} [Inhabited α] [Inhabited β] [Inhabited γ] : Inhabited (T3 α β γ) := ⟨⟨default, default, default⟩⟩
/-! parts of triples and fours -/
section
variable {α β γ δ : Type} [Enc α] [Enc β] [Enc γ] [Enc δ] {a : Expr} {ok : E → Prop} {j : Nat}
theorem ie_t0 {f : E → T3 α β γ} (ha : IE X a f ok) : IE X (.Subscript a (.Constant (.int 0) j p1s) pos) (fun e => (f e).a) ok :=
  ie_imp (pe_imp (pe_ix ix_tup ha (ie_int (E := E) (i := 0)) (fun _ _ => rfl)) fun _ _ _ w => two (k := fun (t : T3 α β γ) i => i = 0) (g := fun t _ => t.a) (fun F H x y a b Q h r1 r2 k q => by
    obtain ⟨p, u, v, w, rfl, hp, r3, r4, r5⟩ := r1; subst k; exact ⟨p, [u, v, w], 0, u, rfl, r2, SqT.of (h _ _ hp), rfl, flat_k h r3 q⟩) w) (fun _ _ => rfl) fun e o => ⟨o, trivial, rfl⟩
theorem ie_t1 {f : E → T3 α β γ} (ha : IE X a f ok) : IE X (.Subscript a (.Constant (.int 1) j p1s) pos) (fun e => (f e).b) ok :=
  ie_imp (pe_imp (pe_ix ix_tup ha (ie_int (E := E) (i := 1)) (fun _ _ => rfl)) fun _ _ _ w => two (k := fun (t : T3 α β γ) i => i = 1) (g := fun t _ => t.b) (fun F H x y a b Q h r1 r2 k q => by
    obtain ⟨p, u, v, w, rfl, hp, r3, r4, r5⟩ := r1; subst k; exact ⟨p, [u, v, w], 1, v, rfl, r2, SqT.of (h _ _ hp), rfl, flat_k h r4 q⟩) w) (fun _ _ => rfl) fun e o => ⟨o, trivial, rfl⟩
theorem ie_t2 {f : E → T3 α β γ} (ha : IE X a f ok) : IE X (.Subscript a (.Constant (.int 2) j p1s) pos) (fun e => (f e).c) ok :=
  ie_imp (pe_imp (pe_ix ix_tup ha (ie_int (E := E) (i := 2)) (fun _ _ => rfl)) fun _ _ _ w => two (k := fun (t : T3 α β γ) i => i = 2) (g := fun t _ => t.c) (fun F H x y a b Q h r1 r2 k q => by
    obtain ⟨p, u, v, w, rfl, hp, r3, r4, r5⟩ := r1; subst k; exact ⟨p, [u, v, w], 2, w, rfl, r2, SqT.of (h _ _ hp), rfl, flat_k h r5 q⟩) w) (fun _ _ => rfl) fun e o => ⟨o, trivial, rfl⟩
theorem ie_q0 {f : E → T4 α β γ δ} (ha : IE X a f ok) : IE X (.Subscript a (.Constant (.int 0) j p1s) pos) (fun e => (f e).a) ok :=
  ie_imp (pe_imp (pe_ix ix_tup ha (ie_int (E := E) (i := 0)) (fun _ _ => rfl)) fun _ _ _ w => two (k := fun (t : T4 α β γ δ) i => i = 0) (g := fun t _ => t.a) (fun F H x y a b Q h r1 r2 k q => by
    obtain ⟨p, u, v, w, z, rfl, hp, r3, r4, r5, r6⟩ := r1; subst k; exact ⟨p, [u, v, w, z], 0, u, rfl, r2, SqT.of (h _ _ hp), rfl, flat_k h r3 q⟩) w) (fun _ _ => rfl) fun e o => ⟨o, trivial, rfl⟩
theorem ie_q1 {f : E → T4 α β γ δ} (ha : IE X a f ok) : IE X (.Subscript a (.Constant (.int 1) j p1s) pos) (fun e => (f e).b) ok :=
  ie_imp (pe_imp (pe_ix ix_tup ha (ie_int (E := E) (i := 1)) (fun _ _ => rfl)) fun _ _ _ w => two (k := fun (t : T4 α β γ δ) i => i = 1) (g := fun t _ => t.b) (fun F H x y a b Q h r1 r2 k q => by
    obtain ⟨p, u, v, w, z, rfl, hp, r3, r4, r5, r6⟩ := r1; subst k; exact ⟨p, [u, v, w, z], 1, v, rfl, r2, SqT.of (h _ _ hp), rfl, flat_k h r4 q⟩) w) (fun _ _ => rfl) fun e o => ⟨o, trivial, rfl⟩
theorem ie_q2 {f : E → T4 α β γ δ} (ha : IE X a f ok) : IE X (.Subscript a (.Constant (.int 2) j p1s) pos) (fun e => (f e).c) ok :=
  ie_imp (pe_imp (pe_ix ix_tup ha (ie_int (E := E) (i := 2)) (fun _ _ => rfl)) fun _ _ _ w => two (k := fun (t : T4 α β γ δ) i => i = 2) (g := fun t _ => t.c) (fun F H x y a b Q h r1 r2 k q => by
    obtain ⟨p, u, v, w, z, rfl, hp, r3, r4, r5, r6⟩ := r1; subst k; exact ⟨p, [u, v, w, z], 2, w, rfl, r2, SqT.of (h _ _ hp), rfl, flat_k h r5 q⟩) w) (fun _ _ => rfl) fun e o => ⟨o, trivial, rfl⟩
theorem ie_q3 {f : E → T4 α β γ δ} (ha : IE X a f ok) : IE X (.Subscript a (.Constant (.int 3) j p1s) pos) (fun e => (f e).d) ok :=
  ie_imp (pe_imp (pe_ix ix_tup ha (ie_int (E := E) (i := 3)) (fun _ _ => rfl)) fun _ _ _ w => two (k := fun (t : T4 α β γ δ) i => i = 3) (g := fun t _ => t.d) (fun F H x y a b Q h r1 r2 k q => by
    obtain ⟨p, u, v, w, z, rfl, hp, r3, r4, r5, r6⟩ := r1; subst k; exact ⟨p, [u, v, w, z], 3, z, rfl, r2, SqT.of (h _ _ hp), rfl, flat_k h r6 q⟩) w) (fun _ _ => rfl) fun e o => ⟨o, trivial, rfl⟩
/-! len of a pair, a triple -/
theorem ie_len2 {f : E → α × β} (ha : IE X a f ok) (hm : X.mg "len" = none) (hg : Gl X "len" := by rfl) (he : starEach [a] X.env = (false, eval a X.env) :: starEach [] X.env := by rfl) : IE X (.Call (.Name "len" p1s) [a] [] pos) (fun _ => (2 : Int)) ok :=
  ie_imp (ie_B (c := fun _ => True) (g := fun (t : (α × β) × Unit) => (2 : Int)) call_len (fun F H vs a Q h r _ q => by
    obtain ⟨v, ws, rfl, ⟨p, u, w, rfl, hp, _⟩, rfl⟩ := r
    exact ⟨_, _, rfl, .inr ⟨[u, w], SqT.of (h _ _ hp), rfl⟩, q F H _ (Ext.refl h) rfl⟩) hg hm PySem.boot_len (ia_one ha he) (he := he)) (fun _ _ => rfl) fun e o => ⟨o, trivial⟩
theorem ie_len3 {f : E → T3 α β γ} (ha : IE X a f ok) (hm : X.mg "len" = none) (hg : Gl X "len" := by rfl) (he : starEach [a] X.env = (false, eval a X.env) :: starEach [] X.env := by rfl) : IE X (.Call (.Name "len" p1s) [a] [] pos) (fun _ => (3 : Int)) ok :=
  ie_imp (ie_B (c := fun _ => True) (g := fun (t : (T3 α β γ) × Unit) => (3 : Int)) call_len (fun F H vs a Q h r _ q => by
    obtain ⟨v, ws, rfl, ⟨p, u, w, z, rfl, hp, _⟩, rfl⟩ := r
    exact ⟨_, _, rfl, .inr ⟨[u, w, z], SqT.of (h _ _ hp), rfl⟩, q F H _ (Ext.refl h) rfl⟩) hg hm PySem.boot_len (ia_one ha he) (he := he)) (fun _ _ => rfl) fun e o => ⟨o, trivial⟩
end
/-! ## names of the module -/
theorem ie_gS (s : S) {x : Str} {y : Str} {t : Tok} (hm : X.mg x = some (.str y t)) (h : toS s = y := by rfl) (hz : decide (s.length ≤ 1000) = true := by rfl) (hc : s.all (fun c => decide (c < 1114112)) = true := by rfl) (hg : Gl X x := by rfl)
    (hd : (x == ("__debug__" : Str)) = false := by decide) : IE X (.Name x pos) (fun _ : E => s) okT :=
  pe_imp (pe_glob (v := .str y) hg hm ⟨t, rfl⟩ hd) fun _ _ _ w => let ⟨_, _, _, _, q⟩ := fin_flat w; q _ ⟨by rw [h], Nat.le_trans (of_decide_eq_true hz) (by decide), fun c hm => of_decide_eq_true (List.all_eq_true.mp hc c hm)⟩
theorem ie_gI (i : Int) {x : Str} {t : Tok} (hm : X.mg x = some (.int i t)) (hg : Gl X x := by rfl) (hd : (x == ("__debug__" : Str)) = false := by decide) : IE X (.Name x pos) (fun _ : E => i) okT :=
  pe_imp (pe_glob (v := .int i) hg hm ⟨t, rfl⟩ hd) fun _ _ _ w => let ⟨_, _, _, _, q⟩ := fin_flat w; q _ rfl
/-! ## what is never reached -/
theorem ie_dead {α : Type} [Enc α] [Inhabited α] {a : Expr} : IE X a (fun _ : E => (default : α)) (fun _ => False) := ⟨fun _ _ _ _ _ _ w => by obtain ⟨_, _, _, _, _, o, _⟩ := w; exact o.elim⟩
theorem s_dead {β E' EB EC : Type} [ES E'] [ES EB] [ES EC] {RR : RetK β} [Inhabited β] {st : Stmt} : SS (E := E) (E' := E') (EB := EB) (EC := EC) X RR st (fun _ _ => (default : β)) (fun _ _ => False) := ⟨fun _ _ _ _ _ _ w => by obtain ⟨_, _, _, _, _, _, _, _, o, _⟩ := w; exact o.elim⟩
/-! ## is True -/
section
variable {a : Expr} {f : E → Bool} {ok : E → Prop} {j : Nat} {b : Bool}
theorem ie_isB (ha : IE X a f ok) : IE X (.Compare a [.Is] [.Constant (.bool b) j p1s] pos) (fun e => decide (f e = b)) ok :=
  ie_imp (ie_cmp (k := fun _ _ => True) op_isBl (fun F H x y a b Q h r1 r2 _ q => ⟨a, b, r1, r2, flat_k h rfl q⟩) ha (ie_bl (i := b)) (nomark _)) (fun _ _ => rfl) fun e o => ⟨o, trivial, trivial⟩
theorem ie_notB (ha : IE X a f ok) : IE X (.Compare a [.IsNot] [.Constant (.bool b) j p1s] pos) (fun e => !decide (f e = b)) ok :=
  ie_imp (ie_cmp (k := fun _ _ => True) op_notBl (fun F H x y a b Q h r1 r2 _ q => ⟨a, b, r1, r2, flat_k h rfl q⟩) ha (ie_bl (i := b)) (nomark _)) (fun _ _ => rfl) fun e o => ⟨o, trivial, trivial⟩
theorem it_isB (ha : IE X a f ok) : IT X (.Compare a [.Is] [.Constant (.bool b) j p1s] pos) (fun e => decide (f e = b)) ok :=
  it_imp (it_cmp (k := fun _ _ => True) op_isBl (fun F H x y a b Q h r1 r2 _ q => ⟨a, b, r1, r2, flat_k h rfl q⟩) ha (ie_bl (i := b)) (nomark _)) (fun _ _ => rfl) fun e o => ⟨o, trivial, trivial⟩
theorem it_notB (ha : IE X a f ok) : IT X (.Compare a [.IsNot] [.Constant (.bool b) j p1s] pos) (fun e => !decide (f e = b)) ok :=
  it_imp (it_cmp (k := fun _ _ => True) op_notBl (fun F H x y a b Q h r1 r2 _ q => ⟨a, b, r1, r2, flat_k h rfl q⟩) ha (ie_bl (i := b)) (nomark _)) (fun _ _ => rfl) fun e o => ⟨o, trivial, trivial⟩
end
/-! ## tuple(text), tuple(list), one tuple behind another -/
theorem call_tupleS (hc : X.calm = true) : CallR X (.type "tuple") (fun xs H Q => ∃ s : S, xs = [.str (toS s)] ∧ s.length ≤ sizeLine ∧ ∀ p, H p = none → Q (.ref p) (upd H p (.tup ((chars s).map fun c => V.str (toS c))))) := by
  intro pins st σ H xs us Q I r h
  obtain ⟨s, e, z, q⟩ := h
  subst e
  obtain ⟨u, eu, t, et⟩ := vals1 r
  subst eu; subst et
  refine PySem.call_tuple_str (I.ok.hd hc) (toS s) t (fun h' tk acc keep items => ?_) (show (toS s).cps.size ≤ sizeLine from z)
  have I1 : Inv X pins σ H { st with heap := h' } := I.kept (t' := st.toks) keep
  refine ⟨.ref h'.objs.size, _, I1.laid (t' := tk) (fun b o e => Heap.get?_push_of_some _ e) (Nat.le_refl _) (show ObjOk X.prog X.w _ _ _ (.tup ((chars s).map fun c => V.str (toS c))) from ⟨?_, acc.toList, ?_, ?_⟩), rfl, q _ (I1.hok.fresh (Nat.le_refl _))⟩
  · unfold chars; rw [List.length_map, List.length_map]; exact z
  · refine vals_of_at ?_ fun j x w h1 h2 => ?_
    · unfold chars
      rw [List.length_map, List.length_map]
      have := items.1
      simp only [Array.length_toList]
      rw [this]; rfl
    · obtain ⟨ch, tk', hch, rfl⟩ := items.2 j w (by simpa using h2)
      have e2 : (toS s).cps[j]? = s[j]? := by show s.toArray[j]? = _; simp
      rw [e2] at hch
      unfold chars at h1
      rw [List.getElem?_map, List.getElem?_map, hch] at h1
      cases h1
      exact ⟨tk', rfl⟩
  · have e3 := IsTup.new h' acc
    simpa using e3
theorem ie_tupleS {a : Expr} {f : E → S} {ok : E → Prop} (hc : X.calm = true) (ha : IE X a f ok) (hm : X.mg "tuple" = none) (hg : Gl X "tuple" := by rfl) (he : starEach [a] X.env = (false, eval a X.env) :: starEach [] X.env := by rfl) : IE X (.Call (.Name "tuple" p1s) [a] [] pos) (fun e => (⟨chars (f e)⟩ : Tup S)) ok :=
  ie_imp (ie_BT (c := fun _ => True) (g := fun (t : S × Unit) => (⟨chars t.1⟩ : Tup S)) (call_tupleS hc) (fun F H vs a Q h r _ q => by
    obtain ⟨v, ws, rfl, ⟨rfl, z⟩, rfl⟩ := r
    refine ⟨a.1, rfl, z.len, fun p hp => q _ _ _ ((Ext.refl h).new hp) ⟨p, _, rfl, upd_same, ?_, chars_reps z fun c hc => hc⟩⟩
    unfold chars; rw [List.length_map, List.length_map]; exact z.len) hg hm (by decide +kernel) (ia_one ha he) (he := he)) (fun _ _ => rfl) fun e o => ⟨o, trivial⟩
theorem ie_tupleL {α : Type} [Enc α] {a : Expr} {f : E → List α} {ok : E → Prop} (ha : IE X a f ok) (hm : X.mg "tuple" = none) (hg : Gl X "tuple" := by rfl) (he : starEach [a] X.env = (false, eval a X.env) :: starEach [] X.env := by rfl) : IE X (.Call (.Name "tuple" p1s) [a] [] pos) (fun e => (⟨f e⟩ : Tup α)) ok :=
  ie_imp (ie_BT (c := fun _ => True) (g := fun (t : List α × Unit) => (⟨t.1⟩ : Tup α)) call_tuple_of (fun F H vs a Q h r _ q => by
    obtain ⟨v, ws, rfl, ⟨p, us, rfl, hp, z, rr⟩, rfl⟩ := r
    exact ⟨p, us, rfl, .inl ⟨SqL.of (h _ _ hp), fun l hl => q _ _ _ ((Ext.refl h).new hl) ⟨l, us, rfl, upd_same, z, rr.mono (same_new (h.free hl))⟩⟩⟩) hg hm (by decide +kernel) (ia_one ha he) (he := he)) (fun _ _ => rfl) fun e o => ⟨o, trivial⟩
instance {α : Type} : HAppend (Tup α) (Tup α) (Tup α) := ⟨fun a b => ⟨a.l ++ b.l⟩⟩
theorem ie_catT {α : Type} [Enc α] {a b : Expr} {fa fb : E → Tup α} {oka okb : E → Prop} (ha : IE X a fa oka) (hb : IE X b fb okb) : IE X (.BinOp a .Add b pos) (fun e => (⟨(fa e).l ++ (fb e).l⟩ : Tup α)) (fun e => oka e ∧ okb e ∧ (fa e).l ≠ [] ∧ (fa e).l.length + (fb e).l.length ≤ sizeLine) :=
  ie_op (k := fun (x y : Tup α) => x.l ≠ [] ∧ x.l.length + y.l.length ≤ sizeLine) (g := fun (x y : Tup α) => (⟨x.l ++ y.l⟩ : Tup α)) op_catT (fun F H x y a b Q h r1 r2 k q => by
    obtain ⟨p, us, rfl, hp, z, rr⟩ := r1
    obtain ⟨p2, us2, rfl, hp2, z2, rr2⟩ := r2
    refine ⟨p, p2, us, us2, rfl, rfl, SqT.of (h _ _ hp), SqT.of (h _ _ hp2), fun e => ?_, by rw [rr.length, rr2.length]; exact k.2, fun e => ?_, fun e l hl => ?_⟩
    · have := rr.length
      rw [e] at this
      exact k.1 (List.length_eq_zero_iff.mp this.symm)
    · refine q F H _ (Ext.refl h) ⟨p, us, rfl, hp, z, ?_⟩
      have e2 : b.l = [] := by
        have := rr2.length
        rw [e] at this
        exact List.length_eq_zero_iff.mp this.symm
      show Reps F us (a.l ++ b.l)
      rw [e2, List.append_nil]
      exact rr
    · refine q _ _ _ ((Ext.refl h).new hl) ⟨l, us ++ us2, rfl, upd_same, by rw [List.length_append, rr.length, rr2.length]; exact k.2, ?_⟩
      exact reps_append (rr.mono (same_new (h.free hl))) (rr2.mono (same_new (h.free hl)))) ha hb
theorem ie_tupU {α : Type} [Enc α] {es : List Expr} {g : E → List α} {ok' : E → Prop} {k : Nat} (h : IL X es g ok') (hz : decide (es.length ≤ 1000) = true := by rfl) : IE X (.Tuple es k pos) (fun e => (⟨g e⟩ : Tup α)) ok' :=
  pe_imp (pe_tup h.pa) fun σ H Q ⟨F0, H0, F, e, s, o, q⟩ => ⟨F0, H0, F, e, s, o, fun F1 H1 vs X1 r => by
    have z : vs.length ≤ sizeLine := by rw [r.length, h.len e]; exact Nat.le_trans (of_decide_eq_true hz) (by decide)
    exact ⟨z, fun p hp => q _ _ _ (X1.new hp) ⟨p, vs, rfl, upd_same, z, r.mono (same_new (X1.fh.free hp))⟩⟩⟩
end PL
set_option Elab.async false
set_option linter.all false
set_option maxRecDepth 100000
set_option maxHeartbeats 1000000
/-! PLK: dicts of one's own, d[k], k in d, dict comprehensions of one clause, sorted. -/
namespace PL
open PySem PySem.Spec PyProof.Rows L2
variable {X : Cx} {E : Type} [ES E] {pos p0s p1s p2s : Pos}

/-! ## own dicts -/
structure Od (κ β : Type) where
  l : List (κ × β)
section
variable {κ β : Type} [DecidableEq κ] [Enc κ] [DKey κ] [Enc β]
instance : SK (Od κ β) := ⟨fun F H os x t => ∃ p a, os = [p] ∧ x = some (.ref p) ∧ H p = some (DKey.ho a) ∧ DPairs F a t.l, fun h k r => by
  obtain ⟨p, a, rfl, rfl, hp, rr⟩ := r
  exact ⟨p, a, rfl, rfl, by rw [k p List.mem_cons_self]; exact hp, rr.mono h⟩, fun _ => trivial⟩
end
structure VarD (E κ β : Type) [ES E] [DecidableEq κ] [Enc κ] [DKey κ] [Enc β] where
  i : Nat
  get : E → List (κ × β)
  set : E → List (κ × β) → E
  ok : ∀ {F H : Hp} {os : List Addr} {σ : L2.St} {e : E}, os.Nodup → ES.rep F H os σ e → ∃ p a, p ∈ os ∧ σ[i]? = some (some (.ref p)) ∧ H p = some (DKey.ho a) ∧ DPairs F a (get e) ∧
    ∀ F' H' a' l', Same F F' → (∀ q ∈ os, q ≠ p → H' q = H q) → H' p = some (DKey.ho a') → DPairs F' a' l' → ES.rep F' H' os σ (set e l')
section
variable {κ β : Type} [DecidableEq κ] [Enc κ] [DKey κ] [Enc β]
@[reducible] def d0 : VarD (Od κ β × E) κ β := ⟨0, fun e => e.1.l, fun e x => (⟨x⟩, e.2), fun {F H os σ e} nd r => by
  obtain ⟨x, σ', a, b, e1, e2, ⟨p, vs, ea, ex, hp, rr⟩, rb⟩ := r
  subst e1; subst e2; subst ea; subst ex
  refine ⟨p, vs, List.mem_append_left _ List.mem_cons_self, rfl, hp, rr, fun F' H' vs' xs' sf k h' r' => ⟨_, σ', [p], b, rfl, rfl, ⟨p, vs', rfl, rfl, h', r'⟩, ES.mono sf (fun q hq => k q (List.mem_append_right _ hq) ?_) rb⟩⟩
  rintro rfl
  exact (List.nodup_cons.mp nd).1 hq⟩
@[reducible] def dS {T : Type} [SK T] (v : VarD E κ β) : VarD (T × E) κ β := ⟨v.i + 1, fun e => v.get e.2, fun e x => (e.1, v.set e.2 x), fun {F H os σ e} nd r => by
  obtain ⟨x, σ', a, b, e1, e2, ra, rb⟩ := r
  subst e1; subst e2
  rw [List.nodup_append] at nd
  obtain ⟨p, vs, h1, h2, h3, h5, h6⟩ := v.ok nd.2.1 rb
  refine ⟨p, vs, List.mem_append_right _ h1, by simpa using h2, h3, h5, fun F' H' vs' xs' sf k h' r' => ⟨x, σ', a, b, rfl, rfl, SK.mono sf (fun q hq => k q (List.mem_append_left _ hq) fun z => nd.2.2 q hq p h1 z) ra, h6 F' H' vs' xs' sf (fun q hq hn => k q (List.mem_append_right _ hq) hn) h' r'⟩⟩⟩
/-- an own dict stands still -/
@[reducible] def fD : Frz (Od κ β × E) (Dk κ β × E) := ⟨fun e => (⟨e.1.l⟩, e.2), fun {F H os σ e} nd fn r => by
  obtain ⟨x, σ', a, b, e1, e2, ⟨p, vs, ea, ex, hp, rr⟩, rb⟩ := r
  subst e1; subst e2; subst ea; subst ex
  have hs : Same F (upd F p (DKey.ho vs)) := same_new (fn p List.mem_cons_self)
  obtain ⟨n1, n2⟩ := List.nodup_cons.mp (show (p :: b).Nodup from nd)
  exact ⟨p, DKey.ho vs, b, List.mem_cons_self, hp, n2, fun q hq => ⟨List.mem_cons_of_mem _ hq, fun z => n1 (z ▸ hq)⟩, _, σ', [], b, rfl, rfl, ⟨rfl, _, rfl, p, vs, rfl, upd_same, rr.mono hs⟩, ES.mono hs (fun _ _ => rfl) rb⟩⟩
theorem SR.ownD (v : VarD E κ β) {F0 H0 F H : Hp} {σ : L2.St} {e : E} (s : SR F0 H0 F H σ e) : ∃ p a, σ[v.i]? = some (some (.ref p)) ∧ F p = none ∧ H p = some (DKey.ho a) ∧ DPairs F a (v.get e) ∧
    ∀ a' l', DPairs F a' l' → SR F0 H0 F (upd H p (DKey.ho a')) σ (v.set e l') := by
  obtain ⟨os, nd, fr, r⟩ := s.st
  obtain ⟨p, a, h1, h2, h3, h5, h6⟩ := v.ok nd r
  obtain ⟨fp, h0, _⟩ := fr p h1
  refine ⟨p, a, h2, fp, h3, h5, fun a' l' r' => ⟨⟨s.ext.ff, fun b o e => ?_, fun b o e => ?_, s.ext.nw⟩, os, nd, fun q hq => ?_, h6 F _ a' l' (Same.refl _) (fun q hq hn => upd_ne hn) upd_same r'⟩⟩
  · rw [upd_ne (ne_of_none e h0)]; exact s.ext.hh _ _ e
  · rw [upd_ne (ne_of_none e fp)]; exact s.ext.fh _ _ e
  · obtain ⟨a, b, c⟩ := fr q hq
    refine ⟨a, b, ?_⟩
    by_cases e : q = p
    · subst e; rw [upd_same]; exact Option.some_ne_none _
    · rw [upd_ne e]; exact c
theorem SR.putD {E' : Type} [ES E'] (q : Put E (Od κ β) E') {F0 H0 F H F' H' : Hp} {σ : L2.St} {e : E} {p : Addr} {a : List (DKey.K κ × V)} {l : List (κ × β)} (s : SR F0 H0 F H σ e) (x : Ext F H F' H') (hp : H p = none) (fp : F' p = none)
    (h : H' p = some (DKey.ho a)) (r : DPairs F' a l) : SR F0 H0 F' H' (σ.set q.i (some (.ref p))) (q.put e ⟨l⟩) := by
  have s' := s.more x
  obtain ⟨os, nd, fr, rr⟩ := s.st
  have mm : ES.rep F' H' os σ e := ES.mono x.ff (fun z hz => by
    obtain ⟨_, _, c⟩ := fr z hz
    obtain ⟨o, w⟩ := Option.ne_none_iff_exists'.mp c
    rw [x.hh _ _ w, w]) rr
  obtain ⟨os', n', m', r'⟩ := q.ok (F := F') (H := H') (o1 := [p]) (t := ⟨l⟩) mm ⟨p, a, rfl, rfl, h, r⟩ (fun y hy z => by
      have e : y = p := by simpa using hy
      subst e
      exact (fr _ z).2.2 hp) nd (List.nodup_cons.mpr ⟨List.not_mem_nil, .nil⟩)
  refine ⟨s'.ext, os', n', fun y hy => ?_, r'⟩
  rcases m' y hy with hy | hy
  · obtain ⟨os2, nd2, fr2, _⟩ := s'.st
    obtain ⟨a1, b1, c1⟩ := fr y hy
    refine ⟨?_, b1, ?_⟩
    · cases z : F' y with
      | none => rfl
      | some o => exact absurd (x.nw y a1 (by rw [z]; exact Option.some_ne_none _)) c1
    · obtain ⟨o, w⟩ := Option.ne_none_iff_exists'.mp c1
      rw [x.hh _ _ w]; exact Option.some_ne_none _
  · have e1 : y = p := by simpa using hy
    subst e1
    refine ⟨fp, ?_, by rw [h]; exact Option.some_ne_none _⟩
    cases z : H0 y with
    | none => rfl
    | some o => rw [s.ext.hh _ _ z] at hp; cases hp
theorem pe_dnew : PE X (.Dict [] [] pos) (fun _ H Q => ∀ p, H p = none → Q (.ref p) (upd H p (DKey.ho (κ := κ) []))) := by
  rcases DKey.emp (κ := κ) with h | h
  · rw [h]; exact pe_dnewK
  · rw [h]; exact pe_dnewT
section
variable {β' E' EB EC : Type} [ES E'] [ES EB] [ES EC] {RR : RetK β'}
/-- x = {} -/
theorem s_newD (q : Put E (Od κ β) E') {x : Str} (hN : X.N.Nodup) (hi : X.N[q.i]? = some x := by rfl) (hx : Loc X.env.scope x := by first | exact Or.inl rfl | exact Or.inr rfl) (hs : swapsWith (.Dict [] [] p2s) (some (.Name x p1s)) pos.line X.env = pure false := by rfl)
    (hf : X.fn x = true ∨ X.env.scope.names.lookup x = some .local := by first | exact .inl rfl | exact .inr rfl) : SS (EB := EB) (EC := EC) X RR (.Assign [.Name x p1s] (.Dict [] [] p2s) pos) (fun K e => K.nx (q.put e ⟨[]⟩)) (fun K e => K.nx (q.put e ⟨[]⟩)) :=
  ps_imp (ps_set hN hi hx (pe_dnew (κ := κ)) hs hf) fun D σ H ⟨F0, H0, F, e, K, KO, b, s, o, hb, k, _⟩ p hp =>
    k F _ _ _ (s.putD q ((Ext.refl s.ext.fh).newO hp) hp (s.ext.fh.free hp) upd_same .nil) (Same.refl _) o hb
/-- d[k] = e -/
theorem s_putD {k0 : Nat} (v : VarD E κ β) {x : Str} {q1 q2 : Pos} {a i : Expr} {f : E → β} {fi : E → κ} {oka oki : E → Prop} (hr : Room k0 X.A) (h : IE X a f oka) (hi : IE X i fi oki) (hN : X.N[v.i]? = some x := by rfl)
    (hv : Vis X.env.scope x := by first | exact Or.inl rfl | exact Or.inr (Or.inl rfl) | exact Or.inr (Or.inr rfl)) (hd : (x == ("__debug__" : Str)) = false := by decide) (hcd : (x == ("__classdict__" : Str)) = false := by decide)
    (hs : swapsWith a (some (.Subscript (.Name x q1) i q2)) pos.line X.env = pure false := by rfl) :
    SS (EB := EB) (EC := EC) X RR (.Assign [.Subscript (.Name x q1) i q2] a pos) (fun K e => K.nx (v.set e (putD (v.get e) (fi e) (f e)))) (fun K e => oka e ∧ oki e ∧ (v.get e).length < sizeLine ∧ K.nx (v.set e (putD (v.get e) (fi e) (f e)))) :=
  ps_imp (ps_dput (hu_of hr) (pe_var hN hv hd hcd) hi h hs) fun D σ H ⟨F0, H0, F, e, K, KO, b, s, ⟨o1, o2, o3, o4⟩, hb, k, _⟩ => ⟨F0, H0, F, e, s, o1, fun F1 H1 y X1 r => by
    obtain ⟨p, a1, h1, _⟩ := s.ownD v
    refine ⟨_, h1, F0, H0, F1, e, s.more X1, o2, fun F2 H2 yi X2 ri => ?_⟩
    obtain ⟨p', a', g1, g2, g3, g5, g6⟩ := ((s.more X1).more X2).ownD v
    rw [h1] at g1
    cases g1
    exact ⟨p, _, rfl, DKey.put X2.fh ri g3 (by rw [Paired.length g5]; exact o3), k F2 _ σ _ (g6 _ _ (dp_put g5 _ ⟨_, ri⟩ (Enc.mono X2.ff r))) (X1.trans X2).ff o4 hb⟩⟩
end
/-! ## d[k], k in d -/
variable {a b : Expr} {fa : E → κ} {fb : E → Dk κ β} {oka okb : E → Prop} {k0 : Nat}
theorem in_read {F H : Hp} {y x : V} {k : κ} {d : Dk κ β} (h : Same F H) (r1 : rep F y k) (r2 : rep F x d) : ∃ p o, x = .ref p ∧ DGet H p y o ∧ o.isSome = (lookD d.l k).isSome := by
  obtain ⟨p, a, rfl, hp, rr⟩ := r2
  refine ⟨p, _, rfl, DKey.get h r1 (h _ _ hp), ?_⟩
  obtain ⟨z1, z2⟩ := dp_look k rr
  cases hl : lookD d.l k with
  | none => rw [z2 hl]; rfl
  | some x => obtain ⟨v, e, _⟩ := z1 x hl; rw [e]; rfl
theorem pc_imp {op : CmpOp} {a b : Expr} {t t' : TE} (h : PC X op a b t) (i : ∀ σ H Q, t' σ H Q → t σ H Q) : PC X op a b t' := ⟨fun pins s σ H Q I w => h.run pins s σ H Q I (i _ _ _ w)⟩
theorem pc_inK (hr : Room k0 X.A) (ha : IE X a fa oka) (hb : IE X b fb okb) : PC X .In a b (tE (fun e => (lookD (fb e).l (fa e)).isSome) (fun e => oka e ∧ okb e)) :=
  pc_imp (pc_din (hu_of hr) ha hb) fun σ H Q ⟨F0, H0, F, e, s, ⟨o1, o2⟩, q⟩ => ⟨F0, H0, F, e, s, o1, fun F1 H1 y X1 r1 => ⟨F0, H0, F1, e, s.more X1, o2, fun F2 H2 x X2 r2 => by
    obtain ⟨p, o, rfl, g, eo⟩ := in_read X2.fh (Enc.mono X2.ff r1) r2
    exact ⟨p, o, rfl, g, q F2 H2 _ (X1.trans X2) (congrArg V.bl eo)⟩⟩⟩
theorem pc_ninK (hr : Room k0 X.A) (ha : IE X a fa oka) (hb : IE X b fb okb) : PC X .NotIn a b (tE (fun e => !(lookD (fb e).l (fa e)).isSome) (fun e => oka e ∧ okb e)) :=
  pc_imp (pc_dnotin (hu_of hr) ha hb) fun σ H Q ⟨F0, H0, F, e, s, ⟨o1, o2⟩, q⟩ => ⟨F0, H0, F, e, s, o1, fun F1 H1 y X1 r1 => ⟨F0, H0, F1, e, s.more X1, o2, fun F2 H2 x X2 r2 => by
    obtain ⟨p, o, rfl, g, eo⟩ := in_read X2.fh (Enc.mono X2.ff r1) r2
    exact ⟨p, o, rfl, g, q F2 H2 _ (X1.trans X2) (congrArg V.bl (by rw [eo]))⟩⟩⟩
theorem ie_inK (hr : Room k0 X.A) (ha : IE X a fa oka) (hb : IE X b fb okb) (hm : behindInMarks .In b = false := by rfl) : IE X (.Compare a [.In] [b] pos) (fun e => (lookD (fb e).l (fa e)).isSome) (fun e => oka e ∧ okb e) := pe_cmp (pc_inK hr ha hb) hm
theorem ie_ninK (hr : Room k0 X.A) (ha : IE X a fa oka) (hb : IE X b fb okb) (hm : behindInMarks .NotIn b = false := by rfl) : IE X (.Compare a [.NotIn] [b] pos) (fun e => !(lookD (fb e).l (fa e)).isSome) (fun e => oka e ∧ okb e) := pe_cmp (pc_ninK hr ha hb) hm
theorem it_of {op : CmpOp} {f : E → Bool} {ok : E → Prop} (h : PC X op a b (tE f ok)) (hm : behindInMarks op b = false) : IT X (.Compare a [op] [b] pos) f ok :=
  pt_imp (pt_cmp h hm) fun σ H Q ⟨F0, H0, F, e, s, o, q⟩ => ⟨F0, H0, F, e, s, o, fun F1 H1 v X1 r => ⟨_, r, q F1 H1 X1⟩⟩
theorem it_inK (hr : Room k0 X.A) (ha : IE X a fa oka) (hb : IE X b fb okb) (hm : behindInMarks .In b = false := by rfl) : IT X (.Compare a [.In] [b] pos) (fun e => (lookD (fb e).l (fa e)).isSome) (fun e => oka e ∧ okb e) := it_of (pc_inK hr ha hb) hm
theorem it_ninK (hr : Room k0 X.A) (ha : IE X a fa oka) (hb : IE X b fb okb) (hm : behindInMarks .NotIn b = false := by rfl) : IT X (.Compare a [.NotIn] [b] pos) (fun e => !(lookD (fb e).l (fa e)).isSome) (fun e => oka e ∧ okb e) := it_of (pc_ninK hr ha hb) hm
theorem ie_getK [Inhabited β] (hr : Room k0 X.A) (hb : IE X b fb okb) (ha : IE X a fa oka) (hs : NoSl a := by exact fun _ _ => rfl) : IE X (.Subscript b a pos) (fun e => (lookD (fb e).l (fa e)).getD default) (fun e => okb e ∧ oka e ∧ (lookD (fb e).l (fa e)).isSome = true) :=
  pe_imp (pe_dget (hu_of hr) hb ha hs) fun σ H Q ⟨F0, H0, F, e, s, ⟨o1, o2, o3⟩, q⟩ => ⟨F0, H0, F, e, s, o1, fun F1 H1 x X1 r1 => ⟨F0, H0, F1, e, s.more X1, o2, fun F2 H2 y X2 r2 => by
    obtain ⟨p, a', rfl, hp, rr⟩ := Enc.mono X2.ff r1
    obtain ⟨z1, z2⟩ := dp_look (fa e) rr
    obtain ⟨w, hw⟩ := Option.isSome_iff_exists.mp o3
    obtain ⟨v, e1, rv⟩ := z1 w hw
    refine ⟨p, v, rfl, ?_, q F2 H2 v (X1.trans X2) (by show rep F2 v ((lookD (fb e).l (fa e)).getD default); rw [hw]; exact rv)⟩
    rw [← e1]
    exact DKey.get X2.fh r2 (X2.fh _ _ hp)⟩⟩
/-! ## texts, ints in order -/
def leS (a b : S) : Bool := !ltCps b a
theorem lt_irr : ∀ a : List Nat, ltCps a a = false
  | [] => rfl
  | x :: r => by simp [ltCps, lt_irr r]
theorem lt_tri : ∀ a b : List Nat, ltCps a b = false → ltCps b a = false → a = b
  | [], [], _, _ => rfl
  | [], _ :: _, h, _ => by simp [ltCps] at h
  | _ :: _, [], _, h => by simp [ltCps] at h
  | x :: r, y :: t, h1, h2 => by
    simp only [ltCps, Bool.or_eq_false_iff, decide_eq_false_iff_not, Bool.and_eq_false_iff, beq_eq_false_iff_ne] at h1 h2
    have e : x = y := by omega
    subst e
    have e2 : r = t := lt_tri r t (h1.2.resolve_left fun z => z rfl) (h2.2.resolve_left fun z => z rfl)
    rw [e2]
theorem lt_asy : ∀ a b : List Nat, ltCps a b = true → ltCps b a = false
  | [], [], h => by simp [ltCps] at h
  | [], _ :: _, _ => rfl
  | _ :: _, [], h => by simp [ltCps] at h
  | x :: r, y :: t, h => by
    simp only [ltCps, Bool.or_eq_true, decide_eq_true_eq, Bool.and_eq_true, beq_iff_eq] at h
    simp only [ltCps, Bool.or_eq_false_iff, decide_eq_false_iff_not, Bool.and_eq_false_iff, beq_eq_false_iff_ne]
    rcases h with h | ⟨rfl, h⟩
    · exact ⟨by omega, .inl (by omega)⟩
    · exact ⟨by omega, .inr (lt_asy r t h)⟩
theorem lt_tra : ∀ a b c : List Nat, ltCps b a = false → ltCps c b = false → ltCps c a = false
  | [], _, [], _, _ => rfl
  | [], _, _ :: _, _, _ => rfl
  | _ :: _, [], _, h, _ => by simp [ltCps] at h
  | _ :: _, _ :: _, [], _, h => by simp [ltCps] at h
  | x :: r, y :: t, z :: u, h1, h2 => by
    simp only [ltCps, Bool.or_eq_false_iff, decide_eq_false_iff_not, Bool.and_eq_false_iff, beq_eq_false_iff_ne] at h1 h2 ⊢
    refine ⟨by omega, ?_⟩
    by_cases e : z = x
    · right
      have e1 : y = x := by omega
      subst e1
      have e2 : z = y := by omega
      subst e2
      exact lt_tra r t u (h1.2.resolve_left fun w => w rfl) (h2.2.resolve_left fun w => w rfl)
    · exact .inl e
def srtS (xs : List S) : List S := xs.mergeSort leS
theorem srtS_perm (xs : List S) : (srtS xs).Perm xs := List.mergeSort_perm ..
theorem leS_total (a b : S) : (leS a b || leS b a) = true := by
  unfold leS
  cases h : ltCps b a with
  | false => rfl
  | true => rw [lt_asy _ _ h]; rfl
theorem leS_trans (a b c : S) (h1 : leS a b = true) (h2 : leS b c = true) : leS a c = true := by
  unfold leS at *
  rw [Bool.not_eq_true'] at *
  exact lt_tra a b c h1 h2
theorem srtS_pw (xs : List S) : List.Pairwise (fun a b => leS a b = true) (srtS xs) := List.pairwise_mergeSort leS_trans leS_total xs
theorem srtS_uniq {xs ys : List S} (hp : ys.Perm xs) (hs : List.Pairwise (fun a b => leS a b = true) ys) : ys = srtS xs :=
  List.Perm.eq_of_pairwise (le := fun a b => leS a b = true) (fun a b _ _ h1 h2 => by
    unfold leS at h1 h2
    rw [Bool.not_eq_true'] at h1 h2
    exact lt_tri a b h2 h1) hs (srtS_pw xs) (hp.trans (srtS_perm xs).symm)
theorem rising_pw : ∀ (ys : List S) (p : S), risingS (toS p) (ys.map toS) = true → (∀ y ∈ ys, leS p y = true) ∧ List.Pairwise (fun a b => leS a b = true) ys
  | [], _, _ => ⟨fun _ h => (nomatch h), .nil⟩
  | y :: ys, p, h => by
    rw [List.map_cons] at h
    have h2 : (!ltCps (toS y).cps.toList (toS p).cps.toList && risingS (toS y) (ys.map toS)) = true := h
    rw [Bool.and_eq_true] at h2
    obtain ⟨h3, h4⟩ := h2
    have h5 : leS p y = true := by
      unfold leS
      have e : ∀ s : S, (toS s).cps.toList = s := fun s => by show s.toArray.toList = s; simp
      rw [e, e] at h3
      exact h3
    obtain ⟨g1, g2⟩ := rising_pw ys y h4
    refine ⟨fun z hz => ?_, List.pairwise_cons.mpr ⟨g1, g2⟩⟩
    rcases List.mem_cons.mp hz with e | hz
    · rw [e]; exact h5
    · exact leS_trans _ _ _ h5 (g1 z hz)
theorem sorted_pw (ys : List S) (h : sortedS (ys.map toS) = true) : List.Pairwise (fun a b => leS a b = true) ys := by
  cases ys with
  | nil => exact .nil
  | cons y ys =>
    obtain ⟨g1, g2⟩ := rising_pw ys y h
    exact List.pairwise_cons.mpr ⟨g1, g2⟩
theorem texts_of {F : Hp} : ∀ {vs : List V} {xs : List S}, Reps F vs xs → vs = (xs.map toS).map V.str
  | _, _, .nil => rfl
  | _, _, .cons r t => by rw [List.map_cons, List.map_cons, ← texts_of t, r.1]
theorem reps_texts {F : Hp} : ∀ {xs : List S}, (∀ x ∈ xs, SOk x) → Reps F ((xs.map toS).map V.str) xs
  | [], _ => .nil
  | x :: xs, h => .cons ⟨rfl, h x List.mem_cons_self⟩ (reps_texts fun y hy => h y (List.mem_cons_of_mem _ hy))
theorem reps_ok {F : Hp} : ∀ {vs : List V} {xs : List S}, Reps F vs xs → ∀ x ∈ xs, SOk x
  | _, _, .cons r t, x, hx => by
    rcases List.mem_cons.mp hx with e | hx
    · rw [e]; exact r.2
    · exact reps_ok t x hx
theorem un_map {ys : List Str} {xs : List S} (h : ys.Perm (xs.map toS)) : ∃ zs : List S, ys = zs.map toS ∧ zs.Perm xs := by
  refine ⟨ys.map fun y => y.cps.toList, ?_, ?_⟩
  · rw [List.map_map]
    have e : (toS ∘ fun y : Str => y.cps.toList) = id := by funext y; show toS y.cps.toList = y; unfold toS; simp
    rw [e, List.map_id]
  · have := h.map fun y : Str => y.cps.toList
    rw [List.map_map] at this
    have e : ((fun y : Str => y.cps.toList) ∘ toS) = id := by funext s; show s.toArray.toList = s; simp
    rw [e, List.map_id] at this
    exact this
theorem io_sortS {a : Expr} {f : E → List S} {oka : E → Prop} (ha : IE X a f oka) (hm : X.mg "sorted" = none) (hg : Gl X "sorted" := by rfl) (he : starEach [a] X.env = (false, eval a X.env) :: starEach [] X.env := by rfl) : IO X (.Call (.Name "sorted" p1s) [a] [] pos) (fun e => srtS (f e)) (fun e => oka e ∧ (f e).length < 64) :=
  pe_imp (pe_callB cr_sortedS hg hm (by decide +kernel) (ia_one ha he) (he := he)) fun σ H Q ⟨F0, H0, F, e, s, ⟨o, z64⟩, q⟩ => ⟨F0, H0, F, e, s, o, fun F1 H1 vs X1 r => by
    obtain ⟨v, ws, rfl, ⟨p, us, rfl, hp, z, rr⟩, rfl⟩ := r
    refine ⟨p, (f e).map toS, rfl, SqL.of (by rw [X1.fh _ _ hp, texts_of rr]), by rw [List.length_map]; exact z64, fun ys l hl hs hn => ?_⟩
    obtain ⟨zs, rfl, hz⟩ := un_map hl
    have e1 := srtS_uniq hz (sorted_pw zs hs)
    subst e1
    have hlen : (srtS (f e)).length = (f e).length := (srtS_perm (f e)).length_eq
    exact q F1 _ l _ (X1.newO hn) (X1.hh.free hn) (X1.fh.free hn) upd_same (by rw [List.length_map, List.length_map, hlen, ← rr.length]; exact z) (reps_texts fun x hx => reps_ok rr x ((srtS_perm (f e)).mem_iff.mp hx))⟩
end
end PL
set_option Elab.async false
set_option linter.all false
set_option maxRecDepth 100000
set_option maxHeartbeats 1000000
/-! PLM: dict comprehensions of one clause, keys of any sort. -/
namespace PL
open PySem PySem.Spec PyProof.Rows L2
/-- the node -/
abbrev dcM (kx vx ta ia : Expr) (fa : List Expr) (sc : Scope) (pos : Pos) : Expr := .DictComp kx vx [⟨ta, ia, fa, 0⟩] sc pos
section
variable {prog : Program} {w : World} {A : Around} {R : Result → Shared → Prop} {s : Shared} {kx vx ta ia : Expr} {fa : List Expr} {sc : Scope} {pos : Pos} {it : Value} {D : Addr} {env : Env}
theorem turnM : compTurn (dcM kx vx ta ia fa sc pos) 0 it (.ref D) env = (do
    standAt ia.pos
    match ← pyNext it with
    | none => pure (.done .next)
    | some v =>
      letOwnedTupleGo ta it v
      assign ta env v
      let mut go := true
      for c in fa do
        if go then go ← isTrue c env (eval c env)
      if go then
        (do
          let a ← eval kx env
          let b ← holding [a] (eval vx env)
          standAt { kx.pos with endLine := vx.pos.endLine, endCol := vx.pos.endCol }
          holding [a, b] (dictSet D a b))
      again (.compLoop (dcM kx vx ta ia fa sc pos) 0 it (.ref D) env)) := by rfl
theorem loopM (J : Nat → Shared → Prop)
    (step : ∀ n s, J n s → wpAny (model prog w) A (pyNext it) (fun r s1 => match r with
      | none => R (.ok .next) s1
      | some v => wpAny (model prog w) A (letOwnedTupleGo ta it v) (fun _ s2 => wpAny (model prog w) A (assign ta env v) (fun _ s3 => wpAny (model prog w) A (chk fa env) (fun ok s4 =>
          if ok = true then wpAny (model prog w) A (eval kx env) (fun a s5 => wpAny (model prog w) A (eval vx env) (fun b s6 =>
              wpAny (model prog w) A (dictSet D a b) (fun _ s7 => ∃ m, m < n ∧ J m s7) (nb prog w A env R) s6) (nb prog w A env R) s5) (nb prog w A env R) s4
          else ∃ m, m < n ∧ J m s4) (nb prog w A env R) s3) (nb prog w A env R) s2) (nb prog w A env R) s1) (nb prog w A env R) s)
    (n : Nat) (h : J n s) : codeAny (model prog w) A (.compLoop (dcM kx vx ta ia fa sc pos) 0 it (.ref D) env) R s := by
  refine codeAny_loop rfl J (fun n s hj => ?_) n h
  show wpAny _ A ((compTurn (dcM kx vx ta ia fa sc pos) 0 it (.ref D) env).onRaise fun x => do noteFrame x env; theTreesLotGoes x) _ _ s
  apply wpAny_noted
  rw [turnM]
  apply wpAny_bind; apply wpAny_standAt; apply wpAny_bind
  refine wpAny_mono (step n s hj) (fun r s1 h1 => ?_) (fun _ _ z => z)
  cases r with
  | none => exact wpAny_pure h1
  | some v =>
    apply wpAny_bind
    refine wpAny_mono h1 (fun _ s2 h2 => ?_) (fun _ _ z => z)
    apply wpAny_bind
    refine wpAny_mono h2 (fun _ s3 h3 => ?_) (fun _ _ z => z)
    apply wpAny_bind
    refine wpAny_mono h3 (fun ok s4 h4 => ?_) (fun _ _ z => z)
    cases ok with
    | false => exact wpAny_pure ⟨rfl, h4⟩
    | true =>
      apply wpAny_bind; apply wpAny_bind
      refine wpAny_mono h4 (fun a s5 h5 => ?_) (fun _ _ z => z)
      apply wpAny_bind; apply wpAny_holding
      refine wpAny_mono h5 (fun b s6 h6 => ?_) (fun _ _ z => z)
      apply wpAny_bind; apply wpAny_standAt; apply wpAny_holding
      refine wpAny_mono h6 (fun _ s7 h7 => ?_) (fun _ _ z => z)
      exact wpAny_pure ⟨rfl, h7⟩
end
/-- a store while the dict is made -/
theorem put_dict {X : Cx} {pins : List (Addr × Obj)} {σ : L2.St} {H H' : Hp} {s : Shared} {Er : Value → Shared → Prop} {D : Addr} {y z : V} {u r : Value} {Q : Unit → Shared → Prop} (hu : X.A.units < cLine) (I : Inv X pins σ H s) (g : DPut H D y z H')
    (ry : RelV y u) (rv : RelV z r) (h : ∀ s', Inv X pins σ H' s' → Q () s') : wpAny (model X.prog X.w) X.A (dictSet D u r) Q Er s := by
  rcases g with ⟨kvs, k, e, ey, l, eH⟩ | ⟨kvs, k, b, e, ey, eb, l, eH⟩
  · subst ey; subst eH
    exact d_dictSet I e l ry rv h
  · subst ey; subst eH
    cases (show u = Value.ref b from ry)
    obtain ⟨zz, hd, xs, rel, dd⟩ := dt_of I.hok e
    have hlen := Paired.length rel
    have lp := length_putK kvs k z
    refine wpAny_dictSet_heap (hsz := by rw [← hlen]; exact zz) hu (key_of I.hok eb) dd fun h' ⟨q, es, ep, hq, h2, h3, h4, _, h5⟩ hs => h _ ?_
    refine d_write I (by rw [e]; exact True.intro) hs ⟨q, hq⟩ ⟨by omega, hd, _, (rel.put k eb rv).keeps fun c ys ec => ?_, q, es, ep, hq, h2, h3, h4, h5⟩
    rw [upd_ne (ne_of ec e fun w => nomatch w)]
    exact ec
section
variable {X : Cx}
/-- what a dict comprehension of one clause asks: ob the empty dict, Dd its place -/
def tDcM (ob : HO) (wi : TI) (g : TG) (tt : TT) (tk tv : TE) (vs : List Nat) : TE := fun σ H Q => wi σ H fun J Ha => ∀ Dd, Ha Dd = none → ∃ W : Nat → Nat → Hp → Prop, (∃ m, W 0 m (upd Ha Dd ob)) ∧ ∀ i m H, W i m H →
  (J.stop i H ∧ Q (.ref Dd) H) ∨ (J.go i H ∧ ∃ Nx : Hp → Prop, (∀ H', Nx H' → ∃ m', m' < m ∧ W (i + 1) m' H') ∧ ∀ x H', J.yld i H x H' → g x (wipe σ vs) H' fun σ2 H2 => wipe σ2 vs = wipe σ vs ∧
    tt σ2 H2 fun b H3 => (b = true → tk σ2 H3 fun y H6 => tv σ2 H6 fun z H7 => ∃ H8, DPut H7 Dd y z H8 ∧ Nx H8) ∧ (b = false → Nx H3))
theorem pe_dcM {kx vx ta ia : Expr} {ifs : List Expr} {sc : Scope} {own : List (Str × Nat)} {pos : Pos} {ob : HO} {wi : TI} {g : TG} {tt : TT} {tk tv : TE} (hob : ob = .dK [] ∨ ob = .dT []) (hu : X.A.units + 1 < cLine) (hc : X.calm = true) (hN : X.N.Nodup) (hi : PI X ta ia wi) (ok : BlkOk X.N X.env.scope sc own)
    (hg : Blk X sc fun Y => PG Y ta g) (ht : Blk X sc fun Y => PTs Y ifs tt) (hk : Blk X sc fun Y => PE Y kx tk) (he : Blk X sc fun Y => PE Y vx tv) (hs : ∀ x, foldedSetIterable ia X.env x = pure x := by intro _; rfl) :
    PE X (dcM kx vx ta ia ifs sc pos) (tDcM ob wi g tt tk tv (own.map (·.2))) := by
  refine ⟨fun pins s σ H Q I h => ?_⟩
  rw [arm_eval_DictComp]
  have free : ∀ y ∈ sc.names, y.2 = .free → ∃ c, X.env.cells.lookup y.1 = some c := fun y hy e => (ok.free y hy e).elim (fun k => I.ok.has _ (.inl k)) fun k => I.ok.has _ (.inr k)
  show wpAny _ _ (comprehension (dcM kx vx ta ia ifs sc pos) sc X.env _ newDict false (eval ia X.env) none) _ _ s
  refine wpAny_comprehension_free (use := none) rfl hs (closure_ok free) ok.kind (fun y hy e => by rw [ok.uniq y hy, e]) (thn (hi.run pins s σ H _ I h) fun xv sa hx => thn hx fun itv sb hb => ?_)
  obtain ⟨it, fp, tn, J, Hb, e, Ib, T, tnb, fpb, body⟩ := hb
  subst e
  refine wpAny_newObj_type (newEnv_comp ?_)
  generalize eD : sb.heap.objs.size = Dd
  have freeD : Hb Dd = none := Ib.hok.fresh (Nat.le_of_eq eD)
  obtain ⟨W, ⟨m0, w0⟩, turn⟩ := body Dd freeD
  generalize eS : ({ sb with heap := sb.heap.push { cls := .type "dict", data := .dict #[] } } : Shared) = sd
  have hpS : sd.heap = sb.heap.push { cls := .type "dict", data := .dict #[] } := by rw [← eS]
  have old : ∀ b o, sb.heap.get? b = some o → sd.heap.get? b = some o := fun b o q => by rw [hpS]; exact Heap.get?_push_of_some _ q
  have Id : Inv X pins σ (upd Hb Dd ob) sd := by
    rw [← eS]
    refine Ib.laid (t' := sb.toks) (fun b o q => Heap.get?_push_of_some _ q) (Nat.le_of_eq eD) ?_
    rw [← eD]
    rcases hob with e | e
    · rw [e]; exact dk_empty sb.heap Ib.big
    · rw [e]; exact dt_empty sb.heap Ib.big
  have fpd : ∀ b ∈ fp, FpOk X pins (upd Hb Dd ob) b ∧ b < sd.heap.objs.size := fun b hb => by
    obtain ⟨o, q, _⟩ := T.obj _ _ tnb b hb
    have lt := Heap.lt_size q
    exact ⟨⟨by rw [upd_ne (by rw [← eD]; exact Nat.ne_of_lt lt)]; exact (fpb b hb).1, (fpb b hb).2⟩, by rw [hpS, Heap.size_push]; exact Nat.lt_succ_of_lt lt⟩
  have tnd : tn 0 sd.heap := T.keep _ _ _ tnb fun b _ o q => old b o q
  have Ie := block_start Id ok hN fpd
  generalize eH : upd Hb Dd ob = Hd at Id Ie w0 fpd
  generalize eC : cellsFrom (sd.heap.objs.size + 1) sc.names (cloFrom X.env.cells sc.names []) = cls at Ie
  have rg := hg sd Hd sd.heap.objs.size cls fp
  have rt := ht sd Hd sd.heap.objs.size cls fp
  have rk := hk sd Hd sd.heap.objs.size cls fp
  have rv := he sd Hd sd.heap.objs.size cls fp
  show codeAny _ _ (.compStart (dcM kx vx ta ia ifs sc pos) 0 (.ref it) (.ref Dd) (compEnvC sc cls sd.heap.objs.size X.env)) (compPost (model X.prog X.w) X.A X.xe none (EP X pins σ Q) (.ref Dd) sd.heap.objs.size) { sd with heap := pushCells (sd.heap.push { cls := .type "dict", data := .dict #[] }) sc.names }
  have eL : (compEnvC sc cls sd.heap.objs.size X.env).locals = sd.heap.objs.size := rfl
  generalize compEnvC sc cls sd.heap.objs.size X.env = ce at Ie rg rt rk rv eL ⊢
  have none0 : ∀ b ∈ fp, Hd b = none := fun b hb => (fpd b hb).1.1
  generalize eE : ({ sd with heap := pushCells (sd.heap.push { cls := .type "dict", data := .dict #[] }) sc.names } : Shared) = se at Ie ⊢
  have tne : tn 0 se.heap := T.keep _ _ _ tnd fun b _ o q => by rw [← eE]; exact pushCells_keeps _ _ _ _ (Heap.get?_push_of_some _ q)
  have fpo : ∀ {σ' : L2.St} {H' : Hp} {z : Shared}, Inv (X.blk sd Hd sc ce fp) [] σ' H' z → (∀ b ∈ fp, H' b = none) → ∀ b ∈ fp, FpOk (X.blk sd Hd sc ce fp) [] H' b := fun {σ' H' z} I' hn b hb =>
    ⟨hn b hb, (I'.ok.exf b hb).1, I'.ok.exfs b hb, .inl hb, fun x c q => (I'.ok.exf b hb).2 x c q, fun p hp => by cases hp⟩
  have loop : codeAny (model X.prog X.w) X.A (.compLoop (dcM kx vx ta ia ifs sc pos) 0 (.ref it) (.ref Dd) ce) (compPost (model X.prog X.w) X.A X.xe none (EP X pins σ Q) (.ref Dd) sd.heap.objs.size) se := by
    refine loopM (fun n z => ∃ i H', Inv (X.blk sd Hd sc ce fp) [] (wipe σ (own.map (·.2))) H' z ∧ tn i z.heap ∧ (∀ b ∈ fp, H' b = none) ∧ W i n H') ?_ m0 ⟨0, Hd, Ie, tne, none0, w0⟩
    rintro n z1 ⟨i, H1, I1, tn1, no1, w1⟩
    rcases turn i n H1 w1 with ⟨stop, fin⟩ | ⟨go, Nx, hNx, step⟩
    · refine thnF (T.done (X.blk sd Hd sc ce fp) rfl rfl rfl hc i [] z1 _ H1 (fun _ _ => False) I1 (fpo I1 no1) tn1 stop) fun r z2 hr => ?_
      obtain ⟨rfl, I2⟩ := hr
      have back : Inv X pins σ H1 z2 := Id.call' (ch := fp) I2.os I2.base I2.hok I2.bare fun b hb => ⟨(fpd b hb).1.2.2.2.1, (fpd b hb).1.2.1, (fpd b hb).1.2.2.2.2.1, (fpd b hb).1.2.2.2.2.2⟩
      obtain ⟨m, ns, _⟩ := I2.loc
      have ns : z2.heap.Ns ce.locals m := ns
      rw [eL] at ns
      have cl : H1 sd.heap.objs.size = none := by have q : H1 ce.locals = none := I2.free; rw [eL] at q; exact q
      obtain ⟨f0, f1, f2, f3, f4, f5⟩ := Id.fpOk (Nat.le_refl _) cl
      exact ⟨m, ns, fun h'' sb => ⟨.ref Dd, H1, back.turned (t' := z2.toks) (fun b o hb q => (sb.2 b hb).trans q) f0 f1 f3 f4 f5, rfl, fin⟩⟩
    · refine thnF (T.item (X.blk sd Hd sc ce fp) rfl rfl rfl hc i [] z1 _ H1 (fun _ _ => False) I1 (fpo I1 no1) tn1 go) fun r z2 hr => ?_
      obtain ⟨u, rfl, nxt⟩ := hr
      refine thnF nxt fun _ z3 h3 => ?_
      obtain ⟨x, H3, I3, r3, y3, tn3, no3⟩ := h3
      have I3p := I3.pinned (fpo I3 no3) (T.obj _ _ tn3)
      refine thnF (rg.run _ z3 _ H3 x u _ I3p r3 (step x H3 y3)) fun _ z4 h4 => ?_
      obtain ⟨σ4, H4, I4, w4, q4⟩ := h4
      have ends : ∀ {z : Shared} {H' : Hp}, Inv (X.blk sd Hd sc ce fp) ([] ++ pinsAt fp z3.heap) σ4 H' z → Nx H' →
          ∃ m, m < n ∧ ∃ i H', Inv (X.blk sd Hd sc ce fp) [] (wipe σ (own.map (·.2))) H' z ∧ tn i z.heap ∧ (∀ b ∈ fp, H' b = none) ∧ W i m H' := fun {z H'} I' nx => by
        obtain ⟨m', lt, w'⟩ := hNx H' nx
        have held : ∀ b ∈ fp, ∀ o, z3.heap.get? b = some o → z.heap.get? b = some o ∧ H' b = none := fun b hb o q => ⟨(I'.pin (b, o) (List.mem_append_right _ (List.mem_append_right _ (mem_pinsAt hb q)))).1, (I'.pin (b, o) (List.mem_append_right _ (List.mem_append_right _ (mem_pinsAt hb q)))).2.1⟩
        refine ⟨m', lt, i + 1, H', (I'.unpinned (pins := [])).weak (by rw [← w4, wipe_length]) (fun j v q => by rw [← w4] at q; exact (wipe_some q).1), T.keep _ _ _ tn3 fun b hb o q => (held b hb o q).1, fun b hb => ?_, w'⟩
        obtain ⟨o, q, _⟩ := T.obj _ _ tn3 b hb
        exact (held b hb o q).2
      refine thnF (rt.run _ z4 σ4 H4 _ I4 q4) fun ok z5 h5 => ?_
      obtain ⟨H5, I5, g1, g2⟩ := h5
      cases ok with
      | false => rw [if_neg Bool.false_ne_true]; exact ends I5 (g2 rfl)
      | true =>
        rw [if_pos rfl]
        refine thnF (rk.run _ z5 σ4 H5 _ I5 (g1 rfl)) fun a z6 h6 => ?_
        obtain ⟨ya, H6, I6, r6, q6⟩ := h6
        refine thnF (rv.run _ z6 σ4 H6 _ I6 q6) fun b z7 h7 => ?_
        obtain ⟨yb, H7, I7, r7, H8, g8, nx⟩ := h7
        exact put_dict (X := X.blk sd Hd sc ce fp) (Nat.lt_of_succ_lt hu) I7 g8 r6 r7 fun z8 I8 => ends I8 nx
  exact codeAny_compStart_dict loop (T.self X.A 0 _ _ _ tne loop)
end
theorem fill_app {κ β : Type} [DecidableEq κ] (l ps qs : List (κ × β)) : fillD l (ps ++ qs) = fillD (fillD l ps) qs := List.foldl_append
theorem fill_len {κ β : Type} [DecidableEq κ] : ∀ (ps l : List (κ × β)), (fillD l ps).length ≤ l.length + ps.length
  | [], l => Nat.le_refl _
  | p :: ps, l => by
    have h := fill_len ps (putD l p.1 p.2)
    have h2 := putD_len l p.1 p.2
    show (fillD (putD l p.1 p.2) ps).length ≤ _
    rw [List.length_cons]
    omega
section
variable {X : Cx} {E : Type} [ES E] {pos : Pos} {κ β α : Type} [DecidableEq κ] [Enc κ] [DKey κ] [Enc β] [Enc α] {E1 E2 : Type} [ES E1] [ES E2] {k0 : Nat}
theorem dcM_read {vs : List Nat} {src : E → List α} {oks : E → Prop} {wp : Wp E E1 vs} {g : TG} {put : E1 → α → E2} {us : List Nat} (pt : Pat g E1 α E2 put us) (hus : ∀ i ∈ us, i ∈ vs) {c : E2 → Bool} {okc : E2 → Prop} {kf : E2 → κ} {vf : E2 → β} {okk okv : E2 → Prop}
    {σ : L2.St} {H : Hp} {Q : VK}
    (h : tE (fun e => (⟨fillD [] (((src e).filter fun a => c (put (wp.w e) a)).map fun a => (kf (put (wp.w e) a), vf (put (wp.w e) a)))⟩ : Dk κ β)) (fun e => oks e ∧ ∀ a ∈ src e, okc (put (wp.w e) a) ∧ (c (put (wp.w e) a) = true → okk (put (wp.w e) a) ∧ okv (put (wp.w e) a))) σ H Q) :
    tDcM (DKey.ho (κ := κ) []) (tS src oks) g (tT c okc) (tE kf okk) (tE vf okv) vs σ H Q := by
  obtain ⟨F0, H0, F, e, s, ⟨o1, o2⟩, q⟩ := h
  refine ⟨F0, H0, F, e, s, o1, fun J F1 H1 X1 jk D hD => ?_⟩
  have fD : F1 D = none := X1.fh.free hD
  have z := jk.sz
  generalize hR : (fun a => (kf (put (wp.w e) a), vf (put (wp.w e) a))) = R at q
  have hRa : ∀ a, R a = (kf (put (wp.w e) a), vf (put (wp.w e) a)) := fun a => by rw [← hR]
  refine ⟨fun i m Hc => m = (src e).length - i ∧ i ≤ (src e).length ∧ ∃ Fc ws, Ext F1 H1 Fc Hc ∧ Fc D = none ∧ Hc D = some (DKey.ho ws) ∧ DPairs Fc ws (fillD [] ((((src e).take i).filter fun a => c (put (wp.w e) a)).map R)),
    ⟨_, rfl, Nat.zero_le _, F1, [], (Ext.refl X1.fh).newO hD, fD, upd_same, by simpa [fillD] using Paired.nil⟩, ?_⟩
  rintro i m Hc ⟨rfl, hi, Fc, ws, Xc, fc, hc, rr⟩
  have keep : ∀ {Fa Ha Fb Hb : Hp} {o : HO}, Ext Fa Ha Fb Hb → Fa D = none → Ha D = some o → Fb D = none ∧ Hb D = some o := fun {Fa Ha Fb Hb o} x fa ha => ⟨(by
    cases y : Fb D with
    | none => rfl
    | some o =>
      have z := x.nw D fa (by rw [y]; exact Option.some_ne_none _)
      rw [ha] at z
      cases z), x.hh _ _ ha⟩
  by_cases hlt : i < (src e).length
  · refine .inr ?_
    have hx : (src e)[i]? = some (src e)[i] := List.getElem?_eq_getElem hlt
    obtain ⟨go, yld⟩ := (jk.at' i Fc Hc Xc.ff Xc.fh).1 _ hx
    have tk := take_succ_of (α := α) hx
    refine ⟨go, fun H' => ∃ Fn ws, Ext F1 H1 Fn H' ∧ Fn D = none ∧ H' D = some (DKey.ho ws) ∧ DPairs Fn ws (fillD [] ((((src e).take (i + 1)).filter fun a => c (put (wp.w e) a)).map R)),
      fun H' ⟨Fn, ws', a1, a2, a3, a5⟩ => ⟨(src e).length - (i + 1), by omega, rfl, hlt, Fn, ws', a1, a2, a3, a5⟩, fun v H' hy => ?_⟩
    obtain ⟨F2, X2, rv⟩ := yld v H' hy
    have S2 : SR F0 H0 F2 H' (L2.wipe σ vs) (wp.w e) := ((s.more X1).more (Xc.trans X2)).wipe wp
    obtain ⟨p1, p2⟩ := o2 _ (List.mem_of_getElem? hx)
    refine pt.run S2 rv fun σ' S3' hw => ⟨by rw [hw vs hus, wipe_idem vs vs fun _ h => h], ?_⟩
    have S3 := S3' F2 H' S2 (Same.refl _)
    refine ⟨F0, H0, F2, _, S3, p1, fun F3 H3 X3 => ⟨fun ht => ?_, fun hf => ?_⟩⟩
    · obtain ⟨pk, pv⟩ := p2 ht
      refine ⟨F0, H0, F3, _, S3.more X3, pk, fun F6 H6 yk X6 rk => ⟨F0, H0, F6, _, (S3.more X3).more X6, pv, fun F7 H7 yv X7 ry => ?_⟩⟩
      have XX := X2.trans (X3.trans (X6.trans X7))
      obtain ⟨g1', g2'⟩ := keep XX fc hc
      have hl : ws.length < sizeLine := by
        rw [Paired.length rr]
        refine Nat.lt_of_le_of_lt (fill_len _ _) ?_
        have h1 := List.length_filter_le (fun a => c (put (wp.w e) a)) ((src e).take i)
        rw [List.length_take] at h1
        rw [List.length_map, List.length_nil]
        omega
      refine ⟨_, DKey.put X7.fh (Enc.mono X7.ff rk) g2' hl, F7, _, (Xc.trans XX).redo hD g1', g1', upd_same, ?_⟩
      rw [tk, List.filter_append, List.map_append, fill_app]
      have e1 : (List.filter (fun a => c (put (wp.w e) a)) [(src e)[i]]) = [(src e)[i]] := by rw [List.filter_cons, if_pos ht]; rfl
      rw [e1]
      show DPairs F7 _ (putD _ (R (src e)[i]).1 (R (src e)[i]).2)
      rw [hRa]
      exact dp_put (rr.mono XX.ff) _ ⟨_, Enc.mono X7.ff rk⟩ ry
    · have XX := X2.trans X3
      obtain ⟨g1', g2'⟩ := keep XX fc hc
      refine ⟨F3, ws, Xc.trans XX, g1', g2', ?_⟩
      rw [tk, List.filter_append]
      have e1 : (List.filter (fun a => c (put (wp.w e) a)) [(src e)[i]]) = [] := by rw [List.filter_cons, if_neg (by rw [hf]; exact Bool.false_ne_true)]; rfl
      rw [e1, List.append_nil]
      exact rr.mono XX.ff
  · have e1 : i = (src e).length := by omega
    refine .inl ⟨(jk.at' i Fc Hc Xc.ff Xc.fh).2 e1, ?_⟩
    rw [e1, List.take_length] at rr
    obtain ⟨x', sm⟩ := froz (X1.trans Xc) (X1.hh.free hD) fc hc
    refine q _ Hc _ x' ⟨D, ws, rfl, upd_same, ?_⟩
    rw [← hR] at rr
    exact rr.mono sm
theorem ie_dcc {kx vx tg iter : Expr} {ifs : List Expr} {scope : Scope} {own : List (Str × Nat)} {src : E → List α} {oks : E → Prop} {wp : Wp E E1 (own.map (·.2))} {g : TG} {put : E1 → α → E2} {us : List Nat} {c : E2 → Bool} {okc : E2 → Prop} {kf : E2 → κ} {vf : E2 → β} {okk okv : E2 → Prop}
    (hr : Room k0 X.A) (hc : X.calm = true) (hN : X.N.Nodup) (hi : IS X tg iter src oks) (ok : blkC X.N X.env.scope scope own = true) (pt : Pat g E1 α E2 put us) (hus : ∀ i ∈ us, i ∈ own.map (·.2))
    (hg : Blk X scope fun Y => PG Y tg g) (ht : Blk X scope fun Y => PTs Y ifs (tT c okc)) (hk : Blk X scope fun Y => IE Y kx kf okk) (he : Blk X scope fun Y => IE Y vx vf okv) (hs : ∀ x, foldedSetIterable iter X.env x = pure x := by intro _; rfl) :
    IE X (.DictComp kx vx [⟨tg, iter, ifs, 0⟩] scope pos) (fun e => (⟨fillD [] (((src e).filter fun a => c (put (wp.w e) a)).map fun a => (kf (put (wp.w e) a), vf (put (wp.w e) a)))⟩ : Dk κ β)) (fun e => oks e ∧ ∀ a ∈ src e, okc (put (wp.w e) a) ∧ (c (put (wp.w e) a) = true → okk (put (wp.w e) a) ∧ okv (put (wp.w e) a))) :=
  pe_imp (pe_dcM (DKey.emp (κ := κ)) (hu_of hr) hc hN hi (blkOk_by ok) hg ht hk he hs) fun σ H Q w => dcM_read pt hus w
theorem ie_dcm {kx vx tg iter : Expr} {scope : Scope} {own : List (Str × Nat)} {src : E → List α} {oks : E → Prop} {wp : Wp E E1 (own.map (·.2))} {g : TG} {put : E1 → α → E2} {us : List Nat} {kf : E2 → κ} {vf : E2 → β} {okk okv : E2 → Prop}
    (hr : Room k0 X.A) (hc : X.calm = true) (hN : X.N.Nodup) (hi : IS X tg iter src oks) (ok : blkC X.N X.env.scope scope own = true) (pt : Pat g E1 α E2 put us) (hus : ∀ i ∈ us, i ∈ own.map (·.2))
    (hg : Blk X scope fun Y => PG Y tg g) (hk : Blk X scope fun Y => IE Y kx kf okk) (he : Blk X scope fun Y => IE Y vx vf okv) (hs : ∀ x, foldedSetIterable iter X.env x = pure x := by intro _; rfl) :
    IE X (.DictComp kx vx [⟨tg, iter, [], 0⟩] scope pos) (fun e => (⟨fillD [] ((src e).map fun a => (kf (put (wp.w e) a), vf (put (wp.w e) a)))⟩ : Dk κ β)) (fun e => oks e ∧ ∀ a ∈ src e, okk (put (wp.w e) a) ∧ okv (put (wp.w e) a)) :=
  ie_imp (ie_dcc (c := fun _ => true) (okc := okT) (wp := wp) hr hc hN hi ok pt hus hg (fun _ _ _ _ _ => its_nil) hk he hs) (fun e _ => by
    have e1 : (src e).filter (fun _ => true) = src e := List.filter_eq_self.mpr (fun _ _ => rfl)
    show (⟨fillD [] (((src e).filter fun _ => true).map _)⟩ : Dk κ β) = _
    rw [e1]) fun e o => ⟨o.1, fun a ha => ⟨trivial, fun _ => o.2 a ha⟩⟩
end
end PL
set_option Elab.async false
set_option linter.all false
set_option maxRecDepth 100000
/-! PLN: enumerate of tuples. -/
namespace PL
open PySem PySem.Spec PyProof.Rows L2
set_option maxHeartbeats 1000000 in
theorem enum_newT (tu : Addr) (cells : Array Value) (n : Nat) (dd : Option Addr) (slt : Array (Option Value)) :
    Meets (Builtin.«enumerate.__new__» ⟨[.type "enumerate", .ref tu], []⟩) (fun _ R s => s.heap.get? tu = some { cls := .type "tuple", dict := dd, data := .seq cells n, slots := slt } ∧
      R (.ok (.ret (.ref (s.heap.objs.size + 1)))) { s with heap := (s.heap.push { cls := .type "tuple_iterator", data := .fields #[.ref tu, .int 0 0] }).push { cls := .type "enumerate", data := .fields #[.none, .bool false, .ref s.heap.objs.size, rawInt 0, .none, .none] } }) :=
  .of_wp fun prog w A R s hyp => by
    obtain ⟨hp, gg, dr, tk, oo⟩ := s
    obtain ⟨hl, h⟩ := hyp
    have sub := sub_enumerate
    have tup : Heap.IsTuple (Shared.heap ⟨hp, gg, dr, tk, oo⟩) tu cells := ⟨_, hl, rfl, n, rfl⟩
    have size1 : (hp.push { cls := .type "tuple_iterator", data := .fields #[.ref tu, .int 0 0] }).objs.size = hp.objs.size + 1 := Heap.size_push ..
    rw [← size1] at h
    wp_walk using AutoSeq1.wpAny_loadPart' hl
    refine wpAny_stack_any fun st => wpAny_pure ?_
    split
    · rename_i c _ _ _ _ _
      cases (c == Value.type "enumerate") <;>
      · wp_walk using AutoSeq1.wpAny_loadPart' hl, wpAny_pyIter_tuple tup
        exact ⟨_, rfl, h⟩
    · wp_walk using AutoSeq1.wpAny_loadPart' hl, wpAny_pyIter_tuple tup
      exact ⟨_, rfl, h⟩
section
variable {prog : Program} {w : World} {A : Around} {Er : Value → Shared → Prop} {s : Shared}
theorem call_enumT {tu : Addr} {cells : Array Value} {Q : Value → Shared → Prop} (tup : s.heap.IsTuple tu cells)
    (h : ∀ h', IsEnum h' (s.heap.objs.size + 1) s.heap.objs.size 0 .none → h'.IsTupleIter s.heap.objs.size tu 0 → (∀ b o, s.heap.get? b = some o → h'.get? b = some o) → Q (.ref (s.heap.objs.size + 1)) { s with heap := h' }) :
    wpAny (model prog w) A (call (.type "enumerate") [.ref tu]) Q Er s := by
  obtain ⟨⟨cl, dd, dt, slt⟩, hl, hc, n, hd⟩ := tup
  have hc1 : cl = .type "tuple" := hc
  have hd1 : dt = .seq cells n := hd
  subst hc1; subst hd1
  have size1 : (s.heap.push { cls := .type "tuple_iterator", data := .fields #[.ref tu, .int 0 0] }).objs.size = s.heap.objs.size + 1 := Heap.size_push ..
  have isE : IsEnum ((s.heap.push { cls := .type "tuple_iterator", data := .fields #[.ref tu, .int 0 0] }).push { cls := .type "enumerate", data := .fields #[.none, .bool false, .ref s.heap.objs.size, rawInt 0, .none, .none] }) (s.heap.objs.size + 1) s.heap.objs.size 0 .none := by
    rw [← size1]
    exact Heap.get?_push_size _ rfl
  exact callType_new F.called_enumerate (by decide) (F.typeCall_enumerate_1 _) (F.newCall_enumerate_1 _) (fun ob => F.args_object_init_2 ob _) F.entry_enumerate_new (enum_newT tu cells n dd slt)
    ⟨hl, ⟨_, isE, rfl⟩, h _ isE ⟨_, Heap.get?_push_of_some _ (Heap.get?_push_size _ rfl), rfl, rfl⟩ fun b o q => Heap.get?_push_of_some _ (Heap.get?_push_of_some _ q)⟩
theorem draws_tup {it tu : Addr} {cells : Array Value} (hh : A.handled = none) (hne : tu ≠ it) : Draws prog w A it [it, tu] cells.size (fun i x => cells[i]? = some x) (fun i h => h.IsTupleIter it tu i ∧ h.IsTuple tu cells) where
  live := fun i h st => let ⟨⟨o, ho, _⟩, _⟩ := st; ⟨o, ho⟩
  frame := fun i h h' st k => by
    obtain ⟨⟨o, ho, r⟩, ⟨o2, ho2, r2⟩⟩ := st
    exact ⟨⟨o, k it (by simp) o ho, r⟩, ⟨o2, k tu (by simp) o2 ho2, r2⟩⟩
  item := fun i s Q Er hi st hQ => by
    obtain ⟨a, b⟩ := st
    refine RZ.nextOf_tuple_item a b (Array.getElem?_eq_getElem hi) fun h' c sb => hQ _ h' _ (Array.getElem?_eq_getElem hi) ⟨c, ?_⟩ sb
    obtain ⟨o2, ho2, r2⟩ := b
    exact ⟨o2, (sb.2 tu hne).trans ho2, r2⟩
  done := fun s Q Er st hE => by
    obtain ⟨a, b⟩ := st
    exact RZ.nextOf_tuple_end hh a b (by simp) hE
/-- behind its last item -/
theorem draws_end {it tu : Addr} {cells : Array Value} {i : Nat} (hh : A.handled = none) (hne : tu ≠ it) (hi : cells.size ≤ i) : Draws prog w A it [it, tu] 0 (fun _ _ => False) (fun _ h => h.IsTupleIter it tu i ∧ h.IsTuple tu cells) where
  live := fun _ h st => let ⟨⟨o, ho, _⟩, _⟩ := st; ⟨o, ho⟩
  frame := fun _ h h' st k => by
    obtain ⟨⟨o, ho, r⟩, ⟨o2, ho2, r2⟩⟩ := st
    exact ⟨⟨o, k it (by simp) o ho, r⟩, ⟨o2, k tu (by simp) o2 ho2, r2⟩⟩
  item := fun i s Q Er hi st hQ => absurd hi (Nat.not_lt_zero _)
  done := fun s Q Er st hE => RZ.nextOf_tuple_end hh st.1 st.2 (by simp; omega) hE
end
/-- the tuple at a as it stands at each turn, each item in a new pair -/
def ItTE (K : PySem.W.Frag) (a : Addr) : It :=
  ⟨fun i H => ∃ (ys : List V) (y : V), SqT K H a ys ∧ ys[i]? = some y, fun i H v H' => ∃ T y, v = .ref T ∧ H T = none ∧ H' = upd H T (.tup [.int (i : Nat), y]) ∧ ∀ ys, SqT K H a ys → ys[i]? = some y, fun i H => ∃ ys : List V, SqT K H a ys ∧ ys.length ≤ i⟩
theorem turnTE {P : Program} {w : World} {K : PySem.W.Frag} {elts : List Expr} {kk : Nat} {tp : Pos} (a e it : Addr) :
    Turn P w K (.Tuple elts kk tp) (ItTE K a) [e, it] e (fun i h => (∃ old, IsEnum h e it ((i : Nat) : Int) old) ∧ h.IsTupleIter it a i ∧ e ≠ it) where
  mem := List.mem_cons_self
  obj := fun i h st b hb => by
    obtain ⟨⟨old, he⟩, ⟨o, ho, hc, hd⟩, _⟩ := st
    rcases List.mem_cons.mp hb with z | z
    · subst z; exact ⟨_, he, fun v q => nomatch q⟩
    · have z2 : b = it := by simpa using z
      subst z2; exact ⟨o, ho, fun v q => by rw [hd] at q; cases q⟩
  keep := fun i h h' st k => by
    obtain ⟨⟨old, he⟩, ⟨o, ho, r⟩, hne⟩ := st
    exact ⟨⟨old, k e (by simp) _ he⟩, ⟨o, k it (by simp) o ho, r⟩, hne⟩
  item := by
    intro X e1 e2 e3 hc i pins s σ H Er I free st go
    subst e1; subst e2; subst e3
    obtain ⟨⟨old, he⟩, hit, hne⟩ := st
    obtain ⟨ys, y, hq, hy⟩ := go
    obtain ⟨cells, rv, tup, hz⟩ := I.tuple hq
    obtain ⟨u, hu, ru⟩ := rv.get hy
    have tup2 : s.heap.IsTuple a cells.toArray := tup
    obtain ⟨oa, hoa, hca, ra⟩ := id tup2
    obtain ⟨oi, hoi, hci, ri⟩ := id hit
    have ai : a ≠ it := fun z => by
      subst z
      rw [hoa] at hoi; cases hoi
      rw [hca] at hci
      exact absurd (Value.type.inj hci) (by decide)
    have ae : e ≠ a := fun z => by
      subst z
      have he2 : s.heap.get? e = _ := he
      rw [hoa] at he2; cases he2
      exact absurd (Value.type.inj hca) (by decide)
    have le : e < s.heap.objs.size := Heap.lt_size he
    have li : it < s.heap.objs.size := Heap.lt_size hoi
    have hid : X.A.in1.handled = none := I.ok.hd hc
    refine wpAny_pyNext_enum_itemD (draws_tup (cells := cells.toArray) hid ai) he ⟨hit, tup2⟩ (by
      have := (List.getElem?_eq_some_iff.mp hu).1
      simpa using this) hne (by simp [hne, ae]) fun x h' tk px ho st2 hT hsz keep => ?_
    have ex : x = u := by
      have px2 : cells[i]? = some x := by simpa using px
      rw [hu] at px2; cases px2; rfl
    subst ex
    refine ⟨_, rfl, wpAny_letOwnedTupleGo_enum (s := { s with heap := h', toks := tk + 1 }) ho fun h2 he2 sb => ?_⟩
    have hT2 : h2.get? s.heap.objs.size = some { cls := .type "tuple", data := .seq #[.int i tk, x] } := (sb.2 _ (Nat.ne_of_gt le)).trans hT
    have fresh : ObjOk X.prog X.w (upd H s.heap.objs.size (.tup [.int (i : Nat), y])) h2 s.heap.objs.size (.tup [.int (i : Nat), y]) := ⟨by show 2 ≤ sizeLine; decide, [.int i tk, x], .cons ⟨_, rfl⟩ (.cons ru .nil), ⟨_, hT2, rfl, _, rfl⟩⟩
    have I1 : Inv X pins σ (upd H s.heap.objs.size (.tup [.int (i : Nat), y])) { s with heap := h2, toks := tk + 1 } := I.turnedNew (ch := [e, it]) (fun b ob hb q => by
      have n1 : b ≠ e := fun z => hb (by simp [z])
      have n2 : b ≠ it := fun z => hb (by simp [z])
      exact (sb.2 b n1).trans (keep b ob n1 n2 q)) free (Nat.le_refl _) fresh
    refine ⟨.ref s.heap.objs.size, _, I1, rfl, ⟨_, y, rfl, I.hok.fresh (Nat.le_refl _), rfl, fun zs hzs => ?_⟩, ⟨⟨x, ?_⟩, ?_, hne⟩, fun b hb => ?_⟩
    · rw [I.tuple_inj hzs hq]; exact hy
    · have e1 : ((i + 1 : Nat) : Int) = (i : Int) + 1 := by omega
      rw [e1]; exact he2
    · obtain ⟨o5, ho5, r5⟩ := st2.1
      exact ⟨o5, (sb.2 it (Ne.symm hne)).trans ho5, r5⟩
    · have lt : b < s.heap.objs.size := by
        rcases List.mem_cons.mp hb with z | z
        · rw [z]; exact le
        · rw [show b = it by simpa using z]; exact li
      rw [upd_ne (Nat.ne_of_lt lt)]
      exact (free b hb).1
  done := by
    intro X e1 e2 e3 hc i pins s σ H Er I free st go
    subst e1; subst e2; subst e3
    obtain ⟨⟨old, he⟩, hit, hne⟩ := st
    obtain ⟨ys, hq, hy⟩ := go
    obtain ⟨cells, rv, tup, hz⟩ := I.tuple hq
    have tup2 : s.heap.IsTuple a cells.toArray := tup
    obtain ⟨oa, hoa, hca, ra⟩ := id tup2
    obtain ⟨oi, hoi, hci, ri⟩ := id hit
    have ai : a ≠ it := fun z => by
      subst z
      rw [hoa] at hoi; cases hoi
      rw [hca] at hci
      exact absurd (Value.type.inj hci) (by decide)
    obtain ⟨f0, f1, f2, f3, f4, f5⟩ := free it (by simp)
    have hid : X.A.in1.handled = none := I.ok.hd hc
    have hl := rv.length
    exact wpAny_pyNext_enum_endD (draws_end (cells := cells.toArray) hid ai (by simp; omega)) he (show _ ∧ _ from ⟨hit, tup2⟩) fun h' eb => ⟨rfl, I.turned (t' := s.toks) (fun b o hb q => eb b o hb q) f0 f1 f3 f4 f5⟩
  self := fun A i s Q Er st h => let ⟨⟨_, he⟩, _⟩ := st; wpAny_pyIter_enum he h
theorem pi_enumT {X : Cx} {e : Expr} {ta : TA} {p pos tp : Pos} {elts : List Expr} {kk : Nat} (hg : Gl X "enumerate") (hm : X.mg "enumerate" = none) (ha : PA X [e] ta) (hs : starEach [e] X.env = [(false, eval e X.env)] := by rfl) :
    PI X (.Tuple elts kk tp) (.Call (.Name "enumerate" p) [e] [] pos) (fun σ H R => ta σ H fun vs H1 => ∃ a xs, vs = [.ref a] ∧ SqT X.K H1 a xs ∧ R (ItTE X.K a) H1) := by
  refine ⟨fun pins s σ H R I h => ?_⟩
  refine Call_ (ld_blt I hg hm boot_enumerate (PyProof.Rows.callWith_type1 (thn (ha.run pos pins s σ H _ I h) fun us sa ⟨vs, Ha, Ia, ra, a, xs, ex, hq, q⟩ => ?_) hs rfl))
  subst ex
  obtain rfl := Vals.ref1 ra
  obtain ⟨cells, rv, tup, hz⟩ := Ia.tuple hq
  have tup2 : sa.heap.IsTuple a cells.toArray := tup
  refine call_enumT tup2 fun h' isE isT keep => wpAny_pyIter_enum isE ?_
  have I2 : Inv X pins σ Ha { sa with heap := h' } := Ia.kept (t' := sa.toks) keep
  refine ⟨sa.heap.objs.size + 1, [sa.heap.objs.size + 1, sa.heap.objs.size], _, _, Ha, rfl, I2, turnTE a (sa.heap.objs.size + 1) sa.heap.objs.size, ⟨⟨.none, isE⟩, isT, Nat.succ_ne_self _⟩, fun b hb => ?_, q⟩
  have big : sa.heap.objs.size ≤ b := by
    rcases List.mem_cons.mp hb with z | z
    · rw [z]; exact Nat.le_add_right _ _
    · rw [show b = sa.heap.objs.size by simpa using z]; exact Nat.le_refl _
  exact Ia.fpOk big (Ia.hok.fresh big)
theorem is_enumT {X : Cx} {E : Type} [ES E] {α : Type} [Enc α] {a : Expr} {p1s p2s pos : Pos} {oka : E → Prop} {k : Nat} {elts : List Expr} {f : E → Tup α} (ha : IE X a f oka) (hm : X.mg "enumerate" = none) (hg : Gl X "enumerate" := by rfl) (hs : starEach [a] X.env = [(false, eval a X.env)] := by rfl) :
    IS X (.Tuple elts k p2s) (.Call (.Name "enumerate" p1s) [a] [] pos) (fun e => enum (f e).l) oka :=
  pi_imp (pi_enumT hg hm (ia_one ha hs) hs) fun σ H R ⟨F0, H0, F, e, s, o, q⟩ => ⟨F0, H0, F, e, s, o, fun F1 H1 vs X1 r => by
    obtain ⟨v, ws, rfl, ⟨p, us, rfl, hp, z, rr⟩, rfl⟩ := r
    refine ⟨p, us, rfl, SqT.of (X1.fh _ _ hp), q _ F1 H1 X1 ⟨by rw [enum_len, ← rr.length]; exact z, fun i F H hb hs => ⟨fun x hx => ?_, fun hi => ?_⟩⟩⟩
    · obtain ⟨h1, h2⟩ := enum_at hx
      obtain ⟨v, hv, rv⟩ := reps_of rr h2
      have hq := SqT.of (K := X.K) (hs _ _ (hb _ _ hp))
      refine ⟨⟨us, v, hq, hv⟩, fun v' H' y => ?_⟩
      obtain ⟨T, x', rfl, hT, rfl, y⟩ := y
      have y2 := y us hq
      rw [hv] at y2; cases y2
      have fT : F T = none := hs.free hT
      refine ⟨_, (Ext.refl hs).new hT, T, _, _, rfl, upd_same, by rw [h1]; rfl, Enc.mono (same_new fT) (Enc.mono hb rv)⟩
    · rw [enum_len] at hi
      exact ⟨us, SqT.of (hs _ _ (hb _ _ hp)), by rw [hi, rr.length]; exact Nat.le_refl _⟩⟩
end PL
set_option Elab.async false
set_option linter.all false
set_option maxRecDepth 100000
/-! PLO: more plain facts. -/
namespace PL
open PySem
theorem rg_of {n : Int} (h0 : 0 ≤ n) (h : n ≤ 16777216) : rgOk 0 n := by unfold rgOk; omega
theorem cm_r {a b : Int} (h0 : -1000000000000 ≤ b) (h : b ≤ 1000000000000) : L2.CMul a b := by unfold L2.CMul; omega
theorem cm_l {a b : Int} (h0 : -1000000000000 ≤ a) (h : a ≤ 1000000000000) : L2.CMul a b := by unfold L2.CMul; omega
theorem sz_of {n : Nat} (h : n ≤ 16777216) : n ≤ sizeLine := by rw [sizeLine_eq]; exact h
theorem lt_sz {n : Nat} (h : n < 16777216) : n < sizeLine := by rw [sizeLine_eq]; exact h
def Drw (n : Nat) (d : List Int) : Prop := d.length = n ∧ ∀ x ∈ d, 0 ≤ x ∧ x < 5040
theorem Drw.ix {n : Nat} {d : List Int} (h : Drw n d) {k : Int} (h0 : 0 ≤ k) (h1 : k < n) : ixOk d k := ixOk_of h0 (by rw [h.1]; exact h1)
theorem Drw.nn {n : Nat} {d : List Int} (h : Drw n d) {k : Int} (h0 : 0 ≤ k) (h1 : k < n) : 0 ≤ ixD d k ∧ ixD d k < 5040 := h.2 _ (ixD_mem h0 (by rw [h.1]; exact h1))
theorem Drw.snoc {n : Nat} {d : List Int} {x : Int} (h : Drw n d) (hx : 0 ≤ x ∧ x < 5040) : Drw (n + 1) (d ++ [x]) := ⟨by rw [List.length_append, h.1]; rfl, fun y hy => by
  rcases List.mem_append.mp hy with hy | hy
  · exact h.2 y hy
  · rw [List.mem_singleton.mp hy]; exact hx⟩
theorem joinL_nil_len : ∀ xs : List S, (TL.joinL ([] : S) xs).length = (xs.map (·.length)).sum
  | [] => rfl
  | [x] => by simp [TL.joinL]
  | x :: y :: xs => by
    have ih := joinL_nil_len (y :: xs)
    rw [TL.joinL, List.nil_append, List.length_append, ih, List.map_cons, List.sum_cons]
    rfl
theorem joinL_nil_mem {c : Nat} : ∀ xs : List S, c ∈ TL.joinL ([] : S) xs ↔ ∃ x ∈ xs, c ∈ x
  | [] => by simp [TL.joinL]
  | [x] => by simp [TL.joinL]
  | x :: y :: xs => by
    have ih := joinL_nil_mem (c := c) (y :: xs)
    rw [TL.joinL, List.nil_append, List.mem_append, ih]
    simp
theorem ones_sum {α : Type} (f : α → Nat) : ∀ l : List α, ((l.map fun a => ([f a] : S)).map (·.length)).sum = l.length
  | [] => rfl
  | a :: l => by rw [List.map_cons, List.map_cons, List.sum_cons, ones_sum f l, List.length_cons]; simp; omega
theorem chars_mem {s : S} {x : S} : x ∈ chars s ↔ ∃ c ∈ s, x = [c] := by
  unfold chars
  rw [List.mem_map]
  exact ⟨fun ⟨c, h, e⟩ => ⟨c, h, e.symm⟩, fun ⟨c, h, e⟩ => ⟨c, h, e.symm⟩⟩
theorem chars_len (s : S) : (chars s).length = s.length := by unfold chars; rw [List.length_map]
section
variable {E R : Type} {c : E → Bool} {okc : E → Prop} {gC : K3 E E E R → E → R} {gP : P3 E E E → E → Prop} {kC : E → R} {kP : E → Prop} {Q : R → Prop}
/-- while, with what becomes less; J: what a break leaves -/
theorem wh_ind (I : Nat → E → Prop) (J : E → Prop)
    (step : ∀ m (e : E), I m e → okc e ∧ (c e = true → ∀ (K : K3 E E E R) (KO : P3 E E E), (∀ e' m', m' < m → I m' e' → KO.nx e' ∧ Q (K.nx e')) → (∀ e', J e' → KO.bk e' ∧ Q (K.bk e')) → gP KO e ∧ Q (gC K e)) ∧ (c e = false → J e))
    (fin : ∀ e, J e → kP e ∧ Q (kC e)) : ∀ n m (e : E), I m e → m < n → whP c okc gP kP n e ∧ Q (whC c gC kC n e) := by
  intro n
  induction n with
  | zero => intro m e _ h; exact absurd h (Nat.not_lt_zero _)
  | succ n ih =>
    intro m e hI hm
    obtain ⟨h1, h2, h3⟩ := step m e hI
    show (okc e ∧ (c e = true → gP ⟨whP c okc gP kP n, kP, whP c okc gP kP n⟩ e) ∧ (c e = false → kP e)) ∧ Q (if c e = true then gC ⟨whC c gC kC n, kC, whC c gC kC n⟩ e else kC e)
    cases hc : c e with
    | true =>
      rw [if_pos rfl]
      obtain ⟨g1, g2⟩ := h2 hc ⟨whC c gC kC n, kC, whC c gC kC n⟩ ⟨whP c okc gP kP n, kP, whP c okc gP kP n⟩ (fun e' m' hlt hI' => ih m' e' hI' (by omega)) fin
      exact ⟨⟨h1, fun _ => g1, fun z => nomatch z⟩, g2⟩
    | false =>
      rw [if_neg Bool.false_ne_true]
      obtain ⟨g1, g2⟩ := fin e (h3 hc)
      exact ⟨⟨h1, (fun z => nomatch z), fun _ => g1⟩, g2⟩
end
end PL
set_option Elab.async false
set_option linter.all false
set_option maxRecDepth 100000
/-! PLP: chained comparisons, the order of texts. -/
namespace PL
open PySem PySem.Spec PyProof.Rows L2
variable {X : Cx} {E : Type} [ES E] {pos p0s p1s p2s : Pos}
section
variable {α β γ : Type} [Enc α] [Enc β] [Enc γ] {a b c : Expr} {fa : E → α} {fb : E → β} {fc : E → γ} {oka okb okc : E → Prop}
theorem three {r r' : R2} {g : α → β → Bool} {g' : β → γ → Bool} (h : R2S r g Tr2) (h' : R2S r' g' Tr2) {σ : L2.St} {H : Hp} {Q : VK}
    (w : tE (fun e => g (fa e) (fb e) && g' (fb e) (fc e)) (fun e => oka e ∧ okb e ∧ (g (fa e) (fb e) = true → okc e)) σ H Q) : tChain r r' (tE fa oka) (tE fb okb) (tE fc okc) σ H Q := by
  obtain ⟨F0, H0, F, e, s, ⟨o1, o2, o3⟩, q⟩ := w
  refine ⟨F0, H0, F, e, s, o1, fun F1 H1 x X1 r1 => ⟨F0, H0, F1, e, s.more X1, o2, fun F2 H2 y X2 r2 => ?_⟩⟩
  refine h F2 H2 x y _ _ _ X2.fh (Enc.mono X2.ff r1) r2 trivial fun F3 H3 z X3 r3 => ⟨g (fa e) (fb e), r3, ?_⟩
  cases hg : g (fa e) (fb e) with
  | false =>
    rw [if_neg (by simp)]
    exact q F3 H3 _ (X1.trans (X2.trans X3)) (by dsimp only; rw [hg]; rfl)
  | true =>
    rw [if_pos rfl]
    refine ⟨F0, H0, F3, e, s.more (X1.trans (X2.trans X3)), o3 hg, fun F4 H4 w' X4 r4 => ?_⟩
    refine h' F4 H4 y w' _ _ Q X4.fh (Enc.mono (X3.ff.trans X4.ff) r2) r4 trivial fun F5 H5 v X5 r5 => ?_
    exact q F5 H5 v (X1.trans (X2.trans (X3.trans (X4.trans X5)))) (by dsimp only; rw [hg]; exact r5)
theorem nomarks (b c : Expr) {op op' : CmpOp} (h1 : op' ≠ .In := by decide) (h2 : op' ≠ .NotIn := by decide) : lastMarks [op, op'] [b, c] = false := by
  show behindInMarks op' c = false
  exact nomark c h1 h2
theorem ie_chain {op op' : CmpOp} {r r' : R2} {g : α → β → Bool} {g' : β → γ → Bool} (ho : OpR X (compareOp op) r) (ho' : OpR X (compareOp op') r') (h : R2S r g Tr2) (h' : R2S r' g' Tr2)
    (ha : IE X a fa oka) (hb : IE X b fb okb) (hc : IE X c fc okc) (hm : lastMarks [op, op'] [b, c] = false) :
    IE X (.Compare a [op, op'] [b, c] pos) (fun e => g (fa e) (fb e) && g' (fb e) (fc e)) (fun e => oka e ∧ okb e ∧ (g (fa e) (fb e) = true → okc e)) :=
  pe_imp (pe_chain ho ho' ha hb hc hm) fun _ _ _ w => three h h' w
theorem it_chain {op op' : CmpOp} {r r' : R2} {g : α → β → Bool} {g' : β → γ → Bool} (ho : OpR X (compareOp op) r) (ho' : OpR X (compareOp op') r') (h : R2S r g Tr2) (h' : R2S r' g' Tr2)
    (ha : IE X a fa oka) (hb : IE X b fb okb) (hc : IE X c fc okc) (hm : lastMarks [op, op'] [b, c] = false) :
    IT X (.Compare a [op, op'] [b, c] pos) (fun e => g (fa e) (fb e) && g' (fb e) (fc e)) (fun e => oka e ∧ okb e ∧ (g (fa e) (fb e) = true → okc e)) := by
  refine pt_imp (pt_chain ho ho' ha hb hc hm) fun σ H Q ⟨F0, H0, F, e, s, o, q⟩ => three h h' ⟨F0, H0, F, e, s, o, fun F' H' v x rv => ?_⟩
  exact ⟨_, rv, q F' H' x⟩
end
/-- texts in order -/
theorem r2_le_str : R2S (fun x y H Q => ∃ i j, x = .str i ∧ y = .str j ∧ Q (.bl (!decide (j.cps.toList < i.cps.toList))) H) (fun (a b : S) => !decide (b < a)) Tr2 := fun F H x y a b Q h r1 r2 _ q =>
  ⟨toS a, toS b, r1.1, r2.1, flat_k h rfl q⟩
section
variable {a b c : Expr} {oka okb okc : E → Prop}
theorem ie_chainI {fa fb fc : E → Int} (ha : IE X a fa oka) (hb : IE X b fb okb) (hc : IE X c fc okc) :
    IE X (.Compare a [.LtE, .LtE] [b, c] pos) (fun e => decide (fa e ≤ fb e) && decide (fb e ≤ fc e)) (fun e => oka e ∧ okb e ∧ (decide (fa e ≤ fb e) = true → okc e)) :=
  ie_chain op_le op_le r2_intb r2_intb ha hb hc (nomarks _ _)
theorem ie_chainIL {fa fb fc : E → Int} (ha : IE X a fa oka) (hb : IE X b fb okb) (hc : IE X c fc okc) :
    IE X (.Compare a [.LtE, .Lt] [b, c] pos) (fun e => decide (fa e ≤ fb e) && decide (fb e < fc e)) (fun e => oka e ∧ okb e ∧ (decide (fa e ≤ fb e) = true → okc e)) :=
  ie_chain op_le op_lt r2_intb r2_intb ha hb hc (nomarks _ _)
theorem it_chainI {fa fb fc : E → Int} (ha : IE X a fa oka) (hb : IE X b fb okb) (hc : IE X c fc okc) :
    IT X (.Compare a [.LtE, .LtE] [b, c] pos) (fun e => decide (fa e ≤ fb e) && decide (fb e ≤ fc e)) (fun e => oka e ∧ okb e ∧ (decide (fa e ≤ fb e) = true → okc e)) :=
  it_chain op_le op_le r2_intb r2_intb ha hb hc (nomarks _ _)
theorem it_chainIL {fa fb fc : E → Int} (ha : IE X a fa oka) (hb : IE X b fb okb) (hc : IE X c fc okc) :
    IT X (.Compare a [.LtE, .Lt] [b, c] pos) (fun e => decide (fa e ≤ fb e) && decide (fb e < fc e)) (fun e => oka e ∧ okb e ∧ (decide (fa e ≤ fb e) = true → okc e)) :=
  it_chain op_le op_lt r2_intb r2_intb ha hb hc (nomarks _ _)
theorem ie_chainS {fa fb fc : E → S} (ha : IE X a fa oka) (hb : IE X b fb okb) (hc : IE X c fc okc) :
    IE X (.Compare a [.LtE, .LtE] [b, c] pos) (fun e => !decide (fb e < fa e) && !decide (fc e < fb e)) (fun e => oka e ∧ okb e ∧ ((!decide (fb e < fa e)) = true → okc e)) :=
  ie_chain op_le_str op_le_str r2_le_str r2_le_str ha hb hc (nomarks _ _)
theorem it_chainS {fa fb fc : E → S} (ha : IE X a fa oka) (hb : IE X b fb okb) (hc : IE X c fc okc) :
    IT X (.Compare a [.LtE, .LtE] [b, c] pos) (fun e => !decide (fb e < fa e) && !decide (fc e < fb e)) (fun e => oka e ∧ okb e ∧ ((!decide (fb e < fa e)) = true → okc e)) :=
  it_chain op_le_str op_le_str r2_le_str r2_le_str ha hb hc (nomarks _ _)
end
/-! slices of tuples of two to four, told ends -/
section
variable {α β γ δ κ : Type} [Enc α] [Enc β] [Enc γ] [Enc δ] [Enc κ] {a : Expr} {ok : E → Prop} {j : Nat}
theorem ie_cutT {lo hi : Option Expr} {l h : Option Int} {f : E → α} {g : α → κ} (ha : IE X a f ok) (hl : IP (E := E) X lo (fun _ => l) okT) (hh : IP (E := E) X hi (fun _ => h) okT)
    (hr : ∀ (F : Hp) (v : V) (x : α), rep F v x → ∃ p vs, v = .ref p ∧ F p = some (.tup vs) ∧ ¬ (HT.sIx vs.length 0 l = 0 ∧ HT.sIx vs.length vs.length h = vs.length) ∧ ∀ (F' : Hp) (p' : Addr), Same F F' → F' p' = some (.tup (cutV vs l h)) → rep F' (.ref p') (g x)) :
    IE X (.Subscript a (.Slice lo hi none p2s) pos) (fun e => g (f e)) ok := by
  refine pe_imp (pe_slice sl_tup ha hl hh) fun σ H Q ⟨F0, H0, F, e, s, o, q⟩ => ?_
  refine ⟨F0, H0, F, e, s, o, fun F1 H1 x X1 r1 => ⟨F0, H0, F1, e, s.more X1, trivial, fun F2 H2 X2 => ⟨F0, H0, F2, e, (s.more X1).more X2, trivial, fun F3 H3 X3 => ?_⟩⟩⟩
  obtain ⟨p, vs, rfl, hp, nw, k⟩ := hr F3 x (f e) (Enc.mono (X2.ff.trans X3.ff) r1)
  refine ⟨p, vs, rfl, SqT.of (X3.fh _ _ hp), nw, fun p' hp' => ?_⟩
  exact q _ _ _ ((X1.trans (X2.trans X3)).new hp') (k _ _ (same_new (X3.fh.free hp')) upd_same)
theorem ie_cut3_1 {f : E → T3 α β γ} (ha : IE X a f ok) : IE X (.Subscript a (.Slice (some (.Constant (.int 1) j p1s)) none none p2s) pos) (fun e => ((f e).b, (f e).c)) ok :=
  ie_cutT (l := some 1) (h := none) (g := fun t : T3 α β γ => (t.b, t.c)) ha (ip_some ie_int) ip_none fun F v t r => by
    obtain ⟨p, x, y, z, rfl, hp, r1, r2, r3⟩ := r
    exact ⟨p, _, rfl, hp, by intro c; exact absurd c.1 (by simp only [List.length_cons, List.length_nil]; decide), fun F' p' sm e => ⟨p', y, z, rfl, e, Enc.mono sm r2, Enc.mono sm r3⟩⟩
theorem ie_cut4_02 {i : Nat} {p3s : Pos} {f : E → T4 α β γ δ} (ha : IE X a f ok) : IE X (.Subscript a (.Slice (some (.Constant (.int 0) j p1s)) (some (.Constant (.int 2) i p3s)) none p2s) pos) (fun e => ((f e).a, (f e).b)) ok :=
  ie_cutT (l := some 0) (h := some 2) (g := fun t : T4 α β γ δ => (t.a, t.b)) ha (ip_some ie_int) (ip_some ie_int) fun F v t r => by
    obtain ⟨p, x, y, z, u, rfl, hp, r1, r2, r3, r4⟩ := r
    exact ⟨p, _, rfl, hp, by intro c; exact absurd c.2 (by simp only [List.length_cons, List.length_nil]; decide), fun F' p' sm e => ⟨p', x, y, rfl, e, Enc.mono sm r1, Enc.mono sm r2⟩⟩
theorem ie_cut4_2 {i : Nat} {p3s : Pos} {f : E → T4 α β γ δ} (ha : IE X a f ok) : IE X (.Subscript a (.Slice none (some (.Constant (.int 2) i p3s)) none p2s) pos) (fun e => ((f e).a, (f e).b)) ok :=
  ie_cutT (l := none) (h := some 2) (g := fun t : T4 α β γ δ => (t.a, t.b)) ha ip_none (ip_some ie_int) fun F v t r => by
    obtain ⟨p, x, y, z, u, rfl, hp, r1, r2, r3, r4⟩ := r
    exact ⟨p, _, rfl, hp, by intro c; exact absurd c.2 (by simp only [List.length_cons, List.length_nil]; decide), fun F' p' sm e => ⟨p', x, y, rfl, e, Enc.mono sm r1, Enc.mono sm r2⟩⟩
/-- a tuple of three of one kind, as a tuple -/
theorem ie_t3U {f : E → T3 α α α} (ha : IE X a f ok) : IE X a (fun e => (⟨[(f e).a, (f e).b, (f e).c]⟩ : Tup α)) ok :=
  pe_imp ha fun σ H Q ⟨F0, H0, F, e, s, o, q⟩ => ⟨F0, H0, F, e, s, o, fun F' H' v x r => q F' H' v x (by
    obtain ⟨p, x, y, z, rfl, hp, r1, r2, r3⟩ := r
    exact ⟨p, _, rfl, hp, (by show 3 ≤ sizeLine; decide), .cons r1 (.cons r2 (.cons r3 .nil))⟩)⟩
end
/-! defs that may end without a return -/
section
variable {P : Program} {w : World} {K : PySem.W.Frag} {mg : Str → Option Value} {base : Heap} {A E1 : Type} [EA A] [ES E1] {x : Str} {st : Stmt} {f : Addr} {fd : FuncData} {N ps : List Str} {k : Nat}
theorem cal_ofN {g : K3 E1 Unit Unit Unit → E → Unit} {ok : P3 E1 Unit Unit → E → Prop} (F : Fun K x x st f fd) (hm : mg x = some (.ref f)) (bd : Binds K fd ps []) (S : FnScope N ps (defScope st)) (ini : Ini A E N.length ps.length)
    (hb : ∀ (cdv : Value) (A' : Around) (outer : List Env) (s : Shared) (H : Hp) (E' : XK), Room k (A'.deeper (envOfC x (defScope st) s.heap.objs.size f cdv)) → SSs (cxOf CX0 P w K mg base N x (defScope st) f cdv A' outer s H E').nox retF (defBody st) g ok) :
    Cal P w K mg base (k + 1) x (spP (fun a => g ⟨fun _ => (), fun _ => (), fun _ => ()⟩ (ini.w a)) (fun a => ok ⟨fun _ => True, fun _ => False, fun _ => False⟩ (ini.w a))) := by
  refine ⟨f, fd, ps, F.ok S (fun vs H Q E h => ?_) (fun cdv A' outer s H vs Q E hr h => ?_), hm, F.kp, bd⟩
  · obtain ⟨F, a, _, r, _⟩ := h
    exact ini.len r
  · obtain ⟨F, a, hs, r, o, q⟩ := h
    refine ⟨_, hb cdv A' outer s H E hr, F, H, F, ini.w a, ⟨fun _ => (), fun _ => (), fun _ => ()⟩, _, _, ⟨Ext.refl hs, [], .nil, (fun _ z => nomatch z), ?_⟩, o, rfl, (fun F' H' σ e s' sm _ _ => q F' H' .non s'.ext rfl), (fun _ _ _ _ _ _ z => z.elim), (fun _ _ _ _ _ _ z => z.elim), (fun F' H' v X r => q F' H' v X r), trivial⟩
    have z := ini.ok (F := F) (H := H) r
    unfold L2.start
    rw [ini.len r]
    exact z
end
/-- what a def without a value hands back, as None -/
theorem ie_unitO {a : Expr} {f : E → Unit} {ok : E → Prop} (h : IE X a f ok) : IE X a (fun _ => (none : Option Int)) ok :=
  pe_imp h fun σ H Q ⟨F0, H0, F, e, s, o, q⟩ => ⟨F0, H0, F, e, s, o, fun F' H' v x r => q F' H' v x r⟩
section
variable {a b : Expr} {oka okb : E → Prop}
theorem ie_pU {α : Type} [Enc α] {f : E → α × α} (ha : IE X a f oka) : IE X a (fun e => (⟨[(f e).1, (f e).2]⟩ : Tup α)) oka :=
  pe_imp ha fun σ H Q ⟨F0, H0, F, e, s, o, q⟩ => ⟨F0, H0, F, e, s, o, fun F' H' v x r => q F' H' v x (by
    obtain ⟨p, x, y, rfl, hp, r1, r2⟩ := r
    exact ⟨p, _, rfl, hp, (by show 2 ≤ sizeLine; decide), .cons r1 (.cons r2 .nil)⟩)⟩
theorem ie_joinT {fa : E → S} {fb : E → Tup S} (ha : IE X a fa oka) (hb : IE X b fb okb) (hs : starEach [b] X.env = [(false, eval b X.env)] := by rfl) (hbase : attributeBase a "join" X.env (eval a X.env) = eval a X.env := by rfl) (hline : (p1s.endLine == pos.line) = true := by rfl) :
    IE X (.Call (.Attribute a "join" p1s) [b] [] pos) (fun e => (TL.joinL (fa e) (fb e).l : S)) (fun e => oka e ∧ okb e ∧ joinOk (fa e) (fb e).l) :=
  pe_imp (pe_join ha hb hs hbase hline) fun σ H Q ⟨F0, H0, F, e, s, ⟨o1, o2, o3⟩, q⟩ =>
    ⟨F0, H0, F, e, s, o1, fun F1 H1 x X1 r1 => ⟨⟨_, r1.1⟩, F0, H0, F1, e, s.more X1, o2, fun F2 H2 y X2 r2 => by
      obtain ⟨p, vs, rfl, hp, z, rr⟩ := r2
      refine ⟨toS (fa e), p, (fb e).l.map toS, r1.1, rfl, .inr (SqT.of (X2.fh _ _ (by rw [← strs_of rr]; exact hp))), ?_, q F2 H2 _ (X1.trans X2) ⟨?_, ?_⟩⟩
      · rw [show (toS (fa e)).length = (fa e).length from SX.S_len _, List.length_map, show ((fb e).l.map toS).map (·.length) = (fb e).l.map (·.length) from SX.lens _]
        exact o3
      · exact congrArg V.str (SX.join_S _ _)
      · exact ⟨Nat.le_trans (joinL_len _ _) o3, fun c hc => (joinL_mem _ _ c hc).elim (r1.2.cps c) fun ⟨y, hy, hm⟩ => reps_sok rr y hy c hm⟩⟩⟩
end
end PL
set_option Elab.async false
set_option linter.all false
set_option maxRecDepth 100000
/-! PLQ: enumerate of texts. -/
namespace PL
open PySem PySem.Spec PyProof.Rows L2
section
variable {prog : Program} {w : World} {A : Around}
theorem draws_strT (hh : A.handled = none) (it : Addr) (x : Str) (t : Tok) : Draws prog w A it [it] x.cps.size (SignAt x) (fun i h => h.IsStrIter it (strIterType x) x t i) := by
  unfold strIterType
  split
  · exact Draws.strAscii hh it x t
  · exact Draws.strWide hh it x t
theorem draws_endS (hh : A.handled = none) (it : Addr) (x : Str) (t : Tok) {i : Nat} (hi : x.cps.size ≤ i) : Draws prog w A it [it] 0 (fun _ _ => False) (fun _ h => h.IsStrIter it (strIterType x) x t i) := by
  have hx : x.cps[i]? = none := Array.getElem?_eq_none hi
  refine ⟨fun _ h st => let ⟨o, ho, _⟩ := st; ⟨o, ho⟩, fun _ h h' st k => let ⟨o, ho, r⟩ := st; ⟨o, k it (by simp) o ho, r⟩, fun i s Q Er hi st hQ => absurd hi (Nat.not_lt_zero _), fun s Q Er st hE => ?_⟩
  unfold strIterType at st
  split at st
  · exact wpAny_nextOf_ascii_end hh st hx hE
  · exact wpAny_nextOf_wide_end hh st hx hE
end
/-- the signs of x, each in a new pair -/
def ItSE (x : Str) : It :=
  ⟨fun i _ => i < x.cps.size, fun i H v H' => ∃ T c, x.cps[i]? = some c ∧ v = .ref T ∧ H T = none ∧ H' = upd H T (.tup [.int (i : Nat), .str ⟨#[c]⟩]), fun i _ => x.cps.size ≤ i⟩
theorem turnSE {P : Program} {w : World} {K : PySem.W.Frag} {elts : List Expr} {kk : Nat} {tp : Pos} (x : Str) (t : Tok) (e it : Addr) :
    Turn P w K (.Tuple elts kk tp) (ItSE x) [e, it] e (fun i h => (∃ old, IsEnum h e it ((i : Nat) : Int) old) ∧ h.IsStrIter it (strIterType x) x t i ∧ e ≠ it) where
  mem := List.mem_cons_self
  obj := fun i h st b hb => by
    obtain ⟨⟨old, he⟩, ⟨o, ho, hc, hd⟩, _⟩ := st
    rcases List.mem_cons.mp hb with z | z
    · subst z; exact ⟨_, he, fun v q => nomatch q⟩
    · have z2 : b = it := by simpa using z
      subst z2; exact ⟨o, ho, fun v q => by rw [hd] at q; cases q⟩
  keep := fun i h h' st k => by
    obtain ⟨⟨old, he⟩, ⟨o, ho, r⟩, hne⟩ := st
    exact ⟨⟨old, k e (by simp) _ he⟩, ⟨o, k it (by simp) o ho, r⟩, hne⟩
  item := by
    intro X e1 e2 e3 hc i pins s σ H Er I free st go
    subst e1; subst e2; subst e3
    obtain ⟨⟨old, he⟩, hit, hne⟩ := st
    have le : e < s.heap.objs.size := Heap.lt_size he
    obtain ⟨oi, hoi, hci, ri⟩ := id hit
    have li : it < s.heap.objs.size := Heap.lt_size hoi
    have hid : X.A.in1.handled = none := I.ok.hd hc
    refine wpAny_pyNext_enum_itemD (draws_strT hid it x t) he hit go hne (by simp [hne]) fun y h' tk px ho st2 hT hsz keep => ?_
    obtain ⟨c, u, hcx, rfl⟩ := px
    refine ⟨_, rfl, wpAny_letOwnedTupleGo_enum (s := { s with heap := h', toks := tk + 1 }) ho fun h2 he2 sb => ?_⟩
    have hT2 : h2.get? s.heap.objs.size = some { cls := .type "tuple", data := .seq #[.int i tk, .str ⟨#[c]⟩ u] } := (sb.2 _ (Nat.ne_of_gt le)).trans hT
    have fresh : ObjOk X.prog X.w (upd H s.heap.objs.size (.tup [.int (i : Nat), .str ⟨#[c]⟩])) h2 s.heap.objs.size (.tup [.int (i : Nat), .str ⟨#[c]⟩]) := ⟨by show 2 ≤ sizeLine; decide, [.int i tk, .str ⟨#[c]⟩ u], .cons ⟨_, rfl⟩ (.cons ⟨_, rfl⟩ .nil), ⟨_, hT2, rfl, _, rfl⟩⟩
    have I1 : Inv X pins σ (upd H s.heap.objs.size (.tup [.int (i : Nat), .str ⟨#[c]⟩])) { s with heap := h2, toks := tk + 1 } := I.turnedNew (ch := [e, it]) (fun b ob hb q => by
      have n1 : b ≠ e := fun z => hb (by simp [z])
      have n2 : b ≠ it := fun z => hb (by simp [z])
      exact (sb.2 b n1).trans (keep b ob n1 (by simpa using n2) q)) free (Nat.le_refl _) fresh
    refine ⟨.ref s.heap.objs.size, _, I1, rfl, ⟨_, c, hcx, rfl, I.hok.fresh (Nat.le_refl _), rfl⟩, ⟨⟨.str ⟨#[c]⟩ u, ?_⟩, ?_, hne⟩, fun b hb => ?_⟩
    · have e1 : ((i + 1 : Nat) : Int) = (i : Int) + 1 := by omega
      rw [e1]; exact he2
    · obtain ⟨o5, ho5, r5⟩ := st2
      exact ⟨o5, (sb.2 it (Ne.symm hne)).trans ho5, r5⟩
    · have lt : b < s.heap.objs.size := by
        rcases List.mem_cons.mp hb with z | z
        · rw [z]; exact le
        · rw [show b = it by simpa using z]; exact li
      rw [upd_ne (Nat.ne_of_lt lt)]
      exact (free b hb).1
  done := by
    intro X e1 e2 e3 hc i pins s σ H Er I free st go
    subst e1; subst e2; subst e3
    obtain ⟨⟨old, he⟩, hit, hne⟩ := st
    obtain ⟨f0, f1, f2, f3, f4, f5⟩ := free it (by simp)
    have hid : X.A.in1.handled = none := I.ok.hd hc
    exact wpAny_pyNext_enum_endD (draws_endS hid it x t go) he hit fun h' eb => ⟨rfl, I.turned (t' := s.toks) (fun b o hb q => eb b o hb q) f0 f1 f3 f4 f5⟩
  self := fun A i s Q Er st h => let ⟨⟨_, he⟩, _⟩ := st; wpAny_pyIter_enum he h
theorem pi_enumS {X : Cx} {e : Expr} {ta : TA} {p pos tp : Pos} {elts : List Expr} {kk : Nat} (hg : Gl X "enumerate") (hm : X.mg "enumerate" = none) (ha : PA X [e] ta) (hs : starEach [e] X.env = [(false, eval e X.env)] := by rfl) :
    PI X (.Tuple elts kk tp) (.Call (.Name "enumerate" p) [e] [] pos) (fun σ H R => ta σ H fun vs H1 => ∃ x, vs = [.str x] ∧ R (ItSE x) H1) := by
  refine ⟨fun pins s σ H R I h => ?_⟩
  refine Call_ (ld_blt I hg hm boot_enumerate (PyProof.Rows.callWith_type1 (thn (ha.run pos pins s σ H _ I h) fun us sa ⟨vs, Ha, Ia, ra, x, ex, q⟩ => ?_) hs rfl))
  subst ex
  cases ra with
  | cons r rr =>
    cases rr
    obtain ⟨t, rfl⟩ := r
    refine call_enumerate_str fun h' isE isT hsz keep => wpAny_pyIter_enum isE ?_
    have I2 : Inv X pins σ Ha { sa with heap := h' } := Ia.kept (t' := sa.toks) keep
    refine ⟨sa.heap.objs.size + 1, [sa.heap.objs.size + 1, sa.heap.objs.size], _, _, Ha, rfl, I2, turnSE x t (sa.heap.objs.size + 1) sa.heap.objs.size, ⟨⟨.none, isE⟩, isT, Nat.succ_ne_self _⟩, fun b hb => ?_, q⟩
    have big : sa.heap.objs.size ≤ b := by
      rcases List.mem_cons.mp hb with z | z
      · rw [z]; exact Nat.le_add_right _ _
      · rw [show b = sa.heap.objs.size by simpa using z]; exact Nat.le_refl _
    exact Ia.fpOk big (Ia.hok.fresh big)
theorem is_enumS {X : Cx} {E : Type} [ES E] {a : Expr} {p1s p2s pos : Pos} {oka : E → Prop} {k : Nat} {elts : List Expr} {f : E → S} (ha : IE X a f oka) (hm : X.mg "enumerate" = none) (hg : Gl X "enumerate" := by rfl) (hs : starEach [a] X.env = [(false, eval a X.env)] := by rfl) :
    IS X (.Tuple elts k p2s) (.Call (.Name "enumerate" p1s) [a] [] pos) (fun e => enum (chars (f e))) oka :=
  pi_imp (pi_enumS hg hm (ia_one ha hs) hs) fun σ H R ⟨F0, H0, F, e, s, o, q⟩ => ⟨F0, H0, F, e, s, o, fun F1 H1 vs X1 r => by
    obtain ⟨v, ws, rfl, ⟨rfl, z⟩, rfl⟩ := r
    have cl : (chars (f e)).length = (f e).length := by unfold chars; rw [List.length_map]
    refine ⟨_, rfl, q _ F1 H1 X1 ⟨by rw [enum_len, cl]; exact z.len, fun i F H hb hs => ⟨fun x hx => ?_, fun hi => ?_⟩⟩⟩
    · obtain ⟨h1, h2⟩ := enum_at hx
      unfold chars at h2
      rw [List.getElem?_map] at h2
      cases hc : (f e)[i]? with
      | none => rw [hc] at h2; cases h2
      | some c =>
        rw [hc] at h2
        have h2 : [c] = x.2 := Option.some.inj h2
        have hi : i < (f e).length := (List.getElem?_eq_some_iff.mp hc).1
        refine ⟨show i < (toS (f e)).cps.size from hi, fun v H' y => ?_⟩
        obtain ⟨T, c', g1, rfl, hT, rfl⟩ := y
        have e2 : (toS (f e)).cps[i]? = (f e)[i]? := by show (f e).toArray[i]? = _; simp
        rw [e2, hc] at g1
        cases g1
        have fT : F T = none := hs.free hT
        refine ⟨_, (Ext.refl hs).new hT, T, _, _, rfl, upd_same, by rw [h1]; rfl, ?_⟩
        rw [← h2]
        exact ⟨rfl, z.sub (by show 1 ≤ sizeLine; decide) fun d hd => by rw [List.mem_singleton.mp hd]; exact List.mem_of_getElem? hc⟩
    · rw [enum_len, cl] at hi
      exact Nat.le_of_eq hi.symm⟩
end PL
set_option Elab.async false
set_option linter.all false
set_option maxRecDepth 100000
/-! PLR: exceptions that do come: raise, calls that may raise, try with clauses. -/
namespace PL
open PySem PySem.Spec PyProof.Rows L2

/-! ## try with several clauses, named or not -/
abbrev SuT := Addr → Value → Option Addr → TS
def endsN (D : Ends) : Option Nat → Ends
  | none => D
  | some i => { nx := fun τ G => D.nx (τ.set i none) G, rt := D.rt, bk := fun τ G => D.bk (τ.set i none) G, ct := fun τ G => D.ct (τ.set i none) G }
def slotN (σ : L2.St) (a : Addr) : Option Nat → L2.St
  | none => σ
  | some i => σ.set i (some (.ref a))
/-- what the clauses ask of an exception of the body -/
def wHd (K : PySem.W.Frag) (D : Ends) : List (Option Nat × Value × SuT) → WX
  | [] => fun _ _ _ _ => False
  | (n, c, ts) :: r => fun cls d σ H => ∃ b, PySem.W.exmOne K cls c = some b ∧ (b = true → ∀ a, H a = none → ts a cls d (endsN D n) (slotN σ a n) H) ∧ (b = false → wHd K D r cls d σ H)
abbrev SuOk (X : Cx) (suite : List Stmt) (ts : SuT) : Prop := ∀ (a : Addr) (oe : Obj) (cls : Value) (d : Option Addr) (pn : List (Addr × Obj)), Zc cls d oe → (∃ vs, oe.data = .fields vs) → PSs (X.suite a ((a, oe) :: pn)) suite (ts a cls d)
inductive HdL (X : Cx) : List ExceptHandler → List (Option Nat × Value × SuT) → Prop
  | nil : HdL X [] []
  | plain {x : Str} {c : Value} {ts : SuT} {t0 : Stmt} {tl : List Stmt} {p1 p2 : Pos} {hds : List ExceptHandler} {l : List (Option Nat × Value × SuT)} (hc : Names X x c) (hu : SuOk X (t0 :: tl) ts) (r : HdL X hds l) :
      HdL X (.ExceptHandler (some (.Name x p1)) none (t0 :: tl) p2 :: hds) ((none, c, ts) :: l)
  | named {i : Nat} {n x : Str} {c : Value} {ts : SuT} {t0 : Stmt} {tl : List Stmt} {p1 p2 : Pos} {hds : List ExceptHandler} {l : List (Option Nat × Value × SuT)} (hc : Names X x c) (hN : X.N.Nodup) (hi : X.N[i]? = some n) (hln : X.env.kindOf n = some .local)
      (hu : SuOk X (t0 :: tl) ts) (r : HdL X hds l) : HdL X (.ExceptHandler (some (.Name x p1)) (some n) (t0 :: tl) p2 :: hds) ((some i, c, ts) :: l)
section
variable {X : Cx} {body : List Stmt} {hd0 : ExceptHandler} {hds : List ExceptHandler} {l : List (Option Nat × Value × SuT)} {pos : Pos} {tb : WX → TS}
theorem ps_try_l (hs : X.stack = X.env :: X.outer) (hf : X.env.frame = some X.env.locals)
    (hb : ∀ (W : WX) (pn : List (Addr × Obj)) (xe : Value → Shared → Prop), Takes (X.tr pn xe) W → PassesOwn (model X.prog X.w) X.A X.env xe → PSs (X.tr pn xe) body (tb W)) (hh : HdL X (hd0 :: hds) l) :
    PS X (.Try body (hd0 :: hds) [] [] pos) (fun D σ H => tb (wHd X.K D l) D σ H) := by
  refine ⟨fun pins s0 σ0 H0 D I0 wish => ?_⟩
  have good := I0.ok
  have frs0 : X.A.frames = some (X.env :: X.outer) := by rw [good.frames, hs]
  refine wpAny_Try_except ?_
  refine wpAny_mono ((hb (wHd X.K D l) (X.pn ++ pins) (fun u z1 => wpAny (model X.prog X.w) X.A (noteFrame u X.env) (fun _ z2 => wpAny (model X.prog X.w) X.A (setFlight u none) (fun _ z3 =>
    wpAny (model X.prog X.w) X.A (handleBy u X.env (hd0 :: hds)) (SP X pins D) X.xe z3) X.xe z2) X.xe z1) (fun u z met => ?_) PassesOwn.looking).run [] s0 σ0 H0 D (I0.toTry _) wish) (fun fl z1 out => ?_) (fun u z1 zu => zu)
  · obtain ⟨a, G, zI, pinz, τ, M, cls, dd, rfl, Ji, keepB, upS, air, fresh, osE, bareE, asks⟩ := met
    have Jx : Inv X pins τ M zI := Ji.ofTry good
    have air' : Sky G (X.env :: X.outer) a (Zc cls dd) X.env.locals z.heap := by rw [← hs]; exact air
    show wpAny (model X.prog X.w) X.A (noteFrame (.ref a) X.env) _ _ _
    refine Sky.land Zc.steady frs0 hf air' fun k3 fly3 lift3 => ?_
    have J3 : Inv X pins τ M { z with heap := k3 } := Jx.landed keepB fly3.1 (upS.trans lift3) osE bareE
    obtain ⟨o3, vs3, get3, zc3, dat3⟩ := fly3.there
    have apart : ∀ {h : Heap} {o : Obj} {vs : Array Value}, h.FunFrames G (X.env :: X.outer) → h.get? a = some o → o.data = .fields vs → a ∉ frs (X.env :: X.outer) := fun {h o vs} ff gt dt hm => by
      obtain ⟨_, o', gt', nof⟩ := ff.mem hm
      rw [gt] at gt'; cases gt'; exact nof _ dt
    have far := apart fly3.2.2.1 get3 dat3
    have farL : a ≠ X.env.locals := fun q => far (List.mem_filterMap.mpr ⟨X.env, List.mem_cons_self, by rw [hf, q]⟩)
    have farF : a ∉ X.fs := fun hm => by
      obtain ⟨en, hen, q⟩ := List.mem_filterMap.mp hm
      exact far (List.mem_filterMap.mpr ⟨en, List.mem_cons_of_mem _ hen, q⟩)
    have Su3 := J3.suite get3 dat3 fresh farL farF
    have seen : PySem.W.Looks (model X.prog X.w) k3 (typeOf (.ref a)) cls := fun A Q E s k q => wpAny_typeOf_ref (k _ _ get3) (by rw [zc3.1]; exact q)
    have named : ∀ {x : Str} {c : Value} {np : Pos} {Q : Value → Shared → Prop} {E : Value → Shared → Prop}, Names X x c → Q c { z with heap := k3 } → wpAny (model X.prog X.w) (X.A.mark (some (.ref a))) (eval (.Name x np) X.env) Q E { z with heap := k3 } := fun {x c np Q E} nm q => by
      obtain ⟨ng, nd, nm | ⟨nm, nv, nn⟩⟩ := nm
      · exact ld_glob (X := X.suite a ((a, o3) :: (X.pn ++ pins))) Su3 ng nm q nd
      · exact ld_blt (X := X.suite a ((a, o3) :: (X.pn ++ pins))) Su3 ng nm nv q nn nd
    have go : ∀ {hs2 : List ExceptHandler} {l2 : List (Option Nat × Value × SuT)}, HdL X hs2 l2 → wHd X.K D l2 cls dd τ M → wpAny (model X.prog X.w) X.A (handleBy (.ref a) X.env hs2) (SP X pins D) X.xe { z with heap := k3 } := by
      intro hs2 l2 hk
      induction hk with
      | nil => intro w; exact w.elim
      | @plain x c ts t0 tl p1 p2 hs3 l3 nm hu rest ih =>
        intro w
        obtain ⟨b, hb1, yes, no⟩ := w
        refine wpAny_handleBy_cons (codeAny_handlers_test (named nm ((PySem.W.exm_one (M := model X.prog X.w) J3.kIn seen hb1).here ?_))) (by intro q; cases q)
        cases b with
        | true =>
          refine codeAny_handlers_suite (HandSPX.lands_againZ fly3 fun k4 fly4 lift4 => ?_)
          have J4 : Inv X pins τ M { z with heap := k4 } := Jx.landed keepB fly4.1 ((upS.trans lift3).trans lift4) osE bareE
          obtain ⟨o4, vs4, get4, zc4, dat4⟩ := fly4.there
          refine wpAny_mono ((hu a o4 cls dd (X.pn ++ pins) zc4 ⟨_, dat4⟩).run [] _ _ M _ (J4.suite get4 dat4 fresh farL farF) (yes rfl a fresh)) (fun fl z6 hz6 => ?_) (fun _ _ q => False.elim q)
          cases fl with
          | next => obtain ⟨τ6, M6, S6, q6⟩ := hz6; exact ⟨_, _, S6.unsuite good, q6⟩
          | brk => obtain ⟨τ6, M6, S6, q6⟩ := hz6; exact ⟨_, _, S6.unsuite good, q6⟩
          | cont => obtain ⟨τ6, M6, S6, q6⟩ := hz6; exact ⟨_, _, S6.unsuite good, q6⟩
          | ret u => obtain ⟨v6, τ6, M6, S6, r6, q6⟩ := hz6; exact ⟨_, _, _, S6.unsuite good, r6, q6⟩
        | false => exact ih (no rfl)
      | @named i n x c ts t0 tl p1 p2 hs3 l3 nm hN hi hln hu rest ih =>
        intro w
        obtain ⟨b, hb1, yes, no⟩ := w
        refine wpAny_handleBy_cons (codeAny_handlers_test (named nm ((PySem.W.exm_one (M := model X.prog X.w) J3.kIn seen hb1).here ?_))) (by intro q; cases q)
        cases b with
        | true =>
          refine codeAny_handlers_suite_as (HandSPX.lands_againZ fly3 fun k4 fly4 lift4 => ?_)
          have J4 : Inv X pins τ M { z with heap := k4 } := Jx.landed keepB fly4.1 ((upS.trans lift3).trans lift4) osE bareE
          obtain ⟨o4, vs4, get4, zc4, dat4⟩ := fly4.there
          refine store_ok (X := X.suite a ((a, o4) :: (X.pn ++ pins))) (v := .ref a) (J4.suite get4 dat4 fresh farL farF) hN hi (.inl hln) rfl (fun z5 S5 => ?_) (.inr hln)
          refine wpAny_mono ((hu a o4 cls dd (X.pn ++ pins) zc4 ⟨_, dat4⟩).run [] z5 _ M _ S5 (yes rfl a fresh)) (fun fl z6 hz6 => ?_) (fun _ _ q => False.elim q)
          have over : ∀ {τ6 : L2.St} {M6 : Hp} {Q : Shared → Prop}, Inv (X.suite a ((a, o4) :: (X.pn ++ pins))) [] τ6 M6 z6 → (∀ z7, Inv X pins (τ6.set i none) M6 z7 → Q z7) →
              wpAny (model X.prog X.w) X.A (do bindName X.env n .none; unbindBehindTheSuite X.env n p2) (fun _ z7 => Q z7) X.xe z6 := fun S6 q => gone_ok (S6.unsuite good) hN hi hln q
          cases fl with
          | next => obtain ⟨τ6, M6, S6, q6⟩ := hz6; exact over S6 fun z7 J7 => ⟨_, _, J7, q6⟩
          | brk => obtain ⟨τ6, M6, S6, q6⟩ := hz6; exact over S6 fun z7 J7 => ⟨_, _, J7, q6⟩
          | cont => obtain ⟨τ6, M6, S6, q6⟩ := hz6; exact over S6 fun z7 J7 => ⟨_, _, J7, q6⟩
          | ret u => obtain ⟨v6, τ6, M6, S6, r6, q6⟩ := hz6; exact over S6 fun z7 J7 => ⟨_, _, _, J7, r6, q6⟩
        | false => exact ih (no rfl)
    exact go hh asks
  · cases fl with
    | next => obtain ⟨τ, M, J, q⟩ := out; exact wpAny_execs_nil ⟨τ, M, J.ofTry good, q⟩
    | brk => obtain ⟨τ, M, J, q⟩ := out; exact ⟨τ, M, J.ofTry good, q⟩
    | cont => obtain ⟨τ, M, J, q⟩ := out; exact ⟨τ, M, J.ofTry good, q⟩
    | ret u => obtain ⟨v, τ, M, J, r, q⟩ := out; exact ⟨v, τ, M, J.ofTry good, r, q⟩
end

/-! ## defs that may raise -/
abbrev Ex (β : Type) := Except String β
def okOf {β : Type} [Inhabited β] : Ex β → β
  | .ok b => b
  | .error _ => default
def erOf {β : Type} : Ex β → Option String
  | .ok _ => none
  | .error x => some x
def isOk {β : Type} (r : Ex β) : Prop := erOf r = none
@[simp] theorem okOf_ok {β : Type} [Inhabited β] (b : β) : okOf (.ok b : Ex β) = b := rfl
@[simp] theorem erOf_ok {β : Type} (b : β) : erOf (.ok b : Ex β) = none := rfl
@[simp] theorem erOf_error {β : Type} (x : String) : erOf (.error x : Ex β) = some x := rfl
@[simp] theorem isOk_ok {β : Type} (b : β) : isOk (.ok b : Ex β) ↔ True := by simp [isOk]
theorem isOk.eq {β : Type} [Inhabited β] {r : Ex β} (h : isOk r) : r = .ok (okOf r) := by
  cases r with
  | ok b => rfl
  | error x => cases h
theorem erOf_some {β : Type} {r : Ex β} {x : String} (h : erOf r = some x) : r = .error x := by
  cases r with
  | ok b => cases h
  | error y => cases h; rfl
def spX {A β : Type} [EA A] [Enc β] (mg : Str → Option Value) (m : A → Ex β) (ok : A → Prop) : Sp := fun vs H Q E => ∃ (F : Hp) (a : A), Same F H ∧ EA.rep F vs a ∧ ok a ∧
  (∀ b F' H' r, m a = .ok b → Ext F H F' H' → rep F' r b → Q r H') ∧ ∀ x F' H' c, m a = .error x → Ext F H F' H' → mg (x : Str) = some c → E c none H'
structure CalX (P : Program) (w : World) (K : PySem.W.Frag) (mg : Str → Option Value) (base : Heap) (k : Nat) (x : Str) (sp : Sp) : Prop where
  ex : ∃ (f : Addr) (fd : FuncData) (ps : List Str), FnOk P w K mg base (L2.CX P w) k f fd ps sp ∧ mg x = some (.ref f) ∧ PySem.W.keepIn K (.ref f) = true ∧ Binds K fd ps []
theorem CalX.mono {P : Program} {w : World} {K : PySem.W.Frag} {mg : Str → Option Value} {base : Heap} {x : Str} {sp : Sp} {j k : Nat} (c : CalX P w K mg base j x sp) (h : j ≤ k) : CalX P w K mg base k x sp := by
  obtain ⟨f, fd, ps, F, h1, h2, h3⟩ := c.ex
  exact ⟨f, fd, ps, F.mono h, h1, h2, h3⟩

/-! ## what raises for sure: nothing that follows is reached -/
section
variable {X : Cx} {E : Type} [ES E] {pos p0s p1s p2s : Pos} {W : WX}
def R0 (W : WX) (mg : Str → Option Value) (rx : E → Option String) (ok : E → Prop) (σ : L2.St) (H : Hp) : Prop :=
  ∃ (F0 H0 F : Hp) (e : E) (x : String), SR F0 H0 F H σ e ∧ rx e = some x ∧ ok e ∧ ∀ F' H' c, Ext F H F' H' → mg (x : Str) = some c → W c none σ H'
abbrev IR (X : Cx) (W : WX) (e : Expr) (rx : E → Option String) (ok : E → Prop) : Prop := PE X e (fun σ H _ => R0 W X.mg rx ok σ H)
abbrev ARg (X : Cx) (W : WX) (es : List Expr) (rx : E → Option String) (ok : E → Prop) : Prop := PA X es (fun σ H _ => R0 W X.mg rx ok σ H)
abbrev IRs (X : Cx) (W : WX) (tg e : Expr) (rx : E → Option String) (ok : E → Prop) : Prop := PI X tg e (fun σ H _ => R0 W X.mg rx ok σ H)
abbrev SRx (X : Cx) (W : WX) (st : Stmt) (rx : E → Option String) (ok : E → Prop) : Prop := PS X st (fun _ σ H => R0 W X.mg rx ok σ H)
abbrev SRs (X : Cx) (W : WX) (st : List Stmt) (rx : E → Option String) (ok : E → Prop) : Prop := PSs X st (fun _ σ H => R0 W X.mg rx ok σ H)
theorem R0.then {α : Type} [Enc α] {mg : Str → Option Value} {rx : E → Option String} {ok oka : E → Prop} {fa : E → α} {σ : L2.St} {H : Hp} {t : V → Hp → Prop} (h : R0 W mg rx (fun e => oka e ∧ ok e) σ H)
    (ht : ∀ v H1 (e : E), rep H1 v (fa e) → R0 W mg rx ok σ H1 → t v H1) : tE fa oka σ H t := by
  obtain ⟨F0, H0, F, e, x, s, hx, ⟨o1, o2⟩, w⟩ := h
  exact ⟨F0, H0, F, e, s, o1, fun F1 H1 v X1 r => ht v H1 e (Enc.mono X1.fh r) ⟨F0, H0, F1, e, x, s.more X1, hx, o2, fun F' H' c X2 hc => w F' H' c (X1.trans X2) hc⟩⟩
section
variable {A β : Type} [EA A] [Enc β] {e : Expr} {es : List Expr} {f : E → A} {okA : E → Prop} {ok : A → Prop} {k j : Nat} {x : Str} {m : A → Ex β}
theorem ir_call (tk : Takes X W) (c : CalX X.prog X.w X.K X.mg X.base k x (spX X.mg m ok)) (hr : Room j X.A) (hk : k ≤ j) (hg : Gl X x) (ha : IA X (e :: es) f okA)
    (hdb : (x == ("__debug__" : Str)) = false := by decide) (he : starEach (e :: es) X.env = (false, eval e X.env) :: starEach es X.env := by rfl) (hpl : (backTo pos (starEach es X.env)).any (·.1) = false := by rfl) :
    IR X W (.Call (.Name x p1s) (e :: es) [] pos) (fun e => erOf (m (f e))) (fun e => okA e ∧ ok (f e)) :=
  let ⟨_, _, _, F, hm, kp, b⟩ := c.ex
  pe_imp (pe_callS F (hr.mono hk) hg hm kp b (fun σ => passAt tk σ) ha hdb he hpl) fun σ H Q ⟨F0, H0, F, e, y, s, hy, ⟨o1, o2⟩, q⟩ => ⟨F0, H0, F, e, s, o1, fun F1 H1 vs X1 r1 => by
    have ey := erOf_some hy
    exact ⟨F1, f e, X1.fh, r1, o2, (fun b F' H' r hb => by rw [ey] at hb; cases hb), fun z F' H' c hz X2 hc => by
      rw [ey] at hz; cases hz
      exact q F' H' c (X1.trans X2) hc⟩⟩
/-- the same call where it does not raise -/
theorem ie_callK [Inhabited β] (c : CalX X.prog X.w X.K X.mg X.base k x (spX X.mg m ok)) (hr : Room j X.A) (hk : k ≤ j) (hg : Gl X x) (ha : IA X (e :: es) f okA)
    (hdb : (x == ("__debug__" : Str)) = false := by decide) (he : starEach (e :: es) X.env = (false, eval e X.env) :: starEach es X.env := by rfl) (hpl : (backTo pos (starEach es X.env)).any (·.1) = false := by rfl) :
    IE X (.Call (.Name x p1s) (e :: es) [] pos) (fun e => okOf (m (f e))) (fun e => okA e ∧ ok (f e) ∧ isOk (m (f e))) :=
  let ⟨_, _, _, F, hm, kp, b⟩ := c.ex
  pe_imp (pe_call F (hr.mono hk) hg hm kp b .nil passL ha hdb he hpl) fun σ H Q ⟨F0, H0, F, e, s, ⟨o1, o2, o3⟩, q⟩ => ⟨F0, H0, F, e, s, o1, fun F1 H1 vs X1 r1 => by
    show spX X.mg m ok (vs ++ []) H1 Q L2.E0
    rw [List.append_nil]
    exact ⟨F1, f e, X1.fh, r1, o2, (fun b F' H' r hb X2 r2 => q F' H' r (X1.trans X2) (by show rep F' r (okOf (m (f e))); rw [hb]; exact r2)), fun z F' H' c hz => by rw [o3.eq] at hz; cases hz⟩⟩
end
section
variable {a b e tg : Expr} {es : List Expr} {rx : E → Option String} {ok oka : E → Prop}
theorem ir_isN (h : IR X W a rx ok) {j : Nat} : IR X W (.Compare a [.Is] [.Constant .none j p1s] pos) rx ok := pe_imp (pe_cmpR op_isN h pe_non (nomark _)) fun _ _ _ w => w
theorem ir_notN (h : IR X W a rx ok) {j : Nat} : IR X W (.Compare a [.IsNot] [.Constant .none j p1s] pos) rx ok := pe_imp (pe_cmpR op_notN h pe_non (nomark _)) fun _ _ _ w => w
theorem ar_hd (h : IR X W a rx ok) (t : ∃ t, PA X es t) (hs : starEach (a :: es) X.env = (false, eval a X.env) :: starEach es X.env := by rfl) : ARg X W (a :: es) rx ok :=
  let ⟨_, ht⟩ := t
  pa_imp (pa_cons h ht hs) fun _ _ _ w => w
theorem ar_one (h : IR X W a rx ok) (hs : starEach [a] X.env = (false, eval a X.env) :: starEach [] X.env := by rfl) : ARg X W [a] rx ok := pa_imp (pa_cons h pa_nil hs) fun _ _ _ w => w
theorem ar_tl {α : Type} [Enc α] {fa : E → α} (h : IE X a fa oka) (t : ARg X W es rx ok) (hs : starEach (a :: es) X.env = (false, eval a X.env) :: starEach es X.env := by rfl) : ARg X W (a :: es) rx (fun e => oka e ∧ ok e) :=
  pa_imp (pa_cons h t hs) fun _ _ _ w => w.then fun _ _ _ _ w' => w'
theorem ir_int (h : IR X W a rx ok) (hm : X.mg "int" = none) (hg : Gl X "int" := by rfl) (he : starEach [a] X.env = (false, eval a X.env) :: starEach [] X.env := by rfl) : IR X W (.Call (.Name "int" p1s) [a] [] pos) rx ok :=
  pe_imp (pe_callTy call_int1 hg hm (by decide +kernel) (ar_one h he) (he := he)) fun _ _ _ w => w
theorem ir_lst (h : ARg X W es rx ok) : IR X W (.List es pos) rx ok := pe_imp (pe_lst h) fun _ _ _ w => w
theorem ir_tup {j : Nat} (h : ARg X W es rx ok) : IR X W (.Tuple es j pos) rx ok := pe_imp (pe_tup h) fun _ _ _ w => w
theorem ir_ix {α : Type} [Enc α] {fa : E → α} (ha : IE X a fa oka) (h : IR X W b rx ok) (hs : PlainIx b := by exact fun _ _ => rfl) : IR X W (.Subscript a b pos) rx (fun e => oka e ∧ ok e) :=
  pe_imp (pe_ix ix_list ha h hs) fun _ _ _ w => w.then fun _ _ _ _ w' => w'
theorem ir_join {fa : E → S} (ha : IE X a fa oka) (h : IR X W b rx ok) (hs : starEach [b] X.env = [(false, eval b X.env)] := by rfl) (hbase : attributeBase a "join" X.env (eval a X.env) = eval a X.env := by rfl) (hline : (p1s.endLine == pos.line) = true := by rfl) :
    IR X W (.Call (.Attribute a "join" p1s) [b] [] pos) rx (fun e => oka e ∧ ok e) :=
  pe_imp (pe_join ha h hs hbase hline) fun σ H Q w => w.then fun v H1 e r w' => ⟨⟨_, r.1⟩, w'⟩
theorem irs_list (h : IR X W a rx ok) : IRs X W tg a rx ok := pi_imp (pi_list h) fun _ _ _ w => w
theorem ir_lc {elt iter : Expr} {scope : Scope} {own : List (Str × Nat)} {g : TG} {te : TE} (hc : X.calm = true) (hN : X.N.Nodup) (hi : IRs X W tg iter rx ok) (okb : blkC X.N X.env.scope scope own = true)
    (hg : ∀ (s : Shared) (H : Hp) (C : Addr) (cl : List (Str × Addr)) (fp : List Addr), PG (X.blk s H scope (compEnvC scope cl C X.env) fp) tg g)
    (he : ∀ (s : Shared) (H : Hp) (C : Addr) (cl : List (Str × Addr)) (fp : List Addr), PE (X.blk s H scope (compEnvC scope cl C X.env) fp) elt te) (hs : ∀ x, foldedSetIterable iter X.env x = pure x := by intro _; rfl) :
    IR X W (.ListComp elt [⟨tg, iter, [], 0⟩] scope pos) rx ok :=
  pe_imp (pe_lc hc hN hi (blkOk_by okb) hg (fun _ _ _ _ _ => pts_nil) he hs) fun _ _ _ w => w
/-! statements -/
theorem rs_ret (h : IR X W a rx ok) : SRx X W (.Return (some a) pos) rx ok := ps_imp (ps_ret h) fun _ _ _ w => w
theorem rs_expr (h : IR X W a rx ok) (hs : swapsWith a none pos.line X.env = pure false := by rfl) : SRx X W (.Expr a pos) rx ok := ps_imp (ps_expr h hs) fun _ _ _ w => w
theorem rs_set {i : Nat} {x : Str} (hN : X.N.Nodup) (h : IR X W a rx ok) (hi : X.N[i]? = some x := by rfl) (hx : Loc X.env.scope x := by first | exact Or.inl rfl | exact Or.inr rfl) (hs : swapsWith a (some (.Name x p1s)) pos.line X.env = pure false := by rfl)
    (hf : X.fn x = true ∨ X.env.scope.names.lookup x = some .local := by first | exact .inl rfl | exact .inr rfl) : SRx X W (.Assign [.Name x p1s] a pos) rx ok := ps_imp (ps_set hN hi hx h hs hf) fun _ _ _ w => w
theorem rs_for {g : TG} {body : List Stmt} {tb : TS} (hp : PassesOwn (model X.prog X.w) X.A X.env X.xe) (hc : X.calm = true) (hi : IRs X W tg a rx ok) (hg : PG X tg g) (hb : PSs X body tb) (hs : ∀ x, foldedSetIterable a X.env x = pure x := by intro _; rfl) :
    SRx X W (.For tg a body [] pos) rx ok := ps_imp (ps_for hp hc hi hg hb hs) fun _ _ _ w => w
theorem rs_aug {i : Nat} {x : Str} {op : Operator} {ti : TIp} {α : Type} [Enc α] (v : Var E α) (hN : X.N.Nodup) (h : IR X W a rx ok) (ho : PIp X op ti) (hi : X.N[v.i]? = some x := by rfl) (hx : Loc X.env.scope x := by first | exact Or.inl rfl | exact Or.inr rfl)
    (hf : X.fn x = true ∨ X.env.scope.names.lookup x = some .local := by first | exact .inl rfl | exact .inr rfl) : SRx X W (.AugAssign (.Name x p1s) op a pos) rx ok :=
  ps_imp (ps_aug hN hi hx h ho hf) fun D σ H ⟨F0, H0, F, e, x, s, hx, o, w⟩ => by
    obtain ⟨os, nd, fr, r⟩ := s.st
    obtain ⟨u, h1, h2⟩ := v.ok r
    exact ⟨u, h1, F0, H0, F, e, x, s, hx, o, w⟩
theorem rss_one {st : Stmt} (h : SRx X W st rx ok) : SRs X W [st] rx ok := pss_one h
end
end

/-! ## statements of a def that may raise -/
def retX {β : Type} [Enc β] (mg : Str → Option Value) (E' : XK) : RetK (Ex β) := ⟨fun _ F' _ v b => ∃ y, b = .ok y ∧ rep F' v y, fun F0 H0 b => ∀ x F' H' c, Ext F0 H0 F' H' → b = .error x → mg (x : Str) = some c → E' c none H'⟩
/-- how a class of exceptions stands -/
structure ExcF (K : PySem.W.Frag) (mg : Str → Option Value) (x : String) (C : Addr) : Prop where
  g : mg (x : Str) = some (.ref C)
  k : PySem.W.keepIn K (.ref C) = true
  q : PySem.W.excIn K C [.type "ValueError", .type "Exception", .type "BaseException", .type "object"] "ValueError.__new__" = true
  b : PySem.W.subIn K (.ref C) (.type "BaseException") = some true
  t : PySem.W.typeIn K (.ref C) = some (.type "type")
  d : PySem.W.hasDictIn K C = true
  c : ExcC K C
  s : PySem.W.subIn K (.ref C) (.ref C) = some true
  v : PySem.W.subIn K (.ref C) (.type "ValueError") = some true
section
variable {X : Cx} {E E' EB EC : Type} [ES E] [ES E'] [ES EB] [ES EC] {pos p0s p1s p2s : Pos} {E₀ : XK} {β : Type} [Enc β]
theorem s_retK {a : Expr} {f : E → β} {ok : E → Prop} (h : IE X a f ok) : SS (E' := E') (EB := EB) (EC := EC) X (retX X.mg E₀) (.Return (some a) pos) (fun _ e => .ok (f e)) (fun _ e => ok e) :=
  ps_imp (ps_ret h) fun D σ H ⟨F0, H0, F, e, K, KO, b, s, o, hb, _, _, _, q, _⟩ => ⟨F0, H0, F, e, s, o, fun F1 H1 v X1 r => q F1 H1 v (s.ext.trans X1) ⟨_, hb.symm, r⟩⟩
theorem s_retKN (β : Type) [Enc β] (d : β) (hd : ∀ F, rep F V.non d) : SS (E := E) (E' := E') (EB := EB) (EC := EC) X (retX X.mg E₀) (.Return none pos) (fun _ _ => .ok d) (fun _ _ => True) :=
  ps_imp ps_retN fun D σ H ⟨F0, H0, F, e, K, KO, b, s, o, hb, _, _, _, q, _⟩ => q F H .non s.ext ⟨_, hb.symm, hd F⟩
/-- raise X('..') -/
theorem s_raise {x : String} {C : Addr} {m : Str} {j : Nat} {p3s : Pos} (T : ExcF X.K X.mg x C) (tk : Takes X (fun cls d _ H => E₀ cls d H)) (hc : X.calm = true := by rfl) (hg : Gl X (x : Str) := by rfl) (hdb : ((x : Str) == ("__debug__" : Str)) = false := by decide) :
    SS (E := E) (E' := E') (EB := EB) (EC := EC) X (retX (β := β) X.mg E₀) (.Raise (some (.Call (.Name (x : Str) p1s) [.Constant (.str m) j p2s] [] p3s)) none pos) (fun _ _ => .error x) (fun _ _ => True) :=
  ps_imp (ps_raise hc tk (pmk_own PySem.F.excBase_ValueError T.q T.g T.k (raises_own T.b T.t) hg hdb)) fun D σ H ⟨F0, H0, F, e, K, KO, b, s, o, hb, _, _, _, _, w⟩ => w x F H _ s.ext hb.symm T.g
/-- a statement that may raise at its first call: both ways -/
theorem s_or {st : Stmt} {g : K3 E' EB EC (Ex β) → E → Ex β} {ok : P3 E' EB EC → E → Prop} {rx : E → Option String} {okr : E → Prop} (hn : SS X (retX X.mg E₀) st g ok) (hr : SRx X (fun cls d _ H => E₀ cls d H) st rx okr) :
    SS X (retX X.mg E₀) st (fun K e => match rx e with | some x => .error x | none => g K e) (fun K e => (∀ x, rx e = some x → okr e) ∧ (rx e = none → ok K e)) := by
  refine ⟨fun pins s σ H D I ⟨F0, H0, F, e, K, KO, b, sr, ⟨o1, o2⟩, hb, q1, q2, q3, q4⟩ => ?_⟩
  cases hx : rx e with
  | none => exact hn.run pins s σ H D I ⟨F0, H0, F, e, K, KO, b, sr, o2 hx, by rw [← hb]; simp only [hx], q1, q2, q3, q4⟩
  | some x =>
    refine hr.run pins s σ H D I ⟨F0, H0, F, e, x, sr, hx, o1 x hx, fun F' H' c X1 hc => q4.2 x F' H' c (sr.ext.trans X1) ?_ hc⟩
    rw [← hb]; simp only [hx]
end
section
variable {P : Program} {w : World} {K : PySem.W.Frag} {mg : Str → Option Value} {base : Heap} {A β E : Type} [EA A] [ES E] [Enc β] {x : Str} {st : Stmt} {f : Addr} {fd : FuncData} {N ps : List Str} {k : Nat}
abbrev cxX (P : Program) (w : World) (K : PySem.W.Frag) (mg : Str → Option Value) (base : Heap) (N : List Str) (x : Str) (st : Stmt) (f : Addr) (cdv : Value) (A' : Around) (outer : List Env) (s : Shared) (H : Hp) (E' : XK) : Cx := cxOf (L2.CX P w) P w K mg base N x (defScope st) f cdv A' outer s H E'
theorem takesX {cdv : Value} {A' : Around} {outer : List Env} {s : Shared} {H : Hp} {E' : XK} : Takes (cxX P w K mg base N x st f cdv A' outer s H E') (fun cls d _ H => E' cls d H) := takes_of rfl rfl rfl rfl
theorem passX {cdv : Value} {A' : Around} {outer : List Env} {s : Shared} {H : Hp} {E' : XK} : PassesOwn (model P w) (cxX P w K mg base N x st f cdv A' outer s H E').A (cxX P w K mg base N x st f cdv A' outer s H E').env (cxX P w K mg base N x st f cdv A' outer s H E').xe := PassesOwn.leaving
theorem cal_ofX [Inhabited β] {g : K3 Unit Unit Unit (Ex β) → E → Ex β} {ok : P3 Unit Unit Unit → E → Prop} (F : Fun K x x st f fd) (hm : mg x = some (.ref f)) (bd : Binds K fd ps []) (S : FnScope N ps (defScope st)) (ini : Ini A E N.length ps.length)
    (hb : ∀ (cdv : Value) (A' : Around) (outer : List Env) (s : Shared) (H : Hp) (E' : XK), Room k (A'.deeper (envOfC x (defScope st) s.heap.objs.size f cdv)) → SSs (cxX P w K mg base N x st f cdv A' outer s H E') (retX mg E') (defBody st) g ok) :
    CalX P w K mg base (k + 1) x (spX mg (fun a => g ⟨fun _ => .ok default, fun _ => .ok default, fun _ => .ok default⟩ (ini.w a)) (fun a => ok ⟨fun _ => False, fun _ => False, fun _ => False⟩ (ini.w a))) := by
  refine ⟨f, fd, ps, F.okX S (fun vs H Q E h => ?_) (fun cdv A' outer s H vs Q E hr h => ?_), hm, F.kp, bd⟩
  · obtain ⟨F, a, _, r, _⟩ := h
    exact ini.len r
  · obtain ⟨F, a, hs, r, o, q, qx⟩ := h
    refine ⟨_, hb cdv A' outer s H E hr, F, H, F, ini.w a, ⟨fun _ => .ok default, fun _ => .ok default, fun _ => .ok default⟩, _, _, ⟨Ext.refl hs, [], .nil, (fun _ z => nomatch z), ?_⟩, o, rfl, (fun _ _ _ _ _ _ z => z.elim), (fun _ _ _ _ _ _ z => z.elim), (fun _ _ _ _ _ _ z => z.elim),
      (fun F' H' v X r => ?_), fun y F' H' c X hy hc => qx y F' H' c hy X hc⟩
    · have z := ini.ok (F := F) (H := H) r
      unfold L2.start
      rw [ini.len r]
      exact z
    · obtain ⟨y, hy, ry⟩ := r
      exact q y F' H' v hy X ry
/-- one that hands back nothing -/
theorem cal_ofXN {E1 : Type} [ES E1] {g : K3 E1 Unit Unit (Ex Unit) → E → Ex Unit} {ok : P3 E1 Unit Unit → E → Prop} (F : Fun K x x st f fd) (hm : mg x = some (.ref f)) (bd : Binds K fd ps []) (S : FnScope N ps (defScope st)) (ini : Ini A E N.length ps.length)
    (hb : ∀ (cdv : Value) (A' : Around) (outer : List Env) (s : Shared) (H : Hp) (E' : XK), Room k (A'.deeper (envOfC x (defScope st) s.heap.objs.size f cdv)) → SSs (cxX P w K mg base N x st f cdv A' outer s H E') (retX mg E') (defBody st) g ok) :
    CalX P w K mg base (k + 1) x (spX mg (fun a => g ⟨fun _ => .ok (), fun _ => .ok (), fun _ => .ok ()⟩ (ini.w a)) (fun a => ok ⟨fun _ => True, fun _ => False, fun _ => False⟩ (ini.w a))) := by
  refine ⟨f, fd, ps, F.okX S (fun vs H Q E h => ?_) (fun cdv A' outer s H vs Q E hr h => ?_), hm, F.kp, bd⟩
  · obtain ⟨F, a, _, r, _⟩ := h
    exact ini.len r
  · obtain ⟨F, a, hs, r, o, q, qx⟩ := h
    refine ⟨_, hb cdv A' outer s H E hr, F, H, F, ini.w a, ⟨fun _ => .ok (), fun _ => .ok (), fun _ => .ok ()⟩, _, _, ⟨Ext.refl hs, [], .nil, (fun _ z => nomatch z), ?_⟩, o, rfl, (fun F' H' σ e s' sm _ he => q () F' H' .non he.symm s'.ext rfl), (fun _ _ _ _ _ _ z => z.elim), (fun _ _ _ _ _ _ z => z.elim),
      (fun F' H' v X r => ?_), fun y F' H' c X hy hc => qx y F' H' c hy X hc⟩
    · have z := ini.ok (F := F) (H := H) r
      unfold L2.start
      rw [ini.len r]
      exact z
    · obtain ⟨y, hy, ry⟩ := r
      exact q y F' H' v hy X ry
end

/-! ## try -/
/-- the exception that a clause holds -/
structure Xv where
  a : Addr
instance : Enc Xv := ⟨fun _ v t => v = .ref t.a, fun _ h => h⟩
instance : Inhabited Xv := ⟨⟨0⟩⟩
class NoS (E : Type) [ES E] (i : Nat) : Prop where
  ok : ∀ {F H : Hp} {os : List Addr} {σ : L2.St} {e : E}, ES.rep F H os σ e → ES.rep F H os (σ.set i none) e
instance {i : Nat} : NoS Unit i := ⟨fun {F H os σ e} h => by obtain ⟨rfl, rfl⟩ := h; exact ⟨rfl, rfl⟩⟩
instance {E : Type} [ES E] : NoS (No × E) 0 := ⟨fun {F H os σ e} h => by
  obtain ⟨x, σ', o1, o2, rfl, e2, a, b⟩ := h
  exact ⟨none, σ', o1, o2, rfl, e2, a, b⟩⟩
instance {T E : Type} [SK T] [ES E] {i : Nat} [NoS E i] : NoS (T × E) (i + 1) := ⟨fun {F H os σ e} h => by
  obtain ⟨x, σ', o1, o2, rfl, e2, a, b⟩ := h
  exact ⟨x, _, o1, o2, rfl, e2, a, NoS.ok b⟩⟩
theorem SR.gone {E : Type} [ES E] {i : Nat} [NoS E i] {F0 H0 F H : Hp} {σ : L2.St} {e : E} (s : SR F0 H0 F H σ e) : SR F0 H0 F H (σ.set i none) e := by
  obtain ⟨os, nd, fr, r⟩ := s.st
  exact ⟨s.ext, os, nd, fr, NoS.ok r⟩
section
variable {X : Cx} {E E1 E' EB EC : Type} [ES E] [ES E1] [ES E'] [ES EB] [ES EC] {pos p0s p1s p2s : Pos} {β : Type} {RR : RetK β}
/-- clauses: which exception is caught by which, and what is done then -/
structure TryH (X : Cx) (RR : RetK β) (hds : List ExceptHandler) (gh : String → K3 E' EB EC β → E → β) (oh : String → P3 E' EB EC → E → Prop) : Prop where
  ex : ∃ l, HdL X hds l ∧ ∀ D σ H (x : String) c, X.mg (x : Str) = some c → sS RR (gh x) (oh x) D σ H → wHd X.K D l c none σ H
theorem th_nil [Inhabited β] : TryH (E := E) (E' := E') (EB := EB) (EC := EC) X RR [] (fun _ _ _ => default) (fun _ _ _ => False) :=
  ⟨[], .nil, fun D σ H (x : String) c hc ⟨F0, H0, F, e, K, KO, b, s, o, _⟩ => o.elim⟩
/-- whether the classes of the table are caught by the class c -/
def Tbl (X : Cx) (c : Value) (tbl : List (String × Bool)) : Prop := ∀ x r v, tbl.lookup x = some r → X.mg (x : Str) = some v → PySem.W.exmOne X.K v c = some r
theorem tb_nil {c : Value} : Tbl X c [] := fun _ _ _ h => nomatch h
theorem tb_cons {y z : String} {C D : Addr} {r : Bool} {tbl : List (String × Bool)} (T : ExcF X.K X.mg y C) (U : ExcF X.K X.mg z D) (h : PySem.W.subIn X.K (.ref C) (.ref D) = some r) (t : Tbl X (.ref D) tbl) : Tbl X (.ref D) ((y, r) :: tbl) := by
  intro x q v hl hv
  rw [List.lookup_cons] at hl
  cases hb : x == y with
  | true =>
    rw [hb] at hl
    cases hl
    have e := eq_of_beq hb
    subst e
    have := T.g.symm.trans hv
    cases this
    exact PySem.W.exm_ref U.b U.d U.t h
  | false => rw [hb] at hl; exact t x q v hl hv
variable {hds : List ExceptHandler} {gh : String → K3 E' EB EC β → E → β} {oh : String → P3 E' EB EC → E → Prop} {tbl : List (String × Bool)} {y : String} {C D : Addr} {t0 : Stmt} {tl : List Stmt}
theorem th_plain [Inhabited β] {gs : K3 E' EB EC β → E → β} {os : P3 E' EB EC → E → Prop} (T : ExcF X.K X.mg y D) (tb : Tbl X (.ref D) tbl)
    (hu : ∀ (a : Addr) (oe : Obj) (cls : Value) (d : Option Addr) (pn : List (Addr × Obj)), Zc cls d oe → (∃ vs, oe.data = .fields vs) → SSs (X.suite a ((a, oe) :: pn)) RR (t0 :: tl) gs os)
    (r : TryH X RR hds gh oh) (hg : Gl X (y : Str) := by rfl) (hdb : ((y : Str) == ("__debug__" : Str)) = false := by decide) :
    TryH X RR (.ExceptHandler (some (.Name (y : Str) p1s)) none (t0 :: tl) p2s :: hds) (fun x K e => match tbl.lookup x with | some true => gs K e | some false => gh x K e | none => default) (fun x K e => match tbl.lookup x with | some true => os K e | some false => oh x K e | none => False) := by
  obtain ⟨l, hl, h⟩ := r.ex
  refine ⟨_, .plain ⟨hg, hdb, .inl T.g⟩ hu hl, fun D σ H (x : String) c hc ⟨F0, H0, F, e, K, KO, b, s, o, hb, q⟩ => ?_⟩
  cases hx : tbl.lookup x with
  | none => simp only [hx] at o
  | some v =>
    refine ⟨v, tb x v c hx hc, fun hv a ha => ?_, fun hv => ?_⟩
    · subst hv
      simp only [hx] at o hb
      exact ⟨F0, H0, F, e, K, KO, b, s, o, hb, q⟩
    · subst hv
      simp only [hx] at o hb
      exact h D σ H x c hc ⟨F0, H0, F, e, K, KO, b, s, o, hb, q⟩
theorem th_named [Inhabited β] {z : String} {Z : Addr} {n : Str} {gs : K3 E' EB EC β → E1 → β} {os : Addr → P3 E' EB EC → E1 → Prop} (q : Put E Xv E1) [NoS E' q.i] [NoS EB q.i] [NoS EC q.i] (U : ExcF X.K X.mg z Z) (T : ExcF X.K X.mg y D) (tb : Tbl X (.ref D) tbl) (hN : X.N.Nodup)
    (hu : ∀ (a : Addr) (oe : Obj) (pn : List (Addr × Obj)), Zc (.ref Z) none oe → (∃ vs, oe.data = .fields vs) → SSs (X.suite a ((a, oe) :: pn)) RR (t0 :: tl) gs (os a)) (r : TryH X RR hds gh oh)
    (hone : tbl.all (fun p => !p.2 || p.1 == z) = true := by rfl) (hi : X.N[q.i]? = some n := by rfl) (hln : X.env.kindOf n = some .local := by rfl) (hg : Gl X (y : Str) := by rfl) (hdb : ((y : Str) == ("__debug__" : Str)) = false := by decide)
    (hind : ∀ a K e, gs K (q.put e ⟨a⟩) = gs K (q.put e ⟨0⟩) := by intros; rfl) :
    TryH X RR (.ExceptHandler (some (.Name (y : Str) p1s)) (some n) (t0 :: tl) p2s :: hds) (fun x K e => match tbl.lookup x with | some true => gs K (q.put e ⟨0⟩) | some false => gh x K e | none => default) (fun x K e => match tbl.lookup x with | some true => ∀ a, os a K (q.put e ⟨a⟩) | some false => oh x K e | none => False) := by
  obtain ⟨l, hl, h⟩ := r.ex
  refine ⟨_, .named (i := q.i) (ts := fun a cls d D σ H => cls = .ref Z ∧ d = none ∧ sS RR gs (os a) D σ H) ⟨hg, hdb, .inl T.g⟩ hN hi hln (fun a oe cls d pn hz hf => ⟨fun pins s σ H D I ⟨h1, h2, w⟩ => by subst h1 h2; exact (hu a oe pn hz hf).run pins s σ H D I w⟩) hl,
    fun D σ H (x : String) c hc ⟨F0, H0, F, e, K, KO, b, s, o, hb, q1, q2, q3, q4⟩ => ?_⟩
  cases hx : tbl.lookup x with
  | none => simp only [hx] at o
  | some v =>
    refine ⟨v, tb x v c hx hc, fun hv a ha => ?_, fun hv => ?_⟩
    · subst hv
      simp only [hx] at o hb
      have hm : ∀ (l : List (String × Bool)), l.lookup x = some true → (x, true) ∈ l := by
        intro l
        induction l with
        | nil => intro h; cases h
        | cons p l ih =>
          obtain ⟨u, v⟩ := p
          rw [List.lookup_cons]
          cases hb : x == u with
          | true => intro h; cases h; rw [eq_of_beq hb]; exact List.mem_cons_self
          | false => intro h; exact List.mem_cons_of_mem _ (ih h)
      have hz := List.all_eq_true.mp hone _ (hm tbl hx)
      have e1 : x = z := by simpa using hz
      subst e1
      have e2 := U.g.symm.trans hc
      cases e2
      have s2 : SR F0 H0 F H (σ.set q.i (some (.ref a))) (q.put e ⟨a⟩) := s.put q (show rep F (.ref a) (⟨a⟩ : Xv) from rfl)
      exact ⟨rfl, rfl, F0, H0, F, _, K, KO, b, s2, o a, by rw [hind]; exact hb, fun F' H' σ' e' s' => q1 F' H' _ e' s'.gone, fun F' H' σ' e' s' => q2 F' H' _ e' s'.gone, fun F' H' σ' e' s' => q3 F' H' _ e' s'.gone, q4⟩
    · subst hv
      simp only [hx] at o hb
      exact h D σ H x c hc ⟨F0, H0, F, e, K, KO, b, s, o, hb, q1, q2, q3, q4⟩
theorem s_try {body : List Stmt} {hd0 : ExceptHandler} {g : K3 E' EB EC β → E → β} {ok : P3 E' EB EC → E → Prop} {rx : E → Option String} {okr : E → Prop}
    (hn : ∀ (pn : List (Addr × Obj)) (xe : Value → Shared → Prop), PassesOwn (model X.prog X.w) X.A X.env xe → SSs (X.tr pn xe) RR body g ok)
    (hr : ∀ (W : WX) (pn : List (Addr × Obj)) (xe : Value → Shared → Prop), Takes (X.tr pn xe) W → SRs (X.tr pn xe) W body rx okr) (hh : TryH X RR (hd0 :: hds) gh oh) (hs : X.stack = X.env :: X.outer := by rfl) (hf : X.env.frame = some X.env.locals := by rfl) :
    SS X RR (.Try body (hd0 :: hds) [] [] pos) (fun K e => match rx e with | none => g K e | some x => gh x K e) (fun K e => (rx e = none → ok K e) ∧ ∀ x, rx e = some x → okr e ∧ oh x K e) := by
  obtain ⟨l, hl, h⟩ := hh.ex
  refine ps_imp (ps_try_l hs hf (tb := fun W D σ H => sS RR g ok D σ H ∨ R0 W X.mg rx okr σ H) (fun W pn xe tk hp => ⟨fun pins s σ H D I w => w.elim (fun w => (hn pn xe hp).run pins s σ H D I w) fun w => (hr W pn xe tk).run pins s σ H D I w⟩) hl) ?_
  rintro D σ H ⟨F0, H0, F, e, K, KO, b, s, ⟨o1, o2⟩, hb, q1, q2, q3, q4⟩
  cases hx : rx e with
  | none =>
    simp only [hx] at hb
    exact .inl ⟨F0, H0, F, e, K, KO, b, s, o1 hx, hb, q1, q2, q3, q4⟩
  | some x =>
    simp only [hx] at hb
    refine .inr ⟨F0, H0, F, e, x, s, hx, (o2 x hx).1, fun F1 H1 c X1 hc => h D σ H1 x c hc ⟨F0, H0, F1, e, K, KO, b, s.more X1, (o2 x hx).2, hb, ?_, ?_, ?_, q4⟩⟩
    · exact fun F' H' σ' e' s' m => q1 F' H' σ' e' s' (X1.ff.trans m)
    · exact fun F' H' σ' e' s' m => q2 F' H' σ' e' s' (X1.ff.trans m)
    · exact fun F' H' σ' e' s' m => q3 F' H' σ' e' s' (X1.ff.trans m)
/-! isinstance of the exception that is held -/
theorem kit_ref {K : PySem.W.Frag} {mg : Str → Option Value} {x : String} {Z C : Addr} {b : Bool} (T : ExcF K mg x C) (h : PySem.W.subIn K (.ref Z) (.ref C) = some b) : PySem.W.kitOne K (.ref Z) (.ref C) = some b := by
  obtain ⟨cd, hc, _⟩ := PySem.W.any_some T.d
  unfold PySem.W.kitOne
  by_cases e : (Value.ref Z == Value.ref C) = true
  · rw [if_pos e]
    have e1 := eq_of_beq e
    cases e1
    have e2 := T.s.symm.trans h
    cases e2
    rfl
  · rw [if_neg e]
    show (if ((PySem.W.clsIn K C).isSome && PySem.W.typeIn K (.ref C) == some (.type "type")) = true then PySem.W.subIn K (.ref Z) (.ref C) else none) = some b
    rw [hc, T.t, if_pos (by simp), h]
theorem kit_ve {K : PySem.W.Frag} {mg : Str → Option Value} {x : String} {Z : Addr} (T : ExcF K mg x Z) : PySem.W.kitOne K (.ref Z) (.type "ValueError") = some true := by
  unfold PySem.W.kitOne
  rw [if_neg (by simp)]
  show (if PySem.W.kitMeta "ValueError" = true then PySem.W.subIn K (.ref Z) (.type "ValueError") else none) = some true
  rw [if_pos (by decide +kernel), T.v]
theorem ie_isE {a Z Cc : Addr} {oe : Obj} {pn : List (Addr × Obj)} {z y : String} {n : Str} {b : Bool} (v : Var E Xv) (U : ExcF X.K X.mg z Z) (T : ExcF X.K X.mg y Cc) (hk : PySem.W.subIn X.K (.ref Z) (.ref Cc) = some b) (hz : Zc (.ref Z) none oe) (hf : ∃ vs, oe.data = .fields vs)
    (hm : X.mg "isinstance" = none) (hN : X.N[v.i]? = some n := by rfl) (hv : Vis X.env.scope n := by first | exact Or.inl rfl | exact Or.inr (Or.inl rfl) | exact Or.inr (Or.inr rfl)) (hd : (n == ("__debug__" : Str)) = false := by decide) (hcd : (n == ("__classdict__" : Str)) = false := by decide)
    (hgT : Gl X (y : Str) := by rfl) (hg : Gl X "isinstance" := by rfl) (hdb : ((y : Str) == ("__debug__" : Str)) = false := by decide)
    (he : starEach [.Name n p0s, .Name (y : Str) p2s] X.env = (false, eval (.Name n p0s) X.env) :: starEach [.Name (y : Str) p2s] X.env := by rfl) (he2 : starEach [.Name (y : Str) p2s] X.env = (false, eval (.Name (y : Str) p2s) X.env) :: starEach [] X.env := by rfl) (hpl : (backTo pos (starEach [.Name (y : Str) p2s] X.env)).any (·.1) = false := by rfl) :
    IE (X.suite a ((a, oe) :: pn)) (.Call (.Name "isinstance" p1s) [.Name n p0s, .Name (y : Str) p2s] [] pos) (fun _ : E => b) (fun e => (v.get e).a = a) :=
  pe_imp (pe_callB (X := X.suite a ((a, oe) :: pn)) (call_isE U.c hz hf) hg hm (by decide +kernel) (pa_cons (pe_var hN hv hd hcd) (pa_cons (pe_glob (v := .ref Cc) hgT T.g rfl hdb) pa_nil he2) he) (he := he) (hpl := hpl)) fun σ H Q ⟨F0, H0, F, e, s, o, q⟩ => by
    obtain ⟨os, nd, fr, r⟩ := s.st
    obtain ⟨u, h1, h2⟩ := v.ok r
    have h2' : u = .ref (v.get e).a := h2
    exact ⟨u, h1, .ref Cc, .ref Cc, b, by rw [h2', o], fun w hw => hw, kit_ref T hk, q F H _ (Ext.refl s.ext.fh) rfl⟩
theorem ie_isVE {a Z : Addr} {oe : Obj} {pn : List (Addr × Obj)} {z : String} {n : Str} (v : Var E Xv) (U : ExcF X.K X.mg z Z) (hz : Zc (.ref Z) none oe) (hf : ∃ vs, oe.data = .fields vs)
    (hm : X.mg "isinstance" = none) (hT : X.mg "ValueError" = none) (hN : X.N[v.i]? = some n := by rfl) (hv : Vis X.env.scope n := by first | exact Or.inl rfl | exact Or.inr (Or.inl rfl) | exact Or.inr (Or.inr rfl)) (hd : (n == ("__debug__" : Str)) = false := by decide) (hcd : (n == ("__classdict__" : Str)) = false := by decide)
    (hgT : Gl X "ValueError" := by rfl) (hg : Gl X "isinstance" := by rfl)
    (he : starEach [.Name n p0s, .Name "ValueError" p2s] X.env = (false, eval (.Name n p0s) X.env) :: starEach [.Name "ValueError" p2s] X.env := by rfl) (he2 : starEach [.Name "ValueError" p2s] X.env = (false, eval (.Name "ValueError" p2s) X.env) :: starEach [] X.env := by rfl) (hpl : (backTo pos (starEach [.Name "ValueError" p2s] X.env)).any (·.1) = false := by rfl) :
    IE (X.suite a ((a, oe) :: pn)) (.Call (.Name "isinstance" p1s) [.Name n p0s, .Name "ValueError" p2s] [] pos) (fun _ : E => true) (fun e => (v.get e).a = a) :=
  pe_imp (pe_callB (X := X.suite a ((a, oe) :: pn)) (call_isE U.c hz hf) hg hm (by decide +kernel) (pa_cons (pe_var hN hv hd hcd) (pa_cons (pe_bltn (v := .ty "ValueError") hgT hT (by decide +kernel) rfl (by decide) (by decide)) pa_nil he2) he) (he := he) (hpl := hpl)) fun σ H Q ⟨F0, H0, F, e, s, o, q⟩ => by
    obtain ⟨os, nd, fr, r⟩ := s.st
    obtain ⟨u, h1, h2⟩ := v.ok r
    have h2' : u = .ref (v.get e).a := h2
    exact ⟨u, h1, .ty "ValueError", .type "ValueError", true, by rw [h2', o], fun w hw => hw, kit_ve U, q F H _ (Ext.refl s.ext.fh) rfl⟩
end
end PL
set_option Elab.async false
set_option linter.all false
set_option maxRecDepth 100000
/-! PLS: what the module's classes say, without the script among its objects. -/
namespace PL
open PySem PySem.Spec PyProof.Rows L2
section
variable {K K' : PySem.W.Frag}
theorem less_clsO (h : Less K K') {A : Addr} {oc : Value} {od : Option Addr} {cd : ClassData} {sl : Array (Option Value)} (l : K.lookup A = some ⟨oc, od, .cls cd, sl⟩) : K'.lookup A = some ⟨oc, od, .cls cd, sl⟩ := h _ _ l fun _ _ z => nomatch z
theorem less_clsIn (h : Less K K') {C : Addr} {cd : ClassData} (e : PySem.W.clsIn K C = some cd) : PySem.W.clsIn K' C = some cd := by
  unfold PySem.W.clsIn at e ⊢
  split at e
  · rename_i hl
    cases e
    simp only [less_clsO h hl]
  · cases e
theorem less_own (h : Less K K') {x : Str} {v : Value} {r : Option Value} (e : PySem.W.ownIn K x v = some r) : PySem.W.ownIn K' x v = some r := by
  cases v with
  | ref a =>
    have e' : (match K.lookup a with | some ⟨_, _, .cls cd, _⟩ => PySem.W.nsIn K cd.ns x | _ => none) = some r := e
    show (match K'.lookup a with | some ⟨_, _, .cls cd, _⟩ => PySem.W.nsIn K' cd.ns x | _ => none) = some r
    split at e'
    · rename_i hl
      simp only [less_clsO h hl]
      exact less_n h e'
    · cases e'
  | _ => exact e
theorem less_along (h : Less K K') {x : Str} : ∀ {l : List Value} {r : Option Value}, PySem.W.alongIn K x l = some r → PySem.W.alongIn K' x l = some r
  | [], _, e => e
  | c :: l, r, e => by
    unfold PySem.W.alongIn at e ⊢
    cases ho : PySem.W.ownIn K x c with
    | none => simp only [ho] at e; cases e
    | some v =>
      rw [less_own h ho]
      cases v with
      | none => simp only [ho] at e; exact less_along h e
      | some v => simp only [ho] at e; exact e
theorem less_find (h : Less K K') {t : Value} {x : Str} {r : Option Value} (e : PySem.W.findIn K t x = some r) : PySem.W.findIn K' t x = some r := by
  cases t with
  | ref a =>
    have e' : (match K.lookup a with | some ⟨_, _, .cls cd, _⟩ => PySem.W.alongIn K x cd.mro | _ => none) = some r := e
    show (match K'.lookup a with | some ⟨_, _, .cls cd, _⟩ => PySem.W.alongIn K' x cd.mro | _ => none) = some r
    split at e'
    · rename_i hl
      simp only [less_clsO h hl]
      exact less_along h e'
    · cases e'
  | _ => exact e
theorem less_mro (h : Less K K') {C : Addr} {v : Value} {r : Bool} (e : PySem.W.mroIn K C v = some r) : PySem.W.mroIn K' C v = some r := by
  unfold PySem.W.mroIn at e ⊢
  cases hc : PySem.W.clsIn K C with
  | none => rw [hc] at e; cases e
  | some cd => rw [hc] at e; rw [less_clsIn h hc]; exact e
theorem less_sub (h : Less K K') {t v : Value} {r : Bool} (e : PySem.W.subIn K t v = some r) : PySem.W.subIn K' t v = some r := by
  cases t with
  | ref C => exact less_mro h e
  | _ => exact e
theorem less_hasDict (h : Less K K') {C : Addr} (e : PySem.W.hasDictIn K C = true) : PySem.W.hasDictIn K' C = true := by
  obtain ⟨cd, hc, hd⟩ := PySem.W.any_some e
  unfold PySem.W.hasDictIn
  rw [less_clsIn h hc]
  exact hd
theorem less_type (h : Less K K') {C : Addr} {t : Value} (hd : PySem.W.hasDictIn K C = true) (e : PySem.W.typeIn K (.ref C) = some t) : PySem.W.typeIn K' (.ref C) = some t := by
  obtain ⟨cd, hc, _⟩ := PySem.W.any_some hd
  unfold PySem.W.clsIn at hc
  have e' : (K.lookup C).map (·.cls) = some t := e
  show (K'.lookup C).map (·.cls) = some t
  split at hc
  · rename_i hl
    rw [hl] at e'
    rw [less_clsO h hl]
    exact e'
  · cases hc
theorem less_special (h : Less K K') {i : String} {x : Str} {r : Option Value} (e : PySem.W.specialIn K (.builtin i) x = some r) : PySem.W.specialIn K' (.builtin i) x = some r := by
  obtain ⟨t, h1, h2⟩ := Option.bind_eq_some_iff.mp e
  exact Option.bind_eq_some_iff.mpr ⟨t, h1, less_find h h2⟩
theorem less_takes (h : Less K K') {i : String} (e : PySem.W.takesIn K (.builtin i) = some true) : PySem.W.takesIn K' (.builtin i) = some true := by
  unfold PySem.W.takesIn at e ⊢
  split at e
  · rename_i q; rw [less_special h q]
  · rename_i q
    rw [less_special h q]
    obtain ⟨y, hy, e2⟩ := Option.map_eq_some_iff.mp e
    show (PySem.W.specialIn K' (.builtin i) "__delete__").map (·.isSome) = some true
    rw [less_special h hy]
    exact congrArg some e2
  · cases e
theorem less_keepC (h : Less K K') {C : Addr} {cd : ClassData} (hc : PySem.W.clsIn K C = some cd) (e : PySem.W.keepIn K (.ref C) = true) : PySem.W.keepIn K' (.ref C) = true := by
  unfold PySem.W.clsIn at hc
  split at hc
  · rename_i hl
    unfold PySem.W.keepIn at e ⊢
    simp only [hl] at e
    simp only [less_clsO h hl]
    have e2 := eq_of_beq e
    obtain ⟨t, h1, h2⟩ := Option.bind_eq_some_iff.mp e2
    have h1' : (K.lookup C).map (·.cls) = some t := h1
    have g : PySem.W.specialIn K' (.ref C) "__call__" = some (some (.builtin "type.__call__")) := Option.bind_eq_some_iff.mpr ⟨t, by
      show (K'.lookup C).map (·.cls) = some t
      rw [hl] at h1'
      rw [less_clsO h hl]
      exact h1', less_find h h2⟩
    rw [g]
    exact beq_self_eq_true _
  · cases hc
theorem less_nsOk (h : Less K K') {N : Addr} (e : PySem.W.nsOkIn K N = true) : PySem.W.nsOkIn K' N = true := by
  unfold PySem.W.nsOkIn at e ⊢
  split at e
  · rename_i hl
    have l2 := h _ _ hl fun _ _ z => nomatch z
    simp only [l2]
    exact e
  · cases e
theorem less_tail (h : Less K K') {bm : List Value} : ∀ {l : List Value}, PySem.W.tailIn K bm l = true → PySem.W.tailIn K' bm l = true
  | [], e => e
  | v :: r, e => by
    unfold PySem.W.tailIn at e ⊢
    rw [Bool.or_eq_true] at e ⊢
    rcases e with e | e
    · exact .inl e
    · refine .inr ?_
      cases v with
      | ref A =>
        dsimp only at e ⊢
        split at e
        · rename_i hl
          simp only [less_clsO h hl]
          rw [Bool.and_eq_true, Bool.and_eq_true] at e ⊢
          obtain ⟨⟨e1, e2⟩, e3⟩ := e
          refine ⟨⟨less_nsOk h e1, ?_⟩, less_tail h e3⟩
          rw [less_n h (eq_of_beq e2)]
          exact beq_self_eq_true _
        · cases e
      | _ => exact e
theorem less_exc (h : Less K K') {C : Addr} {bm : List Value} {n : String} (e : PySem.W.excIn K C bm n = true) : PySem.W.excIn K' C bm n = true := by
  unfold PySem.W.excIn at e ⊢
  split at e
  · rename_i hl
    simp only [less_clsO h hl]
    split at e
    · rename_i hm hs
      first | simp only [hm, hs] | skip
      simp only [Bool.and_eq_true] at e ⊢
      obtain ⟨⟨⟨⟨e1, e2⟩, e3⟩, e4⟩, e5⟩ := e
      refine ⟨⟨⟨⟨e1, e2⟩, less_tail h e3⟩, less_nsOk h e4⟩, ?_⟩
      rw [less_n h (eq_of_beq e5)]
      exact beq_self_eq_true _
    · cases e
  · cases e
/-- a class of exceptions, as the module has it -/
theorem exc_mk {h : Heap} {mg : Str → Option Value} {x : String} {C : Addr} (L : Less K K') (X : K.In h) (G : h.Ns mainGlobals mg) (a : PySem.W.nsIn K mainGlobals (x : Str) = some (some (.ref C))) (k : PySem.W.keepIn K (.ref C) = true)
    (q : PySem.W.excIn K C [.type "ValueError", .type "Exception", .type "BaseException", .type "object"] "ValueError.__new__" = true) (b : PySem.W.subIn K (.ref C) (.type "BaseException") = some true) (t : PySem.W.typeIn K (.ref C) = some (.type "type"))
    (d : PySem.W.hasDictIn K C = true) (s : PySem.W.subIn K (.ref C) (.ref C) = some true) (v : PySem.W.subIn K (.ref C) (.type "ValueError") = some true)
    (hg : PySem.W.findIn K (.ref C) "__getattribute__" = some (some (.builtin "BaseException.__getattribute__"))) (hk : PySem.W.findIn K (.ref C) "__getattr__" = some none)
    (ha : PySem.W.findIn K (.ref C) "__class__" = some (some (.builtin "object.__class__"))) (hn : PySem.W.specialIn K (.builtin "object.__class__") "__get__" = some (some (.builtin "getset_descriptor.__get__"))) (ht : PySem.W.takesIn K (.builtin "object.__class__") = some true)
    (hm : PySem.W.mroIn K C (.type "object") = some true) : ExcF K' mg x C :=
  let ⟨cd, hc, _⟩ := PySem.W.any_some d
  ⟨PySem.W.mg_of X G a, less_keepC L hc k, less_exc L q, less_sub L b, less_type L d t, less_hasDict L d, ⟨less_find L hg, less_find L hk, less_sub L b, less_hasDict L d, less_find L ha, less_special L hn, less_takes L ht, less_mro L hm⟩, less_sub L s, less_sub L v⟩
end
end PL
set_option Elab.async false
set_option linter.all false
set_option maxRecDepth 100000
/-! PLT: places of signs in texts. -/
namespace PL
open PySem PySem.Spec PyProof.Rows L2
open Builtin.Str StrLaws in
theorem occ_first (x : Str) (c : Nat) (i : Nat) (hi : x.cps.toList[i]? = some c) (hn : ∀ j, j < i → x.cps.toList[j]? ≠ some c) :
    ∀ (m a free : Nat), free ≤ a → a ≤ i → i < a + m → ∃ r, (forIn (List.range' a m) ((#[] : Array Nat), free) (occBody x ⟨#[c]⟩ x.length 1)).run.fst.toList = i :: r
  | 0, a, free, h1, h2, h3 => by omega
  | m + 1, a, free, h1, h2, h3 => by
    have full : ∀ (l : List Nat) (f : Nat), (forIn l ((#[i] : Array Nat), f) (occBody x ⟨#[c]⟩ x.length 1)).run.fst.toList = [i] := by
      intro l
      induction l with
      | nil => intro f; rfl
      | cons b l ih =>
        intro f
        rw [List.forIn_cons]
        unfold occBody
        rw [if_neg (by simp)]
        exact ih f
    rw [List.range'_succ, List.forIn_cons]
    unfold occBody
    by_cases e : a = i
    · subst e
      have := (subAt_one x c a).mpr hi
      rw [if_pos ⟨⟨⟨by simp, h1⟩, this.1⟩, this.2⟩]
      exact ⟨[], full _ _⟩
    · rw [if_neg (fun z => hn a (by omega) ((subAt_one x c a).mp ⟨z.1.2, z.2⟩))]
      exact occ_first x c i hi hn m (a + 1) free (by omega) (by omega) (by omega)
theorem idxOf_le : ∀ (l : List Nat) (j : Nat) (h : j < l.length), l.idxOf l[j] ≤ j
  | [], j, h => by simp at h
  | a :: l, 0, h => by simp
  | a :: l, j + 1, h => by
    rw [List.idxOf_cons]
    by_cases e : a = (a :: l)[j + 1]
    · simp [← e]
    · have := idxOf_le l j (by simpa using h)
      simp only [List.getElem_cons_succ] at e ⊢
      rw [cond_eq_ite]
      rw [if_neg (by simpa using e)]
      omega
theorem occ_ix (s : S) (c : Nat) (h : c ∈ s) : ∃ r, Builtin.Str.occurrences (toS s) (toS [c]) 0 (toS s).length 1 = s.idxOf c :: r := by
  have hl : s.idxOf c < s.length := List.idxOf_lt_length_of_mem h
  have e : (toS s).cps.toList = s := by simp [toS]
  have ez : (toS s).length = s.length := SX.S_len _
  rw [StrLaws.occ_eq]
  refine occ_first (toS s) c (s.idxOf c) ?_ ?_ _ 0 0 (Nat.le_refl _) (Nat.zero_le _) (by rw [ez]; omega)
  · rw [e, List.getElem?_eq_getElem hl, List.getElem_idxOf]
  · intro j hj
    rw [e]
    intro z
    have hj2 : j < s.length := by omega
    rw [List.getElem?_eq_getElem hj2] at z
    have hz : s[j] = c := Option.some.inj z
    have hle : s.idxOf c ≤ j := by
      rw [← hz]
      exact idxOf_le s j hj2
    omega
section
variable {X : Cx} {E : Type} [ES E] {pos p0s p1s p2s : Pos} {a b : Expr} {oka okb : E → Prop}
theorem ie_indexS {fa fb : E → S} (ha : IE X a fa oka) (hb : IE X b fb okb) (hs : starEach [b] X.env = [(false, eval b X.env)] := by rfl) (hbase : attributeBase a "index" X.env (eval a X.env) = eval a X.env := by rfl) (hline : (p1s.endLine == pos.line) = true := by rfl) :
    IE X (.Call (.Attribute a "index" p1s) [b] [] pos) (fun e => (((fa e).idxOf ((fb e).headD 0) : Nat) : Int)) (fun e => oka e ∧ okb e ∧ (fb e).length = 1 ∧ (fb e).headD 0 ∈ fa e) :=
  pe_imp (pe_m1 (X := X) (id := "str.index") PySem.F.slot_str_index PySem.F.type_str_index mt_sindex ha hb hs hbase hline) fun σ H Q ⟨F0, H0, F, e, s, ⟨o1, o2, o3, o4⟩, q⟩ =>
    ⟨F0, H0, F, e, s, o1, fun F1 H1 x X1 r1 => ⟨⟨_, r1.1⟩, F0, H0, F1, e, s.more X1, o2, fun F2 H2 y X2 r2 => by
      obtain ⟨c, hc⟩ : ∃ c, fb e = [c] := List.length_eq_one_iff.mp o3
      rw [hc] at r2 o4
      obtain ⟨r, hr⟩ := occ_ix (fa e) c o4
      refine ⟨_, _, _, r, r1.1, by rw [r2.1], hr, q F2 H2 _ (X1.trans X2) ?_⟩
      show V.int _ = V.int (((fa e).idxOf ((fb e).headD 0) : Nat) : Int)
      rw [hc]
      rfl⟩⟩
end
end PL
set_option Elab.async false
set_option linter.all false
set_option maxRecDepth 100000
/-! PLU: more of texts; sorted keys. -/
namespace PL
open PySem PySem.Spec PyProof.Rows L2
variable {X : Cx} {E : Type} [ES E] {pos p0s p1s p2s : Pos} {a b c : Expr} {oka okb okc : E → Prop}
/-- x.startswith(y, i) -/
def starts3 (x y : S) (i : Int) : Bool := decide (i.toNat + y.length ≤ x.length) && y.isPrefixOf (x.drop i.toNat)
theorem starts3_S (x y : S) (i : Int) (h : 0 ≤ i) : Txt.startswith3 (toS x) (toS y) i = starts3 x y i := by
  have ef : ∀ n : Nat, (max 0 (if i < 0 then i + (n : Int) else i)).toNat = i.toNat := fun n => by rw [if_neg (by omega)]; omega
  show (decide ((max 0 (if i < 0 then i + ((toS x).length : Int) else i)).toNat + (toS y).length ≤ (toS x).length) && Builtin.Str.subAt (toS x) (toS y) (max 0 (if i < 0 then i + ((toS x).length : Int) else i)).toNat) = _
  unfold starts3
  rw [ef, at_list, show (toS x).length = x.length from SX.S_len x, show (toS y).length = y.length from SX.S_len y]
  congr 1
  rw [Bool.eq_iff_iff, List.isPrefixOf_iff_prefix, List.prefix_iff_eq_take, decide_eq_true_eq]
  exact ⟨fun h => h.symm, fun h => h.symm⟩
theorem ie_starts3 {fa fb : E → S} {fi : E → Int} (ha : IE X a fa oka) (hb : IE X b fb okb) (hc : IE X c fi okc) (hbase : attributeBase a "startswith" X.env (eval a X.env) = eval a X.env := by rfl)
    (hfew : ((backTo pos (starEach [b, c] X.env)).all (fun x => !x.1) && (backToKw pos (keywordEach [] X.env)).all (fun x => x.1.isSome) && decide ([b, c].length + ([] : List Keyword).length + (if ([] : List Keyword).isEmpty then 0 else 1) < 30)) = true := by rfl)
    (hline : (p1s.endLine == pos.line) = true := by rfl) (hs : starEach [b, c] X.env = (false, eval b X.env) :: starEach [c] X.env := by rfl) (hs2 : starEach [c] X.env = (false, eval c X.env) :: starEach [] X.env := by rfl) (hpl : (backTo pos (starEach [c] X.env)).any (·.1) = false := by rfl) :
    IE X (.Call (.Attribute a "startswith" p1s) [b, c] [] pos) (fun e => starts3 (fa e) (fb e) (fi e)) (fun e => oka e ∧ okb e ∧ okc e ∧ 0 ≤ fi e) :=
  pe_imp (pe_bm PySem.F.plainAttrs_str PySem.F.slot_str_startswith PySem.F.type_str_startswith mt_startswith3 ha (pa_cons hb (pa_cons hc pa_nil hs2) hs) hbase hfew hline hs hpl) fun σ H Q ⟨F0, H0, F, e, s, ⟨o1, o2, o3, o4⟩, q⟩ =>
    ⟨F0, H0, F, e, s, o1, fun F1 H1 x X1 r1 => ⟨by rw [r1.1]; exact rfl, F0, H0, F1, e, s.more X1, o2, fun F2 H2 y X2 r2 => ⟨F0, H0, F2, e, (s.more X1).more X2, o3, fun F3 H3 z X3 r3 => by
      refine ⟨_, _, _, r1.1, by rw [r2.1, r3], ?_⟩
      rw [starts3_S _ _ _ o4]
      exact q F3 H3 _ (X1.trans (X2.trans X3)) rfl⟩⟩⟩
/-- sorted keys of a dict -/
theorem dp_keys {β : Type} [Enc β] {F : Hp} : ∀ {a : List (Key × V)} {l : List (S × β)}, DPairs (κ := S) F a l → a.map (·.1) = (l.map fun p => toS p.1).map Sum.inr ∧ ∀ p ∈ l, SOk p.1
  | _, _, .nil => ⟨rfl, fun _ z => nomatch z⟩
  | _, _, .cons (a := p) (b := q) r t => by
    obtain ⟨h1, h2⟩ := dp_keys t
    obtain ⟨u, hu⟩ := r.2.2
    refine ⟨?_, fun z hz => ?_⟩
    · rw [List.map_cons, List.map_cons, List.map_cons, h1, r.1]; rfl
    · rcases List.mem_cons.mp hz with rfl | hz
      · exact hu.2
      · exact h2 z hz
theorem io_sortDk {β : Type} [Enc β] {f : E → Dk S β} (hc : X.calm = true) (ha : IE X a f oka) (hm : X.mg "sorted" = none) (hg : Gl X "sorted" := by rfl) (he : starEach [a] X.env = (false, eval a X.env) :: starEach [] X.env := by rfl) :
    IO X (.Call (.Name "sorted" p1s) [a] [] pos) (fun e => srtS ((f e).l.map (·.1))) (fun e => oka e ∧ (f e).l.length < 64) :=
  pe_imp (pe_callB (call_sortedD hc) hg hm (by decide +kernel) (ia_one ha he) (he := he)) fun σ H Q ⟨F0, H0, F, e, s, ⟨o, z64⟩, q⟩ => ⟨F0, H0, F, e, s, o, fun F1 H1 vs X1 r => by
    obtain ⟨v, ws, rfl, ⟨p, us, rfl, hp, rr⟩, rfl⟩ := r
    obtain ⟨k1, k2⟩ := dp_keys rr
    refine ⟨p, us, (f e).l.map fun p => toS p.1, rfl, .inl (X1.fh _ _ hp), k1, by rw [List.length_map]; exact z64, fun ys l hl hs hn => ?_⟩
    have hl : ys.Perm (((f e).l.map (·.1)).map toS) := by rw [List.map_map]; exact hl
    obtain ⟨zs, rfl, hz⟩ := un_map hl
    have e1 := srtS_uniq hz (sorted_pw zs hs)
    subst e1
    have hp2 := srtS_perm ((f e).l.map (·.1))
    have hlen : (srtS ((f e).l.map (·.1))).length = (f e).l.length := by rw [hp2.length_eq, List.length_map]
    refine q F1 _ l _ (X1.newO hn) (X1.hh.free hn) (X1.fh.free hn) upd_same (by rw [List.length_map, List.length_map, hlen, sizeLine_eq]; omega) (reps_texts fun x hx => ?_)
    obtain ⟨y, hy, rfl⟩ := List.mem_map.mp (hp2.mem_iff.mp hx)
    exact k2 y hy⟩
/-! None among data -/
class PyNN (α : Type) [Enc α] [DecidableEq α] [DEq α] : Prop where
  nn : ∀ a : α, PyData.eqv .none (DEq.py a) = false ∧ PyData.eqv (DEq.py a) .none = false
instance : PyNN Int := ⟨fun a => by simp [DEq.py, PyData.eqv]⟩
instance : PyNN Bool := ⟨fun a => by simp [DEq.py, PyData.eqv]⟩
instance : PyNN S := ⟨fun a => by simp [DEq.py, PyData.eqv]⟩
section
variable {α β γ : Type} [Enc α] [Enc β] [Enc γ] [DecidableEq α] [DecidableEq β] [DecidableEq γ] [DEq α] [DEq β] [DEq γ]
instance : PyNN (List α) := ⟨fun a => by simp [DEq.py, PyData.eqv]⟩
instance : PyNN (Tup α) := ⟨fun a => by simp [DEq.py, PyData.eqv]⟩
instance : PyNN (α × β) := ⟨fun a => by simp [DEq.py, PyData.eqv]⟩
instance : PyNN (T3 α β γ) := ⟨fun a => by simp [DEq.py, PyData.eqv]⟩
instance [PyNN α] : DEq (Option α) := ⟨fun o => match o with | none => .none | some a => DEq.py a, DEq.dep α, fun {K F H v a} h r => by
    cases a with
    | none => cases (show v = .non from r); exact .non
    | some a => exact DEq.dp (α := α) h r, fun {F v a} r => by
    cases a with
    | none => simp [PyData.canLay0]
    | some a => exact DEq.lay (α := α) r, fun a => by
    cases a with
    | none => simp [PyData.depth]
    | some a => exact DEq.hdep a, fun a b => by
    cases a with
    | none =>
      cases b with
      | none => simp [PyData.eqv]
      | some b => exact (PyNN.nn b).1.trans (by simp)
    | some a =>
      cases b with
      | none => exact (PyNN.nn a).2.trans (by simp)
      | some b => exact (DEq.eqv a b).trans (by simp)⟩
end
end PL
set_option Elab.async false
set_option linter.all false
set_option maxRecDepth 100000
/-! PLV: plain facts, shared by several laws. -/
namespace PL
open PySem
theorem dec_rec {α : Sort _} (b : Bool) (x y : α) : (Decidable.rec (motive := fun _ => α) (fun _ => x) (fun _ => y) (instDecidableEqBool b true)) = if b = true then y else x := by cases b <;> rfl
theorem dec_ff {p : Prop} [Decidable p] (h : ¬ p) {α : Sort _} (x y : α) : (if decide p = true then x else y) = y := by rw [decide_eq_false h, if_neg Bool.false_ne_true]
theorem dec_tt {p : Prop} [Decidable p] (h : p) {α : Sort _} (x y : α) : (if decide p = true then x else y) = x := by rw [decide_eq_true h, if_pos rfl]
theorem fdiv_nat (a b : Nat) : (a : Int).fdiv (b : Int) = ((a / b : Nat) : Int) := by
  rw [Int.fdiv_eq_ediv_of_nonneg _ (by omega)]; rfl
theorem fmod_nat (a b : Nat) : (a : Int).fmod (b : Int) = ((a % b : Nat) : Int) := by
  rw [Int.fmod_eq_emod_of_nonneg _ (by omega)]; rfl
theorem ixOk_mod {α : Type} (f : List α) (hf : 0 < f.length) (k : Nat) : ixOk f ((k % f.length : Nat) : Int) := ixOk_nat (Nat.mod_lt _ hf)
theorem chars_at {s : S} {i : Nat} {a : S} (h : (chars s)[i]? = some a) : ∃ c, s[i]? = some c ∧ a = [c] := by
  unfold chars at h
  rw [List.getElem?_map] at h
  cases hc : s[i]? with
  | none => rw [hc] at h; cases h
  | some c => rw [hc] at h; exact ⟨c, rfl, (Option.some.inj h).symm⟩
theorem take_snoc {α : Type} {s : List α} {i : Nat} {c : α} (h : s[i]? = some c) : s.take (i + 1) = s.take i ++ [c] := by rw [List.take_succ, h]; rfl
theorem drop_at {α : Type} {s : List α} {i : Nat} {c : α} (h : s[i]? = some c) : s.drop i = c :: s.drop (i + 1) := by
  obtain ⟨hl, e⟩ := List.getElem?_eq_some_iff.mp h
  rw [List.drop_eq_getElem_cons hl, e]
theorem at_lt {α : Type} {s : List α} {i : Nat} {c : α} (h : s[i]? = some c) : i < s.length := (List.getElem?_eq_some_iff.mp h).1
section
variable {α : Type} [Inhabited α]
theorem pick2 {a b : α} {k : Int} (h0 : 0 ≤ k) (h : k < 2) : ixD [a, b] k = a ∨ ixD [a, b] k = b := by
  have : k = 0 ∨ k = 1 := by omega
  rcases this with rfl | rfl
  · exact .inl rfl
  · exact .inr rfl
theorem pick3 {a b c : α} {k : Int} (h0 : 0 ≤ k) (h : k < 3) : ixD [a, b, c] k = a ∨ ixD [a, b, c] k = b ∨ ixD [a, b, c] k = c := by
  have : k = 0 ∨ k = 1 ∨ k = 2 := by omega
  rcases this with rfl | rfl | rfl
  · exact .inl rfl
  · exact .inr (.inl rfl)
  · exact .inr (.inr rfl)
theorem pick4 {a b c d : α} {k : Int} (h0 : 0 ≤ k) (h : k < 4) : ixD [a, b, c, d] k = a ∨ ixD [a, b, c, d] k = b ∨ ixD [a, b, c, d] k = c ∨ ixD [a, b, c, d] k = d := by
  have : k = 0 ∨ k = 1 ∨ k = 2 ∨ k = 3 := by omega
  rcases this with rfl | rfl | rfl | rfl
  · exact .inl rfl
  · exact .inr (.inl rfl)
  · exact .inr (.inr (.inl rfl))
  · exact .inr (.inr (.inr rfl))
theorem pick_mem {l : List α} {k : Int} (h0 : 0 ≤ k) (h : k < l.length) : ixD l k ∈ l := ixD_mem h0 h
end
theorem joinL_flat : ∀ l : List S, TL.joinL ([] : S) l = l.flatten
  | [] => rfl
  | [a] => by simp [TL.joinL]
  | a :: b :: l => by
    have ih := joinL_flat (b :: l)
    rw [TL.joinL, List.nil_append, ih]
    rfl
theorem joinL_ones {α : Type} (f : α → Nat) (l : List α) : TL.joinL ([] : S) (l.map fun a => ([f a] : S)) = l.map f := by
  rw [joinL_flat]
  induction l with
  | nil => rfl
  | cons a l ih => rw [List.map_cons, List.flatten_cons, ih]; rfl
theorem ones_ok {α : Type} (f : α → Nat) (l : List α) (h : l.length ≤ 1000000) : joinOk [] (l.map fun a => ([f a] : S)) := by
  unfold joinOk
  rw [ones_sum, List.length_map]
  simp
  omega
theorem sum_le {α : Type} (f : α → Nat) (c : Nat) : ∀ l : List α, (∀ a ∈ l, f a ≤ c) → (l.map f).sum ≤ l.length * c
  | [], _ => by simp
  | a :: l, h => by
    have h1 := h a List.mem_cons_self
    have h2 := sum_le f c l fun b hb => h b (List.mem_cons_of_mem _ hb)
    rw [List.map_cons, List.sum_cons, List.length_cons, Nat.succ_mul]
    omega
theorem join_ok {l : List S} (c n : Nat) (h : ∀ a ∈ l, a.length ≤ c) (hn : l.length ≤ n) (hc : n * c ≤ 16777216) : joinOk [] l := by
  unfold joinOk
  have h1 := sum_le (fun a : S => a.length) c l h
  have h2 : l.length * c ≤ n * c := Nat.mul_le_mul_right _ hn
  simp
  omega
theorem D.sames_refl (n : Nat) : ∀ d : D, sizeOf d < n → D.same d d = true := by
  induction n with
  | zero => intro d h; omega
  | succ n ih =>
    have lst : ∀ xs : List D, (∀ x ∈ xs, D.same x x = true) → D.sames xs xs = true := by
      intro xs
      induction xs with
      | nil => intro _; rfl
      | cons x xs ihx =>
        intro h
        simp only [D.sames]
        rw [h x List.mem_cons_self, ihx fun y hy => h y (List.mem_cons_of_mem _ hy)]
        rfl
    intro d h
    cases d with
    | lst xs =>
      simp only [D.same]
      exact lst xs fun x hx => ih x (by have := List.sizeOf_lt_of_mem hx; simp at h; omega)
    | tup xs =>
      simp only [D.same]
      exact lst xs fun x hx => ih x (by have := List.sizeOf_lt_of_mem hx; simp at h; omega)
    | non => rfl
    | bl b => simp [D.same]
    | int b => simp [D.same]
    | str b => simp [D.same]
theorem D.same_refl (d : D) : D.same d d = true := D.sames_refl _ d (Nat.lt_succ_self _)
/-- a slice from the first on -/
theorem sl_mid {α : Type} {xs : List α} {a b : Int} (h0 : 0 ≤ a) (h1 : a ≤ b) (h2 : a ≤ xs.length) : sl xs (some a) (some b) = (xs.drop a.toNat).take (b.toNat - a.toNat) := by
  unfold sl HT.sIx
  simp only
  rw [if_neg (by omega), if_neg (by omega)]
  rw [Nat.min_eq_left (by omega : a.toNat ≤ xs.length)]
  by_cases h : b.toNat ≤ xs.length
  · rw [Nat.min_eq_left h]
  · rw [Nat.min_eq_right (by omega)]
    rw [List.take_of_length_le (by rw [List.length_drop]; omega), List.take_of_length_le (by rw [List.length_drop]; omega)]
theorem turn_perm {α : Type} (l : List α) (k : Int) (h0 : 0 ≤ k) : (sl l (some k) none ++ sl l (some 0) (some k)).Perm l := by
  rw [sl_from h0, sl_to h0]
  refine List.perm_append_comm.trans ?_
  rw [List.take_append_drop]
end PL
set_option Elab.async false
set_option linter.all false
set_option maxRecDepth 100000
set_option maxHeartbeats 4000000
namespace K00
open PySem PySem.Spec PyProof.Rows L2 PL
def topS (i : Nat) : Stmt := PySem.Challenge.pw_lettersacross_k00_whole_tables_of_forty.main.body.getD i (.Pass ⟨0, 0, 0, 0⟩)
abbrev s_is_text : Stmt := topS 9
theorem sc_is_text : FnScope ["text", "sign"] ["text"] (defScope s_is_text) := ⟨rfl, rfl, rfl, by decide +kernel, rfl, by decide +kernel, by decide +kernel⟩
noncomputable def d_is_text : { s : DefS (S × Unit) Bool // ∀ {P : Program} {w : World} {K : PySem.W.Frag} {mg : Str → Option Value} {base : Heap} {f : Addr} {fd : FuncData} (m_all : mg "all" = none) (m_isinstance : mg "isinstance" = none) (m_str : mg "str" = none), Fun K "is_text" "is_text" s_is_text f fd → mg "is_text" = some (.ref f) → Binds K fd ["text"] [] → Cal P w K mg base (1) "is_text" (spP s.m s.ok) } :=
  ⟨⟨_, _⟩, fun {P w K mg base f fd} m_all m_isinstance m_str F hm bd => cal_of (k := 0) (E := S × No × Unit) F hm bd sc_is_text (iniA (iniN ini0)) fun cdv A' outer s H E' hr =>
      (ss_last (s_ret (ie_and (ie_isi "str" D.isS isi_S (ie_D (ie_var v0)) m_str m_isinstance (by decide +kernel)) (ie_one (ie_all rfl (ie_fz (LC.io (lc_m (own := [("sign", 1)]) (wp := (wpS (nS n0) wp0)) rfl sc_is_text.nd (is_str (ie_var v0)) (by kernel_rfl) (pat1 (pS p0)) (by decide) (fun _ _ _ _ _ => (pg_name (i := 1) sc_is_text.nd rfl (by first | exact Or.inl rfl | exact Or.inr rfl))) (fun _ _ _ _ _ => (ie_chainS (ie_str ([32] : S)) (ie_var (vS v0)) (ie_str ([126] : S))))))) m_all)))))⟩
abbrev s_is_item : Stmt := topS 10
theorem sc_is_item : FnScope ["item"] ["item"] (defScope s_is_item) := ⟨rfl, rfl, rfl, by decide +kernel, rfl, by decide +kernel, by decide +kernel⟩
noncomputable def d_is_item : { s : DefS ((S × S) × Unit) Bool // ∀ {P : Program} {w : World} {K : PySem.W.Frag} {mg : Str → Option Value} {base : Heap} {f : Addr} {fd : FuncData} {t_MOST_LEFT : Tok} {t_MOST_RIGHT : Tok} (m_MOST_LEFT : mg "MOST_LEFT" = some (.int (6) t_MOST_LEFT)) (m_MOST_RIGHT : mg "MOST_RIGHT" = some (.int (8) t_MOST_RIGHT)) (m_isinstance : mg "isinstance" = none) (m_len : mg "len" = none) (m_tuple : mg "tuple" = none) (c_is_text : Cal P w K mg base 1 "is_text" (spP (d_is_text.1).m (d_is_text.1).ok)), Fun K "is_item" "is_item" s_is_item f fd → mg "is_item" = some (.ref f) → Binds K fd ["item"] [] → Cal P w K mg base (2) "is_item" (spP s.m s.ok) } :=
  ⟨⟨_, _⟩, fun {P w K mg base f fd t_MOST_LEFT t_MOST_RIGHT} m_MOST_LEFT m_MOST_RIGHT m_isinstance m_len m_tuple c_is_text F hm bd => cal_of (k := 1) (E := (S × S) × Unit) F hm bd sc_is_item (iniA ini0) fun cdv A' outer s H E' hr =>
      (ss_cons (s_if (E' := (S × S) × Unit) (it_w (iw_or (it_not (it_val (ie_isi "tuple" D.isT isi_T (ie_D (ie_var v0)) m_tuple m_isinstance (by decide +kernel)))) (iw_or (it_ne (ie_len2 (ie_var v0) m_len) (ie_int (i := 2))) (iw_or (it_not (it_val (ie_call c_is_text hr (by decide) (by rfl) (ia_cons (ie_fst (ie_var v0)) ia_nil)))) (iw_or1 (it_not (it_val (ie_call c_is_text hr (by decide) (by rfl) (ia_cons (ie_snd (ie_var v0)) ia_nil)))))))))
        (ss_last (s_ret (ie_bl (i := false))))
        (ss_end ghI))
      (ss_last (s_ret (ie_and (ie_chain op_le op_le r2_intb r2_intb (ie_int (i := 1)) (ie_lenS (ie_fst (ie_var v0)) m_len) (ie_gI (6) m_MOST_LEFT) (nomarks _ _)) (ie_one (ie_le (ie_lenS (ie_snd (ie_var v0)) m_len) (ie_gI (8) m_MOST_RIGHT)))))))⟩
abbrev s_check_table : Stmt := topS 11
theorem sc_check_table : FnScope ["table", "known", "item"] ["table"] (defScope s_check_table) := ⟨rfl, rfl, rfl, by decide +kernel, rfl, by decide +kernel, by decide +kernel⟩
noncomputable def d_check_table : { s : DefS ((List (S × S)) × Unit) (Ex Unit) // ∀ {P : Program} {w : World} {K : PySem.W.Frag} {mg : Str → Option Value} {base : Heap} {f : Addr} {fd : FuncData} {t_MOST_ITEMS : Tok} (m_MOST_ITEMS : mg "MOST_ITEMS" = some (.int (40) t_MOST_ITEMS)) (m_len : mg "len" = none) {C_InvalidItem : Addr} (x_InvalidItem : ExcF K mg "InvalidItem" C_InvalidItem) {C_WrongCount : Addr} (x_WrongCount : ExcF K mg "WrongCount" C_WrongCount) (c_is_item : Cal P w K mg base 2 "is_item" (spP (d_is_item.1).m (d_is_item.1).ok)), Fun K "check_table" "check_table" s_check_table f fd → mg "check_table" = some (.ref f) → Binds K fd ["table"] [] → CalX P w K mg base (3) "check_table" (spX mg s.m s.ok) } :=
  ⟨⟨_, _⟩, fun {P w K mg base f fd t_MOST_ITEMS} m_MOST_ITEMS m_len C_InvalidItem x_InvalidItem C_WrongCount x_WrongCount c_is_item F hm bd => cal_ofXN (k := 2) (E := (List (S × S)) × No × No × Unit) F hm bd sc_check_table (iniA (iniN (iniN ini0))) fun cdv A' outer s H E' hr =>
      (ss_cons (s_newD (κ := S) (β := Bool) (pS p0) sc_check_table.nd)
      (ss_cons (s_for (E := (List (S × S)) × (Od S Bool) × No × Unit) passX rfl (is_list (ie_var v0)) (pat1 (pS (pS p0))) (pg_name (i := 2) sc_check_table.nd rfl (by first | exact Or.inl rfl | exact Or.inr rfl))
        (ss_cons (s_if (E' := (List (S × S)) × (Od S Bool) × (S × S) × Unit) (it_peek (fS fD) (it_w (iw_or (it_not (it_val (ie_call c_is_item hr (by decide) (by rfl) (ia_cons (ie_var (vS (vS v0))) ia_nil)))) (iw_or1 (it_inK hr (ie_fst (ie_var (vS (vS v0)))) (ie_var (vS v0)))))))
        (ss_last (s_raise x_InvalidItem takesX))
        (ss_end ghI))
      (ss_cons (s_putD (dS d0) hr (ie_bl (i := true)) (ie_fst (ie_var (vS (vS v0)))))
      (ss_end (ghT (trK (trK (trF trN))))))))
      (ss_cons (s_if (E' := (List (S × S)) × (Od S Bool) × No × Unit) (it_not (it_chain op_le op_le r2_intb r2_intb (ie_int (i := 1)) (ie_lenL (ie_var v0) m_len) (ie_gI (40) m_MOST_ITEMS) (nomarks _ _)))
        (ss_last (s_raise x_WrongCount takesX))
        (ss_end ghI))
      (ss_end ghI))))⟩
abbrev s_signs_of : Stmt := topS 12
theorem sc_signs_of : FnScope ["table", "left", "_", "sign"] ["table"] (defScope s_signs_of) := ⟨rfl, rfl, rfl, by decide +kernel, rfl, by decide +kernel, by decide +kernel⟩
noncomputable def d_signs_of : { s : DefS ((List (S × S)) × Unit) (List S) // ∀ {P : Program} {w : World} {K : PySem.W.Frag} {mg : Str → Option Value} {base : Heap} {f : Addr} {fd : FuncData} (m_sorted : mg "sorted" = none), Fun K "signs_of" "signs_of" s_signs_of f fd → mg "signs_of" = some (.ref f) → Binds K fd ["table"] [] → Cal P w K mg base (1) "signs_of" (spP s.m s.ok) } :=
  ⟨⟨_, _⟩, fun {P w K mg base f fd} m_sorted F hm bd => cal_of (k := 0) (E := (List (S × S)) × No × No × No × Unit) F hm bd sc_signs_of (iniA (iniN (iniN (iniN ini0)))) fun cdv A' outer s H E' hr =>
      (ss_last (s_ret (ie_fz (io_sortDk rfl (ie_dc2 (own := [("left", 1), ("_", 2), ("sign", 3)]) (vs1 := [3]) (wp := (wpS (nS n0) (wpS (nS (nS n0)) (wpS (nS (nS (nS n0))) wp0)))) (wp1 := (wpS (nS (nS (nS n0))) wp0)) rfl sc_signs_of.nd (is_list (ie_var v0)) (by kernel_rfl) (by decide) (pat2 (K := K) (pat1 (pS p0)) (pat1 (pS (pS p0)))) (by decide) (fun _ _ _ _ _ => (pg_tup rfl (pgs_cons (pg_name (i := 1) sc_signs_of.nd rfl (by first | exact Or.inl rfl | exact Or.inr rfl)) (pgs_cons (pg_name (i := 2) sc_signs_of.nd rfl (by first | exact Or.inl rfl | exact Or.inr rfl)) pgs_nil)))) (fun _ _ _ _ _ => (is_str (ie_var (vS v0)))) (pat1 (pS (pS (pS p0)))) (by decide) (fun _ _ _ _ _ => (pg_name (i := 3) sc_signs_of.nd rfl (by first | exact Or.inl rfl | exact Or.inr rfl))) (fun _ _ _ _ _ => (ie_var (vS (vS (vS v0))))) (fun _ _ _ _ _ => (ie_bl (i := true)))) m_sorted))))⟩
abbrev s_is_full : Stmt := topS 13
theorem sc_is_full : FnScope ["table", "lefts", "left", "_", "sign"] ["table"] (defScope s_is_full) := ⟨rfl, rfl, rfl, by decide +kernel, rfl, by decide +kernel, by decide +kernel⟩
noncomputable def d_is_full : { s : DefS ((List (S × S)) × Unit) Bool // ∀ {P : Program} {w : World} {K : PySem.W.Frag} {mg : Str → Option Value} {base : Heap} {f : Addr} {fd : FuncData} (m_all : mg "all" = none) (c_signs_of : Cal P w K mg base 1 "signs_of" (spP (d_signs_of.1).m (d_signs_of.1).ok)), Fun K "is_full" "is_full" s_is_full f fd → mg "is_full" = some (.ref f) → Binds K fd ["table"] [] → Cal P w K mg base (2) "is_full" (spP s.m s.ok) } :=
  ⟨⟨_, _⟩, fun {P w K mg base f fd} m_all c_signs_of F hm bd => cal_of (k := 1) (E := (List (S × S)) × No × No × No × No × Unit) F hm bd sc_is_full (iniA (iniN (iniN (iniN (iniN ini0))))) fun cdv A' outer s H E' hr =>
      (ss_cons (s_set (pS p0) sc_is_full.nd (ie_fz (LC.io (lc_m (own := [("left", 2), ("_", 3)]) (wp := (wpS (nS (nS n0)) (wpS (nS (nS (nS n0))) wp0))) rfl sc_is_full.nd (is_list (ie_var v0)) (by kernel_rfl) (pat2 (K := K) (pat1 (pS (pS p0))) (pat1 (pS (pS (pS p0))))) (by decide) (fun _ _ _ _ _ => (pg_tup rfl (pgs_cons (pg_name (i := 2) sc_is_full.nd rfl (by first | exact Or.inl rfl | exact Or.inr rfl)) (pgs_cons (pg_name (i := 3) sc_is_full.nd rfl (by first | exact Or.inl rfl | exact Or.inr rfl)) pgs_nil)))) (fun _ _ _ _ _ => (ie_var (vS (vS v0))))))))
      (ss_last (s_ret (ie_all rfl (ie_fz (LC.io (lc_m (own := [("sign", 4)]) (wp := (wpS (nS (nS (nS (nS n0)))) wp0)) rfl sc_is_full.nd (is_list (ie_call c_signs_of hr (by decide) (by rfl) (ia_cons (ie_var v0) ia_nil))) (by kernel_rfl) (pat1 (pS (pS (pS (pS p0))))) (by decide) (fun _ _ _ _ _ => (pg_name (i := 4) sc_is_full.nd rfl (by first | exact Or.inl rfl | exact Or.inr rfl))) (fun _ _ _ _ _ => (ie_in (ie_var (vS (vS (vS (vS v0))))) (ie_var (vS v0))))))) m_all))))⟩
abbrev s_longest_at : Stmt := topS 14
theorem sc_longest_at : FnScope ["table", "text", "place", "best", "number", "item"] ["table", "text", "place"] (defScope s_longest_at) := ⟨rfl, rfl, rfl, by decide +kernel, rfl, by decide +kernel, by decide +kernel⟩
noncomputable def d_longest_at : { s : DefS ((List (S × S)) × S × Int × Unit) (Option Int) // ∀ {P : Program} {w : World} {K : PySem.W.Frag} {mg : Str → Option Value} {base : Heap} {f : Addr} {fd : FuncData} (m_enumerate : mg "enumerate" = none) (m_len : mg "len" = none), Fun K "longest_at" "longest_at" s_longest_at f fd → mg "longest_at" = some (.ref f) → Binds K fd ["table", "text", "place"] [] → Cal P w K mg base (1) "longest_at" (spP s.m s.ok) } :=
  ⟨⟨_, _⟩, fun {P w K mg base f fd} m_enumerate m_len F hm bd => cal_of (k := 0) (E := (List (S × S)) × S × Int × No × No × No × Unit) F hm bd sc_longest_at (iniA (iniA (iniA (iniN (iniN (iniN ini0)))))) fun cdv A' outer s H E' hr =>
      (ss_cons (s_set (pS (pS (pS p0))) sc_longest_at.nd (ie_nonO (α := Int)))
      (ss_cons (s_for (E := (List (S × S)) × S × Int × (Option Int) × No × No × Unit) PassesOwn.never rfl (is_enum (ie_var v0) m_enumerate) (pat2 (K := K) (pat1 (pS (pS (pS (pS p0))))) (pat1 (pS (pS (pS (pS (pS p0))))))) (pg_tup rfl (pgs_cons (pg_name (i := 4) sc_longest_at.nd rfl (by first | exact Or.inl rfl | exact Or.inr rfl)) (pgs_cons (pg_name (i := 5) sc_longest_at.nd rfl (by first | exact Or.inl rfl | exact Or.inr rfl)) pgs_nil)))
        (ss_cons (s_if (E' := (List (S × S)) × S × Int × (Option Int) × No × No × Unit) (it_w (iw_and (it_val (ie_starts3 (ie_var (vS v0)) (ie_fst (ie_var (vS (vS (vS (vS (vS v0))))))) (ie_var (vS (vS v0))))) (iw_and1 (it_w (iw_or (it_isN (ie_var (vS (vS (vS v0))))) (iw_or1 (it_gt (ie_lenS (ie_fst (ie_var (vS (vS (vS (vS (vS v0))))))) m_len) (ie_lenS (ie_fst (ie_ix (ie_var v0) (ie_unO (ie_var (vS (vS (vS v0))))))) m_len))))))))
        (ss_cons (s_set (pS (pS (pS p0))) sc_longest_at.nd (ie_some (ie_var (vS (vS (vS (vS v0)))))))
      (ss_end (ghT (trK (trK (trK (trK (trF (trF trN)))))))))
        (ss_end (ghT (trK (trK (trK (trK (trF (trF trN)))))))))
      (ss_end ghI)))
      (ss_last (s_ret (ie_var (vS (vS (vS v0))))))))⟩
abbrev s_parse : Stmt := topS 15
theorem sc_parse : FnScope ["table", "text", "found", "place", "number"] ["table", "text"] (defScope s_parse) := ⟨rfl, rfl, rfl, by decide +kernel, rfl, by decide +kernel, by decide +kernel⟩
noncomputable def d_parse : { s : DefS ((List (S × S)) × S × Unit) (Ex (List Int)) // ∀ {P : Program} {w : World} {K : PySem.W.Frag} {mg : Str → Option Value} {base : Heap} {f : Addr} {fd : FuncData} (m_len : mg "len" = none) {C_NotTold : Addr} (x_NotTold : ExcF K mg "NotTold" C_NotTold) (c_longest_at : Cal P w K mg base 1 "longest_at" (spP (d_longest_at.1).m (d_longest_at.1).ok)), Fun K "parse" "parse" s_parse f fd → mg "parse" = some (.ref f) → Binds K fd ["table", "text"] [] → CalX P w K mg base (2) "parse" (spX mg s.m s.ok) } :=
  ⟨⟨_, _⟩, fun {P w K mg base f fd} m_len C_NotTold x_NotTold c_longest_at F hm bd => cal_ofX (k := 1) (E := (List (S × S)) × S × No × No × No × Unit) F hm bd sc_parse (iniA (iniA (iniN (iniN (iniN ini0))))) fun cdv A' outer s H E' hr =>
      (ss_cons (s_setO (pS (pS p0)) sc_parse.nd (io_lst (il_nil (α := Int))))
      (ss_cons (s_set (pS (pS (pS p0))) sc_parse.nd (ie_int (i := 0)))
      (ss_cons (s_while (E := (List (S × S)) × S × (Ow Int) × Int × No × Unit) (fun _ => 1000) passX (it_lt (ie_var (vS (vS (vS v0)))) (ie_lenS (ie_var (vS v0)) m_len))
        (ss_cons (s_set (pS (pS (pS (pS p0)))) sc_parse.nd (ie_call c_longest_at hr (by decide) (by rfl) (ia_cons (ie_var v0) (ia_cons (ie_var (vS v0)) (ia_cons (ie_var (vS (vS (vS v0)))) ia_nil)))))
      (ss_cons (s_if (E' := (List (S × S)) × S × (Ow Int) × Int × (Option Int) × Unit) (it_isN (ie_var (vS (vS (vS (vS v0))))))
        (ss_last (s_raise x_NotTold takesX))
        (ss_end ghI))
      (ss_cons (s_append (oS (oS o0)) (ie_unO (ie_var (vS (vS (vS (vS v0)))))))
      (ss_cons (s_aug ip_add r2_addI (vS (vS (vS v0))) (pS (pS (pS p0))) rfl sc_parse.nd (ie_lenS (ie_fst (ie_ix (ie_var v0) (ie_unO (ie_var (vS (vS (vS (vS v0)))))))) m_len))
      (ss_end (ghT (trK (trK (trK (trK (trF trN))))))))))))
      (ss_last (s_gh (ghF (fS (fS f0))) (s_retK (ie_var (vS (vS v0)))))))))⟩
abbrev s_told : Stmt := topS 16
theorem sc_told : FnScope ["table", "text", "number"] ["table", "text"] (defScope s_told) := ⟨rfl, rfl, rfl, by decide +kernel, rfl, by decide +kernel, by decide +kernel⟩
noncomputable def d_told : { s : DefS ((List (S × S)) × S × Unit) (Ex S) // ∀ {P : Program} {w : World} {K : PySem.W.Frag} {mg : Str → Option Value} {base : Heap} {f : Addr} {fd : FuncData} (c_parse : CalX P w K mg base 2 "parse" (spX mg (d_parse.1).m (d_parse.1).ok)), Fun K "told" "told" s_told f fd → mg "told" = some (.ref f) → Binds K fd ["table", "text"] [] → CalX P w K mg base (3) "told" (spX mg s.m s.ok) } :=
  ⟨⟨_, _⟩, fun {P w K mg base f fd} c_parse F hm bd => cal_ofX (k := 2) (E := (List (S × S)) × S × No × Unit) F hm bd sc_told (iniA (iniA (iniN ini0))) fun cdv A' outer s H E' hr =>
      (ss_last (s_or (s_retK (ie_join (ie_str ([] : S)) (ie_fz (LC.io (lc_m (own := [("number", 2)]) (wp := (wpS (nS (nS n0)) wp0)) rfl sc_told.nd (is_list (ie_callK c_parse hr (by decide) (by rfl) (ia_cons (ie_var v0) (ia_cons (ie_var (vS v0)) ia_nil)))) (by kernel_rfl) (pat1 (pS (pS p0))) (by decide) (fun _ _ _ _ _ => (pg_name (i := 2) sc_told.nd rfl (by first | exact Or.inl rfl | exact Or.inr rfl))) (fun _ _ _ _ _ => (ie_snd (ie_ix (ie_var v0) (ie_var (vS (vS v0))))))))))) (rs_ret (ir_join (ie_str ([] : S)) (ir_lc (own := [("number", 2)]) rfl sc_told.nd (irs_list (ir_call takesX c_parse hr (by decide) (by rfl) (ia_cons (ie_var v0) (ia_cons (ie_var (vS v0)) ia_nil)))) (by kernel_rfl) (fun _ _ _ _ _ => (pg_name (i := 2) sc_told.nd rfl (by first | exact Or.inl rfl | exact Or.inr rfl))) (fun _ _ _ _ _ => ((ie_snd (ie_ix (ie_var v0) (ie_var (vS (vS v0))))) : PE _ _ (tE (E := ((List (S × S))) × (S) × (Int) × Unit) _ _))))))))⟩
abbrev s_text_of : Stmt := topS 17
theorem sc_text_of : FnScope ["table", "numbers", "number"] ["table", "numbers"] (defScope s_text_of) := ⟨rfl, rfl, rfl, by decide +kernel, rfl, by decide +kernel, by decide +kernel⟩
noncomputable def d_text_of : { s : DefS ((List (S × S)) × (List Int) × Unit) S // ∀ {P : Program} {w : World} {K : PySem.W.Frag} {mg : Str → Option Value} {base : Heap} {f : Addr} {fd : FuncData}, Fun K "text_of" "text_of" s_text_of f fd → mg "text_of" = some (.ref f) → Binds K fd ["table", "numbers"] [] → Cal P w K mg base (1) "text_of" (spP s.m s.ok) } :=
  ⟨⟨_, _⟩, fun {P w K mg base f fd} F hm bd => cal_of (k := 0) (E := (List (S × S)) × (List Int) × No × Unit) F hm bd sc_text_of (iniA (iniA (iniN ini0))) fun cdv A' outer s H E' hr =>
      (ss_last (s_ret (ie_join (ie_str ([] : S)) (ie_fz (LC.io (lc_m (own := [("number", 2)]) (wp := (wpS (nS (nS n0)) wp0)) rfl sc_text_of.nd (is_list (ie_var (vS v0))) (by kernel_rfl) (pat1 (pS (pS p0))) (by decide) (fun _ _ _ _ _ => (pg_name (i := 2) sc_text_of.nd rfl (by first | exact Or.inl rfl | exact Or.inr rfl))) (fun _ _ _ _ _ => (ie_fst (ie_ix (ie_var v0) (ie_var (vS (vS v0))))))))))))⟩
abbrev s_parse_of : Stmt := topS 19
theorem sc_parse_of : FnScope ["table", "text"] ["table", "text"] (defScope s_parse_of) := ⟨rfl, rfl, rfl, by decide +kernel, rfl, by decide +kernel, by decide +kernel⟩
noncomputable def d_parse_of : { s : DefS ((List (S × S)) × S × Unit) (Option (List Int)) // ∀ {P : Program} {w : World} {K : PySem.W.Frag} {mg : Str → Option Value} {base : Heap} {f : Addr} {fd : FuncData} {C_NotTold : Addr} (x_NotTold : ExcF K mg "NotTold" C_NotTold) (sb_NotTold_NotTold : PySem.W.subIn K (.ref C_NotTold) (.ref C_NotTold) = some true) (c_parse : CalX P w K mg base 2 "parse" (spX mg (d_parse.1).m (d_parse.1).ok)), Fun K "parse_of" "parse_of" s_parse_of f fd → mg "parse_of" = some (.ref f) → Binds K fd ["table", "text"] [] → Cal P w K mg base (3) "parse_of" (spP s.m s.ok) } :=
  ⟨⟨_, _⟩, fun {P w K mg base f fd} C_NotTold x_NotTold sb_NotTold_NotTold c_parse F hm bd => cal_of (k := 2) (E := (List (S × S)) × S × Unit) F hm bd sc_parse_of (iniA (iniA ini0)) fun cdv A' outer s H E' hr =>
      (ss_last (s_try (fun pn xe hp => (ss_last (s_ret (ie_some (ie_callK c_parse hr (by decide) (by rfl) (ia_cons (ie_var v0) (ia_cons (ie_var (vS v0)) ia_nil))))))) (fun W pn xe tk => rss_one (rs_ret (ir_call tk c_parse hr (by decide) (by rfl) (ia_cons (ie_var v0) (ia_cons (ie_var (vS v0)) ia_nil))))) (th_plain x_NotTold (tb_cons x_NotTold x_NotTold sb_NotTold_NotTold tb_nil) (fun a oe cls d pn hz hf => (ss_last (s_ret (ie_nonO (α := (List Int)))))) th_nil)))⟩
abbrev s_is_parse : Stmt := topS 18
theorem sc_is_parse : FnScope ["table", "numbers", "number"] ["table", "numbers"] (defScope s_is_parse) := ⟨rfl, rfl, rfl, by decide +kernel, rfl, by decide +kernel, by decide +kernel⟩
noncomputable def d_is_parse : { s : DefS ((List (S × S)) × (List Int) × Unit) Bool // ∀ {P : Program} {w : World} {K : PySem.W.Frag} {mg : Str → Option Value} {base : Heap} {f : Addr} {fd : FuncData} (m_all : mg "all" = none) (m_len : mg "len" = none) (c_text_of : Cal P w K mg base 1 "text_of" (spP (d_text_of.1).m (d_text_of.1).ok)) (c_parse_of : Cal P w K mg base 3 "parse_of" (spP (d_parse_of.1).m (d_parse_of.1).ok)), Fun K "is_parse" "is_parse" s_is_parse f fd → mg "is_parse" = some (.ref f) → Binds K fd ["table", "numbers"] [] → Cal P w K mg base (4) "is_parse" (spP s.m s.ok) } :=
  ⟨⟨_, _⟩, fun {P w K mg base f fd} m_all m_len c_text_of c_parse_of F hm bd => cal_of (k := 3) (E := (List (S × S)) × (List Int) × No × Unit) F hm bd sc_is_parse (iniA (iniA (iniN ini0))) fun cdv A' outer s H E' hr =>
      (ss_cons (s_if (E' := (List (S × S)) × (List Int) × No × Unit) (it_not (it_val (ie_all rfl (ie_fz (LC.io (lc_m (own := [("number", 2)]) (wp := (wpS (nS (nS n0)) wp0)) rfl sc_is_parse.nd (is_list (ie_var (vS v0))) (by kernel_rfl) (pat1 (pS (pS p0))) (by decide) (fun _ _ _ _ _ => (pg_name (i := 2) sc_is_parse.nd rfl (by first | exact Or.inl rfl | exact Or.inr rfl))) (fun _ _ _ _ _ => (ie_chain op_le op_lt r2_intb r2_intb (ie_int (i := 0)) (ie_var (vS (vS v0))) (ie_lenL (ie_var v0) m_len) (nomarks _ _)))))) m_all)))
        (ss_last (s_ret (ie_bl (i := false))))
        (ss_end ghI))
      (ss_last (s_ret (ie_eqD hr (ie_call c_parse_of hr (by decide) (by rfl) (ia_cons (ie_var v0) (ia_cons (ie_call c_text_of hr (by decide) (by rfl) (ia_cons (ie_var v0) (ia_cons (ie_var (vS v0)) ia_nil))) ia_nil))) (ie_some (ie_var (vS v0)))))))⟩
abbrev s__law_cell : Stmt := topS 21
theorem sc__law_cell : FnScope ["script", "k"] ["script", "k"] (defScope s__law_cell) := ⟨rfl, rfl, rfl, by decide +kernel, rfl, by decide +kernel, by decide +kernel⟩
noncomputable def d__law_cell : { s : DefS (Scr × Int × Unit) Int // ∀ {P : Program} {w : World} {K : PySem.W.Frag} {mg : Str → Option Value} {base : Heap} {f : Addr} {fd : FuncData} (m_int : mg "int" = none) (m_len : mg "len" = none), Fun K "_law_cell" "_law_cell" s__law_cell f fd → mg "_law_cell" = some (.ref f) → Binds K fd ["script", "k"] [] → Cal P w K mg base (1) "_law_cell" (spP s.m s.ok) } :=
  ⟨⟨_, _⟩, fun {P w K mg base f fd} m_int m_len F hm bd => cal_of (k := 0) (E := Scr × Int × Unit) F hm bd sc__law_cell (iniA (iniA ini0)) fun cdv A' outer s H E' hr =>
      (ss_cons (s_if (E' := Scr × Int × Unit) (it_lt (ie_var (vS v0)) (ie_lenR (ie_var v0) m_len))
        (ss_last (s_ret (ie_intI (ie_ixR (ie_var v0) (ie_var (vS v0))) m_int)))
        (ss_end ghI))
      (ss_last (s_ret (ie_int (i := 0)))))⟩
abbrev s__law_numbers : Stmt := topS 22
theorem sc__law_numbers : FnScope ["cell", "count", "limit", "found", "k", "mixed"] ["cell", "count", "limit"] (defScope s__law_numbers) := ⟨rfl, rfl, rfl, by decide +kernel, rfl, by decide +kernel, by decide +kernel⟩
noncomputable def d__law_numbers : { s : DefS (Int × Int × Int × Unit) (List Int) // ∀ {P : Program} {w : World} {K : PySem.W.Frag} {mg : Str → Option Value} {base : Heap} {f : Addr} {fd : FuncData} (m_int : mg "int" = none) (m_range : mg "range" = none), Fun K "_law_numbers" "_law_numbers" s__law_numbers f fd → mg "_law_numbers" = some (.ref f) → Binds K fd ["cell", "count", "limit"] [] → Cal P w K mg base (1) "_law_numbers" (spO s.m s.ok) } :=
  ⟨⟨_, _⟩, fun {P w K mg base f fd} m_int m_range F hm bd => cal_ofO (k := 0) (E := Int × Int × Int × No × No × No × Unit) F hm bd sc__law_numbers (iniA (iniA (iniA (iniN (iniN (iniN ini0)))))) fun cdv A' outer s H E' hr =>
      (ss_cons (s_setO (pS (pS (pS p0))) sc__law_numbers.nd (io_lst (il_nil (α := Int))))
      (ss_cons (s_if (E' := Int × Int × Int × (Ow Int) × No × No × Unit) (it_ge (ie_var v0) (ie_pow (ie_int (i := 10)) (ie_int (i := 18))))
        (ss_cons (s_for (E := Int × Int × Int × (Ow Int) × No × No × Unit) PassesOwn.never rfl (is_range1 (ie_var (vS v0)) m_range) (pat1 (pS (pS (pS (pS p0))))) (pg_name (i := 4) sc__law_numbers.nd rfl (by first | exact Or.inl rfl | exact Or.inr rfl))
        (ss_cons (s_append (oS (oS (oS o0))) (ie_mod (ie_intI (ie_var v0) m_int) (ie_var (vS (vS v0)))))
      (ss_cons (s_set p0 sc__law_numbers.nd (ie_div (ie_intI (ie_var v0) m_int) (ie_var (vS (vS v0)))))
      (ss_end (ghT (trK (trK (trK (trK (trF (trF trN)))))))))))
      (ss_last (s_retV (oS (oS (oS o0))))))
        (ss_end ghI))
      (ss_cons (s_for (E := Int × Int × Int × (Ow Int) × No × No × Unit) PassesOwn.never rfl (is_range1 (ie_var (vS v0)) m_range) (pat1 (pS (pS (pS (pS p0))))) (pg_name (i := 4) sc__law_numbers.nd rfl (by first | exact Or.inl rfl | exact Or.inr rfl))
        (ss_cons (s_set (pS (pS (pS (pS (pS p0))))) sc__law_numbers.nd (ie_mod (ie_intI (ie_add (ie_add (ie_mul (ie_var v0) (ie_int (i := 48271))) (ie_mul (ie_var (vS (vS (vS (vS v0))))) (ie_int (i := 69621)))) (ie_int (i := 7))) m_int) (ie_int (i := 2147483647))))
      (ss_cons (s_set (pS (pS (pS (pS (pS p0))))) sc__law_numbers.nd (ie_mod (ie_intI (ie_add (ie_add (ie_add (ie_mul (ie_var (vS (vS (vS (vS (vS v0)))))) (ie_var (vS (vS (vS (vS (vS v0))))))) (ie_mul (ie_var (vS (vS (vS (vS (vS v0)))))) (ie_int (i := 40692)))) (ie_mul (ie_var (vS (vS (vS (vS v0))))) (ie_int (i := 16807)))) (ie_int (i := 11))) m_int) (ie_int (i := 2147483399))))
      (ss_cons (s_append (oS (oS (oS o0))) (ie_mod (ie_intI (ie_div (ie_var (vS (vS (vS (vS (vS v0)))))) (ie_int (i := 32))) m_int) (ie_var (vS (vS v0)))))
      (ss_end (ghT (trK (trK (trK (trK (trF (trF trN))))))))))))
      (ss_last (s_retV (oS (oS (oS o0))))))))⟩
abbrev s__law_draws : Stmt := topS 23
theorem sc__law_draws : FnScope ["script", "at", "count"] ["script", "at", "count"] (defScope s__law_draws) := ⟨rfl, rfl, rfl, by decide +kernel, rfl, by decide +kernel, by decide +kernel⟩
noncomputable def d__law_draws : { s : DefS (Scr × Int × Int × Unit) (List Int) // ∀ {P : Program} {w : World} {K : PySem.W.Frag} {mg : Str → Option Value} {base : Heap} {f : Addr} {fd : FuncData} (c__law_cell : Cal P w K mg base 1 "_law_cell" (spP (d__law_cell.1).m (d__law_cell.1).ok)) (c__law_numbers : Cal P w K mg base 1 "_law_numbers" (spO (d__law_numbers.1).m (d__law_numbers.1).ok)), Fun K "_law_draws" "_law_draws" s__law_draws f fd → mg "_law_draws" = some (.ref f) → Binds K fd ["script", "at", "count"] [] → Cal P w K mg base (2) "_law_draws" (spO s.m s.ok) } :=
  ⟨⟨_, _⟩, fun {P w K mg base f fd} c__law_cell c__law_numbers F hm bd => cal_ofO (k := 1) (E := Scr × Int × Int × Unit) F hm bd sc__law_draws (iniA (iniA (iniA ini0))) fun cdv A' outer s H E' hr =>
      (ss_last (s_retO (io_call c__law_numbers hr (by decide) (by rfl) (ia_cons (ie_add (ie_call c__law_cell hr (by decide) (by rfl) (ia_cons (ie_var v0) (ia_cons (ie_var (vS v0)) ia_nil))) (ie_mul (ie_int (i := 7919)) (ie_var (vS v0)))) (ia_cons (ie_var (vS (vS v0))) (ia_cons (ie_int (i := 5040)) ia_nil))))))⟩
abbrev s__law_word : Stmt := topS 24
theorem sc__law_word : FnScope ["draws", "at", "signs", "least", "most", "found", "k"] ["draws", "at", "signs", "least", "most"] (defScope s__law_word) := ⟨rfl, rfl, rfl, by decide +kernel, rfl, by decide +kernel, by decide +kernel⟩
noncomputable def d__law_word : { s : DefS ((List Int) × Int × S × Int × Int × Unit) S // ∀ {P : Program} {w : World} {K : PySem.W.Frag} {mg : Str → Option Value} {base : Heap} {f : Addr} {fd : FuncData} (m_len : mg "len" = none) (m_range : mg "range" = none), Fun K "_law_word" "_law_word" s__law_word f fd → mg "_law_word" = some (.ref f) → Binds K fd ["draws", "at", "signs", "least", "most"] [] → Cal P w K mg base (1) "_law_word" (spP s.m s.ok) } :=
  ⟨⟨_, _⟩, fun {P w K mg base f fd} m_len m_range F hm bd => cal_of (k := 0) (E := (List Int) × Int × S × Int × Int × No × No × Unit) F hm bd sc__law_word (iniA (iniA (iniA (iniA (iniA (iniN (iniN ini0))))))) fun cdv A' outer s H E' hr =>
      (ss_cons (s_set (pS (pS (pS (pS (pS p0))))) sc__law_word.nd (ie_str ([] : S)))
      (ss_cons (s_for (E := (List Int) × Int × S × Int × Int × S × No × Unit) PassesOwn.never rfl (is_range1 (ie_add (ie_var (vS (vS (vS v0)))) (ie_mod (ie_ix (ie_var v0) (ie_var (vS v0))) (ie_add (ie_sub (ie_var (vS (vS (vS (vS v0))))) (ie_var (vS (vS (vS v0))))) (ie_int (i := 1))))) m_range) (pat1 (pS (pS (pS (pS (pS (pS p0))))))) (pg_name (i := 6) sc__law_word.nd rfl (by first | exact Or.inl rfl | exact Or.inr rfl))
        (ss_cons (s_set (pS (pS (pS (pS (pS p0))))) sc__law_word.nd (ie_addS (ie_var (vS (vS (vS (vS (vS v0)))))) (ie_ixS (ie_var (vS (vS v0))) (ie_mod (ie_ix (ie_var v0) (ie_add (ie_add (ie_var (vS v0)) (ie_int (i := 1))) (ie_var (vS (vS (vS (vS (vS (vS v0))))))))) (ie_lenS (ie_var (vS (vS v0))) m_len)))))
      (ss_end (ghT (trK (trK (trK (trK (trK (trK (trF trN)))))))))))
      (ss_last (s_ret (ie_var (vS (vS (vS (vS (vS v0))))))))))⟩
abbrev s__law_signs : Stmt := topS 25
theorem sc__law_signs : FnScope ["draw", "count", "known", "step", "k"] ["draw", "count"] (defScope s__law_signs) := ⟨rfl, rfl, rfl, by decide +kernel, rfl, by decide +kernel, by decide +kernel⟩
noncomputable def d__law_signs : { s : DefS (Int × Int × Unit) S // ∀ {P : Program} {w : World} {K : PySem.W.Frag} {mg : Str → Option Value} {base : Heap} {f : Addr} {fd : FuncData} (m_int : mg "int" = none) (m_range : mg "range" = none), Fun K "_law_signs" "_law_signs" s__law_signs f fd → mg "_law_signs" = some (.ref f) → Binds K fd ["draw", "count"] [] → Cal P w K mg base (1) "_law_signs" (spP s.m s.ok) } :=
  ⟨⟨_, _⟩, fun {P w K mg base f fd} m_int m_range F hm bd => cal_of (k := 0) (E := Int × Int × No × No × No × Unit) F hm bd sc__law_signs (iniA (iniA (iniN (iniN (iniN ini0))))) fun cdv A' outer s H E' hr =>
      (ss_cons (s_set (pS (pS p0)) sc__law_signs.nd (ie_str ([32, 33, 34, 35, 36, 38, 39, 40, 41, 42, 43, 44, 45, 46, 47, 48, 49, 50, 51, 52, 53, 54, 55, 56, 57, 58, 59, 60, 61, 62, 63, 64, 65, 66, 67, 68, 69, 70, 71, 72, 73, 74, 75, 76, 77, 78, 79, 80, 81, 82, 83, 84, 85, 86, 87, 88, 89, 90, 91, 92, 93, 94, 95, 96, 97, 98, 99, 100, 101, 102, 103, 104, 105, 106, 107, 108, 109, 110, 111, 112, 113, 114, 115, 116, 117, 118, 119, 120, 121, 122, 123, 124, 125, 126] : S)))
      (ss_cons (s_set (pS (pS (pS p0))) sc__law_signs.nd (ie_ix (ie_fz (io_lst (il_cons (ie_int (i := 1)) (il_cons (ie_int (i := 3)) (il_cons (ie_int (i := 5)) (il_cons (ie_int (i := 7)) (il_cons (ie_int (i := 9)) (il_cons (ie_int (i := 11)) (il_cons (ie_int (i := 13)) (il_nil (α := Int))))))))))) (ie_mod (ie_intI (ie_div (ie_var v0) (ie_int (i := 94))) m_int) (ie_int (i := 7)))))
      (ss_last (s_ret (ie_join (ie_str ([] : S)) (ie_fz (LC.io (lc_m (own := [("k", 4)]) (wp := (wpS (nS (nS (nS (nS n0)))) wp0)) rfl sc__law_signs.nd (is_range1 (ie_var (vS v0)) m_range) (by kernel_rfl) (pat1 (pS (pS (pS (pS p0))))) (by decide) (fun _ _ _ _ _ => (pg_name (i := 4) sc__law_signs.nd rfl (by first | exact Or.inl rfl | exact Or.inr rfl))) (fun _ _ _ _ _ => (ie_ixS (ie_var (vS (vS v0))) (ie_mod (ie_intI (ie_add (ie_var v0) (ie_mul (ie_var (vS (vS (vS (vS v0))))) (ie_var (vS (vS (vS v0)))))) m_int) (ie_int (i := 94)))))))))))))⟩
abbrev s__law_same : Stmt := topS 26
theorem sc__law_same : FnScope ["given", "due", "k"] ["given", "due"] (defScope s__law_same) := ⟨rfl, rfl, rfl, by decide +kernel, rfl, by decide +kernel, by decide +kernel⟩
noncomputable def st__law_same (n : Nat) (g : D × D × Unit → Bool) (gok : D × D × Unit → Prop) : { s : DefS (D × D × Unit) Bool // ∀ {P : Program} {w : World} {K : PySem.W.Frag} {mg : Str → Option Value} {base : Heap} {f : Addr} {fd : FuncData} (m_bool : mg "bool" = none) (m_int : mg "int" = none) (m_isinstance : mg "isinstance" = none) (m_len : mg "len" = none) (m_list : mg "list" = none) (m_range : mg "range" = none) (m_str : mg "str" = none) (m_tuple : mg "tuple" = none) (c__law_same : Cal P w K mg base n "_law_same" (spP g gok)), Fun K "_law_same" "_law_same" s__law_same f fd → mg "_law_same" = some (.ref f) → Binds K fd ["given", "due"] [] → Cal P w K mg base (n + 1) "_law_same" (spP s.m s.ok) } :=
  ⟨⟨_, _⟩, fun {P w K mg base f fd} m_bool m_int m_isinstance m_len m_list m_range m_str m_tuple c__law_same F hm bd => cal_of (k := n) (E := D × D × No × Unit) F hm bd sc__law_same (iniA (iniA (iniN ini0))) fun cdv A' outer s H E' hr =>
      (ss_cons (s_if (E' := D × D × No × Unit) (it_val (ie_isi "list" D.isL isi_L (ie_var (vS v0)) m_list m_isinstance (by decide +kernel)))
        (ss_cons (s_if (E' := D × D × No × Unit) (it_w (iw_or (it_not (it_val (ie_isi "list" D.isL isi_L (ie_var v0) m_list m_isinstance (by decide +kernel)))) (iw_or1 (it_ne (ie_lenD (ie_var v0) m_len) (ie_lenD (ie_var (vS v0)) m_len)))))
        (ss_last (s_ret (ie_bl (i := false))))
        (ss_end ghI))
      (ss_end ghI))
        (ss_cons (s_if (E' := D × D × No × Unit) (it_val (ie_isi "tuple" D.isT isi_T (ie_var (vS v0)) m_tuple m_isinstance (by decide +kernel)))
        (ss_cons (s_if (E' := D × D × No × Unit) (it_w (iw_or (it_not (it_val (ie_isi "tuple" D.isT isi_T (ie_var v0) m_tuple m_isinstance (by decide +kernel)))) (iw_or1 (it_ne (ie_lenD (ie_var v0) m_len) (ie_lenD (ie_var (vS v0)) m_len)))))
        (ss_last (s_ret (ie_bl (i := false))))
        (ss_end ghI))
      (ss_end ghI))
        (ss_last (s_if (it_isD (ie_var (vS v0))) (ss_last (s_ret (ie_isD (ie_var v0)))) (ss_last (s_if (it_val (ie_isi "bool" D.isB isi_B (ie_var (vS v0)) m_bool m_isinstance (by decide +kernel))) (ss_last (s_ret (ie_and (ie_isi "bool" D.isB isi_B (ie_var v0) m_bool m_isinstance (by decide +kernel)) (ie_one (ie_eqF (ie_var v0) (ie_var (vS v0))))))) (ss_last (s_if (it_val (ie_isi "int" D.isI isi_I (ie_var (vS v0)) m_int m_isinstance (by decide +kernel))) (ss_last (s_ret (ie_and (ie_isi "int" D.isI isi_I (ie_var v0) m_int m_isinstance (by decide +kernel)) (ie_and (ie_not (ie_isi "bool" D.isB isi_B (ie_var v0) m_bool m_isinstance (by decide +kernel))) (ie_one (ie_eqF (ie_var v0) (ie_var (vS v0)))))))) (ss_last (s_ret (ie_and (ie_isi "str" D.isS isi_S (ie_var v0) m_str m_isinstance (by decide +kernel)) (ie_one (ie_eqF (ie_var v0) (ie_var (vS v0))))))))))))))
      (ss_end ghI)))
      (ss_cons (s_for (E := D × D × No × Unit) PassesOwn.never rfl (is_range1 (ie_lenD (ie_var (vS v0)) m_len) m_range) (pat1 (pS (pS p0))) (pg_name (i := 2) sc__law_same.nd rfl (by first | exact Or.inl rfl | exact Or.inr rfl))
        (ss_cons (s_if (E' := D × D × Int × Unit) (it_not (it_val (ie_call c__law_same hr (Nat.le_refl _) (by rfl) (ia_cons (ie_ixD (ie_var v0) (ie_var (vS (vS v0)))) (ia_cons (ie_ixD (ie_var (vS v0)) (ie_var (vS (vS v0)))) ia_nil)))))
        (ss_last (s_ret (ie_bl (i := false))))
        (ss_end ghI))
      (ss_end (ghT (trK (trK (trF trN)))))))
      (ss_last (s_ret (ie_bl (i := true))))))⟩
theorem same_m (n : Nat) {g : D × D × Unit → Bool} (hg : g = fun t => D.same t.1 t.2.1) {gok : D × D × Unit → Prop} (a b : D) : (st__law_same n g gok).1.m (a, b, ()) = D.same a b := by
  have loop : ∀ (xs ys : List D), xs.length = ys.length → ∀ (ab : D × D), ab.1.items = xs → ab.2.items = ys →
      forC (E := D × D × No × Unit) (E1 := D × D × Int × Unit) (fun e t => (e.1, e.2.1, t, e.2.2.2)) (fun K e => if (!g (ixD e.1.items e.2.2.1, ixD e.2.1.items e.2.2.1, ())) = true then false else K.nx (e.1, e.2.1, {}, e.2.2.2)) (fun _ => true) (irange 0 ys.length) (ab.1, ab.2, {}, ()) = D.sames xs ys := fun xs ys hl ab h1 h2 => by
    subst hg
    refine (loop_all (E := D × D × No × Unit) (E1 := D × D × Int × Unit) _ (fun e => D.same (ixD e.1.items e.2.2.1) (ixD e.2.1.items e.2.2.1)) (fun e => (e.1, e.2.1, {}, e.2.2.2)) (fun _ _ => rfl) _ _ _).trans ?_
    rw [Bool.and_true, ← sames_ir xs ys hl]
    refine all_congr fun k _ => ?_
    show D.same (ixD ab.1.items k) (ixD ab.2.items k) = _
    rw [h1, h2]
  cases b with
  | lst ys =>
    show (if (!a.isL || !decide ((a.items.length : Int) = (ys.length : Nat))) = true then false else _) = _
    cases a with
    | lst xs =>
      by_cases hl : xs.length = ys.length
      · rw [if_neg (by simp [D.isL, D.items, hl])]; exact loop xs ys hl (.lst xs, .lst ys) rfl rfl
      · rw [if_pos (by show (!true || !decide ((xs.length : Int) = ys.length)) = true; rw [decide_eq_false (by omega)]; rfl)]; simp only [D.same]; rw [sames_all, decide_eq_false hl]; rfl
    | _ => rfl
  | tup ys =>
    show (if (!a.isT || !decide ((a.items.length : Int) = (ys.length : Nat))) = true then false else _) = _
    cases a with
    | tup xs =>
      by_cases hl : xs.length = ys.length
      · rw [if_neg (by simp [D.isT, D.items, hl])]; exact loop xs ys hl (.tup xs, .tup ys) rfl rfl
      · rw [if_pos (by show (!true || !decide ((xs.length : Int) = ys.length)) = true; rw [decide_eq_false (by omega)]; rfl)]; simp only [D.same]; rw [sames_all, decide_eq_false hl]; rfl
    | _ => rfl
  | _ => cases a <;> rfl
theorem same_ok (n : Nat) {g : D × D × Unit → Bool} {gok : D × D × Unit → Prop} (hgok : gok = fun t => fitD n t.2.1 = true) (a b : D) (h : fitD (n + 1) b = true) : (st__law_same n g gok).1.ok (a, b, ()) := by
  subst hgok
  have ix : ∀ {xs : List D} {k : Int}, k ∈ irange 0 xs.length → ixOk xs k ∧ ixD xs k ∈ xs := fun {xs k} hk => by
    have := ir_mem hk
    exact ⟨⟨by omega, this.2⟩, ixD_mem this.1 this.2⟩
  cases b with
  | lst ys =>
    simp only [fitD, Bool.and_eq_true, decide_eq_true_eq, List.all_eq_true] at h
    refine ⟨trivial, fun _ => ⟨⟨trivial, fun ha => ?_⟩, fun _ => trivial, fun hb => ?_⟩, fun z => nomatch z⟩
    · cases a <;> first | exact ⟨⟨trivial, rfl⟩, trivial, rfl⟩ | exact nomatch ha
    · cases a with
      | lst xs =>
        have hl : xs.length = ys.length := by
          have hd : (!true || !decide ((xs.length : Int) = ys.length)) = false := hb
          by_cases z : xs.length = ys.length
          · exact z
          · rw [decide_eq_false (by omega)] at hd; exact nomatch hd
        refine ⟨⟨⟨trivial, rfl⟩, rgOk_len h.1⟩, loopP_all _ _ _ _ _ (fun x => x.1 = .lst xs ∧ x.2.1 = .lst ys ∧ x.2.2.1 ∈ irange 0 ys.length) (fun e => (e.1, e.2.1, {}, e.2.2.2)) (fun _ _ => rfl) ?_ (fun k hk => ⟨rfl, rfl, hk⟩) trivial⟩
        rintro K ⟨x1, x2, k, ⟨⟩⟩ ⟨rfl, rfl, hk⟩ hn
        have i1 := ix (xs := ys) hk
        have i2 := ix (xs := xs) (by rw [hl]; exact hk)
        exact ⟨⟨⟨⟨trivial, trivial, rfl, i2.1⟩, ⟨trivial, trivial, rfl, i1.1⟩, trivial⟩, h.2 _ i1.2⟩, fun _ => trivial, fun _ => hn⟩
      | _ => exact nomatch hb
  | tup ys =>
    simp only [fitD, Bool.and_eq_true, decide_eq_true_eq, List.all_eq_true] at h
    refine ⟨trivial, (fun z => nomatch z), fun _ => ⟨trivial, fun _ => ⟨⟨trivial, fun ha => ?_⟩, fun _ => trivial, fun hb => ?_⟩, fun z => nomatch z⟩⟩
    · cases a <;> first | exact ⟨⟨trivial, rfl⟩, trivial, rfl⟩ | exact nomatch ha
    · cases a with
      | tup xs =>
        have hl : xs.length = ys.length := by
          have hd : (!true || !decide ((xs.length : Int) = ys.length)) = false := hb
          by_cases z : xs.length = ys.length
          · exact z
          · rw [decide_eq_false (by omega)] at hd; exact nomatch hd
        refine ⟨⟨⟨trivial, rfl⟩, rgOk_len h.1⟩, loopP_all _ _ _ _ _ (fun x => x.1 = .tup xs ∧ x.2.1 = .tup ys ∧ x.2.2.1 ∈ irange 0 ys.length) (fun e => (e.1, e.2.1, {}, e.2.2.2)) (fun _ _ => rfl) ?_ (fun k hk => ⟨rfl, rfl, hk⟩) trivial⟩
        rintro K ⟨x1, x2, k, ⟨⟩⟩ ⟨rfl, rfl, hk⟩ hn
        have i1 := ix (xs := ys) hk
        have i2 := ix (xs := xs) (by rw [hl]; exact hk)
        exact ⟨⟨⟨⟨trivial, trivial, rfl, i2.1⟩, ⟨trivial, trivial, rfl, i1.1⟩, trivial⟩, h.2 _ i1.2⟩, fun _ => trivial, fun _ => hn⟩
      | _ => exact nomatch hb
  | _ => cases a <;> simp [st__law_same, D.isL, D.isT, D.isN, D.isB, D.isI, D.isS, D.flatOk, okT]
theorem cal_same0 {P : Program} {w : World} {K : PySem.W.Frag} {mg : Str → Option Value} {base : Heap} {f : Addr} {fd : FuncData} (m_bool : mg "bool" = none) (m_int : mg "int" = none) (m_isinstance : mg "isinstance" = none) (m_len : mg "len" = none) (m_list : mg "list" = none) (m_range : mg "range" = none) (m_str : mg "str" = none) (m_tuple : mg "tuple" = none) (F : Fun K "_law_same" "_law_same" s__law_same f fd) (hm : mg "_law_same" = some (.ref f)) (bd : Binds K fd ["given", "due"] []) :
    ∀ n, Cal P w K mg base n "_law_same" (spP (fun t : D × D × Unit => D.same t.1 t.2.1) (fun t => fitD n t.2.1 = true))
  | 0 => ⟨f, fd, _, ⟨fun vs H Q E h => by obtain ⟨_, _, _, _, o, _⟩ := h; exact (nomatch o), fun A outer s H args us vs Q E hr he hb hv h => by obtain ⟨_, _, _, _, o, _⟩ := h; exact (nomatch o)⟩, hm, F.kp, bd⟩
  | n + 1 => by
    have c := (st__law_same n _ _).2 (P := P) (w := w) (base := base) m_bool m_int m_isinstance m_len m_list m_range m_str m_tuple (cal_same0 (P := P) (w := w) (base := base) m_bool m_int m_isinstance m_len m_list m_range m_str m_tuple F hm bd n) F hm bd
    obtain ⟨f1, fd1, ps1, c1, c2⟩ := c.ex
    refine ⟨f1, fd1, ps1, c1.imp fun vs H Q E h => ?_, c2⟩
    obtain ⟨F, ⟨a, b, ⟨⟩⟩, hs, r, o, q⟩ := h
    exact ⟨F, (a, b, ()), hs, r, same_ok n rfl a b o, fun F' H' v X rv => q F' H' v X (by rw [same_m n rfl] at rv; exact rv)⟩
noncomputable def d__law_same : { s : DefS (D × D × Unit) Bool // ∀ {P : Program} {w : World} {K : PySem.W.Frag} {mg : Str → Option Value} {base : Heap} {f : Addr} {fd : FuncData} (m_bool : mg "bool" = none) (m_int : mg "int" = none) (m_isinstance : mg "isinstance" = none) (m_len : mg "len" = none) (m_list : mg "list" = none) (m_range : mg "range" = none) (m_str : mg "str" = none) (m_tuple : mg "tuple" = none), Fun K "_law_same" "_law_same" s__law_same f fd → mg "_law_same" = some (.ref f) → Binds K fd ["given", "due"] [] → Cal P w K mg base 8 "_law_same" (spP s.m s.ok) } :=
  ⟨⟨fun t => D.same t.1 t.2.1, fun t => fitD 8 t.2.1 = true⟩, fun m1 m2 m3 m4 m5 m6 m7 m8 F hm bd => cal_same0 m1 m2 m3 m4 m5 m6 m7 m8 F hm bd 8⟩

abbrev s__law_parse : Stmt := topS 27
theorem sc__law_parse : FnScope ["table", "text", "found", "place", "turn", "k", "fits", "best"] ["table", "text"] (defScope s__law_parse) := ⟨rfl, rfl, rfl, by decide +kernel, rfl, by decide +kernel, by decide +kernel⟩
noncomputable def d__law_parse : { s : DefS ((List (S × S)) × S × Unit) (Option (List Int)) // ∀ {P : Program} {w : World} {K : PySem.W.Frag} {mg : Str → Option Value} {base : Heap} {f : Addr} {fd : FuncData} (m_len : mg "len" = none) (m_range : mg "range" = none), Fun K "_law_parse" "_law_parse" s__law_parse f fd → mg "_law_parse" = some (.ref f) → Binds K fd ["table", "text"] [] → Cal P w K mg base (1) "_law_parse" (spP s.m s.ok) } :=
  ⟨⟨_, _⟩, fun {P w K mg base f fd} m_len m_range F hm bd => cal_of (k := 0) (E := (List (S × S)) × S × No × No × No × No × No × No × Unit) F hm bd sc__law_parse (iniA (iniA (iniN (iniN (iniN (iniN (iniN (iniN ini0)))))))) fun cdv A' outer s H E' hr =>
      (ss_cons (s_setO (pS (pS p0)) sc__law_parse.nd (io_lst (il_nil (α := Int))))
      (ss_cons (s_set (pS (pS (pS p0))) sc__law_parse.nd (ie_int (i := 0)))
      (ss_cons (s_for (E := (List (S × S)) × S × (Ow Int) × Int × No × No × No × No × Unit) PassesOwn.never rfl (is_range1 (ie_lenS (ie_var (vS v0)) m_len) m_range) (pat1 (pS (pS (pS (pS p0))))) (pg_name (i := 4) sc__law_parse.nd rfl (by first | exact Or.inl rfl | exact Or.inr rfl))
        (ss_cons (s_if (E' := (List (S × S)) × S × (Ow Int) × Int × No × No × No × No × Unit) (it_lt (ie_var (vS (vS (vS v0)))) (ie_lenS (ie_var (vS v0)) m_len))
        (ss_cons (s_setLc (pS (pS (pS (pS (pS (pS p0)))))) (lc_c (own := [("k", 5)]) (wp := (wpS (nS (nS (nS (nS (nS n0))))) wp0)) rfl sc__law_parse.nd (is_range1 (ie_lenL (ie_var v0) m_len) m_range) (by kernel_rfl) (pat1 (pS (pS (pS (pS (pS p0)))))) (by decide) (fun _ _ _ _ _ => (pg_name (i := 5) sc__law_parse.nd rfl (by first | exact Or.inl rfl | exact Or.inr rfl))) (fun _ _ _ _ _ => its_one (it_eq (ie_sliceS (ie_var (vS v0)) (ip_some (ie_var (vS (vS (vS v0))))) (ip_some (ie_add (ie_var (vS (vS (vS v0)))) (ie_lenS (ie_fst (ie_ix (ie_var v0) (ie_var (vS (vS (vS (vS (vS v0)))))))) m_len)))) (ie_fst (ie_ix (ie_var v0) (ie_var (vS (vS (vS (vS (vS v0)))))))))) (fun _ _ _ _ _ => (ie_var (vS (vS (vS (vS (vS v0)))))))) rfl (sw_true rfl rfl rfl (by decide +kernel)))
      (ss_cons (s_if (E' := (List (S × S)) × S × (Ow Int) × Int × Int × No × (List Int) × No × Unit) (it_eq (ie_lenL (ie_var (vS (vS (vS (vS (vS (vS v0))))))) m_len) (ie_int (i := 0)))
        (ss_last (s_ret (ie_nonO (α := (List Int)))))
        (ss_end ghI))
      (ss_cons (s_set (pS (pS (pS (pS (pS (pS (pS p0))))))) sc__law_parse.nd (ie_ix (ie_var (vS (vS (vS (vS (vS (vS v0))))))) (ie_int (i := 0))))
      (ss_cons (s_gh (ghT (trK (trK (trK (trK (trF (trF (trK (trK trN))))))))) (s_for (E := (List (S × S)) × S × (Ow Int) × Int × No × No × (List Int) × Int × Unit) PassesOwn.never rfl (is_list (ie_var (vS (vS (vS (vS (vS (vS v0)))))))) (pat1 (pS (pS (pS (pS (pS p0)))))) (pg_name (i := 5) sc__law_parse.nd rfl (by first | exact Or.inl rfl | exact Or.inr rfl))
        (ss_cons (s_if (E' := (List (S × S)) × S × (Ow Int) × Int × No × No × (List Int) × Int × Unit) (it_gt (ie_lenS (ie_fst (ie_ix (ie_var v0) (ie_var (vS (vS (vS (vS (vS v0)))))))) m_len) (ie_lenS (ie_fst (ie_ix (ie_var v0) (ie_var (vS (vS (vS (vS (vS (vS (vS v0)))))))))) m_len))
        (ss_cons (s_set (pS (pS (pS (pS (pS (pS (pS p0))))))) sc__law_parse.nd (ie_var (vS (vS (vS (vS (vS v0)))))))
      (ss_end (ghT (trK (trK (trK (trK (trF (trF (trK (trK trN)))))))))))
        (ss_end (ghT (trK (trK (trK (trK (trF (trF (trK (trK trN)))))))))))
      (ss_end ghI))))
      (ss_cons (s_append (oS (oS o0)) (ie_var (vS (vS (vS (vS (vS (vS (vS v0)))))))))
      (ss_cons (s_set (pS (pS (pS p0))) sc__law_parse.nd (ie_add (ie_var (vS (vS (vS v0)))) (ie_lenS (ie_fst (ie_ix (ie_var v0) (ie_var (vS (vS (vS (vS (vS (vS (vS v0)))))))))) m_len)))
      (ss_end (ghT (trK (trK (trK (trK (trF (trF (trF (trF trN))))))))))))))))
        (ss_end (ghT (trK (trK (trK (trK (trF (trF (trF (trF trN)))))))))))
      (ss_end ghI)))
      (ss_last (s_gh (ghF (fS (fS f0))) (s_ret (ie_some (ie_var (vS (vS v0))))))))))⟩
abbrev s__law_great : Stmt := topS 28
theorem sc__law_great : FnScope ["script", "at", "signs", "most", "draws", "found", "known", "k", "left", "turn"] ["script", "at", "signs", "most"] (defScope s__law_great) := ⟨rfl, rfl, rfl, by decide +kernel, rfl, by decide +kernel, by decide +kernel⟩
noncomputable def d__law_great : { s : DefS (Scr × Int × S × Int × Unit) (List (S × S)) // ∀ {P : Program} {w : World} {K : PySem.W.Frag} {mg : Str → Option Value} {base : Heap} {f : Addr} {fd : FuncData} (m_len : mg "len" = none) (m_range : mg "range" = none) (c__law_draws : Cal P w K mg base 2 "_law_draws" (spO (d__law_draws.1).m (d__law_draws.1).ok)) (c__law_word : Cal P w K mg base 1 "_law_word" (spP (d__law_word.1).m (d__law_word.1).ok)), Fun K "_law_great" "_law_great" s__law_great f fd → mg "_law_great" = some (.ref f) → Binds K fd ["script", "at", "signs", "most"] [] → Cal P w K mg base (3) "_law_great" (spO s.m s.ok) } :=
  ⟨⟨_, _⟩, fun {P w K mg base f fd} m_len m_range c__law_draws c__law_word F hm bd => cal_ofO (k := 2) (E := Scr × Int × S × Int × No × No × No × No × No × No × Unit) F hm bd sc__law_great (iniA (iniA (iniA (iniA (iniN (iniN (iniN (iniN (iniN (iniN ini0)))))))))) fun cdv A' outer s H E' hr =>
      (ss_cons (s_set (pS (pS (pS (pS p0)))) sc__law_great.nd (ie_fz (io_call c__law_draws hr (by decide) (by rfl) (ia_cons (ie_var v0) (ia_cons (ie_var (vS v0)) (ia_cons (ie_add (ie_int (i := 2)) (ie_mul (ie_int (i := 16)) (ie_var (vS (vS (vS v0)))))) ia_nil))))))
      (ss_cons (s_setO (pS (pS (pS (pS (pS p0))))) sc__law_great.nd (io_lst (il_nil (α := (S × S)))))
      (ss_cons (s_setO (pS (pS (pS (pS (pS (pS p0)))))) sc__law_great.nd (io_lst (il_nil (α := S))))
      (ss_cons (s_gh (ghT (trF (trF (trK (trK (trK (trK (trK (trF (trF (trF trN))))))))))) (s_for (E := No × No × S × Int × (List Int) × (Ow (S × S)) × (Ow S) × No × No × No × Unit) PassesOwn.never rfl (is_range1 (ie_var (vS (vS (vS v0)))) m_range) (pat1 (pS (pS (pS (pS (pS (pS (pS p0)))))))) (pg_name (i := 7) sc__law_great.nd rfl (by first | exact Or.inl rfl | exact Or.inr rfl))
        (ss_cons (s_set (pS (pS (pS (pS (pS (pS (pS (pS p0)))))))) sc__law_great.nd (ie_ixS (ie_var (vS (vS v0))) (ie_mod (ie_var (vS (vS (vS (vS (vS (vS (vS v0)))))))) (ie_lenS (ie_var (vS (vS v0))) m_len))))
      (ss_cons (s_if (E' := No × No × S × Int × (List Int) × (Ow (S × S)) × (Ow S) × Int × S × No × Unit) (it_ge (ie_var (vS (vS (vS (vS (vS (vS (vS v0)))))))) (ie_lenS (ie_var (vS (vS v0))) m_len))
        (ss_cons (s_set (pS (pS (pS (pS (pS (pS (pS (pS p0)))))))) sc__law_great.nd (ie_call c__law_word hr (by decide) (by rfl) (ia_cons (ie_var (vS (vS (vS (vS v0))))) (ia_cons (ie_add (ie_int (i := 2)) (ie_mul (ie_int (i := 16)) (ie_var (vS (vS (vS (vS (vS (vS (vS v0)))))))))) (ia_cons (ie_sliceS (ie_var (vS (vS v0))) (ip_some (ie_int (i := 1))) ip_none) (ia_cons (ie_int (i := 2)) (ia_cons (ie_int (i := 6)) ia_nil)))))))
      (ss_end ghI))
        (ss_end ghI))
      (ss_cons (s_if (E' := No × No × S × Int × (List Int) × (Ow (S × S)) × (Ow S) × No × No × No × Unit) (it_peek (fS (fS (fS (fS (fS (fS f0)))))) (it_nin (ie_var (vS (vS (vS (vS (vS (vS (vS (vS v0))))))))) (ie_var (vS (vS (vS (vS (vS (vS v0)))))))))
        (ss_cons (s_append (oS (oS (oS (oS (oS (oS o0)))))) (ie_var (vS (vS (vS (vS (vS (vS (vS (vS v0))))))))))
      (ss_cons (s_append (oS (oS (oS (oS (oS o0))))) (ie_tup2 (ie_var (vS (vS (vS (vS (vS (vS (vS (vS v0))))))))) (ie_call c__law_word hr (by decide) (by rfl) (ia_cons (ie_var (vS (vS (vS (vS v0))))) (ia_cons (ie_add (ie_int (i := 9)) (ie_mul (ie_int (i := 16)) (ie_var (vS (vS (vS (vS (vS (vS (vS v0)))))))))) (ia_cons (ie_addS (ie_var (vS (vS v0))) (ie_str ([48, 49] : S))) (ia_cons (ie_int (i := 0)) (ia_cons (ie_int (i := 8)) ia_nil))))))))
      (ss_end (ghT (trF (trF (trK (trK (trK (trK (trK (trF (trF (trF trN))))))))))))))
        (ss_end (ghT (trF (trF (trK (trK (trK (trK (trK (trF (trF (trF trN)))))))))))))
      (ss_end ghI))))))
      (ss_cons (s_set (pS (pS (pS (pS (pS (pS (pS (pS (pS p0))))))))) sc__law_great.nd (ie_peek (fS (fS (fS (fS (fS f0))))) (ie_mod (ie_ix (ie_var (vS (vS (vS (vS v0))))) (ie_int (i := 0))) (ie_lenL (ie_var (vS (vS (vS (vS (vS v0)))))) m_len))))
      (ss_last (s_gh (ghF (fS (fS (fS (fS (fS f0)))))) (s_retO (io_cat (ie_fz (io_slice (ie_var (vS (vS (vS (vS (vS v0)))))) (ip_some (ie_var (vS (vS (vS (vS (vS (vS (vS (vS (vS v0))))))))))) ip_none)) (ie_fz (io_slice (ie_var (vS (vS (vS (vS (vS v0)))))) (ip_some (ie_int (i := 0))) (ip_some (ie_var (vS (vS (vS (vS (vS (vS (vS (vS (vS v0))))))))))))))))))))))⟩
abbrev s__law_texts : Stmt := topS 29
theorem sc__law_texts : FnScope ["table", "signs", "strange", "draws", "unit", "at", "long", "plain", "k"] ["table", "signs", "strange", "draws"] (defScope s__law_texts) := ⟨rfl, rfl, rfl, by decide +kernel, rfl, by decide +kernel, by decide +kernel⟩
noncomputable def d__law_texts : { s : DefS ((List (S × S)) × S × S × (List Int) × Unit) (List S) // ∀ {P : Program} {w : World} {K : PySem.W.Frag} {mg : Str → Option Value} {base : Heap} {f : Addr} {fd : FuncData} (m_len : mg "len" = none) (m_range : mg "range" = none), Fun K "_law_texts" "_law_texts" s__law_texts f fd → mg "_law_texts" = some (.ref f) → Binds K fd ["table", "signs", "strange", "draws"] [] → Cal P w K mg base (1) "_law_texts" (spO s.m s.ok) } :=
  ⟨⟨_, _⟩, fun {P w K mg base f fd} m_len m_range F hm bd => cal_ofO (k := 0) (E := (List (S × S)) × S × S × (List Int) × No × No × No × No × No × Unit) F hm bd sc__law_texts (iniA (iniA (iniA (iniA (iniN (iniN (iniN (iniN (iniN ini0))))))))) fun cdv A' outer s H E' hr =>
      (ss_cons (s_set (pS (pS (pS (pS p0)))) sc__law_texts.nd (ie_join (ie_str ([] : S)) (ie_fz (LC.io (lc_m (own := [("k", 8)]) (wp := (wpS (nS (nS (nS (nS (nS (nS (nS (nS n0)))))))) wp0)) rfl sc__law_texts.nd (is_range1 (ie_int (i := 4)) m_range) (by kernel_rfl) (pat1 (pS (pS (pS (pS (pS (pS (pS (pS p0))))))))) (by decide) (fun _ _ _ _ _ => (pg_name (i := 8) sc__law_texts.nd rfl (by first | exact Or.inl rfl | exact Or.inr rfl))) (fun _ _ _ _ _ => (ie_fst (ie_ix (ie_var v0) (ie_mod (ie_ix (ie_var (vS (vS (vS v0)))) (ie_var (vS (vS (vS (vS (vS (vS (vS (vS v0)))))))))) (ie_lenL (ie_var v0) m_len))))))))))
      (ss_cons (s_set (pS (pS (pS (pS (pS p0))))) sc__law_texts.nd (ie_mod (ie_ix (ie_var (vS (vS (vS v0)))) (ie_int (i := 4))) (ie_int (i := 300))))
      (ss_cons (s_set (pS (pS (pS (pS (pS (pS p0)))))) sc__law_texts.nd (ie_sliceS (ie_mulS (ie_var (vS (vS (vS (vS v0))))) (ie_int (i := 380))) (ip_some (ie_int (i := 0))) (ip_some (ie_int (i := 380)))))
      (ss_cons (s_set (pS (pS (pS (pS (pS (pS (pS p0))))))) sc__law_texts.nd (ie_mulS (ie_ixS (ie_var (vS v0)) (ie_int (i := 0))) (ie_int (i := 380))))
      (ss_last (s_retO (io_lst (il_cons (ie_var (vS (vS (vS (vS (vS (vS v0))))))) (il_cons (ie_addS (ie_addS (ie_sliceS (ie_var (vS (vS (vS (vS (vS (vS (vS v0)))))))) (ip_some (ie_int (i := 0))) (ip_some (ie_var (vS (vS (vS (vS (vS v0)))))))) (ie_var (vS (vS (vS (vS v0)))))) (ie_sliceS (ie_var (vS (vS (vS (vS (vS (vS (vS v0)))))))) (ip_some (ie_add (ie_var (vS (vS (vS (vS (vS v0)))))) (ie_lenS (ie_var (vS (vS (vS (vS v0))))) m_len))) ip_none)) (il_cons (ie_var (vS (vS (vS (vS v0))))) (il_cons (ie_str ([] : S)) (il_cons (ie_addS (ie_addS (ie_sliceS (ie_var (vS (vS (vS (vS (vS (vS v0))))))) (ip_some (ie_int (i := 0))) (ip_some (ie_var (vS (vS (vS (vS (vS v0)))))))) (ie_var (vS (vS v0)))) (ie_sliceS (ie_var (vS (vS (vS (vS (vS (vS v0))))))) (ip_some (ie_add (ie_var (vS (vS (vS (vS (vS v0)))))) (ie_int (i := 1)))) ip_none)) (il_nil (α := S))))))))))))))⟩
abbrev s__law_checked : Stmt := topS 30
theorem sc__law_checked : FnScope ["table", "e"] ["table"] (defScope s__law_checked) := ⟨rfl, rfl, rfl, by decide +kernel, rfl, by decide +kernel, by decide +kernel⟩
noncomputable def d__law_checked : { s : DefS ((List (S × S)) × Unit) S // ∀ {P : Program} {w : World} {K : PySem.W.Frag} {mg : Str → Option Value} {base : Heap} {f : Addr} {fd : FuncData} (m_ValueError : mg "ValueError" = none) (m_int : mg "int" = none) (m_isinstance : mg "isinstance" = none) (m_list : mg "list" = none) {C_InvalidItem : Addr} (x_InvalidItem : ExcF K mg "InvalidItem" C_InvalidItem) {C_ScriptError : Addr} (x_ScriptError : ExcF K mg "ScriptError" C_ScriptError) {C_WrongCount : Addr} (x_WrongCount : ExcF K mg "WrongCount" C_WrongCount) (sb_InvalidItem_InvalidItem : PySem.W.subIn K (.ref C_InvalidItem) (.ref C_InvalidItem) = some true) (sb_InvalidItem_ScriptError : PySem.W.subIn K (.ref C_InvalidItem) (.ref C_ScriptError) = some true) (sb_WrongCount_InvalidItem : PySem.W.subIn K (.ref C_WrongCount) (.ref C_InvalidItem) = some false) (sb_WrongCount_WrongCount : PySem.W.subIn K (.ref C_WrongCount) (.ref C_WrongCount) = some true) (c_check_table : CalX P w K mg base 3 "check_table" (spX mg (d_check_table.1).m (d_check_table.1).ok)), Fun K "_law_checked" "_law_checked" s__law_checked f fd → mg "_law_checked" = some (.ref f) → Binds K fd ["table"] [] → Cal P w K mg base (4) "_law_checked" (spP s.m s.ok) } :=
  ⟨⟨_, _⟩, fun {P w K mg base f fd} m_ValueError m_int m_isinstance m_list C_InvalidItem x_InvalidItem C_ScriptError x_ScriptError C_WrongCount x_WrongCount sb_InvalidItem_InvalidItem sb_InvalidItem_ScriptError sb_WrongCount_InvalidItem sb_WrongCount_WrongCount c_check_table F hm bd => cal_of (k := 3) (E := (List (S × S)) × No × Unit) F hm bd sc__law_checked (iniA (iniN ini0)) fun cdv A' outer s H E' hr =>
      (ss_last (s_try (fun pn xe hp => (ss_last (s_ret (ie_ix (ie_fz (io_lst (il_cons (ie_str ([116, 111, 108, 100] : S)) (il_cons (ie_str ([103, 111, 111, 100] : S)) (il_nil (α := S)))))) (ie_intB (ie_isN (ie_unitO (ie_callK c_check_table hr (by decide) (by rfl) (ia_cons (ie_fz (io_list (ie_var v0) m_list)) ia_nil)))) m_int))))) (fun W pn xe tk => rss_one (rs_ret (ir_ix (ie_fz (io_lst (il_cons (ie_str ([116, 111, 108, 100] : S)) (il_cons (ie_str ([103, 111, 111, 100] : S)) (il_nil (α := S)))))) (ir_int (ir_isN (ir_call tk c_check_table hr (by decide) (by rfl) (ia_cons (ie_fz (io_list (ie_var v0) m_list)) ia_nil))) m_int)))) (th_named (pS p0) x_InvalidItem x_InvalidItem (tb_cons x_InvalidItem x_InvalidItem sb_InvalidItem_InvalidItem (tb_cons x_WrongCount x_InvalidItem sb_WrongCount_InvalidItem tb_nil)) sc__law_checked.nd (fun a oe pn hz hf => (ss_last (s_ret (ie_ix (ie_fz (io_lst (il_cons (ie_str ([111, 116, 104, 101, 114] : S)) (il_cons (ie_str ([105, 116, 101, 109] : S)) (il_nil (α := S)))))) (ie_intB (ie_and (ie_isE (vS v0) x_InvalidItem x_ScriptError sb_InvalidItem_ScriptError hz hf m_isinstance) (ie_one (ie_isVE (vS v0) x_InvalidItem hz hf m_isinstance m_ValueError))) m_int))))) (th_plain x_WrongCount (tb_cons x_WrongCount x_WrongCount sb_WrongCount_WrongCount tb_nil) (fun a oe cls d pn hz hf => (ss_last (s_ret (ie_str ([99, 111, 117, 110, 116] : S))))) th_nil))))⟩
abbrev s__law_parsed : Stmt := topS 31
theorem sc__law_parsed : FnScope ["table", "text", "e"] ["table", "text"] (defScope s__law_parsed) := ⟨rfl, rfl, rfl, by decide +kernel, rfl, by decide +kernel, by decide +kernel⟩
noncomputable def d__law_parsed : { s : DefS ((List (S × S)) × S × Unit) (List D) // ∀ {P : Program} {w : World} {K : PySem.W.Frag} {mg : Str → Option Value} {base : Heap} {f : Addr} {fd : FuncData} (m_isinstance : mg "isinstance" = none) (m_list : mg "list" = none) {C_NotTold : Addr} (x_NotTold : ExcF K mg "NotTold" C_NotTold) {C_ScriptError : Addr} (x_ScriptError : ExcF K mg "ScriptError" C_ScriptError) (sb_NotTold_NotTold : PySem.W.subIn K (.ref C_NotTold) (.ref C_NotTold) = some true) (sb_NotTold_ScriptError : PySem.W.subIn K (.ref C_NotTold) (.ref C_ScriptError) = some true) (c_parse : CalX P w K mg base 2 "parse" (spX mg (d_parse.1).m (d_parse.1).ok)), Fun K "_law_parsed" "_law_parsed" s__law_parsed f fd → mg "_law_parsed" = some (.ref f) → Binds K fd ["table", "text"] [] → Cal P w K mg base (3) "_law_parsed" (spO s.m s.ok) } :=
  ⟨⟨_, _⟩, fun {P w K mg base f fd} m_isinstance m_list C_NotTold x_NotTold C_ScriptError x_ScriptError sb_NotTold_NotTold sb_NotTold_ScriptError c_parse F hm bd => cal_ofO (k := 2) (E := (List (S × S)) × S × No × Unit) F hm bd sc__law_parsed (iniA (iniA (iniN ini0))) fun cdv A' outer s H E' hr =>
      (ss_last (s_try (fun pn xe hp => (ss_last (s_retO (io_lst (il_cons (ie_D (ie_str ([116, 111, 108, 100] : S))) (il_cons (ie_D (ie_callK c_parse hr (by decide) (by rfl) (ia_cons (ie_fz (io_list (ie_var v0) m_list)) (ia_cons (ie_var (vS v0)) ia_nil)))) (il_nil (α := D)))))))) (fun W pn xe tk => rss_one (rs_ret (ir_lst (ar_tl (ie_str ([116, 111, 108, 100] : S)) (ar_one (ir_call tk c_parse hr (by decide) (by rfl) (ia_cons (ie_fz (io_list (ie_var v0) m_list)) (ia_cons (ie_var (vS v0)) ia_nil)))))))) (th_named (pS (pS p0)) x_NotTold x_NotTold (tb_cons x_NotTold x_NotTold sb_NotTold_NotTold tb_nil) sc__law_parsed.nd (fun a oe pn hz hf => (ss_last (s_retO (io_lst (il_cons (ie_D (ie_str ([114, 97, 105, 115, 101, 100] : S))) (il_cons (ie_D (ie_isE (vS (vS v0)) x_NotTold x_ScriptError sb_NotTold_ScriptError hz hf m_isinstance)) (il_nil (α := D)))))))) th_nil)))⟩
abbrev s__law_spoken : Stmt := topS 32
theorem sc__law_spoken : FnScope ["table", "text", "e"] ["table", "text"] (defScope s__law_spoken) := ⟨rfl, rfl, rfl, by decide +kernel, rfl, by decide +kernel, by decide +kernel⟩
noncomputable def d__law_spoken : { s : DefS ((List (S × S)) × S × Unit) (List D) // ∀ {P : Program} {w : World} {K : PySem.W.Frag} {mg : Str → Option Value} {base : Heap} {f : Addr} {fd : FuncData} (m_isinstance : mg "isinstance" = none) (m_list : mg "list" = none) {C_NotTold : Addr} (x_NotTold : ExcF K mg "NotTold" C_NotTold) {C_ScriptError : Addr} (x_ScriptError : ExcF K mg "ScriptError" C_ScriptError) (sb_NotTold_NotTold : PySem.W.subIn K (.ref C_NotTold) (.ref C_NotTold) = some true) (sb_NotTold_ScriptError : PySem.W.subIn K (.ref C_NotTold) (.ref C_ScriptError) = some true) (c_told : CalX P w K mg base 3 "told" (spX mg (d_told.1).m (d_told.1).ok)), Fun K "_law_spoken" "_law_spoken" s__law_spoken f fd → mg "_law_spoken" = some (.ref f) → Binds K fd ["table", "text"] [] → Cal P w K mg base (4) "_law_spoken" (spO s.m s.ok) } :=
  ⟨⟨_, _⟩, fun {P w K mg base f fd} m_isinstance m_list C_NotTold x_NotTold C_ScriptError x_ScriptError sb_NotTold_NotTold sb_NotTold_ScriptError c_told F hm bd => cal_ofO (k := 3) (E := (List (S × S)) × S × No × Unit) F hm bd sc__law_spoken (iniA (iniA (iniN ini0))) fun cdv A' outer s H E' hr =>
      (ss_last (s_try (fun pn xe hp => (ss_last (s_retO (io_lst (il_cons (ie_D (ie_str ([116, 111, 108, 100] : S))) (il_cons (ie_D (ie_callK c_told hr (by decide) (by rfl) (ia_cons (ie_fz (io_list (ie_var v0) m_list)) (ia_cons (ie_var (vS v0)) ia_nil)))) (il_nil (α := D)))))))) (fun W pn xe tk => rss_one (rs_ret (ir_lst (ar_tl (ie_str ([116, 111, 108, 100] : S)) (ar_one (ir_call tk c_told hr (by decide) (by rfl) (ia_cons (ie_fz (io_list (ie_var v0) m_list)) (ia_cons (ie_var (vS v0)) ia_nil)))))))) (th_named (pS (pS p0)) x_NotTold x_NotTold (tb_cons x_NotTold x_NotTold sb_NotTold_NotTold tb_nil) sc__law_spoken.nd (fun a oe pn hz hf => (ss_last (s_retO (io_lst (il_cons (ie_D (ie_str ([114, 97, 105, 115, 101, 100] : S))) (il_cons (ie_D (ie_isE (vS (vS v0)) x_NotTold x_ScriptError sb_NotTold_ScriptError hz hf m_isinstance)) (il_nil (α := D)))))))) th_nil)))⟩
abbrev s__law_lists : Stmt := topS 33
theorem sc__law_lists : FnScope ["numbers", "count", "draws", "at", "found"] ["numbers", "count", "draws"] (defScope s__law_lists) := ⟨rfl, rfl, rfl, by decide +kernel, rfl, by decide +kernel, by decide +kernel⟩
noncomputable def d__law_lists : { s : DefS ((List Int) × Int × (List Int) × Unit) (List (List Int)) // ∀ {P : Program} {w : World} {K : PySem.W.Frag} {mg : Str → Option Value} {base : Heap} {f : Addr} {fd : FuncData} (m_len : mg "len" = none) (m_min : mg "min" = none), Fun K "_law_lists" "_law_lists" s__law_lists f fd → mg "_law_lists" = some (.ref f) → Binds K fd ["numbers", "count", "draws"] [] → Cal P w K mg base (1) "_law_lists" (spO s.m s.ok) } :=
  ⟨⟨_, _⟩, fun {P w K mg base f fd} m_len m_min F hm bd => cal_ofO (k := 0) (E := (List Int) × Int × (List Int) × No × No × Unit) F hm bd sc__law_lists (iniA (iniA (iniA (iniN (iniN ini0))))) fun cdv A' outer s H E' hr =>
      (ss_cons (s_set (pS (pS (pS p0))) sc__law_lists.nd (ie_sub (ie_sub (ie_lenL (ie_var v0) m_len) (ie_int (i := 1))) (ie_mod (ie_ix (ie_var (vS (vS v0))) (ie_int (i := 0))) (ie_min2 rfl (ie_lenL (ie_var v0) m_len) (ie_int (i := 40)) m_min))))
      (ss_cons (s_setO (pS (pS (pS (pS p0)))) sc__law_lists.nd (io_lst (il_cons (ie_var v0) (il_cons (ie_fz (io_cat (ie_fz (io_slice (ie_var v0) (ip_some (ie_int (i := 0))) (ip_some (ie_var (vS (vS (vS v0))))))) (ie_fz (io_slice (ie_var v0) (ip_some (ie_add (ie_var (vS (vS (vS v0)))) (ie_int (i := 1)))) ip_none)))) (il_cons (ie_fz (io_cat (ie_fz (io_cat (ie_fz (io_slice (ie_var v0) (ip_some (ie_int (i := 0))) (ip_some (ie_var (vS (vS (vS v0))))))) (ie_fz (io_lst (il_cons (ie_mod (ie_ix (ie_var (vS (vS v0))) (ie_int (i := 1))) (ie_var (vS v0))) (il_nil (α := Int))))))) (ie_fz (io_slice (ie_var v0) (ip_some (ie_add (ie_var (vS (vS (vS v0)))) (ie_int (i := 1)))) ip_none)))) (il_nil (α := (List Int))))))))
      (ss_cons (s_append (oS (oS (oS (oS o0)))) (ie_fz (io_cat (ie_fz (io_cat (ie_fz (io_slice (ie_var v0) (ip_some (ie_int (i := 0))) (ip_some (ie_var (vS (vS (vS v0))))))) (ie_fz (io_lst (il_cons (ie_var (vS v0)) (il_nil (α := Int))))))) (ie_fz (io_slice (ie_var v0) (ip_some (ie_add (ie_var (vS (vS (vS v0)))) (ie_int (i := 1)))) ip_none)))))
      (ss_cons (s_append (oS (oS (oS (oS o0)))) (ie_fz (io_cat (ie_fz (io_cat (ie_fz (io_slice (ie_var v0) (ip_some (ie_int (i := 0))) (ip_some (ie_var (vS (vS (vS v0))))))) (ie_fz (io_lst (il_cons (ie_sub (ie_sub (ie_int (i := 0)) (ie_int (i := 1))) (ie_mod (ie_ix (ie_var (vS (vS v0))) (ie_int (i := 2))) (ie_var (vS v0)))) (il_nil (α := Int))))))) (ie_fz (io_slice (ie_var v0) (ip_some (ie_add (ie_var (vS (vS (vS v0)))) (ie_int (i := 1)))) ip_none)))))
      (ss_last (s_gh (ghF (fS (fS (fS (fS f0))))) (s_retO (io_cat (ie_var (vS (vS (vS (vS v0))))) (ie_fz (io_lst (il_cons (ie_fz (io_cat (ie_fz (io_cat (ie_fz (io_slice (ie_var v0) (ip_some (ie_int (i := 0))) (ip_some (ie_var (vS (vS (vS v0))))))) (ie_fz (io_revL (ie_fz (io_slice (ie_var v0) (ip_some (ie_var (vS (vS (vS v0))))) (ip_some (ie_add (ie_var (vS (vS (vS v0)))) (ie_int (i := 2)))))))))) (ie_fz (io_slice (ie_var v0) (ip_some (ie_add (ie_var (vS (vS (vS v0)))) (ie_int (i := 2)))) ip_none)))) (il_nil (α := (List Int))))))))))))))⟩
abbrev s__law_is_parse : Stmt := topS 34
theorem sc__law_is_parse : FnScope ["table", "numbers", "k"] ["table", "numbers"] (defScope s__law_is_parse) := ⟨rfl, rfl, rfl, by decide +kernel, rfl, by decide +kernel, by decide +kernel⟩
noncomputable def d__law_is_parse : { s : DefS ((List (S × S)) × (List Int) × Unit) Bool // ∀ {P : Program} {w : World} {K : PySem.W.Frag} {mg : Str → Option Value} {base : Heap} {f : Addr} {fd : FuncData} (m_len : mg "len" = none) (c__law_parse : Cal P w K mg base 1 "_law_parse" (spP (d__law_parse.1).m (d__law_parse.1).ok)), Fun K "_law_is_parse" "_law_is_parse" s__law_is_parse f fd → mg "_law_is_parse" = some (.ref f) → Binds K fd ["table", "numbers"] [] → Cal P w K mg base (2) "_law_is_parse" (spP s.m s.ok) } :=
  ⟨⟨_, _⟩, fun {P w K mg base f fd} m_len c__law_parse F hm bd => cal_of (k := 1) (E := (List (S × S)) × (List Int) × No × Unit) F hm bd sc__law_is_parse (iniA (iniA (iniN ini0))) fun cdv A' outer s H E' hr =>
      (ss_cons (s_if (E' := (List (S × S)) × (List Int) × No × Unit) (it_gt (ie_lenL (ie_fz (LC.io (lc_c (own := [("k", 2)]) (wp := (wpS (nS (nS n0)) wp0)) rfl sc__law_is_parse.nd (is_list (ie_var (vS v0))) (by kernel_rfl) (pat1 (pS (pS p0))) (by decide) (fun _ _ _ _ _ => (pg_name (i := 2) sc__law_is_parse.nd rfl (by first | exact Or.inl rfl | exact Or.inr rfl))) (fun _ _ _ _ _ => its_one (it_w (iw_or (it_lt (ie_var (vS (vS v0))) (ie_int (i := 0))) (iw_or1 (it_ge (ie_var (vS (vS v0))) (ie_lenL (ie_var v0) m_len)))))) (fun _ _ _ _ _ => (ie_var (vS (vS v0))))))) m_len) (ie_int (i := 0)))
        (ss_last (s_ret (ie_bl (i := false))))
        (ss_end ghI))
      (ss_last (s_ret (ie_eqD hr (ie_call c__law_parse hr (by decide) (by rfl) (ia_cons (ie_var v0) (ia_cons (ie_join (ie_str ([] : S)) (ie_fz (LC.io (lc_m (own := [("k", 2)]) (wp := (wpS (nS (nS n0)) wp0)) rfl sc__law_is_parse.nd (is_list (ie_var (vS v0))) (by kernel_rfl) (pat1 (pS (pS p0))) (by decide) (fun _ _ _ _ _ => (pg_name (i := 2) sc__law_is_parse.nd rfl (by first | exact Or.inl rfl | exact Or.inr rfl))) (fun _ _ _ _ _ => (ie_fst (ie_ix (ie_var v0) (ie_var (vS (vS v0)))))))))) ia_nil))) (ie_some (ie_var (vS v0)))))))⟩
abbrev s__law_told_all : Stmt := topS 35
theorem sc__law_told_all : FnScope ["table", "signs", "strange", "draws", "texts", "place", "text", "numbers", "due", "other", "k"] ["table", "signs", "strange", "draws"] (defScope s__law_told_all) := ⟨rfl, rfl, rfl, by decide +kernel, rfl, by decide +kernel, by decide +kernel⟩
noncomputable def d__law_told_all : { s : DefS ((List (S × S)) × S × S × (List Int) × Unit) Bool // ∀ {P : Program} {w : World} {K : PySem.W.Frag} {mg : Str → Option Value} {base : Heap} {f : Addr} {fd : FuncData} (m_len : mg "len" = none) (m_list : mg "list" = none) (m_range : mg "range" = none) (c__law_texts : Cal P w K mg base 1 "_law_texts" (spO (d__law_texts.1).m (d__law_texts.1).ok)) (c__law_parse : Cal P w K mg base 1 "_law_parse" (spP (d__law_parse.1).m (d__law_parse.1).ok)) (c__law_spoken : Cal P w K mg base 4 "_law_spoken" (spO (d__law_spoken.1).m (d__law_spoken.1).ok)) (c__law_parsed : Cal P w K mg base 3 "_law_parsed" (spO (d__law_parsed.1).m (d__law_parsed.1).ok)) (c__law_same : Cal P w K mg base 8 "_law_same" (spP (d__law_same.1).m (d__law_same.1).ok)) (c_text_of : Cal P w K mg base 1 "text_of" (spP (d_text_of.1).m (d_text_of.1).ok)) (c__law_lists : Cal P w K mg base 1 "_law_lists" (spO (d__law_lists.1).m (d__law_lists.1).ok)) (c__law_is_parse : Cal P w K mg base 2 "_law_is_parse" (spP (d__law_is_parse.1).m (d__law_is_parse.1).ok)) (c_is_parse : Cal P w K mg base 4 "is_parse" (spP (d_is_parse.1).m (d_is_parse.1).ok)), Fun K "_law_told_all" "_law_told_all" s__law_told_all f fd → mg "_law_told_all" = some (.ref f) → Binds K fd ["table", "signs", "strange", "draws"] [] → Cal P w K mg base (9) "_law_told_all" (spP s.m s.ok) } :=
  ⟨⟨_, _⟩, fun {P w K mg base f fd} m_len m_list m_range c__law_texts c__law_parse c__law_spoken c__law_parsed c__law_same c_text_of c__law_lists c__law_is_parse c_is_parse F hm bd => cal_of (k := 8) (E := (List (S × S)) × S × S × (List Int) × No × No × No × No × No × No × No × Unit) F hm bd sc__law_told_all (iniA (iniA (iniA (iniA (iniN (iniN (iniN (iniN (iniN (iniN (iniN ini0))))))))))) fun cdv A' outer s H E' hr =>
      (ss_cons (s_set (pS (pS (pS (pS p0)))) sc__law_told_all.nd (ie_fz (io_call c__law_texts hr (by decide) (by rfl) (ia_cons (ie_var v0) (ia_cons (ie_var (vS v0)) (ia_cons (ie_var (vS (vS v0))) (ia_cons (ie_var (vS (vS (vS v0)))) ia_nil)))))))
      (ss_cons (s_gh (ghT (trK (trF (trF (trK (trK (trF (trF (trF (trF (trF (trF trN)))))))))))) (s_for (E := (List (S × S)) × No × No × (List Int) × (List S) × No × No × No × No × No × No × Unit) PassesOwn.never rfl (is_range1 (ie_lenL (ie_var (vS (vS (vS (vS v0))))) m_len) m_range) (pat1 (pS (pS (pS (pS (pS p0)))))) (pg_name (i := 5) sc__law_told_all.nd rfl (by first | exact Or.inl rfl | exact Or.inr rfl))
        (ss_cons (s_set (pS (pS (pS (pS (pS (pS p0)))))) sc__law_told_all.nd (ie_ix (ie_var (vS (vS (vS (vS v0))))) (ie_var (vS (vS (vS (vS (vS v0))))))))
      (ss_cons (s_set (pS (pS (pS (pS (pS (pS (pS p0))))))) sc__law_told_all.nd (ie_call c__law_parse hr (by decide) (by rfl) (ia_cons (ie_var v0) (ia_cons (ie_var (vS (vS (vS (vS (vS (vS v0))))))) ia_nil))))
      (ss_cons (s_set (pS (pS (pS (pS (pS (pS (pS (pS p0)))))))) sc__law_told_all.nd (ie_fz (io_lst (il_cons (ie_D (ie_fz (io_lst (il_cons (ie_D (ie_str ([114, 97, 105, 115, 101, 100] : S))) (il_cons (ie_D (ie_bl (i := true))) (il_nil (α := D))))))) (il_cons (ie_D (ie_fz (io_lst (il_cons (ie_D (ie_str ([114, 97, 105, 115, 101, 100] : S))) (il_cons (ie_D (ie_bl (i := true))) (il_nil (α := D))))))) (il_nil (α := D)))))))
      (ss_cons (s_if (E' := (List (S × S)) × No × No × (List Int) × (List S) × Int × S × (Option (List Int)) × (List D) × No × No × Unit) (it_notN (ie_var (vS (vS (vS (vS (vS (vS (vS v0)))))))))
        (ss_cons (s_set (pS (pS (pS (pS (pS (pS (pS (pS p0)))))))) sc__law_told_all.nd (ie_fz (io_lst (il_cons (ie_D (ie_fz (io_lst (il_cons (ie_D (ie_str ([116, 111, 108, 100] : S))) (il_cons (ie_D (ie_var (vS (vS (vS (vS (vS (vS (vS v0))))))))) (il_nil (α := D))))))) (il_cons (ie_D (ie_fz (io_lst (il_cons (ie_D (ie_str ([116, 111, 108, 100] : S))) (il_cons (ie_D (ie_join (ie_str ([] : S)) (ie_fz (LC.io (lc_m (own := [("k", 10)]) (wp := (wpS (nS (nS (nS (nS (nS (nS (nS (nS (nS (nS n0)))))))))) wp0)) rfl sc__law_told_all.nd (is_list (ie_unO (ie_var (vS (vS (vS (vS (vS (vS (vS v0)))))))))) (by kernel_rfl) (pat1 (pS (pS (pS (pS (pS (pS (pS (pS (pS (pS p0))))))))))) (by decide) (fun _ _ _ _ _ => (pg_name (i := 10) sc__law_told_all.nd rfl (by first | exact Or.inl rfl | exact Or.inr rfl))) (fun _ _ _ _ _ => (ie_snd (ie_ix (ie_var v0) (ie_var (vS (vS (vS (vS (vS (vS (vS (vS (vS (vS v0))))))))))))))))))) (il_nil (α := D))))))) (il_nil (α := D)))))))
      (ss_end ghI))
        (ss_end ghI))
      (ss_cons (s_if (E' := (List (S × S)) × No × No × (List Int) × (List S) × Int × S × (Option (List Int)) × (List D) × No × No × Unit) (it_not (it_val (ie_call c__law_same hr (by decide) (by rfl) (ia_cons (ie_D (ie_fz (io_lst (il_cons (ie_D (ie_fz (io_call c__law_parsed hr (by decide) (by rfl) (ia_cons (ie_var v0) (ia_cons (ie_var (vS (vS (vS (vS (vS (vS v0))))))) ia_nil))))) (il_cons (ie_D (ie_fz (io_call c__law_spoken hr (by decide) (by rfl) (ia_cons (ie_var v0) (ia_cons (ie_var (vS (vS (vS (vS (vS (vS v0))))))) ia_nil))))) (il_nil (α := D))))))) (ia_cons (ie_D (ie_var (vS (vS (vS (vS (vS (vS (vS (vS v0)))))))))) ia_nil)))))
        (ss_last (s_ret (ie_bl (i := false))))
        (ss_end ghI))
      (ss_cons (s_if (E' := (List (S × S)) × No × No × (List Int) × (List S) × Int × S × (Option (List Int)) × (List D) × No × No × Unit) (it_w (iw_and (it_notN (ie_var (vS (vS (vS (vS (vS (vS (vS v0))))))))) (iw_and1 (it_not (it_val (ie_call c__law_same hr (by decide) (by rfl) (ia_cons (ie_D (ie_call c_text_of hr (by decide) (by rfl) (ia_cons (ie_fz (io_list (ie_var v0) m_list)) (ia_cons (ie_fz (io_list (ie_unO (ie_var (vS (vS (vS (vS (vS (vS (vS v0))))))))) m_list)) ia_nil)))) (ia_cons (ie_D (ie_var (vS (vS (vS (vS (vS (vS v0)))))))) ia_nil))))))))
        (ss_last (s_ret (ie_bl (i := false))))
        (ss_end ghI))
      (ss_cons (s_if (E' := (List (S × S)) × No × No × (List Int) × (List S) × No × No × No × No × No × No × Unit) (it_w (iw_and (it_notN (ie_var (vS (vS (vS (vS (vS (vS (vS v0))))))))) (iw_and1 (it_lt (ie_var (vS (vS (vS (vS (vS v0)))))) (ie_int (i := 2))))))
        (ss_cons (s_gh (ghT (trK (trF (trF (trK (trK (trF (trF (trK (trF (trF (trF trN)))))))))))) (s_for (E := (List (S × S)) × No × No × (List Int) × (List S) × No × No × (Option (List Int)) × No × No × No × Unit) PassesOwn.never rfl (is_list (ie_fz (io_call c__law_lists hr (by decide) (by rfl) (ia_cons (ie_unO (ie_var (vS (vS (vS (vS (vS (vS (vS v0))))))))) (ia_cons (ie_lenL (ie_var v0) m_len) (ia_cons (ie_fz (io_slice (ie_var (vS (vS (vS v0)))) (ip_some (ie_int (i := 5))) ip_none)) ia_nil)))))) (pat1 (pS (pS (pS (pS (pS (pS (pS (pS (pS p0)))))))))) (pg_name (i := 9) sc__law_told_all.nd rfl (by first | exact Or.inl rfl | exact Or.inr rfl))
        (ss_cons (s_if (E' := (List (S × S)) × No × No × (List Int) × (List S) × No × No × (Option (List Int)) × No × (List Int) × No × Unit) (it_not (it_val (ie_call c__law_same hr (by decide) (by rfl) (ia_cons (ie_D (ie_call c_is_parse hr (by decide) (by rfl) (ia_cons (ie_fz (io_list (ie_var v0) m_list)) (ia_cons (ie_fz (io_list (ie_var (vS (vS (vS (vS (vS (vS (vS (vS (vS v0)))))))))) m_list)) ia_nil)))) (ia_cons (ie_D (ie_call c__law_is_parse hr (by decide) (by rfl) (ia_cons (ie_var v0) (ia_cons (ie_var (vS (vS (vS (vS (vS (vS (vS (vS (vS v0)))))))))) ia_nil)))) ia_nil)))))
        (ss_last (s_ret (ie_bl (i := false))))
        (ss_end ghI))
      (ss_end (ghT (trK (trF (trF (trK (trK (trF (trF (trK (trF (trF (trF trN))))))))))))))))
      (ss_end (ghT (trK (trF (trF (trK (trK (trF (trF (trF (trF (trF (trF trN))))))))))))))
        (ss_end (ghT (trK (trF (trF (trK (trK (trF (trF (trF (trF (trF (trF trN))))))))))))))
      (ss_end ghI))))))))))
      (ss_last (s_ret (ie_bl (i := true))))))⟩
abbrev s_law : Stmt := topS 36
theorem sc_law : FnScope ["script", "draws", "every", "signs", "table", "left", "right", "twin", "spot", "part", "handed", "some", "kept", "used", "full", "item", "sign"] ["script"] (defScope s_law) := ⟨rfl, rfl, rfl, by decide +kernel, rfl, by decide +kernel, by decide +kernel⟩
noncomputable def g_law (M__law_draws : Scr × Int × Int × Unit → (List Int)) (O__law_draws : Scr × Int × Int × Unit → Prop) (M__law_signs : Int × Int × Unit → S) (O__law_signs : Int × Int × Unit → Prop) (M__law_great : Scr × Int × S × Int × Unit → (List (S × S))) (O__law_great : Scr × Int × S × Int × Unit → Prop) (M__law_checked : (List (S × S)) × Unit → S) (O__law_checked : (List (S × S)) × Unit → Prop) (M_is_full : (List (S × S)) × Unit → Bool) (O_is_full : (List (S × S)) × Unit → Prop) (M_signs_of : (List (S × S)) × Unit → (List S)) (O_signs_of : (List (S × S)) × Unit → Prop) (M__law_same : D × D × Unit → Bool) (O__law_same : D × D × Unit → Prop) (M__law_told_all : (List (S × S)) × S × S × (List Int) × Unit → Bool) (O__law_told_all : (List (S × S)) × S × S × (List Int) × Unit → Prop) : { s : DefS (Scr × Unit) Bool // ∀ {P : Program} {w : World} {K : PySem.W.Frag} {mg : Str → Option Value} {base : Heap} {f : Addr} {fd : FuncData} (m_int : mg "int" = none) (m_len : mg "len" = none) (m_list : mg "list" = none) (m_sorted : mg "sorted" = none) (c__law_draws : Cal P w K mg base 2 "_law_draws" (spO M__law_draws O__law_draws)) (c__law_signs : Cal P w K mg base 1 "_law_signs" (spP M__law_signs O__law_signs)) (c__law_great : Cal P w K mg base 3 "_law_great" (spO M__law_great O__law_great)) (c__law_checked : Cal P w K mg base 4 "_law_checked" (spP M__law_checked O__law_checked)) (c_is_full : Cal P w K mg base 2 "is_full" (spP M_is_full O_is_full)) (c_signs_of : Cal P w K mg base 1 "signs_of" (spP M_signs_of O_signs_of)) (c__law_same : Cal P w K mg base 8 "_law_same" (spP M__law_same O__law_same)) (c__law_told_all : Cal P w K mg base 9 "_law_told_all" (spP M__law_told_all O__law_told_all)), Fun K "law" "law" s_law f fd → FnOk P w K mg base CX0 10 f fd ["script"] (spP s.m s.ok) } :=
  ⟨⟨_, _⟩, fun {P w K mg base f fd} m_int m_len m_list m_sorted c__law_draws c__law_signs c__law_great c__law_checked c_is_full c_signs_of c__law_same c__law_told_all F => fnok_of (k := 9) (E := Scr × No × No × No × No × No × No × No × No × No × No × No × No × No × No × No × No × Unit) F sc_law (iniA (iniN (iniN (iniN (iniN (iniN (iniN (iniN (iniN (iniN (iniN (iniN (iniN (iniN (iniN (iniN (iniN ini0))))))))))))))))) fun cdv A' outer s H E' hr =>
      (ss_cons (s_set (pS p0) sc_law.nd (ie_fz (io_call c__law_draws hr (by decide) (by rfl) (ia_cons (ie_var v0) (ia_cons (ie_int (i := 0)) (ia_cons (ie_int (i := 20)) ia_nil))))))
      (ss_cons (s_set (pS (pS p0)) sc_law.nd (ie_call c__law_signs hr (by decide) (by rfl) (ia_cons (ie_ix (ie_var (vS v0)) (ie_int (i := 0))) (ia_cons (ie_int (i := 7)) ia_nil))))
      (ss_cons (s_set (pS (pS (pS p0))) sc_law.nd (ie_sliceS (ie_var (vS (vS v0))) (ip_some (ie_int (i := 0))) (ip_some (ie_add (ie_int (i := 2)) (ie_mod (ie_ix (ie_var (vS v0)) (ie_int (i := 1))) (ie_int (i := 5)))))))
      (ss_cons (s_set (pS (pS (pS (pS p0)))) sc_law.nd (ie_fz (io_call c__law_great hr (by decide) (by rfl) (ia_cons (ie_var v0) (ia_cons (ie_int (i := 1)) (ia_cons (ie_var (vS (vS (vS v0)))) (ia_cons (ie_sub (ie_int (i := 40)) (ie_mod (ie_ix (ie_var (vS v0)) (ie_int (i := 2))) (ie_int (i := 25)))) ia_nil)))))))
      (ss_cons (s_pat (pat2 (K := K) (pat1 (pS (pS (pS (pS (pS p0)))))) (pat1 (pS (pS (pS (pS (pS (pS p0)))))))) (pg_tup rfl (pgs_cons (pg_name (i := 5) sc_law.nd rfl (by first | exact Or.inl rfl | exact Or.inr rfl)) (pgs_cons (pg_name (i := 6) sc_law.nd rfl (by first | exact Or.inl rfl | exact Or.inr rfl)) pgs_nil))) (ie_ix (ie_var (vS (vS (vS (vS v0))))) (ie_mod (ie_ix (ie_var (vS v0)) (ie_int (i := 3))) (ie_lenL (ie_var (vS (vS (vS (vS v0))))) m_len))))
      (ss_cons (s_set (pS (pS (pS (pS (pS (pS (pS p0))))))) sc_law.nd (ie_tup2 (ie_var (vS (vS (vS (vS (vS v0)))))) (ie_ix (ie_fz (io_lst (il_cons (ie_str ([48] : S)) (il_cons (ie_sliceS (ie_var (vS (vS (vS (vS (vS (vS v0))))))) (ip_some (ie_int (i := 1))) ip_none) (il_nil (α := S)))))) (ie_intB (ie_ne (ie_var (vS (vS (vS (vS (vS (vS v0))))))) (ie_str ([] : S))) m_int))))
      (ss_cons (s_set (pS (pS (pS (pS (pS (pS (pS (pS p0)))))))) sc_law.nd (ie_mod (ie_ix (ie_var (vS v0)) (ie_int (i := 4))) (ie_add (ie_lenL (ie_var (vS (vS (vS (vS v0))))) m_len) (ie_int (i := 1)))))
      (ss_cons (s_if (E' := Scr × (List Int) × S × S × (List (S × S)) × S × S × (S × S) × Int × No × No × No × No × No × No × No × No × Unit) (it_w (iw_or (it_ne (ie_call c__law_checked hr (by decide) (by rfl) (ia_cons (ie_var (vS (vS (vS (vS v0))))) ia_nil)) (ie_str ([103, 111, 111, 100] : S))) (iw_or1 (it_ne (ie_call c__law_checked hr (by decide) (by rfl) (ia_cons (ie_fz (io_cat (ie_fz (io_cat (ie_fz (io_slice (ie_var (vS (vS (vS (vS v0))))) (ip_some (ie_int (i := 0))) (ip_some (ie_var (vS (vS (vS (vS (vS (vS (vS (vS v0)))))))))))) (ie_fz (io_lst (il_cons (ie_var (vS (vS (vS (vS (vS (vS (vS v0)))))))) (il_nil (α := (S × S)))))))) (ie_fz (io_slice (ie_var (vS (vS (vS (vS v0))))) (ip_some (ie_var (vS (vS (vS (vS (vS (vS (vS (vS v0)))))))))) ip_none)))) ia_nil)) (ie_str ([105, 116, 101, 109] : S))))))
        (ss_last (s_ret (ie_bl (i := false))))
        (ss_end ghI))
      (ss_cons (s_setLc (pS (pS (pS (pS (pS (pS (pS (pS (pS p0))))))))) (lc_c (own := [("item", 15)]) (wp := (wpS (nS (nS (nS (nS (nS (nS (nS (nS (nS (nS (nS (nS (nS (nS (nS n0))))))))))))))) wp0)) rfl sc_law.nd (is_list (ie_var (vS (vS (vS (vS v0)))))) (by kernel_rfl) (pat1 (pS (pS (pS (pS (pS (pS (pS (pS (pS (pS (pS (pS (pS (pS (pS p0)))))))))))))))) (by decide) (fun _ _ _ _ _ => (pg_name (i := 15) sc_law.nd rfl (by first | exact Or.inl rfl | exact Or.inr rfl))) (fun _ _ _ _ _ => its_one (it_ne (ie_fst (ie_var (vS (vS (vS (vS (vS (vS (vS (vS (vS (vS (vS (vS (vS (vS (vS v0))))))))))))))))) (ie_ixS (ie_var (vS (vS (vS v0)))) (ie_int (i := 1))))) (fun _ _ _ _ _ => (ie_var (vS (vS (vS (vS (vS (vS (vS (vS (vS (vS (vS (vS (vS (vS (vS v0)))))))))))))))))) rfl (sw_true rfl rfl rfl (by decide +kernel)))
      (ss_cons (s_set (pS (pS (pS (pS (pS (pS (pS (pS (pS (pS p0)))))))))) sc_law.nd (ie_fz (io_lst (il_cons (ie_fz (io_list (ie_var (vS (vS (vS (vS v0))))) m_list)) (il_cons (ie_fz (io_list (ie_var (vS (vS (vS (vS (vS (vS (vS (vS (vS v0)))))))))) m_list)) (il_nil (α := (List (S × S)))))))))
      (ss_cons (s_gh (ghT (trF (trK (trK (trK (trK (trF (trF (trF (trF (trK (trK (trF (trF (trF (trF (trF (trF trN)))))))))))))))))) (s_for (E := No × (List Int) × S × S × (List (S × S)) × No × No × No × No × (List (S × S)) × (List (List (S × S))) × No × No × No × No × No × No × Unit) PassesOwn.never rfl (is_list (ie_var (vS (vS (vS (vS (vS (vS (vS (vS (vS (vS v0)))))))))))) (pat1 (pS (pS (pS (pS (pS (pS (pS (pS (pS (pS (pS p0)))))))))))) (pg_name (i := 11) sc_law.nd rfl (by first | exact Or.inl rfl | exact Or.inr rfl))
        (ss_cons (s_set (pS (pS (pS (pS (pS (pS (pS (pS (pS (pS (pS (pS p0)))))))))))) sc_law.nd (ie_fz (io_list (ie_var (vS (vS (vS (vS (vS (vS (vS (vS (vS (vS (vS v0)))))))))))) m_list)))
      (ss_cons (s_set (pS (pS (pS (pS (pS (pS (pS (pS (pS (pS (pS (pS (pS p0))))))))))))) sc_law.nd (ie_fz (io_sortS (ie_fz (LC.io (lc_c (own := [("sign", 16)]) (wp := (wpS (nS (nS (nS (nS (nS (nS (nS (nS (nS (nS (nS (nS (nS (nS (nS (nS n0)))))))))))))))) wp0)) rfl sc_law.nd (is_str (ie_var (vS (vS (vS v0))))) (by kernel_rfl) (pat1 (pS (pS (pS (pS (pS (pS (pS (pS (pS (pS (pS (pS (pS (pS (pS (pS p0))))))))))))))))) (by decide) (fun _ _ _ _ _ => (pg_name (i := 16) sc_law.nd rfl (by first | exact Or.inl rfl | exact Or.inr rfl))) (fun _ _ _ _ _ => its_one (it_gt (ie_lenL (ie_fz (LC.io (lc_c (own := [("item", 15)]) (wp := (wpS (nS (nS (nS (nS (nS (nS (nS (nS (nS (nS (nS (nS (nS (nS (nS n0))))))))))))))) wp0)) rfl sc_law.nd (is_list (ie_var (vS (vS (vS (vS (vS (vS (vS (vS (vS (vS (vS (vS v0)))))))))))))) (by kernel_rfl) (pat1 (pS (pS (pS (pS (pS (pS (pS (pS (pS (pS (pS (pS (pS (pS (pS p0)))))))))))))))) (by decide) (fun _ _ _ _ _ => (pg_name (i := 15) sc_law.nd rfl (by first | exact Or.inl rfl | exact Or.inr rfl))) (fun _ _ _ _ _ => its_one (it_inS (ie_var (vS (vS (vS (vS (vS (vS (vS (vS (vS (vS (vS (vS (vS (vS (vS (vS v0))))))))))))))))) (ie_fst (ie_var (vS (vS (vS (vS (vS (vS (vS (vS (vS (vS (vS (vS (vS (vS (vS v0))))))))))))))))))) (fun _ _ _ _ _ => (ie_var (vS (vS (vS (vS (vS (vS (vS (vS (vS (vS (vS (vS (vS (vS (vS v0)))))))))))))))))))) m_len) (ie_int (i := 0)))) (fun _ _ _ _ _ => (ie_var (vS (vS (vS (vS (vS (vS (vS (vS (vS (vS (vS (vS (vS (vS (vS (vS v0))))))))))))))))))))) m_sorted)))
      (ss_cons (s_set (pS (pS (pS (pS (pS (pS (pS (pS (pS (pS (pS (pS (pS (pS p0)))))))))))))) sc_law.nd (ie_eq (ie_lenL (ie_fz (LC.io (lc_c (own := [("sign", 16)]) (wp := (wpS (nS (nS (nS (nS (nS (nS (nS (nS (nS (nS (nS (nS (nS (nS (nS (nS n0)))))))))))))))) wp0)) rfl sc_law.nd (is_list (ie_var (vS (vS (vS (vS (vS (vS (vS (vS (vS (vS (vS (vS (vS v0))))))))))))))) (by kernel_rfl) (pat1 (pS (pS (pS (pS (pS (pS (pS (pS (pS (pS (pS (pS (pS (pS (pS (pS p0))))))))))))))))) (by decide) (fun _ _ _ _ _ => (pg_name (i := 16) sc_law.nd rfl (by first | exact Or.inl rfl | exact Or.inr rfl))) (fun _ _ _ _ _ => its_one (it_nin (ie_var (vS (vS (vS (vS (vS (vS (vS (vS (vS (vS (vS (vS (vS (vS (vS (vS v0))))))))))))))))) (ie_fz (LC.io (lc_m (own := [("item", 15)]) (wp := (wpS (nS (nS (nS (nS (nS (nS (nS (nS (nS (nS (nS (nS (nS (nS (nS n0))))))))))))))) wp0)) rfl sc_law.nd (is_list (ie_var (vS (vS (vS (vS (vS (vS (vS (vS (vS (vS (vS (vS v0)))))))))))))) (by kernel_rfl) (pat1 (pS (pS (pS (pS (pS (pS (pS (pS (pS (pS (pS (pS (pS (pS (pS p0)))))))))))))))) (by decide) (fun _ _ _ _ _ => (pg_name (i := 15) sc_law.nd rfl (by first | exact Or.inl rfl | exact Or.inr rfl))) (fun _ _ _ _ _ => (ie_fst (ie_var (vS (vS (vS (vS (vS (vS (vS (vS (vS (vS (vS (vS (vS (vS (vS v0))))))))))))))))))))))) (fun _ _ _ _ _ => (ie_var (vS (vS (vS (vS (vS (vS (vS (vS (vS (vS (vS (vS (vS (vS (vS (vS v0))))))))))))))))))))) m_len) (ie_int (i := 0))))
      (ss_cons (s_if (E' := No × (List Int) × S × S × (List (S × S)) × No × No × No × No × (List (S × S)) × (List (List (S × S))) × (List (S × S)) × (List (S × S)) × (List S) × Bool × No × No × Unit) (it_not (it_val (ie_call c__law_same hr (by decide) (by rfl) (ia_cons (ie_D (ie_fz (io_lst (il_cons (ie_D (ie_call c_signs_of hr (by decide) (by rfl) (ia_cons (ie_var (vS (vS (vS (vS (vS (vS (vS (vS (vS (vS (vS v0)))))))))))) ia_nil))) (il_cons (ie_D (ie_call c_is_full hr (by decide) (by rfl) (ia_cons (ie_var (vS (vS (vS (vS (vS (vS (vS (vS (vS (vS (vS v0)))))))))))) ia_nil))) (il_nil (α := D))))))) (ia_cons (ie_D (ie_fz (io_lst (il_cons (ie_D (ie_var (vS (vS (vS (vS (vS (vS (vS (vS (vS (vS (vS (vS (vS v0))))))))))))))) (il_cons (ie_D (ie_var (vS (vS (vS (vS (vS (vS (vS (vS (vS (vS (vS (vS (vS (vS v0)))))))))))))))) (il_nil (α := D))))))) ia_nil)))))
        (ss_last (s_ret (ie_bl (i := false))))
        (ss_end ghI))
      (ss_cons (s_if (E' := No × (List Int) × S × S × (List (S × S)) × No × No × No × No × (List (S × S)) × (List (List (S × S))) × (List (S × S)) × (List (S × S)) × (List S) × Bool × No × No × Unit) (it_w (iw_or (it_not (it_val (ie_call c__law_told_all hr (by decide) (by rfl) (ia_cons (ie_var (vS (vS (vS (vS (vS (vS (vS (vS (vS (vS (vS (vS v0))))))))))))) (ia_cons (ie_var (vS (vS (vS v0)))) (ia_cons (ie_ixS (ie_var (vS (vS v0))) (ie_int (i := 6))) (ia_cons (ie_fz (io_slice (ie_var (vS v0)) (ip_some (ie_int (i := 5))) ip_none)) ia_nil))))))) (iw_or1 (it_neD hr (ie_var (vS (vS (vS (vS (vS (vS (vS (vS (vS (vS (vS v0)))))))))))) (ie_var (vS (vS (vS (vS (vS (vS (vS (vS (vS (vS (vS (vS v0)))))))))))))))))
        (ss_last (s_ret (ie_bl (i := false))))
        (ss_end ghI))
      (ss_end (ghT (trF (trK (trK (trK (trK (trF (trF (trF (trF (trK (trK (trF (trF (trF (trF (trF (trF trN))))))))))))))))))))))))))
      (ss_last (s_ret (ie_eqD hr (ie_var (vS (vS (vS (vS (vS (vS (vS (vS (vS (vS v0))))))))))) (ie_fz (io_lst (il_cons (ie_var (vS (vS (vS (vS v0))))) (il_cons (ie_var (vS (vS (vS (vS (vS (vS (vS (vS (vS v0)))))))))) (il_nil (α := (List (S × S))))))))))))))))))))))⟩
noncomputable def d_law : { s : DefS (Scr × Unit) Bool // ∀ {P : Program} {w : World} {K : PySem.W.Frag} {mg : Str → Option Value} {base : Heap} {f : Addr} {fd : FuncData} (m_int : mg "int" = none) (m_len : mg "len" = none) (m_list : mg "list" = none) (m_sorted : mg "sorted" = none) (c__law_draws : Cal P w K mg base 2 "_law_draws" (spO (d__law_draws.1).m (d__law_draws.1).ok)) (c__law_signs : Cal P w K mg base 1 "_law_signs" (spP (d__law_signs.1).m (d__law_signs.1).ok)) (c__law_great : Cal P w K mg base 3 "_law_great" (spO (d__law_great.1).m (d__law_great.1).ok)) (c__law_checked : Cal P w K mg base 4 "_law_checked" (spP (d__law_checked.1).m (d__law_checked.1).ok)) (c_is_full : Cal P w K mg base 2 "is_full" (spP (d_is_full.1).m (d_is_full.1).ok)) (c_signs_of : Cal P w K mg base 1 "signs_of" (spP (d_signs_of.1).m (d_signs_of.1).ok)) (c__law_same : Cal P w K mg base 8 "_law_same" (spP (d__law_same.1).m (d__law_same.1).ok)) (c__law_told_all : Cal P w K mg base 9 "_law_told_all" (spP (d__law_told_all.1).m (d__law_told_all.1).ok)), Fun K "law" "law" s_law f fd → FnOk P w K mg base CX0 10 f fd ["script"] (spP s.m s.ok) } := g_law (d__law_draws.1).m (d__law_draws.1).ok (d__law_signs.1).m (d__law_signs.1).ok (d__law_great.1).m (d__law_great.1).ok (d__law_checked.1).m (d__law_checked.1).ok (d_is_full.1).m (d_is_full.1).ok (d_signs_of.1).m (d_signs_of.1).ok (d__law_same.1).m (d__law_same.1).ok (d__law_told_all.1).m (d__law_told_all.1).ok
theorem all_mk {l : PySem.W.OpenLaw} {w : World} {K K' : PySem.W.Frag} {h : Heap} {mg : Str → Option Value} {fa f1 f2 f3 f4 f5 f6 f7 f8 f9 f10 f11 f12 f13 f14 f15 f16 f17 f18 f19 f20 f21 f22 f23 f24 f25 f26 f27 : Addr} (L : Less K K') (X : K.In h) (X' : K'.In h) (G : h.Ns mainGlobals mg) (hfa : mg "law" = some (.ref fa))
    {od1 an1 od2 an2 od3 an3 od4 an4 od5 an5 od6 an6 od7 an7 od8 an8 od9 an9 od10 an10 od11 an11 od12 an12 od13 an13 od14 an14 od15 an15 od16 an16 od17 an17 od18 an18 od19 an19 od20 an20 od21 an21 od22 an22 od23 an23 od24 an24 od25 an25 od26 an26 od27 an27 : Option Addr} {sl1 sl2 sl3 sl4 sl5 sl6 sl7 sl8 sl9 sl10 sl11 sl12 sl13 sl14 sl15 sl16 sl17 sl18 sl19 sl20 sl21 sl22 sl23 sl24 sl25 sl26 sl27 : Array (Option Value)} {oc1 kV1 dc1 pm1 cd1 ct1 oc2 kV2 dc2 pm2 cd2 ct2 oc3 kV3 dc3 pm3 cd3 ct3 oc4 kV4 dc4 pm4 cd4 ct4 oc5 kV5 dc5 pm5 cd5 ct5 oc6 kV6 dc6 pm6 cd6 ct6 oc7 kV7 dc7 pm7 cd7 ct7 oc8 kV8 dc8 pm8 cd8 ct8 oc9 kV9 dc9 pm9 cd9 ct9 oc10 kV10 dc10 pm10 cd10 ct10 oc11 kV11 dc11 pm11 cd11 ct11 oc12 kV12 dc12 pm12 cd12 ct12 oc13 kV13 dc13 pm13 cd13 ct13 oc14 kV14 dc14 pm14 cd14 ct14 oc15 kV15 dc15 pm15 cd15 ct15 oc16 kV16 dc16 pm16 cd16 ct16 oc17 kV17 dc17 pm17 cd17 ct17 oc18 kV18 dc18 pm18 cd18 ct18 oc19 kV19 dc19 pm19 cd19 ct19 oc20 kV20 dc20 pm20 cd20 ct20 oc21 kV21 dc21 pm21 cd21 ct21 oc22 kV22 dc22 pm22 cd22 ct22 oc23 kV23 dc23 pm23 cd23 ct23 oc24 kV24 dc24 pm24 cd24 ct24 oc25 kV25 dc25 pm25 cd25 ct25 oc26 kV26 dc26 pm26 cd26 ct26 oc27 kV27 dc27 pm27 cd27 ct27 : Value}
    {t_MOST_ITEMS t_MOST_LEFT t_MOST_RIGHT : Tok}
    {C_InvalidItem C_NotTold C_ScriptError C_WrongCount : Addr} (hn_x : PySem.W.specialIn K (.builtin "object.__class__") "__get__" = some (some (.builtin "getset_descriptor.__get__"))) (ht_x : PySem.W.takesIn K (.builtin "object.__class__") = some true)
    (xa_InvalidItem : PySem.W.nsIn K mainGlobals "InvalidItem" = some (some (.ref C_InvalidItem))) (xk_InvalidItem : PySem.W.keepIn K (.ref C_InvalidItem) = true) (xq_InvalidItem : PySem.W.excIn K C_InvalidItem [.type "ValueError", .type "Exception", .type "BaseException", .type "object"] "ValueError.__new__" = true) (xb_InvalidItem : PySem.W.subIn K (.ref C_InvalidItem) (.type "BaseException") = some true) (xt_InvalidItem : PySem.W.typeIn K (.ref C_InvalidItem) = some (.type "type")) (xd_InvalidItem : PySem.W.hasDictIn K C_InvalidItem = true) (xs_InvalidItem : PySem.W.subIn K (.ref C_InvalidItem) (.ref C_InvalidItem) = some true) (xv_InvalidItem : PySem.W.subIn K (.ref C_InvalidItem) (.type "ValueError") = some true) (xhg_InvalidItem : PySem.W.findIn K (.ref C_InvalidItem) "__getattribute__" = some (some (.builtin "BaseException.__getattribute__"))) (xhk_InvalidItem : PySem.W.findIn K (.ref C_InvalidItem) "__getattr__" = some none) (xha_InvalidItem : PySem.W.findIn K (.ref C_InvalidItem) "__class__" = some (some (.builtin "object.__class__"))) (xhm_InvalidItem : PySem.W.mroIn K C_InvalidItem (.type "object") = some true)
    (xa_NotTold : PySem.W.nsIn K mainGlobals "NotTold" = some (some (.ref C_NotTold))) (xk_NotTold : PySem.W.keepIn K (.ref C_NotTold) = true) (xq_NotTold : PySem.W.excIn K C_NotTold [.type "ValueError", .type "Exception", .type "BaseException", .type "object"] "ValueError.__new__" = true) (xb_NotTold : PySem.W.subIn K (.ref C_NotTold) (.type "BaseException") = some true) (xt_NotTold : PySem.W.typeIn K (.ref C_NotTold) = some (.type "type")) (xd_NotTold : PySem.W.hasDictIn K C_NotTold = true) (xs_NotTold : PySem.W.subIn K (.ref C_NotTold) (.ref C_NotTold) = some true) (xv_NotTold : PySem.W.subIn K (.ref C_NotTold) (.type "ValueError") = some true) (xhg_NotTold : PySem.W.findIn K (.ref C_NotTold) "__getattribute__" = some (some (.builtin "BaseException.__getattribute__"))) (xhk_NotTold : PySem.W.findIn K (.ref C_NotTold) "__getattr__" = some none) (xha_NotTold : PySem.W.findIn K (.ref C_NotTold) "__class__" = some (some (.builtin "object.__class__"))) (xhm_NotTold : PySem.W.mroIn K C_NotTold (.type "object") = some true)
    (xa_ScriptError : PySem.W.nsIn K mainGlobals "ScriptError" = some (some (.ref C_ScriptError))) (xk_ScriptError : PySem.W.keepIn K (.ref C_ScriptError) = true) (xq_ScriptError : PySem.W.excIn K C_ScriptError [.type "ValueError", .type "Exception", .type "BaseException", .type "object"] "ValueError.__new__" = true) (xb_ScriptError : PySem.W.subIn K (.ref C_ScriptError) (.type "BaseException") = some true) (xt_ScriptError : PySem.W.typeIn K (.ref C_ScriptError) = some (.type "type")) (xd_ScriptError : PySem.W.hasDictIn K C_ScriptError = true) (xs_ScriptError : PySem.W.subIn K (.ref C_ScriptError) (.ref C_ScriptError) = some true) (xv_ScriptError : PySem.W.subIn K (.ref C_ScriptError) (.type "ValueError") = some true) (xhg_ScriptError : PySem.W.findIn K (.ref C_ScriptError) "__getattribute__" = some (some (.builtin "BaseException.__getattribute__"))) (xhk_ScriptError : PySem.W.findIn K (.ref C_ScriptError) "__getattr__" = some none) (xha_ScriptError : PySem.W.findIn K (.ref C_ScriptError) "__class__" = some (some (.builtin "object.__class__"))) (xhm_ScriptError : PySem.W.mroIn K C_ScriptError (.type "object") = some true)
    (xa_WrongCount : PySem.W.nsIn K mainGlobals "WrongCount" = some (some (.ref C_WrongCount))) (xk_WrongCount : PySem.W.keepIn K (.ref C_WrongCount) = true) (xq_WrongCount : PySem.W.excIn K C_WrongCount [.type "ValueError", .type "Exception", .type "BaseException", .type "object"] "ValueError.__new__" = true) (xb_WrongCount : PySem.W.subIn K (.ref C_WrongCount) (.type "BaseException") = some true) (xt_WrongCount : PySem.W.typeIn K (.ref C_WrongCount) = some (.type "type")) (xd_WrongCount : PySem.W.hasDictIn K C_WrongCount = true) (xs_WrongCount : PySem.W.subIn K (.ref C_WrongCount) (.ref C_WrongCount) = some true) (xv_WrongCount : PySem.W.subIn K (.ref C_WrongCount) (.type "ValueError") = some true) (xhg_WrongCount : PySem.W.findIn K (.ref C_WrongCount) "__getattribute__" = some (some (.builtin "BaseException.__getattribute__"))) (xhk_WrongCount : PySem.W.findIn K (.ref C_WrongCount) "__getattr__" = some none) (xha_WrongCount : PySem.W.findIn K (.ref C_WrongCount) "__class__" = some (some (.builtin "object.__class__"))) (xhm_WrongCount : PySem.W.mroIn K C_WrongCount (.type "object") = some true)
    (y_InvalidItem_InvalidItem : PySem.W.subIn K (.ref C_InvalidItem) (.ref C_InvalidItem) = some true)
    (y_InvalidItem_ScriptError : PySem.W.subIn K (.ref C_InvalidItem) (.ref C_ScriptError) = some true)
    (y_NotTold_NotTold : PySem.W.subIn K (.ref C_NotTold) (.ref C_NotTold) = some true)
    (y_NotTold_ScriptError : PySem.W.subIn K (.ref C_NotTold) (.ref C_ScriptError) = some true)
    (y_WrongCount_InvalidItem : PySem.W.subIn K (.ref C_WrongCount) (.ref C_InvalidItem) = some false)
    (y_WrongCount_WrongCount : PySem.W.subIn K (.ref C_WrongCount) (.ref C_WrongCount) = some true)
    (a1 : PySem.W.nsIn K mainGlobals "is_text" = some (some (.ref f1))) (l1 : K.lookup f1 = some ⟨oc1, od1, .func (PySem.W.fnOf "is_text" "is_text" (defArgs s_is_text) (defBody s_is_text) (defScope s_is_text) .none kV1 dc1 pm1 an1 cd1 ct1), sl1⟩) (c1 : PySem.W.codeIn K cd1 "is_text" = true)
    (a2 : PySem.W.nsIn K mainGlobals "is_item" = some (some (.ref f2))) (l2 : K.lookup f2 = some ⟨oc2, od2, .func (PySem.W.fnOf "is_item" "is_item" (defArgs s_is_item) (defBody s_is_item) (defScope s_is_item) .none kV2 dc2 pm2 an2 cd2 ct2), sl2⟩) (c2 : PySem.W.codeIn K cd2 "is_item" = true)
    (a3 : PySem.W.nsIn K mainGlobals "check_table" = some (some (.ref f3))) (l3 : K.lookup f3 = some ⟨oc3, od3, .func (PySem.W.fnOf "check_table" "check_table" (defArgs s_check_table) (defBody s_check_table) (defScope s_check_table) .none kV3 dc3 pm3 an3 cd3 ct3), sl3⟩) (c3 : PySem.W.codeIn K cd3 "check_table" = true)
    (a4 : PySem.W.nsIn K mainGlobals "signs_of" = some (some (.ref f4))) (l4 : K.lookup f4 = some ⟨oc4, od4, .func (PySem.W.fnOf "signs_of" "signs_of" (defArgs s_signs_of) (defBody s_signs_of) (defScope s_signs_of) .none kV4 dc4 pm4 an4 cd4 ct4), sl4⟩) (c4 : PySem.W.codeIn K cd4 "signs_of" = true)
    (a5 : PySem.W.nsIn K mainGlobals "is_full" = some (some (.ref f5))) (l5 : K.lookup f5 = some ⟨oc5, od5, .func (PySem.W.fnOf "is_full" "is_full" (defArgs s_is_full) (defBody s_is_full) (defScope s_is_full) .none kV5 dc5 pm5 an5 cd5 ct5), sl5⟩) (c5 : PySem.W.codeIn K cd5 "is_full" = true)
    (a6 : PySem.W.nsIn K mainGlobals "longest_at" = some (some (.ref f6))) (l6 : K.lookup f6 = some ⟨oc6, od6, .func (PySem.W.fnOf "longest_at" "longest_at" (defArgs s_longest_at) (defBody s_longest_at) (defScope s_longest_at) .none kV6 dc6 pm6 an6 cd6 ct6), sl6⟩) (c6 : PySem.W.codeIn K cd6 "longest_at" = true)
    (a7 : PySem.W.nsIn K mainGlobals "parse" = some (some (.ref f7))) (l7 : K.lookup f7 = some ⟨oc7, od7, .func (PySem.W.fnOf "parse" "parse" (defArgs s_parse) (defBody s_parse) (defScope s_parse) .none kV7 dc7 pm7 an7 cd7 ct7), sl7⟩) (c7 : PySem.W.codeIn K cd7 "parse" = true)
    (a8 : PySem.W.nsIn K mainGlobals "told" = some (some (.ref f8))) (l8 : K.lookup f8 = some ⟨oc8, od8, .func (PySem.W.fnOf "told" "told" (defArgs s_told) (defBody s_told) (defScope s_told) .none kV8 dc8 pm8 an8 cd8 ct8), sl8⟩) (c8 : PySem.W.codeIn K cd8 "told" = true)
    (a9 : PySem.W.nsIn K mainGlobals "text_of" = some (some (.ref f9))) (l9 : K.lookup f9 = some ⟨oc9, od9, .func (PySem.W.fnOf "text_of" "text_of" (defArgs s_text_of) (defBody s_text_of) (defScope s_text_of) .none kV9 dc9 pm9 an9 cd9 ct9), sl9⟩) (c9 : PySem.W.codeIn K cd9 "text_of" = true)
    (a10 : PySem.W.nsIn K mainGlobals "parse_of" = some (some (.ref f10))) (l10 : K.lookup f10 = some ⟨oc10, od10, .func (PySem.W.fnOf "parse_of" "parse_of" (defArgs s_parse_of) (defBody s_parse_of) (defScope s_parse_of) .none kV10 dc10 pm10 an10 cd10 ct10), sl10⟩) (c10 : PySem.W.codeIn K cd10 "parse_of" = true)
    (a11 : PySem.W.nsIn K mainGlobals "is_parse" = some (some (.ref f11))) (l11 : K.lookup f11 = some ⟨oc11, od11, .func (PySem.W.fnOf "is_parse" "is_parse" (defArgs s_is_parse) (defBody s_is_parse) (defScope s_is_parse) .none kV11 dc11 pm11 an11 cd11 ct11), sl11⟩) (c11 : PySem.W.codeIn K cd11 "is_parse" = true)
    (a12 : PySem.W.nsIn K mainGlobals "_law_cell" = some (some (.ref f12))) (l12 : K.lookup f12 = some ⟨oc12, od12, .func (PySem.W.fnOf "_law_cell" "_law_cell" (defArgs s__law_cell) (defBody s__law_cell) (defScope s__law_cell) .none kV12 dc12 pm12 an12 cd12 ct12), sl12⟩) (c12 : PySem.W.codeIn K cd12 "_law_cell" = true)
    (a13 : PySem.W.nsIn K mainGlobals "_law_numbers" = some (some (.ref f13))) (l13 : K.lookup f13 = some ⟨oc13, od13, .func (PySem.W.fnOf "_law_numbers" "_law_numbers" (defArgs s__law_numbers) (defBody s__law_numbers) (defScope s__law_numbers) .none kV13 dc13 pm13 an13 cd13 ct13), sl13⟩) (c13 : PySem.W.codeIn K cd13 "_law_numbers" = true)
    (a14 : PySem.W.nsIn K mainGlobals "_law_draws" = some (some (.ref f14))) (l14 : K.lookup f14 = some ⟨oc14, od14, .func (PySem.W.fnOf "_law_draws" "_law_draws" (defArgs s__law_draws) (defBody s__law_draws) (defScope s__law_draws) .none kV14 dc14 pm14 an14 cd14 ct14), sl14⟩) (c14 : PySem.W.codeIn K cd14 "_law_draws" = true)
    (a15 : PySem.W.nsIn K mainGlobals "_law_word" = some (some (.ref f15))) (l15 : K.lookup f15 = some ⟨oc15, od15, .func (PySem.W.fnOf "_law_word" "_law_word" (defArgs s__law_word) (defBody s__law_word) (defScope s__law_word) .none kV15 dc15 pm15 an15 cd15 ct15), sl15⟩) (c15 : PySem.W.codeIn K cd15 "_law_word" = true)
    (a16 : PySem.W.nsIn K mainGlobals "_law_signs" = some (some (.ref f16))) (l16 : K.lookup f16 = some ⟨oc16, od16, .func (PySem.W.fnOf "_law_signs" "_law_signs" (defArgs s__law_signs) (defBody s__law_signs) (defScope s__law_signs) .none kV16 dc16 pm16 an16 cd16 ct16), sl16⟩) (c16 : PySem.W.codeIn K cd16 "_law_signs" = true)
    (a17 : PySem.W.nsIn K mainGlobals "_law_same" = some (some (.ref f17))) (l17 : K.lookup f17 = some ⟨oc17, od17, .func (PySem.W.fnOf "_law_same" "_law_same" (defArgs s__law_same) (defBody s__law_same) (defScope s__law_same) .none kV17 dc17 pm17 an17 cd17 ct17), sl17⟩) (c17 : PySem.W.codeIn K cd17 "_law_same" = true)
    (a18 : PySem.W.nsIn K mainGlobals "_law_parse" = some (some (.ref f18))) (l18 : K.lookup f18 = some ⟨oc18, od18, .func (PySem.W.fnOf "_law_parse" "_law_parse" (defArgs s__law_parse) (defBody s__law_parse) (defScope s__law_parse) .none kV18 dc18 pm18 an18 cd18 ct18), sl18⟩) (c18 : PySem.W.codeIn K cd18 "_law_parse" = true)
    (a19 : PySem.W.nsIn K mainGlobals "_law_great" = some (some (.ref f19))) (l19 : K.lookup f19 = some ⟨oc19, od19, .func (PySem.W.fnOf "_law_great" "_law_great" (defArgs s__law_great) (defBody s__law_great) (defScope s__law_great) .none kV19 dc19 pm19 an19 cd19 ct19), sl19⟩) (c19 : PySem.W.codeIn K cd19 "_law_great" = true)
    (a20 : PySem.W.nsIn K mainGlobals "_law_texts" = some (some (.ref f20))) (l20 : K.lookup f20 = some ⟨oc20, od20, .func (PySem.W.fnOf "_law_texts" "_law_texts" (defArgs s__law_texts) (defBody s__law_texts) (defScope s__law_texts) .none kV20 dc20 pm20 an20 cd20 ct20), sl20⟩) (c20 : PySem.W.codeIn K cd20 "_law_texts" = true)
    (a21 : PySem.W.nsIn K mainGlobals "_law_checked" = some (some (.ref f21))) (l21 : K.lookup f21 = some ⟨oc21, od21, .func (PySem.W.fnOf "_law_checked" "_law_checked" (defArgs s__law_checked) (defBody s__law_checked) (defScope s__law_checked) .none kV21 dc21 pm21 an21 cd21 ct21), sl21⟩) (c21 : PySem.W.codeIn K cd21 "_law_checked" = true)
    (a22 : PySem.W.nsIn K mainGlobals "_law_parsed" = some (some (.ref f22))) (l22 : K.lookup f22 = some ⟨oc22, od22, .func (PySem.W.fnOf "_law_parsed" "_law_parsed" (defArgs s__law_parsed) (defBody s__law_parsed) (defScope s__law_parsed) .none kV22 dc22 pm22 an22 cd22 ct22), sl22⟩) (c22 : PySem.W.codeIn K cd22 "_law_parsed" = true)
    (a23 : PySem.W.nsIn K mainGlobals "_law_spoken" = some (some (.ref f23))) (l23 : K.lookup f23 = some ⟨oc23, od23, .func (PySem.W.fnOf "_law_spoken" "_law_spoken" (defArgs s__law_spoken) (defBody s__law_spoken) (defScope s__law_spoken) .none kV23 dc23 pm23 an23 cd23 ct23), sl23⟩) (c23 : PySem.W.codeIn K cd23 "_law_spoken" = true)
    (a24 : PySem.W.nsIn K mainGlobals "_law_lists" = some (some (.ref f24))) (l24 : K.lookup f24 = some ⟨oc24, od24, .func (PySem.W.fnOf "_law_lists" "_law_lists" (defArgs s__law_lists) (defBody s__law_lists) (defScope s__law_lists) .none kV24 dc24 pm24 an24 cd24 ct24), sl24⟩) (c24 : PySem.W.codeIn K cd24 "_law_lists" = true)
    (a25 : PySem.W.nsIn K mainGlobals "_law_is_parse" = some (some (.ref f25))) (l25 : K.lookup f25 = some ⟨oc25, od25, .func (PySem.W.fnOf "_law_is_parse" "_law_is_parse" (defArgs s__law_is_parse) (defBody s__law_is_parse) (defScope s__law_is_parse) .none kV25 dc25 pm25 an25 cd25 ct25), sl25⟩) (c25 : PySem.W.codeIn K cd25 "_law_is_parse" = true)
    (a26 : PySem.W.nsIn K mainGlobals "_law_told_all" = some (some (.ref f26))) (l26 : K.lookup f26 = some ⟨oc26, od26, .func (PySem.W.fnOf "_law_told_all" "_law_told_all" (defArgs s__law_told_all) (defBody s__law_told_all) (defScope s__law_told_all) .none kV26 dc26 pm26 an26 cd26 ct26), sl26⟩) (c26 : PySem.W.codeIn K cd26 "_law_told_all" = true)
    (a27 : PySem.W.nsIn K mainGlobals "law" = some (some (.ref f27))) (l27 : K.lookup f27 = some ⟨oc27, od27, .func (PySem.W.fnOf "law" "law" (defArgs s_law) (defBody s_law) (defScope s_law) .none kV27 dc27 pm27 an27 cd27 ct27), sl27⟩) (c27 : PySem.W.codeIn K cd27 "law" = true)
    (z_MOST_ITEMS : PySem.W.nsIn K mainGlobals "MOST_ITEMS" = some (some (.int (40) t_MOST_ITEMS))) (z_MOST_LEFT : PySem.W.nsIn K mainGlobals "MOST_LEFT" = some (some (.int (6) t_MOST_LEFT))) (z_MOST_RIGHT : PySem.W.nsIn K mainGlobals "MOST_RIGHT" = some (some (.int (8) t_MOST_RIGHT))) (z_ValueError : PySem.W.nsIn K mainGlobals "ValueError" = some none) (z_all : PySem.W.nsIn K mainGlobals "all" = some none) (z_bool : PySem.W.nsIn K mainGlobals "bool" = some none) (z_enumerate : PySem.W.nsIn K mainGlobals "enumerate" = some none) (z_int : PySem.W.nsIn K mainGlobals "int" = some none) (z_isinstance : PySem.W.nsIn K mainGlobals "isinstance" = some none) (z_len : PySem.W.nsIn K mainGlobals "len" = some none) (z_list : PySem.W.nsIn K mainGlobals "list" = some none) (z_min : PySem.W.nsIn K mainGlobals "min" = some none) (z_range : PySem.W.nsIn K mainGlobals "range" = some none) (z_sorted : PySem.W.nsIn K mainGlobals "sorted" = some none) (z_str : PySem.W.nsIn K mainGlobals "str" = some none) (z_tuple : PySem.W.nsIn K mainGlobals "tuple" = some none) :
    ∃ fd : FuncData, (∀ (s : Shared) (v : Value), BindsTo s fd ⟨[v], []⟩ [("script", v)]) ∧ ∀ base : Heap, K'.In base → base.Ns mainGlobals mg → FnOk l.prog w K' mg base CX0 10 fa fd ["script"] (spP d_law.1.m d_law.1.ok) := by
  have e := hfa.symm.trans (PySem.W.mg_of X G a27)
  cases e
  have F1 := fun_mk (st := s_is_text) (less_l L l1) (less_c L c1) (less_k L l1)
  have b1 := F1.binds (ps := ["text"]) fun _ _ _ _ _ _ us hl => match us, hl with | [_], _ => rfl
  have g1 := PySem.W.mg_of X G a1
  have F2 := fun_mk (st := s_is_item) (less_l L l2) (less_c L c2) (less_k L l2)
  have b2 := F2.binds (ps := ["item"]) fun _ _ _ _ _ _ us hl => match us, hl with | [_], _ => rfl
  have g2 := PySem.W.mg_of X G a2
  have F3 := fun_mk (st := s_check_table) (less_l L l3) (less_c L c3) (less_k L l3)
  have b3 := F3.binds (ps := ["table"]) fun _ _ _ _ _ _ us hl => match us, hl with | [_], _ => rfl
  have g3 := PySem.W.mg_of X G a3
  have F4 := fun_mk (st := s_signs_of) (less_l L l4) (less_c L c4) (less_k L l4)
  have b4 := F4.binds (ps := ["table"]) fun _ _ _ _ _ _ us hl => match us, hl with | [_], _ => rfl
  have g4 := PySem.W.mg_of X G a4
  have F5 := fun_mk (st := s_is_full) (less_l L l5) (less_c L c5) (less_k L l5)
  have b5 := F5.binds (ps := ["table"]) fun _ _ _ _ _ _ us hl => match us, hl with | [_], _ => rfl
  have g5 := PySem.W.mg_of X G a5
  have F6 := fun_mk (st := s_longest_at) (less_l L l6) (less_c L c6) (less_k L l6)
  have b6 := F6.binds (ps := ["table", "text", "place"]) fun _ _ _ _ _ _ us hl => match us, hl with | [_, _, _], _ => rfl
  have g6 := PySem.W.mg_of X G a6
  have F7 := fun_mk (st := s_parse) (less_l L l7) (less_c L c7) (less_k L l7)
  have b7 := F7.binds (ps := ["table", "text"]) fun _ _ _ _ _ _ us hl => match us, hl with | [_, _], _ => rfl
  have g7 := PySem.W.mg_of X G a7
  have F8 := fun_mk (st := s_told) (less_l L l8) (less_c L c8) (less_k L l8)
  have b8 := F8.binds (ps := ["table", "text"]) fun _ _ _ _ _ _ us hl => match us, hl with | [_, _], _ => rfl
  have g8 := PySem.W.mg_of X G a8
  have F9 := fun_mk (st := s_text_of) (less_l L l9) (less_c L c9) (less_k L l9)
  have b9 := F9.binds (ps := ["table", "numbers"]) fun _ _ _ _ _ _ us hl => match us, hl with | [_, _], _ => rfl
  have g9 := PySem.W.mg_of X G a9
  have F10 := fun_mk (st := s_parse_of) (less_l L l10) (less_c L c10) (less_k L l10)
  have b10 := F10.binds (ps := ["table", "text"]) fun _ _ _ _ _ _ us hl => match us, hl with | [_, _], _ => rfl
  have g10 := PySem.W.mg_of X G a10
  have F11 := fun_mk (st := s_is_parse) (less_l L l11) (less_c L c11) (less_k L l11)
  have b11 := F11.binds (ps := ["table", "numbers"]) fun _ _ _ _ _ _ us hl => match us, hl with | [_, _], _ => rfl
  have g11 := PySem.W.mg_of X G a11
  have F12 := fun_mk (st := s__law_cell) (less_l L l12) (less_c L c12) (less_k L l12)
  have b12 := F12.binds (ps := ["script", "k"]) fun _ _ _ _ _ _ us hl => match us, hl with | [_, _], _ => rfl
  have g12 := PySem.W.mg_of X G a12
  have F13 := fun_mk (st := s__law_numbers) (less_l L l13) (less_c L c13) (less_k L l13)
  have b13 := F13.binds (ps := ["cell", "count", "limit"]) fun _ _ _ _ _ _ us hl => match us, hl with | [_, _, _], _ => rfl
  have g13 := PySem.W.mg_of X G a13
  have F14 := fun_mk (st := s__law_draws) (less_l L l14) (less_c L c14) (less_k L l14)
  have b14 := F14.binds (ps := ["script", "at", "count"]) fun _ _ _ _ _ _ us hl => match us, hl with | [_, _, _], _ => rfl
  have g14 := PySem.W.mg_of X G a14
  have F15 := fun_mk (st := s__law_word) (less_l L l15) (less_c L c15) (less_k L l15)
  have b15 := F15.binds (ps := ["draws", "at", "signs", "least", "most"]) fun _ _ _ _ _ _ us hl => match us, hl with | [_, _, _, _, _], _ => rfl
  have g15 := PySem.W.mg_of X G a15
  have F16 := fun_mk (st := s__law_signs) (less_l L l16) (less_c L c16) (less_k L l16)
  have b16 := F16.binds (ps := ["draw", "count"]) fun _ _ _ _ _ _ us hl => match us, hl with | [_, _], _ => rfl
  have g16 := PySem.W.mg_of X G a16
  have F17 := fun_mk (st := s__law_same) (less_l L l17) (less_c L c17) (less_k L l17)
  have b17 := F17.binds (ps := ["given", "due"]) fun _ _ _ _ _ _ us hl => match us, hl with | [_, _], _ => rfl
  have g17 := PySem.W.mg_of X G a17
  have F18 := fun_mk (st := s__law_parse) (less_l L l18) (less_c L c18) (less_k L l18)
  have b18 := F18.binds (ps := ["table", "text"]) fun _ _ _ _ _ _ us hl => match us, hl with | [_, _], _ => rfl
  have g18 := PySem.W.mg_of X G a18
  have F19 := fun_mk (st := s__law_great) (less_l L l19) (less_c L c19) (less_k L l19)
  have b19 := F19.binds (ps := ["script", "at", "signs", "most"]) fun _ _ _ _ _ _ us hl => match us, hl with | [_, _, _, _], _ => rfl
  have g19 := PySem.W.mg_of X G a19
  have F20 := fun_mk (st := s__law_texts) (less_l L l20) (less_c L c20) (less_k L l20)
  have b20 := F20.binds (ps := ["table", "signs", "strange", "draws"]) fun _ _ _ _ _ _ us hl => match us, hl with | [_, _, _, _], _ => rfl
  have g20 := PySem.W.mg_of X G a20
  have F21 := fun_mk (st := s__law_checked) (less_l L l21) (less_c L c21) (less_k L l21)
  have b21 := F21.binds (ps := ["table"]) fun _ _ _ _ _ _ us hl => match us, hl with | [_], _ => rfl
  have g21 := PySem.W.mg_of X G a21
  have F22 := fun_mk (st := s__law_parsed) (less_l L l22) (less_c L c22) (less_k L l22)
  have b22 := F22.binds (ps := ["table", "text"]) fun _ _ _ _ _ _ us hl => match us, hl with | [_, _], _ => rfl
  have g22 := PySem.W.mg_of X G a22
  have F23 := fun_mk (st := s__law_spoken) (less_l L l23) (less_c L c23) (less_k L l23)
  have b23 := F23.binds (ps := ["table", "text"]) fun _ _ _ _ _ _ us hl => match us, hl with | [_, _], _ => rfl
  have g23 := PySem.W.mg_of X G a23
  have F24 := fun_mk (st := s__law_lists) (less_l L l24) (less_c L c24) (less_k L l24)
  have b24 := F24.binds (ps := ["numbers", "count", "draws"]) fun _ _ _ _ _ _ us hl => match us, hl with | [_, _, _], _ => rfl
  have g24 := PySem.W.mg_of X G a24
  have F25 := fun_mk (st := s__law_is_parse) (less_l L l25) (less_c L c25) (less_k L l25)
  have b25 := F25.binds (ps := ["table", "numbers"]) fun _ _ _ _ _ _ us hl => match us, hl with | [_, _], _ => rfl
  have g25 := PySem.W.mg_of X G a25
  have F26 := fun_mk (st := s__law_told_all) (less_l L l26) (less_c L c26) (less_k L l26)
  have b26 := F26.binds (ps := ["table", "signs", "strange", "draws"]) fun _ _ _ _ _ _ us hl => match us, hl with | [_, _, _, _], _ => rfl
  have g26 := PySem.W.mg_of X G a26
  have F27 := fun_mk (st := s_law) (less_l L l27) (less_c L c27) (less_k L l27)
  have m_MOST_ITEMS := PySem.W.mg_of X G z_MOST_ITEMS
  have m_MOST_LEFT := PySem.W.mg_of X G z_MOST_LEFT
  have m_MOST_RIGHT := PySem.W.mg_of X G z_MOST_RIGHT
  have m_ValueError := PySem.W.mg_none_of X G z_ValueError
  have m_all := PySem.W.mg_none_of X G z_all
  have m_bool := PySem.W.mg_none_of X G z_bool
  have m_enumerate := PySem.W.mg_none_of X G z_enumerate
  have m_int := PySem.W.mg_none_of X G z_int
  have m_isinstance := PySem.W.mg_none_of X G z_isinstance
  have m_len := PySem.W.mg_none_of X G z_len
  have m_list := PySem.W.mg_none_of X G z_list
  have m_min := PySem.W.mg_none_of X G z_min
  have m_range := PySem.W.mg_none_of X G z_range
  have m_sorted := PySem.W.mg_none_of X G z_sorted
  have m_str := PySem.W.mg_none_of X G z_str
  have m_tuple := PySem.W.mg_none_of X G z_tuple
  have x_InvalidItem := exc_mk L X G xa_InvalidItem xk_InvalidItem xq_InvalidItem xb_InvalidItem xt_InvalidItem xd_InvalidItem xs_InvalidItem xv_InvalidItem xhg_InvalidItem xhk_InvalidItem xha_InvalidItem hn_x ht_x xhm_InvalidItem
  have x_NotTold := exc_mk L X G xa_NotTold xk_NotTold xq_NotTold xb_NotTold xt_NotTold xd_NotTold xs_NotTold xv_NotTold xhg_NotTold xhk_NotTold xha_NotTold hn_x ht_x xhm_NotTold
  have x_ScriptError := exc_mk L X G xa_ScriptError xk_ScriptError xq_ScriptError xb_ScriptError xt_ScriptError xd_ScriptError xs_ScriptError xv_ScriptError xhg_ScriptError xhk_ScriptError xha_ScriptError hn_x ht_x xhm_ScriptError
  have x_WrongCount := exc_mk L X G xa_WrongCount xk_WrongCount xq_WrongCount xb_WrongCount xt_WrongCount xd_WrongCount xs_WrongCount xv_WrongCount xhg_WrongCount xhk_WrongCount xha_WrongCount hn_x ht_x xhm_WrongCount
  have sb_InvalidItem_InvalidItem := less_sub L y_InvalidItem_InvalidItem
  have sb_InvalidItem_ScriptError := less_sub L y_InvalidItem_ScriptError
  have sb_NotTold_NotTold := less_sub L y_NotTold_NotTold
  have sb_NotTold_ScriptError := less_sub L y_NotTold_ScriptError
  have sb_WrongCount_InvalidItem := less_sub L y_WrongCount_InvalidItem
  have sb_WrongCount_WrongCount := less_sub L y_WrongCount_WrongCount
  refine ⟨PySem.W.fnOf "law" "law" (defArgs s_law) (defBody s_law) (defScope s_law) .none kV27 dc27 pm27 an27 cd27 ct27, fun s v => .of_eq rfl, fun base _ _ => ?_⟩
  have c_is_text := d_is_text.2 (P := l.prog) (w := w) (base := base) m_all m_isinstance m_str F1 g1 b1
  have c_is_item := d_is_item.2 (P := l.prog) (w := w) (base := base) m_MOST_LEFT m_MOST_RIGHT m_isinstance m_len m_tuple c_is_text F2 g2 b2
  have c_check_table := d_check_table.2 (P := l.prog) (w := w) (base := base) m_MOST_ITEMS m_len x_InvalidItem x_WrongCount c_is_item F3 g3 b3
  have c_signs_of := d_signs_of.2 (P := l.prog) (w := w) (base := base) m_sorted F4 g4 b4
  have c_is_full := d_is_full.2 (P := l.prog) (w := w) (base := base) m_all c_signs_of F5 g5 b5
  have c_longest_at := d_longest_at.2 (P := l.prog) (w := w) (base := base) m_enumerate m_len F6 g6 b6
  have c_parse := d_parse.2 (P := l.prog) (w := w) (base := base) m_len x_NotTold c_longest_at F7 g7 b7
  have c_told := d_told.2 (P := l.prog) (w := w) (base := base) c_parse F8 g8 b8
  have c_text_of := d_text_of.2 (P := l.prog) (w := w) (base := base)  F9 g9 b9
  have c_parse_of := d_parse_of.2 (P := l.prog) (w := w) (base := base) x_NotTold sb_NotTold_NotTold c_parse F10 g10 b10
  have c_is_parse := d_is_parse.2 (P := l.prog) (w := w) (base := base) m_all m_len c_text_of c_parse_of F11 g11 b11
  have c__law_cell := d__law_cell.2 (P := l.prog) (w := w) (base := base) m_int m_len F12 g12 b12
  have c__law_numbers := d__law_numbers.2 (P := l.prog) (w := w) (base := base) m_int m_range F13 g13 b13
  have c__law_draws := d__law_draws.2 (P := l.prog) (w := w) (base := base) c__law_cell c__law_numbers F14 g14 b14
  have c__law_word := d__law_word.2 (P := l.prog) (w := w) (base := base) m_len m_range F15 g15 b15
  have c__law_signs := d__law_signs.2 (P := l.prog) (w := w) (base := base) m_int m_range F16 g16 b16
  have c__law_same := d__law_same.2 (P := l.prog) (w := w) (base := base) m_bool m_int m_isinstance m_len m_list m_range m_str m_tuple F17 g17 b17
  have c__law_parse := d__law_parse.2 (P := l.prog) (w := w) (base := base) m_len m_range F18 g18 b18
  have c__law_great := d__law_great.2 (P := l.prog) (w := w) (base := base) m_len m_range c__law_draws c__law_word F19 g19 b19
  have c__law_texts := d__law_texts.2 (P := l.prog) (w := w) (base := base) m_len m_range F20 g20 b20
  have c__law_checked := d__law_checked.2 (P := l.prog) (w := w) (base := base) m_ValueError m_int m_isinstance m_list x_InvalidItem x_ScriptError x_WrongCount sb_InvalidItem_InvalidItem sb_InvalidItem_ScriptError sb_WrongCount_InvalidItem sb_WrongCount_WrongCount c_check_table F21 g21 b21
  have c__law_parsed := d__law_parsed.2 (P := l.prog) (w := w) (base := base) m_isinstance m_list x_NotTold x_ScriptError sb_NotTold_NotTold sb_NotTold_ScriptError c_parse F22 g22 b22
  have c__law_spoken := d__law_spoken.2 (P := l.prog) (w := w) (base := base) m_isinstance m_list x_NotTold x_ScriptError sb_NotTold_NotTold sb_NotTold_ScriptError c_told F23 g23 b23
  have c__law_lists := d__law_lists.2 (P := l.prog) (w := w) (base := base) m_len m_min F24 g24 b24
  have c__law_is_parse := d__law_is_parse.2 (P := l.prog) (w := w) (base := base) m_len c__law_parse F25 g25 b25
  have c__law_told_all := d__law_told_all.2 (P := l.prog) (w := w) (base := base) m_len m_list m_range c__law_texts c__law_parse c__law_spoken c__law_parsed c__law_same c_text_of c__law_lists c__law_is_parse c_is_parse F26 g26 b26
  exact d_law.2 m_int m_len m_list m_sorted c__law_draws c__law_signs c__law_great c__law_checked c_is_full c_signs_of c__law_same c__law_told_all F27
end K00
set_option Elab.async false
set_option linter.all false
set_option maxRecDepth 100000
/-! k00, plain: parses. -/
namespace K00
open PL
abbrev Tb := List (S × S)
def lf (T : Tb) (k : Nat) : S := (T.getD k default).1
def stp (T : Tb) (r : S) (acc : Option Nat) (k : Nat) : Option Nat := if ((lf T k).isPrefixOf r && (acc.isNone || decide ((lf T (acc.getD 0)).length < (lf T k).length))) = true then some k else acc
def bst (T : Tb) (r : S) : Option Nat := (List.range T.length).foldl (stp T r) none
theorem stp_skip {T : Tb} {r : S} {k : Nat} (h : (lf T k).isPrefixOf r = false) (acc : Option Nat) : stp T r acc k = acc := by
  unfold stp; rw [h]; simp
theorem fold_filter (T : Tb) (r : S) : ∀ (l : List Nat) (acc : Option Nat), l.foldl (stp T r) acc = (l.filter fun k => (lf T k).isPrefixOf r).foldl (stp T r) acc
  | [], acc => rfl
  | k :: l, acc => by
    rw [List.foldl_cons, fold_filter T r l]
    cases h : (lf T k).isPrefixOf r with
    | true => rw [List.filter_cons_of_pos (by exact h), List.foldl_cons]
    | false => rw [List.filter_cons_of_neg (by rw [h]; exact Bool.false_ne_true), stp_skip h]
theorem fold_some (T : Tb) (r : S) : ∀ (l : List Nat) (b : Nat), ∃ b', l.foldl (stp T r) (some b) = some b' ∧ (b' = b ∨ b' ∈ l)
  | [], b => ⟨b, rfl, .inl rfl⟩
  | k :: l, b => by
    rw [List.foldl_cons]
    unfold stp
    split
    · obtain ⟨b', h1, h2⟩ := fold_some T r l k
      exact ⟨b', h1, .inr (h2.elim (fun z => by rw [z]; exact List.mem_cons_self) fun z => List.mem_cons_of_mem _ z)⟩
    · obtain ⟨b', h1, h2⟩ := fold_some T r l b
      exact ⟨b', h1, h2.imp id fun z => List.mem_cons_of_mem _ z⟩
/-- how the greatest is found among those that fit -/
theorem bst_fits (T : Tb) (r : S) : bst T r = match ((List.range T.length).filter fun k => (lf T k).isPrefixOf r) with | [] => none | f :: l => (f :: l).foldl (stp T r) (some f) := by
  unfold bst
  rw [fold_filter]
  cases h : ((List.range T.length).filter fun k => (lf T k).isPrefixOf r) with
  | nil => rfl
  | cons f l =>
    show (f :: l).foldl (stp T r) none = (f :: l).foldl (stp T r) (some f)
    rw [List.foldl_cons, List.foldl_cons]
    have hf : (lf T f).isPrefixOf r = true := by
      have : f ∈ ((List.range T.length).filter fun k => (lf T k).isPrefixOf r) := by rw [h]; exact List.mem_cons_self
      exact (List.mem_filter.mp this).2
    congr 1
    unfold stp
    rw [hf]
    simp
theorem bst_some {T : Tb} {r : S} {k : Nat} (h : bst T r = some k) : k < T.length ∧ (lf T k).isPrefixOf r = true := by
  rw [bst_fits] at h
  cases hl : ((List.range T.length).filter fun k => (lf T k).isPrefixOf r) with
  | nil => rw [hl] at h; cases h
  | cons f l =>
    rw [hl] at h
    obtain ⟨b', h1, h2⟩ := fold_some T r (f :: l) f
    have e : b' = k := by
      have := h1.symm.trans h
      exact Option.some.inj this
    subst e
    have hm : b' ∈ f :: l := h2.elim (fun z => by rw [z]; exact List.mem_cons_self) id
    rw [← hl] at hm
    obtain ⟨m1, m2⟩ := List.mem_filter.mp hm
    exact ⟨List.mem_range.mp m1, m2⟩
def Good (T : Tb) : Prop := T.length ≤ 40 ∧ ∀ p ∈ T, 1 ≤ p.1.length ∧ p.1.length ≤ 6 ∧ p.2.length ≤ 8
theorem lf_mem {T : Tb} {k : Nat} (h : k < T.length) : T.getD k default ∈ T := by
  rw [List.getD_eq_getElem?_getD, List.getElem?_eq_getElem h]; exact List.getElem_mem h
theorem Good.lf {T : Tb} (g : Good T) {k : Nat} (h : k < T.length) : 1 ≤ (lf T k).length ∧ (K00.lf T k).length ≤ 6 := ⟨(g.2 _ (lf_mem h)).1, (g.2 _ (lf_mem h)).2.1⟩
def pr (T : Tb) (s : S) : Option (List Nat) :=
  if s = [] then some []
  else match bst T s with
    | none => none
    | some k => if h : 0 < (lf T k).length ∧ 0 < s.length then (pr T (s.drop (lf T k).length)).map (k :: ·) else none
termination_by s.length
decreasing_by rw [List.length_drop]; omega
theorem pr_nil (T : Tb) : pr T [] = some [] := by rw [pr, if_pos rfl]
theorem pr_none {T : Tb} {s : S} (hs : s ≠ []) (h : bst T s = none) : pr T s = none := by rw [pr, if_neg hs, h]
theorem pr_some {T : Tb} (g : Good T) {s : S} (hs : s ≠ []) {k : Nat} (h : bst T s = some k) : pr T s = (pr T (s.drop (lf T k).length)).map (k :: ·) := by
  rw [pr, if_neg hs, h]
  show (if h : 0 < (lf T k).length ∧ 0 < s.length then _ else _) = _
  rw [dif_pos ⟨(g.lf (bst_some h).1).1, List.length_pos_iff.mpr hs⟩]
theorem pr_all {T : Tb} (g : Good T) : ∀ (n : Nat) (s : S) (l : List Nat), s.length ≤ n → pr T s = some l → (∀ k ∈ l, k < T.length) ∧ (l.map (lf T)).flatten = s ∧ l.length ≤ s.length := by
  intro n
  induction n with
  | zero =>
    intro s l h e
    have : s = [] := List.length_eq_zero_iff.mp (by omega)
    subst this
    rw [pr_nil] at e
    cases e
    exact ⟨by simp, rfl, Nat.le_refl _⟩
  | succ n ih =>
    intro s l h e
    by_cases hs : s = []
    · subst hs
      rw [pr_nil] at e
      cases e
      exact ⟨by simp, rfl, Nat.le_refl _⟩
    · cases hb : bst T s with
      | none => rw [pr_none hs hb] at e; cases e
      | some k =>
        rw [pr_some g hs hb] at e
        obtain ⟨b1, b2⟩ := bst_some hb
        have lk := g.lf b1
        have lp := List.length_pos_iff.mpr hs
        cases hp : pr T (s.drop (lf T k).length) with
        | none => rw [hp] at e; cases e
        | some l' =>
          rw [hp] at e
          cases e
          obtain ⟨i1, i2, i3⟩ := ih _ l' (by rw [List.length_drop]; omega) hp
          obtain ⟨t, ht⟩ := List.isPrefixOf_iff_prefix.mp b2
          refine ⟨fun x hx => ?_, ?_, ?_⟩
          · rcases List.mem_cons.mp hx with rfl | hx
            · exact b1
            · exact i1 x hx
          · rw [List.map_cons, List.flatten_cons, i2]
            conv => rhs; rw [← ht]
            rw [← ht, List.drop_left]
          · rw [List.length_drop] at i3
            simp only [List.length_cons]
            omega
theorem pr_ne {T : Tb} {s : S} (hs : s ≠ []) {l : List Nat} (h : pr T s = some l) : l ≠ [] := by
  intro z
  subst z
  rw [pr, if_neg hs] at h
  split at h
  · cases h
  · split at h
    · cases hp : pr T (s.drop (lf T _).length) with
      | none => rw [hp] at h; cases h
      | some l' => rw [hp] at h; cases h
    · cases h
end K00
set_option Elab.async false
set_option linter.all false
set_option maxRecDepth 100000
namespace K00
open PL PySem
abbrev oi (o : Option Nat) : Option Int := o.map fun k : Nat => (k : Int)
abbrev li (l : List Nat) : List Int := l.map fun k : Nat => (k : Int)
theorem ixD_lf (T : Tb) (k : Nat) : (ixD T (k : Int)).1 = lf T k := by rw [ixD_nat]; rfl
theorem lf_get {T : Tb} {i : Nat} {p : S × S} (h : T[i]? = some p) : lf T i = p.1 := by
  unfold lf; rw [List.getD_eq_getElem?_getD, h]; rfl
theorem t_longest (T : Tb) (s : S) (p : Nat) (hp : p ≤ s.length) : d_longest_at.1.ok (T, s, (p : Int), ()) ∧ d_longest_at.1.m (T, s, (p : Int), ()) = oi (bst T (s.drop p)) := by
  unfold d_longest_at
  simp only [okT, true_and, and_true, and_assoc, implies_true, dec_rec]
  refine for_ind (Q := fun r : Option Int => r = oi (bst T (s.drop p))) (fun i e => e.1 = T ∧ e.2.1 = s ∧ e.2.2.1 = (p : Int) ∧ e.2.2.2.1 = oi ((List.range i).foldl (stp T (s.drop p)) none) ∧ ∀ k, (List.range i).foldl (stp T (s.drop p)) none = some k → k < T.length) ⟨rfl, rfl, rfl, rfl, fun k h => by cases h⟩ (fun i a ha e K KO hI hn => ?_) fun e hI => ⟨trivial, by
    rw [enum_len] at hI; exact hI.2.2.2.1⟩
  obtain ⟨a1, a2⟩ := enum_at ha
  obtain ⟨x, y⟩ := a
  dsimp only at a1 a2
  subst a1
  obtain ⟨e1, e2, e3, e4, e5, e6, e7⟩ := e
  dsimp only at hI ⊢
  obtain ⟨rfl, rfl, rfl, rfl, hk⟩ := hI
  have hl := lf_get a2
  have hi := at_lt a2
  have e0 : starts3 e2 y.1 (p : Int) = (lf e1 i).isPrefixOf (e2.drop p) := by
    unfold starts3
    rw [hl, Int.toNat_natCast]
    cases h : y.1.isPrefixOf (e2.drop p) with
    | false => rw [Bool.and_false]
    | true =>
      have := (List.isPrefixOf_iff_prefix.mp h).length_le
      rw [List.length_drop] at this
      rw [Bool.and_true, decide_eq_true_eq]
      omega
  have hs : (List.range (i + 1)).foldl (stp e1 (e2.drop p)) none = stp e1 (e2.drop p) ((List.range i).foldl (stp e1 (e2.drop p)) none) i := by rw [List.range_succ, List.foldl_append]; rfl
  generalize hacc : (List.range i).foldl (stp e1 (e2.drop p)) none = acc at *
  have ec : (starts3 e2 y.1 (p : Int) && ((oi acc).isNone || decide ((List.length (ixD e1 ((oi acc).getD default)).1 : Int) < (List.length y.1 : Int)))) = ((lf e1 i).isPrefixOf (e2.drop p) && (acc.isNone || decide ((lf e1 (acc.getD 0)).length < (lf e1 i).length))) := by
    rw [e0, hl]
    cases acc with
    | none => rfl
    | some k =>
      show (_ && (false || decide ((List.length (ixD e1 (k : Int)).1 : Int) < (List.length y.1 : Int)))) = (_ && (false || decide ((lf e1 k).length < y.1.length)))
      rw [ixD_lf]
      congr 2
      exact decide_eq_decide.mpr (by omega)
  rw [ec]
  have ok2 : starts3 e2 y.1 (p : Int) = true → (oi acc).isNone = false → (oi acc).isSome = true ∧ ixOk e1 ((oi acc).getD default) := fun _ h => by
    cases acc with
    | none => cases h
    | some k => exact ⟨rfl, ixOk_nat (hk k rfl)⟩
  cases hc : ((lf e1 i).isPrefixOf (e2.drop p) && (acc.isNone || decide ((lf e1 (acc.getD 0)).length < (lf e1 i).length))) with
  | true =>
    obtain ⟨g1, g2⟩ := hn (e1, e2, (p : Int), some (i : Int), {}, {}, e7) ⟨rfl, rfl, rfl, by rw [hs]; unfold stp; rw [if_pos hc]; rfl, fun k h => by
      rw [hs] at h; unfold stp at h; rw [if_pos hc] at h; cases h; exact hi⟩
    exact ⟨⟨by omega, ok2, fun _ => g1, fun z => nomatch z⟩, g2⟩
  | false =>
    obtain ⟨g1, g2⟩ := hn (e1, e2, (p : Int), oi acc, {}, {}, e7) ⟨rfl, rfl, rfl, by rw [hs]; unfold stp; rw [if_neg (by rw [hc]; exact Bool.false_ne_true)], fun k h => by
      rw [hs] at h; unfold stp at h; rw [if_neg (by rw [hc]; exact Bool.false_ne_true)] at h; exact hk k h⟩
    exact ⟨⟨by omega, ok2, (fun z => nomatch z), fun _ => g1⟩, g2⟩
def exOf (T : Tb) (s : S) : Ex (List Int) := match pr T s with | some l => .ok (li l) | none => .error "NotTold"
theorem t_parse (T : Tb) (g : Good T) (s : S) (hs : s.length ≤ 900) : d_parse.1.ok (T, s, ()) ∧ d_parse.1.m (T, s, ()) = exOf T s := by
  unfold d_parse
  simp only [okT, true_and, and_true, and_assoc, implies_true, dec_rec]
  refine wh_ind (Q := fun r : Ex (List Int) => r = exOf T s) (fun m e => e.1 = T ∧ e.2.1 = s ∧ ∃ (l : List Nat) (p : Nat), e.2.2.1.l = li l ∧ e.2.2.2.1 = (p : Int) ∧ p ≤ s.length ∧ s.length - p ≤ m ∧ l.length ≤ p ∧ pr T s = (pr T (s.drop p)).map (l ++ ·)) (fun e => e.1 = T ∧ e.2.1 = s ∧ ∃ (l : List Nat), e.2.2.1.l = li l ∧ pr T s = some l) (fun m e hI => ?_) (fun e he => ?_) 1000 900 _ ⟨rfl, rfl, [], 0, rfl, rfl, Nat.zero_le _, by omega, Nat.le_refl _, by simp⟩ (by decide)
  · obtain ⟨e1, e2, ⟨e3⟩, e4, e5, e6⟩ := e
    dsimp only at hI ⊢
    obtain ⟨rfl, rfl, l, p, rfl, rfl, hp, hm, hlp, hpr⟩ := hI
    refine ⟨trivial, fun hc K KO hn _ => ?_, fun hc => ⟨rfl, rfl, l, rfl, ?_⟩⟩
    · have hlt : p < e2.length := by have := of_decide_eq_true hc; omega
      obtain ⟨t1, t2⟩ := t_longest e1 e2 p hp
      have hne : e2.drop p ≠ [] := List.ne_nil_of_length_pos (by rw [List.length_drop]; omega)
      rw [t2]
      cases hb : bst e1 (e2.drop p) with
      | none =>
        refine ⟨⟨t1, fun z => nomatch z⟩, ?_⟩
        show Except.error "NotTold" = exOf e1 e2
        unfold exOf
        rw [hpr, pr_none hne hb]
        rfl
      | some k =>
        obtain ⟨b1, b2⟩ := bst_some hb
        have lk := g.lf b1
        have hle := (List.isPrefixOf_iff_prefix.mp b2).length_le
        rw [List.length_drop] at hle
        have hpr2 : pr e1 e2 = (pr e1 (e2.drop (p + (lf e1 k).length))).map ((l ++ [k]) ++ ·) := by
          rw [hpr, pr_some g hne hb, List.drop_drop, Option.map_map]
          congr 1
          funext x
          simp
        obtain ⟨g1, g2⟩ := hn (e1, e2, ⟨li l ++ [(k : Int)]⟩, (p : Int) + ((ixD e1 (k : Int)).1.length : Int), {}, e6) (m - 1) (by omega) ⟨rfl, rfl, l ++ [k], p + (lf e1 k).length, by simp, by rw [ixD_lf]; simp, by omega, by omega, by simp; omega, hpr2⟩
        exact ⟨⟨t1, fun _ => ⟨rfl, lt_sz (by rw [List.length_map]; omega), rfl, ixOk_nat b1, g1⟩⟩, g2⟩
    · have hge : p = e2.length := by have := of_decide_eq_false hc; omega
      rw [hpr, hge, List.drop_length, pr_nil]
      simp
  · obtain ⟨e1, e2, ⟨e3⟩, e4, e5, e6⟩ := e
    dsimp only at he ⊢
    obtain ⟨rfl, rfl, l, rfl, hl⟩ := he
    refine ⟨trivial, ?_⟩
    unfold exOf
    rw [hl]
theorem in_rng {T : Tb} {l : List Nat} (h : ∀ k ∈ l, k < T.length) : ∀ a ∈ li l, ixOk T a := fun a ha => by
  obtain ⟨k, hk, rfl⟩ := List.mem_map.mp ha
  exact ixOk_nat (h k hk)
theorem map_lf (T : Tb) (l : List Nat) : List.map (fun a : Int => (ixD T a).1) (li l) = l.map (lf T) := by
  rw [List.map_map]
  exact List.map_congr_left fun k _ => ixD_lf T k
def rt (T : Tb) (k : Nat) : S := (T.getD k default).2
theorem map_rt (T : Tb) (l : List Nat) : List.map (fun a : Int => (ixD T a).2) (li l) = l.map (rt T) := by
  rw [List.map_map]
  exact List.map_congr_left fun k _ => by show (ixD T (k : Int)).2 = _; rw [ixD_nat]; rfl
theorem jn_rt {T : Tb} (g : Good T) {l : List Nat} (h : ∀ k ∈ l, k < T.length) (hl : l.length ≤ 900) : joinOk [] (l.map (rt T)) := join_ok 8 900 (fun a ha => by
  obtain ⟨k, hk, rfl⟩ := List.mem_map.mp ha
  exact (g.2 _ (lf_mem (h k hk))).2.2) (by rw [List.length_map]; exact hl) (by decide)
theorem jn_lf {T : Tb} (g : Good T) {l : List Nat} (h : ∀ k ∈ l, k < T.length) (hl : l.length ≤ 900) : joinOk [] (l.map (lf T)) := join_ok 6 900 (fun a ha => by
  obtain ⟨k, hk, rfl⟩ := List.mem_map.mp ha
  exact (g.lf (h k hk)).2) (by rw [List.length_map]; exact hl) (by decide)
def told (T : Tb) (l : List Nat) : S := TL.joinL [] (l.map (rt T))
theorem t_told (T : Tb) (g : Good T) (s : S) (hs : s.length ≤ 900) : d_told.1.ok (T, s, ()) ∧ d_told.1.m (T, s, ()) = match pr T s with | some l => .ok (told T l) | none => .error "NotTold" := by
  obtain ⟨p1, p2⟩ := t_parse T g s hs
  unfold d_told
  simp only [okT, true_and, and_true, and_assoc, implies_true, dec_rec]
  rw [p2]
  unfold exOf
  cases h : pr T s with
  | none => exact ⟨fun _ _ => p1, (fun z => nomatch z), rfl⟩
  | some l =>
    obtain ⟨a1, a2, a3⟩ := pr_all g _ s l (Nat.le_refl _) h
    refine ⟨(fun x z => nomatch z), fun _ => ⟨p1, rfl, in_rng a1, ?_⟩, ?_⟩
    · show joinOk [] (List.map (fun a : Int => (ixD T a).2) (li l))
      rw [map_rt]; exact jn_rt g a1 (by omega)
    · show Except.ok (TL.joinL [] (List.map (fun a : Int => (ixD T a).2) (li l))) = _
      rw [map_rt]; rfl
theorem t_textof (T : Tb) (g : Good T) (l : List Nat) (h : ∀ k ∈ l, k < T.length) (hl : l.length ≤ 900) : d_text_of.1.ok (T, li l, ()) ∧ d_text_of.1.m (T, li l, ()) = (l.map (lf T)).flatten := by
  unfold d_text_of
  simp only [okT, true_and, and_true, and_assoc, implies_true, dec_rec]
  rw [map_lf, joinL_flat]
  exact ⟨in_rng h, jn_lf g h hl, rfl⟩
theorem t_parseof (T : Tb) (g : Good T) (s : S) (hs : s.length ≤ 900) : d_parse_of.1.ok (T, s, ()) ∧ d_parse_of.1.m (T, s, ()) = (pr T s).map li := by
  obtain ⟨p1, p2⟩ := t_parse T g s hs
  unfold d_parse_of
  simp only [okT, true_and, and_true, and_assoc, implies_true, dec_rec]
  rw [p2]
  unfold exOf
  cases h : pr T s with
  | none => exact ⟨(fun z => nomatch z), (fun x z => by cases z; exact ⟨p1, trivial⟩), rfl⟩
  | some l => exact ⟨fun _ => ⟨p1, rfl⟩, (fun x z => nomatch z), rfl⟩
/-- numbers that are none of the table, or all of it -/
theorem rng_dec (T : Tb) (l : List Int) : (List.map (fun a => decide (0 ≤ a) && decide (a < (T.length : Int))) l).all id = decide (∀ a ∈ l, 0 ≤ a ∧ a < T.length) := by
  rw [Bool.eq_iff_iff, List.all_eq_true, decide_eq_true_eq]
  constructor
  · intro h a ha
    have := h _ (List.mem_map.mpr ⟨a, ha, rfl⟩)
    simpa using this
  · intro h b hb
    obtain ⟨a, ha, rfl⟩ := List.mem_map.mp hb
    have := h a ha
    simpa using this
theorem nat_of {T : Tb} {l : List Int} (h : ∀ a ∈ l, 0 ≤ a ∧ a < T.length) : ∃ k : List Nat, l = li k ∧ ∀ x ∈ k, x < T.length := by
  refine ⟨l.map Int.toNat, ?_, fun x hx => ?_⟩
  · show l = (l.map Int.toNat).map fun k : Nat => (k : Int)
    rw [List.map_map]
    conv => lhs; rw [← List.map_id l]
    exact List.map_congr_left fun a ha => by have := h a ha; show a = ((a.toNat : Nat) : Int); omega
  · obtain ⟨a, ha, rfl⟩ := List.mem_map.mp hx
    have := h a ha
    omega
def isP (T : Tb) (l : List Int) : Bool := decide (∀ a ∈ l, 0 ≤ a ∧ a < T.length) && decide ((pr T ((l.map fun a => lf T a.toNat).flatten)).map li = some l)
theorem lf_nat (T : Tb) (k : List Nat) : (li k).map (fun a => lf T a.toNat) = k.map (lf T) := by
  rw [List.map_map]; exact List.map_congr_left fun x _ => by show lf T ((x : Int).toNat) = _; rw [Int.toNat_natCast]
theorem flat_le {T : Tb} (g : Good T) {l : List Nat} (h : ∀ k ∈ l, k < T.length) : (l.map (lf T)).flatten.length ≤ l.length * 6 := by
  induction l with
  | nil => simp
  | cons k l ih =>
    have := (g.lf (h k List.mem_cons_self)).2
    have := ih fun x hx => h x (List.mem_cons_of_mem _ hx)
    rw [List.map_cons, List.flatten_cons, List.length_append, List.length_cons, Nat.succ_mul]
    omega
theorem t_isparse (T : Tb) (g : Good T) (l : List Int) (hs : ((l.map fun a => lf T a.toNat).flatten).length ≤ 900) (hl : l.length ≤ 900) : d_is_parse.1.ok (T, l, ()) ∧ d_is_parse.1.m (T, l, ()) = isP T l := by
  unfold d_is_parse
  simp only [okT, true_and, and_true, and_assoc, implies_true, dec_rec]
  rw [rng_dec]
  unfold isP
  by_cases h : ∀ a ∈ l, 0 ≤ a ∧ a < T.length
  · rw [decide_eq_true h]
    obtain ⟨k, rfl, hk⟩ := nat_of h
    rw [lf_nat] at hs ⊢
    have hl : k.length ≤ 900 := by rw [List.length_map] at hl; exact hl
    obtain ⟨t1, t2⟩ := t_textof T g k hk hl
    obtain ⟨q1, q2⟩ := t_parseof T g _ hs
    rw [t2, q2]
    exact ⟨fun _ => ⟨t1, q1⟩, rfl⟩
  · rw [decide_eq_false h]
    exact ⟨(fun z => nomatch z), rfl⟩
end K00
set_option Elab.async false
set_option linter.all false
set_option maxRecDepth 100000
namespace K00
open PL PySem
/-- which lefts fit at a place, as the law asks it -/
theorem sl_pre (s x : S) (p : Nat) (hp : p ≤ s.length) : decide (sl s (some (p : Int)) (some ((p : Int) + (x.length : Int))) = x) = x.isPrefixOf (s.drop p) := by
  rw [sl_mid (by omega) (by omega) (by omega), Int.toNat_natCast, show ((p : Int) + (x.length : Int)).toNat - p = x.length from by omega]
  rw [Bool.eq_iff_iff, decide_eq_true_eq, List.isPrefixOf_iff_prefix, List.prefix_iff_eq_take]
  exact ⟨fun h => h.symm, fun h => h.symm⟩
theorem fits_eq (T : Tb) (s : S) (p : Nat) (hp : p ≤ s.length) : List.map (fun a => a) (List.filter (fun a => decide (sl s (some (p : Int)) (some ((p : Int) + (List.length (ixD T a).1 : Int))) = (ixD T a).1)) (irange 0 (T.length : Int))) = li ((List.range T.length).filter fun k => (lf T k).isPrefixOf (s.drop p)) := by
  rw [show (fun a : Int => a) = id from rfl, List.map_id, irange_nat, List.filter_map]
  show List.map _ _ = List.map _ _
  congr 1
  refine List.filter_congr fun k hk => ?_
  show decide (sl s (some (p : Int)) (some ((p : Int) + (List.length (ixD T (k : Int)).1 : Int))) = (ixD T (k : Int)).1) = _
  rw [ixD_lf]
  exact sl_pre s (lf T k) p hp
theorem t_lparse (T : Tb) (g : Good T) (s : S) (hs : s.length ≤ 900) : d__law_parse.1.ok (T, s, ()) ∧ d__law_parse.1.m (T, s, ()) = (pr T s).map li := by
  have tl := g.1
  unfold d__law_parse
  simp only [okT, true_and, and_true, and_assoc, implies_true, dec_rec]
  refine ⟨rg_of (by omega) (by omega), ?_⟩
  refine for_rng (Q := fun r : Option (List Int) => r = (pr T s).map li) (fun i e => e.1 = T ∧ e.2.1 = s ∧ ∃ (l : List Nat) (p : Nat), e.2.2.1.l = li l ∧ e.2.2.2.1 = (p : Int) ∧ p ≤ s.length ∧ (i ≤ p ∨ p = s.length) ∧ l.length ≤ p ∧ pr T s = (pr T (s.drop p)).map (l ++ ·)) ⟨rfl, rfl, [], 0, rfl, rfl, Nat.zero_le _, .inl (Nat.le_refl _), Nat.le_refl _, by simp⟩ (fun i hi e K KO hI hn => ?_) fun e hI => ⟨trivial, ?_⟩
  · obtain ⟨e1, e2, ⟨e3⟩, e4, e5, e6, e7, e8, e9⟩ := e
    dsimp only at hI ⊢
    obtain ⟨rfl, rfl, l, p, rfl, rfl, hp, hip, hlp, hpr⟩ := hI
    rw [fits_eq e1 e2 p hp]
    by_cases hlt : p < e2.length
    · rw [decide_eq_true (by omega : (p : Int) < (List.length e2 : Int))]
      have hne : e2.drop p ≠ [] := List.ne_nil_of_length_pos (by rw [List.length_drop]; omega)
      have hbf := bst_fits e1 (e2.drop p)
      have rg : ∀ a ∈ irange 0 (e1.length : Int), ixOk e1 a := fun a ha => by have := ir_mem ha; exact ixOk_of this.1 this.2
      simp only [if_true, true_implies, Bool.true_eq_false, false_implies, and_true]
      have fm : ∀ k ∈ ((List.range e1.length).filter fun k => (lf e1 k).isPrefixOf (e2.drop p)), k < e1.length ∧ (lf e1 k).isPrefixOf (e2.drop p) = true := fun k hk => ⟨List.mem_range.mp (List.mem_filter.mp hk).1, (List.mem_filter.mp hk).2⟩
      cases hF : ((List.range e1.length).filter fun k => (lf e1 k).isPrefixOf (e2.drop p)) with
      | nil =>
        rw [hF] at hbf
        refine ⟨⟨rg_of (by omega) (by omega), fun a ha => ⟨rg a ha, rg a ha⟩, fun z => ?_⟩, ?_⟩
        · simp at z
        · rw [hpr, pr_none hne hbf]
          rfl
      | cons f F =>
        rw [hF] at hbf fm
        have hbf : bst e1 (e2.drop p) = (f :: F).foldl (stp e1 (e2.drop p)) (some f) := hbf
        have e0 : decide (((li (f :: F)).length : Int) = 0) = false := decide_eq_false (by rw [List.length_map, List.length_cons]; omega)
        rw [e0]
        simp only [Bool.false_eq_true, if_false, true_implies]
        refine nx3 (rg_of (by omega) (by omega)) (fun a ha => ⟨rg a ha, rg a ha⟩) (ixOk_of (by decide) (by rw [List.length_map, List.length_cons]; omega)) ?_
        have e1' : ixD (li (f :: F)) 0 = (f : Int) := rfl
        rw [e1']
        refine for_ind (Q := fun r : Option (List Int) => r = (pr e1 e2).map li) (fun i x => x.1 = e1 ∧ x.2.1 = e2 ∧ x.2.2.1.l = li l ∧ x.2.2.2.1 = (p : Int) ∧ ∃ b : Nat, x.2.2.2.2.2.2.2.1 = (b : Int) ∧ ((f :: F).take i).foldl (stp e1 (e2.drop p)) (some f) = some b ∧ b < e1.length) ⟨rfl, rfl, rfl, rfl, f, rfl, rfl, (fm f List.mem_cons_self).1⟩ (fun i a ha x K KO hI hn2 => ?_) fun x hI => ?_
        · obtain ⟨x1, x2, ⟨x3⟩, x4, x5, x6, x7, x8, x9⟩ := x
          dsimp only at hI ⊢
          obtain ⟨rfl, rfl, rfl, rfl, b, rfl, hb, hbl⟩ := hI
          rw [List.getElem?_map] at ha
          cases hk : (f :: F)[i]? with
          | none => rw [hk] at ha; cases ha
          | some k =>
            rw [hk] at ha
            have ea : a = (k : Int) := (Option.some.inj ha).symm
            subst ea
            obtain ⟨k1, k2⟩ := fm k (List.mem_of_getElem? hk)
            have ht : ((f :: F).take (i + 1)).foldl (stp x1 (x2.drop p)) (some f) = stp x1 (x2.drop p) (some b) k := by rw [take_snoc hk, List.foldl_append, hb]; rfl
            have hst : stp x1 (x2.drop p) (some b) k = if (lf x1 b).length < (lf x1 k).length then some k else some b := by
              unfold stp
              rw [k2]
              show (if (true && (false || decide ((lf x1 b).length < (lf x1 k).length))) = true then _ else _) = _
              rw [Bool.true_and, Bool.false_or]
              by_cases h : (lf x1 b).length < (lf x1 k).length
              · rw [decide_eq_true h, if_pos rfl, if_pos h]
              · rw [decide_eq_false h, if_neg Bool.false_ne_true, if_neg h]
            rw [ixD_lf, ixD_lf]
            by_cases h : (lf x1 b).length < (lf x1 k).length
            · rw [decide_eq_true (by omega : ((lf x1 b).length : Int) < ((lf x1 k).length : Int))]
              rw [if_pos h] at hst
              obtain ⟨g1, g2⟩ := hn2 (x1, x2, ⟨li l⟩, (p : Int), {}, {}, x7, (k : Int), x9) ⟨rfl, rfl, rfl, rfl, k, rfl, ht.trans hst, k1⟩
              exact ⟨⟨ixOk_nat k1, ixOk_nat hbl, fun _ => g1, fun z => nomatch z⟩, g2⟩
            · rw [decide_eq_false (by omega : ¬ ((lf x1 b).length : Int) < ((lf x1 k).length : Int))]
              rw [if_neg h] at hst
              obtain ⟨g1, g2⟩ := hn2 (x1, x2, ⟨li l⟩, (p : Int), {}, {}, x7, (b : Int), x9) ⟨rfl, rfl, rfl, rfl, b, rfl, ht.trans hst, hbl⟩
              exact ⟨⟨ixOk_nat k1, ixOk_nat hbl, (fun z => nomatch z), fun _ => g1⟩, g2⟩
        · obtain ⟨x1, x2, ⟨x3⟩, x4, x5, x6, x7, x8, x9⟩ := x
          dsimp only at hI ⊢
          obtain ⟨rfl, rfl, rfl, rfl, b, rfl, hb, hbl⟩ := hI
          rw [List.length_map, List.take_length, ← hbf] at hb
          obtain ⟨b1, b2⟩ := bst_some hb
          have lk := g.lf b1
          have hle := (List.isPrefixOf_iff_prefix.mp b2).length_le
          rw [List.length_drop] at hle
          have hpr2 : pr x1 x2 = (pr x1 (x2.drop (p + (lf x1 b).length))).map ((l ++ [b]) ++ ·) := by
            rw [hpr, pr_some g hne hb, List.drop_drop, Option.map_map]
            congr 1
            funext x
            simp
          exact nx2 (lt_sz (by rw [List.length_map]; omega)) (ixOk_nat b1) (hn (x1, x2, ⟨li l ++ [(b : Int)]⟩, (p : Int) + ((ixD x1 (b : Int)).1.length : Int), {}, {}, {}, {}, x9) ⟨rfl, rfl, l ++ [b], p + (lf x1 b).length, by simp, by rw [ixD_lf]; simp, by omega, by omega, by simp; omega, hpr2⟩)
    · rw [decide_eq_false (by omega : ¬ (p : Int) < (List.length e2 : Int))]
      simp only [Bool.false_eq_true, if_false, true_implies, false_implies, true_and]
      exact hn _ ⟨rfl, rfl, l, p, rfl, rfl, hp, .inr (by omega), hlp, hpr⟩
  · obtain ⟨e1, e2, ⟨e3⟩, e4, e5, e6, e7, e8, e9⟩ := e
    dsimp only at hI ⊢
    obtain ⟨rfl, rfl, l, p, rfl, rfl, hp, hip, hlp, hpr⟩ := hI
    have hge : p = e2.length := by omega
    rw [hpr, hge, List.drop_length, pr_nil]
    simp
theorem t_lisparse (T : Tb) (g : Good T) (l : List Int) (hs : ((l.map fun a => lf T a.toNat).flatten).length ≤ 900) (hl : l.length ≤ 900) : d__law_is_parse.1.ok (T, l, ()) ∧ d__law_is_parse.1.m (T, l, ()) = isP T l := by
  unfold d__law_is_parse
  simp only [okT, true_and, and_true, and_assoc, implies_true, dec_rec]
  rw [show (fun a : Int => a) = id from rfl, List.map_id]
  have e0 : decide (0 < ((List.filter (fun a => decide (a < 0) || decide ((T.length : Int) ≤ a)) l).length : Int)) = !decide (∀ a ∈ l, 0 ≤ a ∧ a < T.length) := by
    rw [Bool.eq_iff_iff, decide_eq_true_eq, Bool.not_eq_true', decide_eq_false_iff_not]
    constructor
    · intro h hz
      rw [List.filter_eq_nil_iff.mpr] at h
      · simp at h
      · intro a ha
        have := hz a ha
        simp
        omega
    · intro h
      refine Classical.byContradiction fun hz => h fun a ha => ?_
      have h2 : List.filter (fun a => decide (a < 0) || decide ((T.length : Int) ≤ a)) l = [] := List.length_eq_zero_iff.mp (by omega)
      have := List.filter_eq_nil_iff.mp h2 a ha
      simp at this
      omega
  rw [e0]
  unfold isP
  by_cases h : ∀ a ∈ l, 0 ≤ a ∧ a < T.length
  · rw [decide_eq_true h]
    obtain ⟨k, rfl, hk⟩ := nat_of h
    rw [lf_nat] at hs ⊢
    have hl : k.length ≤ 900 := by rw [List.length_map] at hl; exact hl
    have e2 : TL.joinL ([] : S) (List.map (fun a => (ixD T a).1) (li k)) = (k.map (lf T)).flatten := by rw [map_lf, joinL_flat]
    obtain ⟨q1, q2⟩ := t_lparse T g _ hs
    rw [e2, q2]
    exact ⟨fun _ => ⟨in_rng hk, by rw [map_lf]; exact jn_lf g hk hl, q1⟩, rfl⟩
  · rw [decide_eq_false h]
    exact ⟨(fun z => nomatch z), rfl⟩
theorem t_parsed (T : Tb) (g : Good T) (s : S) (hs : s.length ≤ 900) : d__law_parsed.1.ok (T, s, ()) ∧ d__law_parsed.1.m (T, s, ()) = match pr T s with | some l => [ToD.d ([116, 111, 108, 100] : S), ToD.d (li l)] | none => [ToD.d ([114, 97, 105, 115, 101, 100] : S), ToD.d true] := by
  obtain ⟨p1, p2⟩ := t_parse T g s hs
  unfold d__law_parsed
  simp only [okT, true_and, and_true, and_assoc, implies_true, dec_rec]
  rw [p2]
  unfold exOf
  cases h : pr T s with
  | none => exact ⟨(fun z => nomatch z), (fun x z => by cases z; exact ⟨p1, trivial⟩), rfl⟩
  | some l => exact ⟨fun _ => ⟨p1, rfl⟩, (fun x z => nomatch z), rfl⟩
theorem t_spoken (T : Tb) (g : Good T) (s : S) (hs : s.length ≤ 900) : d__law_spoken.1.ok (T, s, ()) ∧ d__law_spoken.1.m (T, s, ()) = match pr T s with | some l => [ToD.d ([116, 111, 108, 100] : S), ToD.d (told T l)] | none => [ToD.d ([114, 97, 105, 115, 101, 100] : S), ToD.d true] := by
  obtain ⟨p1, p2⟩ := t_told T g s hs
  unfold d__law_spoken
  simp only [okT, true_and, and_true, and_assoc, implies_true, dec_rec]
  rw [p2]
  cases h : pr T s with
  | none => exact ⟨(fun z => nomatch z), (fun x z => by cases z; exact ⟨p1, trivial⟩), rfl⟩
  | some l => exact ⟨fun _ => ⟨p1, rfl⟩, (fun x z => nomatch z), rfl⟩
end K00
set_option Elab.async false
set_option linter.all false
set_option maxRecDepth 100000
namespace K00
open PL PySem
/-! signs, items, tables -/
def Pr (s : S) : Prop := ∀ c ∈ s, 32 ≤ c ∧ c ≤ 126
theorem lt_one (a b : Nat) : decide (([a] : S) < [b]) = decide (a < b) := by
  refine decide_eq_decide.mpr ?_
  show List.lt [a] [b] ↔ a < b
  simp [List.lt, List.cons_lt_cons_iff]
theorem t_istext (s : S) (h : Pr s) : d_is_text.1.ok (s, ()) ∧ d_is_text.1.m (s, ()) = true := by
  unfold d_is_text
  simp only [okT, true_and, and_true, and_assoc, implies_true, dec_rec]
  rw [List.all_eq_true]
  intro b hb
  obtain ⟨a, ha, rfl⟩ := List.mem_map.mp hb
  obtain ⟨c, hc, rfl⟩ := chars_mem.mp ha
  have := h c hc
  show (!decide (([c] : S) < [32]) && !decide (([126] : S) < [c])) = true
  rw [lt_one, lt_one, decide_eq_false (by omega), decide_eq_false (by omega)]
  rfl
structure It (p : S × S) : Prop where
  l1 : 1 ≤ p.1.length
  l2 : p.1.length ≤ 6
  r : p.2.length ≤ 8
  pl : Pr p.1
  prr : Pr p.2
theorem t_isitem (p : S × S) (h : It p) : d_is_item.1.ok (p, ()) ∧ d_is_item.1.m (p, ()) = true := by
  obtain ⟨a1, a2⟩ := t_istext p.1 h.pl
  obtain ⟨b1, b2⟩ := t_istext p.2 h.prr
  have l1 := h.l1
  have l2 := h.l2
  have l3 := h.r
  unfold d_is_item
  simp only [okT, true_and, and_true, and_assoc, implies_true, dec_rec]
  rw [a2, b2]
  refine ⟨fun _ _ => ⟨a1, fun _ => b1⟩, ?_⟩
  rw [if_neg (by show ¬ (!true || (!true || (!true || !true))) = true; decide)]
  rw [decide_eq_true (by omega), decide_eq_true (by omega), decide_eq_true (by omega)]
  rfl
theorem look_iff {β : Type} (l : List (S × β)) (k : S) : (lookD l k).isSome = true ↔ k ∈ l.map (·.1) := by
  unfold lookD
  rw [Option.isSome_map, List.find?_isSome, List.mem_map]
  constructor
  · rintro ⟨p, hp, e⟩
    exact ⟨p, hp, of_decide_eq_true e⟩
  · rintro ⟨p, hp, e⟩
    exact ⟨p, hp, decide_eq_true e⟩
theorem t_check (T : Tb) (hT : ∀ p ∈ T, It p) (hl : T.length ≤ 41) : d_check_table.1.ok (T, ()) ∧ d_check_table.1.m (T, ()) = if (T.map (·.1)).Nodup then (if 1 ≤ T.length ∧ T.length ≤ 40 then .ok () else .error "WrongCount") else .error "InvalidItem" := by
  unfold d_check_table
  simp only [okT, true_and, and_true, and_assoc, implies_true, dec_rec]
  refine for_ind (Q := fun r : Ex Unit => r = if (T.map (·.1)).Nodup then (if 1 ≤ T.length ∧ T.length ≤ 40 then .ok () else .error "WrongCount") else .error "InvalidItem") (fun i e => e.1 = T ∧ ((T.take i).map (·.1)).Nodup ∧ e.2.1.l.map (·.1) = (T.take i).map (·.1)) ⟨rfl, by simp, rfl⟩ (fun i a ha e K KO hI hn => ?_) fun e hI => ?_
  · obtain ⟨e1, ⟨e2⟩, e3, e4⟩ := e
    dsimp only at hI ⊢
    obtain ⟨rfl, hnd, hk⟩ := hI
    have hi := at_lt ha
    obtain ⟨t1, t2⟩ := t_isitem a (hT a (List.mem_of_getElem? ha))
    rw [t2, Bool.not_true, Bool.false_or]
    cases hm : (lookD e2 a.1).isSome with
    | true =>
      refine ⟨⟨t1, fun z => nomatch z⟩, ?_⟩
      rw [look_iff, hk] at hm
      rw [if_pos rfl, if_neg]
      intro hnd2
      rw [← List.take_append_drop i e1, drop_at ha, List.map_append, List.nodup_append] at hnd2
      exact hnd2.2.2 _ hm _ List.mem_cons_self rfl
    | false =>
      have hm' : a.1 ∉ (e1.take i).map (·.1) := fun z => by
        have := (look_iff e2 a.1).mpr (by rw [hk]; exact z)
        rw [hm] at this; cases this
      have le2 : e2.length = i := by
        have := congrArg List.length hk
        rw [List.length_map, List.length_map, List.length_take] at this
        omega
      obtain ⟨g1, g2⟩ := hn (e1, ⟨putD e2 a.1 true⟩, {}, e4) ⟨rfl, by
        rw [take_snoc ha, List.map_append, List.nodup_append]
        exact ⟨hnd, by simp, fun x hx y hy e => hm' (by
          rw [List.map_cons, List.map_nil, List.mem_singleton] at hy
          rw [← hy, ← e]; exact hx)⟩, by
        show (putD e2 a.1 true).map (·.1) = _
        rw [putD_keys, hk, if_neg hm', take_snoc ha, List.map_append]; rfl⟩
      exact ⟨⟨t1, fun _ => ⟨lt_sz (by omega), g1⟩⟩, g2⟩
  · obtain ⟨e1, ⟨e2⟩, e3, e4⟩ := e
    dsimp only at hI ⊢
    obtain ⟨rfl, hnd, hk⟩ := hI
    rw [List.take_length] at hnd
    rw [if_pos hnd]
    refine ⟨trivial, ?_⟩
    by_cases h : 1 ≤ e1.length ∧ e1.length ≤ 40
    · rw [if_pos h, decide_eq_true (by omega), decide_eq_true (by omega)]; rfl
    · rw [if_neg h]
      rw [if_pos]
      rw [Bool.not_eq_true', Bool.and_eq_false_iff, decide_eq_false_iff_not, decide_eq_false_iff_not]
      omega
theorem t_checked (T : Tb) (hT : ∀ p ∈ T, It p) (hl : T.length ≤ 41) (h1 : 1 ≤ T.length) : d__law_checked.1.ok (T, ()) ∧
    ((T.map (·.1)).Nodup → T.length ≤ 40 → d__law_checked.1.m (T, ()) = [103, 111, 111, 100]) ∧ (¬ (T.map (·.1)).Nodup → d__law_checked.1.m (T, ()) = [105, 116, 101, 109]) := by
  obtain ⟨c1, c2⟩ := t_check T hT hl
  unfold d__law_checked
  simp only [okT, true_and, and_true, and_assoc, implies_true, dec_rec]
  by_cases hnd : (T.map (·.1)).Nodup
  · rw [if_pos hnd] at c2
    by_cases h : 1 ≤ T.length ∧ T.length ≤ 40
    · rw [if_pos h] at c2
      rw [c2]
      exact ⟨fun _ => ⟨c1, rfl, ixOk_of (by decide) (by decide)⟩, (fun x z => nomatch z), fun _ _ => rfl, fun z => absurd hnd z⟩
    · rw [if_neg h] at c2
      rw [c2]
      refine ⟨(fun z => nomatch z), (fun x z => ?_), (fun _ z => by omega), fun z => absurd hnd z⟩
      cases z
      exact ⟨c1, trivial⟩
  · rw [if_neg hnd] at c2
    rw [c2]
    refine ⟨(fun z => nomatch z), (fun x z => ?_), (fun z => absurd z hnd), fun _ => rfl⟩
    cases z
    exact ⟨c1, fun _ => ixOk_of (by decide) (by decide)⟩
/-! draws -/
theorem ok_cell (ns : List Int) (k : Int) (hk : 0 ≤ k) : d__law_cell.1.ok (⟨ns⟩, k, ()) := by
  unfold d__law_cell
  simp only [okT, true_and, and_true, implies_true]
  intro h
  have h2 : k < ns.length := of_decide_eq_true h
  exact ixOk_of hk h2
theorem t_numbers (c : Int) (n : Nat) (hn : n ≤ 1000) : d__law_numbers.1.ok (c, (n : Int), 5040, ()) ∧ Drw n (d__law_numbers.1.m (c, (n : Int), 5040, ())) := by
  have bnd : ∀ x : Int, 0 ≤ x.fmod 5040 ∧ x.fmod 5040 < 5040 := fun x => fm_bounds (by decide)
  unfold d__law_numbers
  simp only [okT, true_and, and_true, and_assoc, implies_true, dec_rec]
  refine ⟨by unfold L2.CPow; decide, ?_⟩
  cases hc : decide ((10 : Int) ^ Int.toNat 18 ≤ c) with
  | true =>
    simp only [if_true, true_implies, Bool.true_eq_false, false_implies, and_true, true_and, and_assoc]
    refine ⟨rg_of (by omega) (by omega), for_rng (Q := Drw n) (fun i e => e.2.2.1 = 5040 ∧ Drw i e.2.2.2.1.l) ⟨rfl, rfl, by simp⟩ (fun i hi e K KO hI hn => ?_) fun e hI => ⟨trivial, by exact hI.2⟩⟩
    obtain ⟨e1, e2, e3, ⟨e4⟩, e5, e6, e7⟩ := e
    dsimp only at hI ⊢
    obtain ⟨rfl, h2⟩ := hI
    exact nx3 (by decide) (lt_sz (by rw [h2.1]; omega)) ⟨by decide, by decide⟩ (hn _ ⟨rfl, h2.snoc (bnd _)⟩)
  | false =>
    simp only [Bool.false_eq_true, if_false, true_implies, false_implies, and_true, true_and, and_assoc]
    refine ⟨rg_of (by omega) (by omega), for_rng (Q := Drw n) (fun i e => e.2.2.1 = 5040 ∧ Drw i e.2.2.2.1.l) ⟨rfl, rfl, by simp⟩ (fun i hi e K KO hI hn => ?_) fun e hI => ⟨trivial, by exact hI.2⟩⟩
    obtain ⟨e1, e2, e3, ⟨e4⟩, e5, e6, e7⟩ := e
    dsimp only at hI ⊢
    obtain ⟨rfl, h2⟩ := hI
    have hi60 : i < 1000 := by omega
    generalize hm : (e1 * 48271 + (i : Int) * 69621 + 7).fmod 2147483647 = mx
    have bm : 0 ≤ mx ∧ mx < 2147483647 := by rw [← hm]; exact fm_bounds (by decide)
    exact nx10 (cm_r (by decide) (by decide)) (cm_l (by omega) (by omega)) (by decide) (cm_l (by omega) (by omega)) (cm_r (by decide) (by decide)) (cm_r (by decide) (by decide)) (by decide) ⟨by decide, by decide⟩ (by decide) (lt_sz (by rw [h2.1]; omega)) (hn _ ⟨rfl, h2.snoc (bnd _)⟩)
theorem t_draws (ns : List Int) (k : Int) (hk : 0 ≤ k) (hk2 : k ≤ 1000) (n : Nat) (hn : n ≤ 1000) : d__law_draws.1.ok (⟨ns⟩, k, (n : Int), ()) ∧ Drw n (d__law_draws.1.m (⟨ns⟩, k, (n : Int), ())) := by
  unfold d__law_draws
  simp only [okT, true_and, and_true, and_assoc, implies_true, dec_rec]
  obtain ⟨a, b⟩ := t_numbers (d__law_cell.1.m (⟨ns⟩, k, ()) + 7919 * k) n hn
  exact ⟨ok_cell ns k hk, cm_l (by decide) (by decide), a, b⟩
theorem t_word {n : Nat} {d : List Int} (hd : Drw n d) (at' : Int) (signs : S) (least most : Int) (h0 : 0 ≤ at') (hs : signs ≠ []) (hl : 0 ≤ least) (hm : least ≤ most) (hn : at' + most < n) (hm2 : most ≤ 1000) :
    d__law_word.1.ok (d, at', signs, least, most, ()) ∧ (least ≤ (d__law_word.1.m (d, at', signs, least, most, ())).length ∧ ((d__law_word.1.m (d, at', signs, least, most, ())).length : Int) ≤ most ∧ ∀ c ∈ d__law_word.1.m (d, at', signs, least, most, ()), c ∈ signs) := by
  unfold d__law_word
  simp only [okT, true_and, and_true, and_assoc, implies_true, dec_rec]
  have q := fm_bounds (a := ixD d at') (n := most - least + 1) (by omega)
  have ls : 0 < signs.length := List.length_pos_iff.mpr hs
  refine ⟨hd.ix h0 (by omega), by omega, rg_of (by omega) (by omega), ?_⟩
  refine for_rng (Q := fun r : S => least ≤ r.length ∧ (r.length : Int) ≤ most ∧ ∀ c ∈ r, c ∈ signs) (fun i e => e.1 = d ∧ e.2.1 = at' ∧ e.2.2.1 = signs ∧ e.2.2.2.2.2.1.length = i ∧ ∀ c ∈ e.2.2.2.2.2.1, c ∈ signs) ⟨rfl, rfl, rfl, rfl, by simp⟩ (fun i hi e K KO hI hn => ?_) fun e hI => ?_
  · obtain ⟨e1, e2, e3, e4, e5, e6, e7, e8⟩ := e
    obtain ⟨h1, h2, h3, h4, h5⟩ := hI
    dsimp only at h1 h2 h3 h4 h5 ⊢
    subst h1 h2 h3
    have nn := hd.nn (k := e2 + 1 + (i : Int)) (by omega) (by omega)
    have q2 := fm_bounds (a := ixD e1 (e2 + 1 + (i : Int))) (n := (List.length e3 : Int)) (by omega)
    refine nx4 (hd.ix (by omega) (by omega)) (by omega) (ixOk_of q2.1 q2.2) (sz_of (by rw [h4]; show i + 1 ≤ _; omega)) (hn _ ⟨rfl, rfl, rfl, by simp [h4], fun c hc => ?_⟩)
    rcases List.mem_append.mp hc with hc | hc
    · exact h5 c hc
    · rw [List.mem_singleton.mp hc]; exact ixD_mem q2.1 q2.2
  · obtain ⟨h1, h2, h3, h4, h5⟩ := hI
    refine ⟨trivial, ?_, ?_, h5⟩
    · show least ≤ (List.length e.2.2.2.2.2.1 : Int)
      omega
    · show (List.length e.2.2.2.2.2.1 : Int) ≤ most
      omega
abbrev K94 : S := [32, 33, 34, 35, 36, 38, 39, 40, 41, 42, 43, 44, 45, 46, 47, 48, 49, 50, 51, 52, 53, 54, 55, 56, 57, 58, 59, 60, 61, 62, 63, 64, 65, 66, 67, 68, 69, 70, 71, 72, 73, 74, 75, 76, 77, 78, 79, 80, 81, 82, 83, 84, 85, 86, 87, 88, 89, 90, 91, 92, 93, 94, 95, 96, 97, 98, 99, 100, 101, 102, 103, 104, 105, 106, 107, 108, 109, 110, 111, 112, 113, 114, 115, 116, 117, 118, 119, 120, 121, 122, 123, 124, 125, 126]
theorem K94_nd : K94.Nodup := by decide +kernel
theorem K94_len : K94.length = 94 := by decide +kernel
theorem K94_pr : Pr K94 := by unfold Pr; decide +kernel
theorem getD_inj {l : S} (hn : l.Nodup) {i j : Nat} (hi : i < l.length) (hj : j < l.length) (h : l.getD i 0 = l.getD j 0) : i = j := by
  rw [List.getD_eq_getElem?_getD, List.getD_eq_getElem?_getD, List.getElem?_eq_getElem hi, List.getElem?_eq_getElem hj] at h
  have h2 : l[i] = l[j] := h
  have a := hn.idxOf_getElem i hi
  rw [h2, hn.idxOf_getElem j hj] at a
  exact a.symm
theorem t_signs (d : Int) (hd : 0 ≤ d) (h2 : d < 5040) : d__law_signs.1.ok (d, 7, ()) ∧ (d__law_signs.1.m (d, 7, ())).length = 7 ∧ (d__law_signs.1.m (d, 7, ())).Nodup ∧ Pr (d__law_signs.1.m (d, 7, ())) := by
  unfold d__law_signs
  simp only [okT, true_and, and_true, and_assoc, implies_true, dec_rec]
  have b := fm_bounds (a := d.fdiv 94) (n := 7) (by decide)
  generalize hs : ixD [1, 3, 5, 7, 9, 11, (13 : Int)] ((d.fdiv 94).fmod 7) = step
  have st : step = 1 ∨ step = 3 ∨ step = 5 ∨ step = 7 ∨ step = 9 ∨ step = 11 ∨ step = 13 := by
    have := ixD_mem (xs := [1, 3, 5, 7, 9, 11, (13 : Int)]) b.1 b.2
    rw [hs] at this
    simpa using this
  have bm : ∀ a : Int, 0 ≤ (d + a * step).fmod 94 ∧ (d + a * step).fmod 94 < 94 := fun a => fm_bounds (by decide)
  rw [joinL_ones]
  have lr : (irange 0 7).length = 7 := rfl
  refine ⟨⟨by decide, by decide⟩, by decide, ixOk_of b.1 b.2, rg_of (by decide) (by decide), fun a ha => ⟨cm_r (by omega) (by omega), by decide, ixOk_of (bm a).1 (bm a).2⟩, ones_ok _ _ (by rw [lr]; decide), by rw [List.length_map]; rfl, ?_, fun c hc => ?_⟩
  · rw [show (7 : Int) = ((7 : Nat) : Int) from rfl, irange_nat, List.map_map]
    show List.Pairwise _ _
    rw [List.pairwise_map]
    refine List.Pairwise.imp_of_mem ?_ List.pairwise_lt_range
    intro x y hx hy hxy
    have hx2 := List.mem_range.mp hx
    have hy2 := List.mem_range.mp hy
    show ixD K94 ((d + (x : Int) * step).fmod 94) ≠ ixD K94 ((d + (y : Int) * step).fmod 94)
    intro z
    have bx := bm (x : Int)
    have by' := bm (y : Int)
    have e1 : ∀ k : Int, 0 ≤ k → ixD K94 k = K94.getD k.toNat 0 := fun k hk => by
      conv => lhs; rw [show k = ((k.toNat : Nat) : Int) from by omega]
      rw [ixD_nat]; rfl
    rw [e1 _ bx.1, e1 _ by'.1] at z
    have := getD_inj K94_nd (by rw [K94_len]; omega) (by rw [K94_len]; omega) z
    have e2 : (d + (x : Int) * step).fmod 94 = (d + (y : Int) * step).fmod 94 := by omega
    rw [Int.fmod_eq_emod_of_nonneg _ (by decide), Int.fmod_eq_emod_of_nonneg _ (by decide)] at e2
    rcases st with rfl | rfl | rfl | rfl | rfl | rfl | rfl <;> omega
  · obtain ⟨a, ha, rfl⟩ := List.mem_map.mp hc
    exact K94_pr _ (ixD_mem (bm a).1 (by rw [K94_len]; exact (bm a).2))
end K00
set_option Elab.async false
set_option linter.all false
set_option maxRecDepth 100000
set_option maxHeartbeats 4000000
namespace K00
open PL PySem
theorem same_refl (d : D) : d__law_same.1.m (d, d, ()) = true := D.same_refl d
theorem oks_S (a : D) (b : S) : d__law_same.1.ok (a, ToD.d b, ()) := FitD.ok (α := S) (a := b) (k := 8) trivial (by decide)
theorem oks_B (a : D) (b : Bool) : d__law_same.1.ok (a, ToD.d b, ()) := FitD.ok (α := Bool) (a := b) (k := 8) trivial (by decide)
structure Tbl (signs : S) (T : Tb) : Prop where
  l1 : 1 ≤ T.length
  l2 : T.length ≤ 40
  it : ∀ p ∈ T, It p
  nd : (T.map (·.1)).Nodup
  sg : ∀ p ∈ T, ∀ c ∈ p.1, c ∈ signs
  fst : ∃ p ∈ T, p.1 = [ixD signs 0]
theorem Tbl.good {signs : S} {T : Tb} (h : Tbl signs T) : Good T := ⟨h.l2, fun p hp => ⟨(h.it p hp).l1, (h.it p hp).l2, (h.it p hp).r⟩⟩
/-! the signs of a table -/
def usedL (signs : S) (T : Tb) : List S := List.map (fun a => a) (List.filter (fun a => decide (0 < ((List.map (fun a => a) (List.filter (fun b : S × S => inS a b.1) T)).length : Int))) (chars signs))
theorem used_mem (signs : S) (T : Tb) (x : S) : x ∈ usedL signs T ↔ ∃ c ∈ signs, x = [c] ∧ ∃ p ∈ T, c ∈ p.1 := by
  unfold usedL
  rw [show (fun a : S => a) = id from rfl, List.map_id, List.mem_filter, chars_mem]
  constructor
  · rintro ⟨⟨c, hc, rfl⟩, h⟩
    refine ⟨c, hc, rfl, ?_⟩
    have := of_decide_eq_true h
    rw [show (fun a : S × S => a) = id from rfl, List.map_id] at this
    have h2 : 0 < (List.filter (fun b : S × S => inS [c] b.1) T).length := by omega
    obtain ⟨p, hp⟩ := List.exists_mem_of_length_pos h2
    obtain ⟨h3, h4⟩ := List.mem_filter.mp hp
    rw [inS_one] at h4
    exact ⟨p, h3, of_decide_eq_true h4⟩
  · rintro ⟨c, hc, rfl, p, hp, hm⟩
    refine ⟨⟨c, hc, rfl⟩, decide_eq_true ?_⟩
    rw [show (fun a : S × S => a) = id from rfl, List.map_id]
    have : p ∈ List.filter (fun b : S × S => inS [c] b.1) T := List.mem_filter.mpr ⟨hp, by rw [inS_one]; exact decide_eq_true hm⟩
    have := List.length_pos_of_mem this
    omega
theorem chars_nd {s : S} (h : s.Nodup) : (chars s).Nodup := by
  unfold chars
  show List.Pairwise _ _
  rw [List.pairwise_map]
  exact h.imp fun {a b} hab e => hab (by simpa using e)
theorem used_nd {signs : S} (h : signs.Nodup) (T : Tb) : (usedL signs T).Nodup := by
  unfold usedL
  rw [show (fun a : S => a) = id from rfl, List.map_id]
  exact (chars_nd h).sublist List.filter_sublist
theorem used_len (signs : S) (T : Tb) : (usedL signs T).length ≤ signs.length := by
  unfold usedL
  rw [List.length_map]
  refine Nat.le_trans (List.length_filter_le _ _) ?_
  rw [chars_len]
  exact Nat.le_refl _
theorem t_signsof (signs : S) (T : Tb) (hs : signs.Nodup) (hl : signs.length ≤ 7) (h : Tbl signs T) : d_signs_of.1.ok (T, ()) ∧ d_signs_of.1.m (T, ()) = srtS (usedL signs T) := by
  have l2 := h.l2
  unfold d_signs_of
  simp only [okT, true_and, and_true, and_assoc, implies_true, dec_rec]
  obtain ⟨k1, k2⟩ := fillD_keys (List.flatMap (fun a : S × S => List.map (fun b => (b, true)) (chars a.1)) T) [] (by simp)
  generalize hK : fillD [] (List.flatMap (fun a : S × S => List.map (fun b => (b, true)) (chars a.1)) T) = K at *
  have mem : ∀ x, x ∈ K.map (·.1) ↔ x ∈ usedL signs T := fun x => by
    rw [k2 x, used_mem]
    constructor
    · rintro (z | z)
      · simp at z
      · obtain ⟨q, hq, rfl⟩ := List.mem_map.mp z
        obtain ⟨p, hp, hq2⟩ := List.mem_flatMap.mp hq
        obtain ⟨b, hb, rfl⟩ := List.mem_map.mp hq2
        obtain ⟨c, hc, rfl⟩ := chars_mem.mp hb
        exact ⟨c, h.sg p hp c hc, rfl, p, hp, hc⟩
    · rintro ⟨c, _, rfl, p, hp, hc⟩
      exact .inr (List.mem_map.mpr ⟨([c], true), List.mem_flatMap.mpr ⟨p, hp, List.mem_map.mpr ⟨[c], chars_mem.mpr ⟨c, hc, rfl⟩, rfl⟩⟩, rfl⟩)
  have pm : (K.map (·.1)).Perm (usedL signs T) := (List.perm_ext_iff_of_nodup k1 (used_nd hs T)).mpr mem
  have ll := pm.length_eq
  rw [List.length_map] at ll
  have ul := used_len signs T
  refine ⟨sz_of ?_, by omega, ?_⟩
  · have : ∀ l : Tb, (∀ p ∈ l, It p) → (List.flatMap (fun a => chars a.1) l).length ≤ l.length * 6 := by
      intro l
      induction l with
      | nil => intro _; simp
      | cons p l ih =>
        intro hp
        have h1 := ih fun q hq => hp q (List.mem_cons_of_mem _ hq)
        have h2 := (hp p List.mem_cons_self).l2
        rw [List.flatMap_cons, List.length_append, chars_len, List.length_cons, Nat.succ_mul]
        omega
    have := this T h.it
    omega
  · show srtS (K.map (·.1)) = _
    exact srtS_uniq ((srtS_perm _).trans pm) (srtS_pw _)
theorem t_isfull (signs : S) (T : Tb) (hs : signs.Nodup) (hl : signs.length ≤ 7) (h : Tbl signs T) : d_is_full.1.ok (T, ()) ∧ d_is_full.1.m (T, ()) = decide (((List.map (fun a => a) (List.filter (fun a => !decide (a ∈ List.map (fun a : S × S => a.1) T)) (srtS (usedL signs T)))).length : Int) = 0) := by
  obtain ⟨s1, s2⟩ := t_signsof signs T hs hl h
  unfold d_is_full
  simp only [okT, true_and, and_true, and_assoc, implies_true, dec_rec]
  rw [s2]
  refine ⟨s1, ?_⟩
  rw [show (fun a : S => a) = id from rfl, List.map_id]
  rw [Bool.eq_iff_iff, List.all_eq_true, decide_eq_true_eq]
  constructor
  · intro h
    rw [List.filter_eq_nil_iff.mpr]
    · rfl
    · intro a ha hz
      have h0 := h _ (List.mem_map.mpr ⟨a, ha, rfl⟩)
      by_cases hm : a ∈ List.map (fun a : S × S => a.1) T
      · simp only [hm, decide_true, Bool.not_true] at hz; cases hz
      · simp only [hm, decide_false, id] at h0; cases h0
  · intro h b hb
    obtain ⟨a, ha, rfl⟩ := List.mem_map.mp hb
    have h2 := List.length_eq_zero_iff.mp (by omega : (List.filter (fun a => !decide (a ∈ List.map (fun a : S × S => a.1) T)) (srtS (usedL signs T))).length = 0)
    have := List.filter_eq_nil_iff.mp h2 a ha
    by_cases hm : a ∈ List.map (fun a : S × S => a.1) T
    · simp only [hm, decide_true, id]
    · exact absurd (by simp only [hm, decide_false, Bool.not_false]) this
/-! great tables -/
theorem t_great (ns : List Int) (signs : S) (most : Int) (hs : signs.Nodup) (hp : Pr signs) (h2 : 2 ≤ signs.length) (h6 : signs.length ≤ 6) (m1 : 1 ≤ most) (m2 : most ≤ 40) : d__law_great.1.ok (⟨ns⟩, 1, signs, most, ()) ∧ Tbl signs (d__law_great.1.m (⟨ns⟩, 1, signs, most, ())) := by
  unfold d__law_great
  simp only [okT, true_and, and_true, and_assoc, implies_true, dec_rec]
  have en : (2 + 16 * most : Int) = (((2 + 16 * most).toNat : Nat) : Int) := by omega
  obtain ⟨w1, w2⟩ := t_draws ns 1 (by decide) (by decide) (2 + 16 * most).toNat (by omega)
  rw [← en] at w1 w2
  generalize d__law_draws.1.m (⟨ns⟩, 1, 2 + 16 * most, ()) = d at *
  have pr2 : Pr (signs ++ [48, 49]) := fun c hc => (List.mem_append.mp hc).elim (hp c) fun z => by
    rcases List.mem_cons.mp z with rfl | z
    · omega
    · rw [List.mem_singleton.mp z]; omega
  refine ⟨cm_r (by omega) (by omega), w1, rg_of (by omega) (by omega), ?_⟩
  refine for_rng (Q := Tbl signs) (fun i e => e.2.2.1 = signs ∧ e.2.2.2.2.1 = d ∧ e.2.2.2.2.2.1.l.length ≤ i ∧ (∀ p ∈ e.2.2.2.2.2.1.l, It p) ∧ (∀ p ∈ e.2.2.2.2.2.1.l, ∀ c ∈ p.1, c ∈ signs) ∧ e.2.2.2.2.2.2.1.l = e.2.2.2.2.2.1.l.map (·.1) ∧ e.2.2.2.2.2.2.1.l.Nodup ∧ (1 ≤ i → ∃ p ∈ e.2.2.2.2.2.1.l, p.1 = [ixD signs 0])) ⟨rfl, rfl, by simp, by simp, by simp, rfl, by simp, fun z => by omega⟩ (fun i hi e K KO hI hn => ?_) fun e hI => ?_
  · obtain ⟨e1, e2, e3, e4, e5, ⟨e6⟩, ⟨e7⟩, e8, e9, e10, e11⟩ := e
    dsimp only at hI ⊢
    obtain ⟨rfl, rfl, hl, hit, hsg, hk, hnd, hfst⟩ := hI
    subst hk
    have hi2 : i < 40 := by omega
    have hin : (i : Int) ≤ most - 1 := by omega
    have b := fm_bounds (a := (i : Int)) (n := (List.length e3 : Int)) (by omega)
    obtain ⟨r1, r2, r3, r4⟩ := t_word w2 (9 + 16 * (i : Int)) (e3 ++ [48, 49]) 0 8 (by omega) (by simp) (by decide) (by decide) (by omega) (by decide)
    generalize d__law_word.1.m (e5, 9 + 16 * (i : Int), e3 ++ [48, 49], 0, 8, ()) = right at *
    have prr : Pr right := fun c hc => pr2 c (r4 c hc)
    -- what happens when a left is put in
    have add : ∀ left : S, 1 ≤ left.length → left.length ≤ 6 → (∀ c ∈ left, c ∈ e3) → (i = 0 → left = [ixD e3 0]) → left ∉ e6.map (·.1) →
        (KO.nx ({}, {}, e3, e4, e5, ⟨e6 ++ [(left, right)]⟩, ⟨e6.map (·.1) ++ [left]⟩, {}, {}, {}, e11) ∧ Tbl e3 (K.nx ({}, {}, e3, e4, e5, ⟨e6 ++ [(left, right)]⟩, ⟨e6.map (·.1) ++ [left]⟩, {}, {}, {}, e11))) := by
      intro left a1 a2 a3 a4 a5
      refine hn _ ⟨rfl, rfl, by simp; omega, fun p hp' => ?_, fun p hp' => ?_, by simp, ?_, fun _ => ?_⟩
      · rcases List.mem_append.mp hp' with z | z
        · exact hit p z
        · rw [List.mem_singleton.mp z]; exact ⟨a1, a2, by show List.length right ≤ 8; omega, fun c hc => hp c (a3 c hc), prr⟩
      · rcases List.mem_append.mp hp' with z | z
        · exact hsg p z
        · rw [List.mem_singleton.mp z]; exact a3
      · show (e6.map (·.1) ++ [left]).Nodup
        rw [List.nodup_append]
        exact ⟨hnd, by simp, fun x hx y hy e => a5 (by rw [List.mem_singleton] at hy; rw [← hy, ← e]; exact hx)⟩
      · by_cases h0 : i = 0
        · exact ⟨(left, right), List.mem_append_right _ (by simp), a4 h0⟩
        · obtain ⟨p, q1, q2⟩ := hfst (by omega)
          exact ⟨p, List.mem_append_left _ q1, q2⟩
    have stay : 1 ≤ i → (KO.nx ({}, {}, e3, e4, e5, ⟨e6⟩, ⟨e6.map (·.1)⟩, {}, {}, {}, e11) ∧ Tbl e3 (K.nx ({}, {}, e3, e4, e5, ⟨e6⟩, ⟨e6.map (·.1)⟩, {}, {}, {}, e11))) := fun h1 =>
      hn _ ⟨rfl, rfl, by dsimp only; omega, hit, hsg, rfl, hnd, fun _ => hfst h1⟩
    by_cases hc : (List.length e3 : Int) ≤ (i : Int)
    · rw [decide_eq_true hc]
      simp only [if_true, true_implies, Bool.true_eq_false, false_implies, and_true]
      have hdr : sl e3 (some 1) none = e3.drop 1 := sl_from (by decide)
      obtain ⟨l1, l2, l3, l4⟩ := t_word w2 (2 + 16 * (i : Int)) (sl e3 (some 1) none) 2 6 (by omega) (by rw [hdr]; exact List.ne_nil_of_length_pos (by rw [List.length_drop]; omega)) (by decide) (by decide) (by omega) (by decide)
      generalize d__law_word.1.m (e5, 2 + 16 * (i : Int), sl e3 (some 1) none, 2, 6, ()) = left at *
      by_cases hm : left ∈ e6.map (·.1)
      · simp only [hm, decide_true, Bool.not_true, Bool.false_eq_true, if_false, true_implies, false_implies, true_and]
        exact ⟨⟨by omega, ixOk_of b.1 b.2, cm_r (by omega) (by omega), l1, (stay (by omega)).1⟩, (stay (by omega)).2⟩
      · have hm' := hm
        simp only [hm, decide_false, Bool.not_false, if_true, true_implies, Bool.true_eq_false, false_implies, and_true]
        obtain ⟨g1, g2⟩ := add left (by omega) (by omega) (fun c hc' => by have := l4 c hc'; rw [hdr] at this; exact List.mem_of_mem_drop this) (fun z => by omega) hm'
        exact ⟨⟨by omega, ixOk_of b.1 b.2, cm_r (by omega) (by omega), l1, lt_sz (by rw [List.length_map]; omega), cm_r (by omega) (by omega), sz_of (by show List.length e3 + 2 ≤ _; omega), r1, lt_sz (by omega), g1⟩, g2⟩
    · rw [decide_eq_false hc]
      simp only [Bool.false_eq_true, if_false, true_implies, false_implies, true_and]
      have e0 : (i : Int).fmod (List.length e3 : Int) = (i : Int) := by rw [Int.fmod_eq_emod_of_nonneg _ (by omega), Int.emod_eq_of_lt (by omega) (by omega)]
      by_cases hm : ([ixD e3 ((i : Int).fmod (List.length e3 : Int))] : S) ∈ e6.map (·.1)
      · simp only [hm, decide_true, Bool.not_true, Bool.false_eq_true, if_false, true_implies, false_implies, true_and]
        have hi1 : 1 ≤ i := by
          rcases Nat.eq_zero_or_pos i with z | z
          · subst z
            have : e6 = [] := List.length_eq_zero_iff.mp (by omega)
            subst this
            cases hm
          · exact z
        exact ⟨⟨by omega, ixOk_of b.1 b.2, (stay hi1).1⟩, (stay hi1).2⟩
      · have hm' := hm
        simp only [hm, decide_false, Bool.not_false, if_true, true_implies, Bool.true_eq_false, false_implies, and_true]
        obtain ⟨g1, g2⟩ := add [ixD e3 ((i : Int).fmod (List.length e3 : Int))] (by simp) (by simp) (fun c hc' => by rw [List.mem_singleton.mp hc']; exact ixD_mem b.1 b.2) (fun z => by rw [e0, z]; rfl) hm'
        exact ⟨⟨by omega, ixOk_of b.1 b.2, lt_sz (by rw [List.length_map]; omega), cm_r (by omega) (by omega), sz_of (by show List.length e3 + 2 ≤ _; omega), r1, lt_sz (by omega), g1⟩, g2⟩
  · obtain ⟨e1, e2, e3, e4, e5, ⟨e6⟩, ⟨e7⟩, e8, e9, e10, e11⟩ := e
    dsimp only at hI ⊢
    obtain ⟨rfl, rfl, hl, hit, hsg, hk, hnd, hfst⟩ := hI
    obtain ⟨p, q1, q2⟩ := hfst (by omega)
    have l1 := List.length_pos_of_mem q1
    have b := fm_bounds (a := ixD e5 0) (n := (e6.length : Int)) (by omega)
    have pm := turn_perm e6 ((ixD e5 0).fmod (e6.length : Int)) b.1
    have pl := pm.length_eq
    refine ⟨⟨w2.ix (by decide) (by omega), by omega, sz_of ?_⟩, ⟨by rw [pl]; exact l1, by rw [pl]; omega, fun p hp' => hit p (pm.mem_iff.mp hp'), (pm.map (·.1)).nodup_iff.mpr (hk ▸ hnd), fun p hp' => hsg p (pm.mem_iff.mp hp'), ⟨p, pm.mem_iff.mpr q1, q2⟩⟩⟩
    rw [List.length_append] at pl
    omega
end K00
set_option Elab.async false
set_option linter.all false
set_option maxRecDepth 100000
set_option maxHeartbeats 4000000
namespace K00
open PL PySem
theorem t_texts (signs : S) (T : Tb) (h : Tbl signs T) (hs : 1 ≤ signs.length) (c : Nat) {n : Nat} (d : List Int) (hd : Drw n d) (hn : 5 ≤ n) : d__law_texts.1.ok (T, signs, [c], d, ()) ∧
    ((d__law_texts.1.m (T, signs, [c], d, ())).length = 5 ∧ (∀ x ∈ d__law_texts.1.m (T, signs, [c], d, ()), x.length ≤ 800) ∧ ∀ k : Nat, k < 2 → ixD (d__law_texts.1.m (T, signs, [c], d, ())) (k : Int) ≠ []) := by
  have l1 := h.l1
  unfold d__law_texts
  simp only [okT, true_and, and_true, and_assoc, implies_true, dec_rec]
  have cell : ∀ a ∈ irange 0 4, ixOk d a ∧ (T.length : Int) ≠ 0 ∧ ixOk T ((ixD d a).fmod (T.length : Int)) := fun a ha => by
    have hr := ir_mem ha
    have b := fm_bounds (a := ixD d a) (n := (T.length : Int)) (by omega)
    exact ⟨hd.ix hr.1 (by omega), by omega, ixOk_of b.1 b.2⟩
  have cl : ∀ x ∈ List.map (fun a => (ixD T ((ixD d a).fmod (T.length : Int))).1) (irange 0 4), 1 ≤ x.length ∧ x.length ≤ 6 := fun x hx => by
    obtain ⟨a, ha, rfl⟩ := List.mem_map.mp hx
    have b := fm_bounds (a := ixD d a) (n := (T.length : Int)) (by omega)
    have := h.it _ (ixD_mem (xs := T) b.1 b.2)
    exact ⟨this.l1, this.l2⟩
  have jk : joinOk [] (List.map (fun a => (ixD T ((ixD d a).fmod (T.length : Int))).1) (irange 0 4)) := join_ok 6 4 (fun x hx => (cl x hx).2) (by rw [List.length_map]; exact Nat.le_refl _) (by decide)
  have hU : 1 ≤ (TL.joinL ([] : S) (List.map (fun a => (ixD T ((ixD d a).fmod (T.length : Int))).1) (irange 0 4))).length ∧ (TL.joinL ([] : S) (List.map (fun a => (ixD T ((ixD d a).fmod (T.length : Int))).1) (irange 0 4))).length ≤ 24 := by
    rw [joinL_flat]
    have e : List.map (fun a => (ixD T ((ixD d a).fmod (T.length : Int))).1) (irange 0 4) = [(ixD T ((ixD d 0).fmod (T.length : Int))).1, (ixD T ((ixD d 1).fmod (T.length : Int))).1, (ixD T ((ixD d 2).fmod (T.length : Int))).1, (ixD T ((ixD d 3).fmod (T.length : Int))).1] := rfl
    rw [e] at cl ⊢
    have c0 := cl _ (List.mem_cons_self)
    have c1 := cl _ (List.mem_cons_of_mem _ List.mem_cons_self)
    have c2 := cl _ (List.mem_cons_of_mem _ (List.mem_cons_of_mem _ List.mem_cons_self))
    have c3 := cl _ (List.mem_cons_of_mem _ (List.mem_cons_of_mem _ (List.mem_cons_of_mem _ List.mem_cons_self)))
    simp only [List.flatten_cons, List.flatten_nil, List.length_append, List.append_nil]
    omega
  generalize TL.joinL ([] : S) (List.map (fun a => (ixD T ((ixD d a).fmod (T.length : Int))).1) (irange 0 4)) = U at *
  have b4 := fm_bounds (a := ixD d 4) (n := 300) (by decide)
  generalize hat : (ixD d 4).fmod 300 = at' at *
  have m1 : (mulS [ixD signs 0] 380).length = 380 := by rw [mulS_len]; rfl
  have m2 : (mulS U 380).length = 380 * U.length := by rw [mulS_len]; rfl
  have s1 : (sl (mulS U 380) (some 0) (some 380)).length = 380 := by rw [sl_to (by decide), List.length_take, m2]; show min 380 _ = 380; omega
  have s2 : (sl (mulS [ixD signs 0] 380) (some 0) (some at')).length ≤ 300 := by rw [sl_to b4.1, List.length_take]; omega
  have s3 : (sl (mulS [ixD signs 0] 380) (some (at' + (U.length : Int))) none).length ≤ 380 := by rw [sl_from (by omega), List.length_drop]; omega
  have s4 : (sl (sl (mulS U 380) (some 0) (some 380)) (some 0) (some at')).length ≤ 300 := by rw [sl_to b4.1, List.length_take]; omega
  have s5 : (sl (sl (mulS U 380) (some 0) (some 380)) (some (at' + 1)) none).length ≤ 380 := by rw [sl_from (by omega), List.length_drop]; omega
  generalize sl (mulS U 380) (some 0) (some 380) = long at *
  generalize sl (mulS [ixD signs 0] 380) (some 0) (some at') = p1 at *
  generalize sl (mulS [ixD signs 0] 380) (some (at' + (U.length : Int))) none = p2 at *
  generalize sl long (some 0) (some at') = q1 at *
  generalize sl long (some (at' + 1)) none = q2 at *
  refine ⟨rg_of (by decide) (by decide), cell, jk, hd.ix (by decide) (by omega), by decide, ?_, ixOk_of (by decide) (by omega), ?_, sz_of (by omega), sz_of (by rw [List.length_append]; omega), sz_of (by show q1.length + 1 ≤ _; omega), sz_of (by rw [List.length_append]; show q1.length + 1 + q2.length ≤ _; omega), rfl, fun x hx => ?_, fun k hk => ?_⟩
  · unfold MulSOk; exact ⟨by decide, by decide, by show 380 * U.length ≤ _; omega⟩
  · unfold MulSOk; exact ⟨by decide, by decide, by show 380 * 1 ≤ _; omega⟩
  · simp only [List.mem_cons, List.mem_singleton, List.not_mem_nil, or_false] at hx
    rcases hx with rfl | rfl | rfl | rfl | rfl
    · omega
    · rw [List.length_append, List.length_append]; omega
    · omega
    · simp
    · rw [List.length_append, List.length_append]; show q1.length + 1 + q2.length ≤ 800; omega
  · have : k = 0 ∨ k = 1 := by omega
    rcases this with rfl | rfl
    · show long ≠ []
      exact List.ne_nil_of_length_pos (by omega)
    · show p1 ++ U ++ p2 ≠ []
      exact List.ne_nil_of_length_pos (by rw [List.length_append, List.length_append]; omega)
def wl (T : Tb) (l : List Int) : Nat := ((l.map fun a => lf T a.toNat).flatten).length
theorem wl_append (T : Tb) (a b : List Int) : wl T (a ++ b) = wl T a + wl T b := by unfold wl; rw [List.map_append, List.flatten_append, List.length_append]
theorem lf_any {T : Tb} (g : Good T) (k : Nat) : (lf T k).length ≤ 6 := by
  by_cases h : k < T.length
  · exact (g.lf h).2
  · unfold lf
    rw [List.getD_eq_getElem?_getD, List.getElem?_eq_none (by omega)]
    exact Nat.zero_le _
theorem wl_one {T : Tb} (g : Good T) (a : Int) : wl T [a] ≤ 6 := by
  unfold wl
  simp only [List.map_cons, List.map_nil, List.flatten_cons, List.flatten_nil, List.append_nil]
  exact lf_any g _
theorem wl_rev (T : Tb) : ∀ l : List Int, wl T l.reverse = wl T l
  | [] => rfl
  | a :: l => by
    rw [List.reverse_cons, wl_append, wl_rev T l]
    have : wl T (a :: l) = wl T [a] + wl T l := by rw [← wl_append]; rfl
    omega
theorem t_lists (T : Tb) (g : Good T) (l : List Int) (hl : l ≠ []) (hl2 : l.length ≤ 900) (cnt : Int) (hc : 1 ≤ cnt) {n : Nat} (d : List Int) (hd : Drw n d) (hn : 3 ≤ n) : d__law_lists.1.ok (l, cnt, d, ()) ∧ ∀ o ∈ d__law_lists.1.m (l, cnt, d, ()), wl T o ≤ wl T l + 6 ∧ o.length ≤ l.length + 1 := by
  have lp := List.length_pos_iff.mpr hl
  unfold d__law_lists
  simp only [okT, true_and, and_true, and_assoc, implies_true, dec_rec]
  have b := fm_bounds (a := ixD d 0) (n := min (l.length : Int) 40) (by omega)
  generalize hat : (l.length : Int) - 1 - (ixD d 0).fmod (min (l.length : Int) 40) = at' at *
  have hb : 0 ≤ at' ∧ at' < l.length := by omega
  rw [sl_to hb.1, sl_from (by omega : 0 ≤ at' + 1), sl_from (by omega : 0 ≤ at' + 2), sl_mid hb.1 (by omega) (by omega)]
  obtain ⟨p, rfl⟩ := Int.eq_ofNat_of_zero_le hb.1
  have e0 : (p : Int).toNat = p := rfl
  have e1 : ((p : Int) + 1).toNat = p + 1 := rfl
  have e2 : ((p : Int) + 2).toNat = p + 2 := rfl
  rw [e0, e1, e2, show p + 2 - p = 2 from by omega]
  have hp : p < l.length := by omega
  have wA : wl T (l.take p) + wl T (l.drop p) = wl T l := by rw [← wl_append, List.take_append_drop]
  have wB : wl T ((l.drop p).take 1) + wl T (l.drop (p + 1)) = wl T (l.drop p) := by rw [← wl_append, ← List.drop_drop, List.take_append_drop]
  have wC : wl T ((l.drop p).take 2) + wl T (l.drop (p + 2)) = wl T (l.drop p) := by rw [← wl_append, ← List.drop_drop, List.take_append_drop]
  have lA : (l.take p).length = p := by rw [List.length_take]; omega
  have lB : (l.drop (p + 1)).length = l.length - (p + 1) := List.length_drop
  have lC : (l.drop (p + 2)).length = l.length - (p + 2) := List.length_drop
  have lM : ((l.drop p).take 2).length ≤ l.length - p := by rw [List.length_take, List.length_drop]; omega
  have lM2 : ((l.drop p).take 2).length + (l.length - (p + 2)) = l.length - p := by rw [List.length_take, List.length_drop]; omega
  have x1 := wl_one g ((ixD d 1).fmod cnt)
  have x2 := wl_one g cnt
  have x3 := wl_one g (0 - 1 - (ixD d 2).fmod cnt)
  have rv := wl_rev T ((l.drop p).take 2)
  have rl : ((l.drop p).take 2).reverse.length = ((l.drop p).take 2).length := List.length_reverse
  generalize l.take p = A at *
  generalize l.drop (p + 1) = B at *
  generalize l.drop (p + 2) = C at *
  generalize ((l.drop p).take 2).reverse = R at *
  have sz : ∀ m : Nat, m ≤ 10000 → m ≤ sizeLine := fun m hm => sz_of (by omega)
  refine ⟨hd.ix (by decide) (by omega), by omega, sz _ (by omega), hd.ix (by decide) (by omega), by omega, sz _ (by simp; omega), sz _ (by simp; omega), sz _ (by simp; omega), sz _ (by simp; omega), lt_sz (by simp), hd.ix (by decide) (by omega), by omega, sz _ (by simp; omega), sz _ (by simp; omega), lt_sz (by simp), sz _ (by omega), sz _ (by rw [List.length_append]; omega), sz _ (by simp), fun o ho => ?_⟩
  simp only [List.mem_append, List.mem_cons, List.mem_singleton, List.not_mem_nil, or_false, false_or, or_assoc] at ho
  rcases ho with rfl | rfl | rfl | rfl | rfl | rfl
  · exact ⟨by omega, by omega⟩
  · rw [wl_append, List.length_append]; exact ⟨by omega, by omega⟩
  · rw [wl_append, wl_append, List.length_append, List.length_append]; simp only [List.length_singleton]; exact ⟨by omega, by omega⟩
  · rw [wl_append, wl_append, List.length_append, List.length_append]; simp only [List.length_singleton]; exact ⟨by omega, by omega⟩
  · rw [wl_append, wl_append, List.length_append, List.length_append]; simp only [List.length_singleton]; exact ⟨by omega, by omega⟩
  · rw [wl_append, wl_append, List.length_append, List.length_append]; exact ⟨by omega, by omega⟩
theorem same_true {a b : D} (h : a = b) : d__law_same.1.m (a, b, ()) = true := by rw [h]; exact same_refl b
theorem fit_ints (l : List Nat) (h : l.length ≤ 1000) : fitD 3 (ToD.d (li l)) = true := by
  show (decide (((li l).map ToD.d).length ≤ 16777216) && ((li l).map ToD.d).all (fitD 2)) = true
  rw [List.length_map, List.length_map, decide_eq_true (by omega), Bool.true_and, List.all_eq_true]
  intro x hx
  obtain ⟨a, _, rfl⟩ := List.mem_map.mp hx
  rfl
theorem t_toldall (signs : S) (T : Tb) (h : Tbl signs T) (hs : 1 ≤ signs.length) (c : Nat) {n : Nat} (d : List Int) (hd : Drw n d) (hn : 10 ≤ n) : d__law_told_all.1.ok (T, signs, [c], d, ()) ∧ d__law_told_all.1.m (T, signs, [c], d, ()) = true := by
  have g := h.good
  obtain ⟨t1, t2, t3, t4⟩ := t_texts signs T h hs c d hd (by omega)
  have d5 : Drw (n - 5) (sl d (some 5) none) := by
    rw [sl_from (by decide)]
    exact ⟨by rw [List.length_drop, hd.1]; rfl, fun x hx => hd.2 x (List.mem_of_mem_drop hx)⟩
  unfold d__law_told_all
  simp only [okT, true_and, and_true, and_assoc, implies_true, dec_rec]
  generalize d__law_texts.1.m (T, signs, [c], d, ()) = X at *
  refine ⟨t1, rg_of (by omega) (by omega), ?_⟩
  refine for_rng (Q := fun v : Bool => v = true) (fun i e => e.1 = T ∧ e.2.2.2.1 = d ∧ e.2.2.2.2.1 = X) ⟨rfl, rfl, rfl⟩ (fun i hi e K KO hI hn => ?_) fun e hI => ⟨trivial, rfl⟩
  obtain ⟨e1, e2, e3, e4, e5, e6, e7, e8, e9, e10, e11, e12⟩ := e
  dsimp only at hI ⊢
  obtain ⟨rfl, rfl, rfl⟩ := hI
  have hi5 : i < 5 := by omega
  have tx := t3 _ (ixD_mem (xs := e5) (k := (i : Int)) (by omega) (by omega))
  have tne : i < 2 → ixD e5 (i : Int) ≠ [] := t4 i
  have oki : ixOk e5 (i : Int) := ixOk_nat (by omega)
  generalize ixD e5 (i : Int) = text at *
  have tx8 := tx
  have tx : text.length ≤ 900 := by omega
  obtain ⟨p1, p2⟩ := t_lparse e1 g text tx
  obtain ⟨q1, q2⟩ := t_parsed e1 g text tx
  obtain ⟨s1, s2⟩ := t_spoken e1 g text tx
  have go := hn ({ fst := e1, snd := ({}, {}, e4, e5, {}, {}, {}, {}, {}, {}, e12) }) ⟨rfl, rfl, rfl⟩
  rw [p2, q2, s2]
  cases hp : pr e1 text with
  | none =>
    simp only [Option.map_none, Option.isSome_none, Bool.false_and, Bool.false_eq_true, if_false, true_implies, false_implies, true_and, and_true]
    rw [same_true rfl]
    simp only [Bool.not_true, Bool.false_eq_true, if_false, true_implies, and_assoc]
    exact ⟨oki, p1, q1, s1, rfl, go⟩
  | some l =>
    obtain ⟨a1, a2, a3⟩ := pr_all g _ text l (Nat.le_refl _) hp
    obtain ⟨x1, x2⟩ := t_textof e1 g l a1 (by omega)
    have tj : TL.joinL ([] : S) (List.map (fun a => (ixD e1 a).2) (li l)) = told e1 l := by rw [map_rt]; rfl
    simp only [Option.map_some, Option.isSome_some, Option.getD_some, Bool.true_and, if_true, true_implies, Bool.true_eq_false, false_implies, true_and, and_true]
    rw [same_true (by rw [tj]; rfl), x2, a2, same_refl]
    simp only [Bool.not_true, Bool.false_eq_true, if_false, true_implies, and_assoc]
    have jr : joinOk [] (List.map (fun a => (ixD e1 a).2) (li l)) := by rw [map_rt]; exact jn_rt g a1 (by omega)
    have fit : d__law_same.1.ok (ToD.d [ToD.d [ToD.d ([116, 111, 108, 100] : S), ToD.d (li l)], ToD.d [ToD.d ([116, 111, 108, 100] : S), ToD.d (told e1 l)]], ToD.d [ToD.d [ToD.d ([116, 111, 108, 100] : S), ToD.d (some (li l))], ToD.d [ToD.d ([116, 111, 108, 100] : S), ToD.d (TL.joinL ([] : S) (List.map (fun a => (ixD e1 a).2) (li l)))]], ()) := by
      show fitD 8 _ = true
      have f1 : fitD 6 (ToD.d (some (li l))) = true := FitD.ok (α := List Int) (a := li l) (k := 6) ⟨by rw [List.length_map]; omega, fun _ _ => trivial⟩ (by decide)
      show (decide (2 ≤ 16777216) && ((decide (2 ≤ 16777216) && (fitD 6 (ToD.d ([116, 111, 108, 100] : S)) && (fitD 6 (ToD.d (some (li l))) && true))) && ((decide (2 ≤ 16777216) && (fitD 6 (ToD.d ([116, 111, 108, 100] : S)) && (fitD 6 (ToD.d (TL.joinL ([] : S) (List.map (fun a => (ixD e1 a).2) (li l)))) && true))) && true))) = true
      rw [f1]
      rfl
    refine ⟨oki, p1, in_rng a1, jr, q1, s1, fit, x1, oks_S _ _, ?_⟩
    by_cases h2 : i < 2
    · rw [decide_eq_true (by omega : (i : Int) < 2)]
      simp only [if_true, true_implies, Bool.true_eq_false, false_implies, true_and, and_assoc]
      have lne : li l ≠ [] := fun z => pr_ne (tne h2) hp (List.map_eq_nil_iff.mp z)
      obtain ⟨y1, y2⟩ := t_lists e1 g (li l) lne (by rw [List.length_map]; omega) (e1.length : Int) (by have := h.l1; omega) (sl e4 (some 5) none) d5 (by omega)
      have wll : wl e1 (li l) = text.length := by
        unfold wl
        rw [lf_nat, a2]
      have lll : (li l).length ≤ text.length := by rw [List.length_map]; exact a3
      generalize d__law_lists.1.m (li l, (e1.length : Int), sl e4 (some 5) none, ()) = O at *
      refine ⟨y1, for_ind (Q := fun v : Bool => v = true) (fun j x => x.1 = e1 ∧ x.2.2.2.1 = e4 ∧ x.2.2.2.2.1 = e5) ⟨rfl, rfl, rfl⟩ (fun j o ho x K2 KO2 hI2 hn2 => ?_) fun x hI2 => ?_⟩
      · obtain ⟨v1, v2, v3, v4, v5, v6, v7, v8, v9, v10, v11⟩ := x
        dsimp only at hI2 ⊢
        obtain ⟨rfl, rfl, rfl⟩ := hI2
        obtain ⟨z1, z2⟩ := y2 o (List.mem_of_getElem? ho)
        have zw : ((o.map fun a => lf v1 a.toNat).flatten).length ≤ 900 := by show wl v1 o ≤ 900; omega
        obtain ⟨m1, m2⟩ := t_isparse v1 g o zw (by omega)
        obtain ⟨n1, n2⟩ := t_lisparse v1 g o zw (by omega)
        rw [m2, n2, same_refl]
        simp only [Bool.not_true, Bool.false_eq_true, if_false, true_implies]
        exact nx3 m1 n1 (oks_B _ _) (hn2 _ ⟨rfl, rfl, rfl⟩)
      · obtain ⟨v1, v2, v3, v4, v5, v6, v7, v8, v9, v10, v11⟩ := x
        dsimp only at hI2 ⊢
        obtain ⟨rfl, rfl, rfl⟩ := hI2
        exact hn _ ⟨rfl, rfl, rfl⟩
    · rw [decide_eq_false (by omega : ¬ (i : Int) < 2)]
      simp only [Bool.false_eq_true, if_false, true_implies, false_implies, true_and]
      exact go
end K00
set_option Elab.async false
set_option linter.all false
set_option maxRecDepth 100000
set_option maxHeartbeats 2000000
namespace K00
open PL PySem
theorem lawP (M__law_draws : Scr × Int × Int × Unit → (List Int)) (O__law_draws : Scr × Int × Int × Unit → Prop) (M__law_signs : Int × Int × Unit → S) (O__law_signs : Int × Int × Unit → Prop) (M__law_great : Scr × Int × S × Int × Unit → (List (S × S))) (O__law_great : Scr × Int × S × Int × Unit → Prop) (M__law_checked : (List (S × S)) × Unit → S) (O__law_checked : (List (S × S)) × Unit → Prop) (M_is_full : (List (S × S)) × Unit → Bool) (O_is_full : (List (S × S)) × Unit → Prop) (M_signs_of : (List (S × S)) × Unit → (List S)) (O_signs_of : (List (S × S)) × Unit → Prop) (M__law_same : D × D × Unit → Bool) (O__law_same : D × D × Unit → Prop) (M__law_told_all : (List (S × S)) × S × S × (List Int) × Unit → Bool) (O__law_told_all : (List (S × S)) × S × S × (List Int) × Unit → Prop)
  (ns : List Int)
  (hdr : O__law_draws (⟨ns⟩, 0, 20, ()) ∧ Drw 20 (M__law_draws (⟨ns⟩, 0, 20, ())))
  (hsg : ∀ d : Int, 0 ≤ d → d < 5040 → O__law_signs (d, 7, ()) ∧ (M__law_signs (d, 7, ())).length = 7 ∧ (M__law_signs (d, 7, ())).Nodup ∧ Pr (M__law_signs (d, 7, ())))
  (hgr : ∀ (signs : S) (most : Int) (hs : signs.Nodup) (hp : Pr signs) (h2 : 2 ≤ signs.length) (h6 : signs.length ≤ 6) (m1 : 1 ≤ most) (m2 : most ≤ 40), O__law_great (⟨ns⟩, 1, signs, most, ()) ∧ Tbl signs (M__law_great (⟨ns⟩, 1, signs, most, ())))
  (hck : ∀ (T : Tb) (hT : ∀ p ∈ T, It p) (hl : T.length ≤ 41) (h1 : 1 ≤ T.length), O__law_checked (T, ()) ∧ ((T.map (·.1)).Nodup → T.length ≤ 40 → M__law_checked (T, ()) = [103, 111, 111, 100]) ∧ (¬ (T.map (·.1)).Nodup → M__law_checked (T, ()) = [105, 116, 101, 109]))
  (hso : ∀ (signs : S) (T : Tb) (hs : signs.Nodup) (hl : signs.length ≤ 7) (h : Tbl signs T), O_signs_of (T, ()) ∧ M_signs_of (T, ()) = srtS (usedL signs T))
  (hfu : ∀ (signs : S) (T : Tb) (hs : signs.Nodup) (hl : signs.length ≤ 7) (h : Tbl signs T), O_is_full (T, ()) ∧ M_is_full (T, ()) = decide (((List.map (fun a => a) (List.filter (fun a => !decide (a ∈ List.map (fun a : S × S => a.1) T)) (srtS (usedL signs T)))).length : Int) = 0))
  (hsm : ∀ a b, a = b → M__law_same (a, b, ()) = true)
  (hso2 : ∀ (a : D) (l : List S) (b : Bool), l.length ≤ 7 → O__law_same (a, ToD.d [ToD.d l, ToD.d b], ()))
  (hta : ∀ (signs : S) (T : Tb) (h : Tbl signs T) (hs : 1 ≤ signs.length) (c : Nat) (d : List Int) (hd : Drw 15 d), O__law_told_all (T, signs, [c], d, ()) ∧ M__law_told_all (T, signs, [c], d, ()) = true) :
  (g_law M__law_draws O__law_draws M__law_signs O__law_signs M__law_great O__law_great M__law_checked O__law_checked M_is_full O_is_full M_signs_of O_signs_of M__law_same O__law_same M__law_told_all O__law_told_all).1.ok (⟨ns⟩, ()) ∧
  (g_law M__law_draws O__law_draws M__law_signs O__law_signs M__law_great O__law_great M__law_checked O__law_checked M_is_full O_is_full M_signs_of O_signs_of M__law_same O__law_same M__law_told_all O__law_told_all).1.m (⟨ns⟩, ()) = true := by
  obtain ⟨n1, n2⟩ := hdr
  obtain ⟨d, hd⟩ : ∃ d, M__law_draws (⟨ns⟩, 0, 20, ()) = d := ⟨_, rfl⟩
  rw [hd] at n2
  have i0 := n2.nn (k := 0) (by decide) (by decide)
  obtain ⟨e1, e2, e3, e4⟩ := hsg (ixD d 0) i0.1 i0.2
  obtain ⟨every, hev⟩ : ∃ x, M__law_signs (ixD d 0, 7, ()) = x := ⟨_, rfl⟩
  rw [hev] at e2 e3 e4
  have f1 := fm_bounds (a := ixD d 1) (n := 5) (by decide)
  have f2 := fm_bounds (a := ixD d 2) (n := 25) (by decide)
  obtain ⟨signs, hsi⟩ : ∃ x, sl every (some 0) (some (2 + (ixD d 1).fmod 5)) = x := ⟨_, rfl⟩
  have hsi' : signs = every.take (2 + (ixD d 1).fmod 5).toNat := by rw [← hsi, sl_to (by omega)]
  have sn : signs.Nodup := by rw [hsi']; exact e3.sublist (List.take_sublist _ _)
  have sp : Pr signs := fun c hc => e4 c (by rw [hsi'] at hc; exact List.mem_of_mem_take hc)
  have sl' : 2 ≤ signs.length ∧ signs.length ≤ 6 := by rw [hsi', List.length_take]; omega
  obtain ⟨most, hmo⟩ : ∃ x, 40 - (ixD d 2).fmod 25 = x := ⟨_, rfl⟩
  obtain ⟨g1, g2⟩ := hgr signs most sn sp sl'.1 sl'.2 (by omega) (by omega)
  obtain ⟨T, hT⟩ : ∃ x, M__law_great (⟨ns⟩, 1, signs, most, ()) = x := ⟨_, rfl⟩
  rw [hT] at g2
  have T1 := g2.l1
  have b3 := fm_bounds (a := ixD d 3) (n := (T.length : Int)) (by omega)
  have b4 := fm_bounds (a := ixD d 4) (n := (T.length : Int) + 1) (by omega)
  obtain ⟨sp', hsp⟩ : ∃ x, (ixD d 4).fmod ((T.length : Int) + 1) = x := ⟨_, rfl⟩
  obtain ⟨it, hit⟩ : ∃ x, ixD T ((ixD d 3).fmod (T.length : Int)) = x := ⟨_, rfl⟩
  have itm : it ∈ T := by rw [← hit]; exact ixD_mem b3.1 b3.2
  have itt := g2.it _ itm
  have bi : ∀ b : Bool, b2i b = 0 ∨ b2i b = 1 := fun b => by cases b; exact .inl rfl; exact .inr rfl
  have rOk : ixOk [([48] : S), sl it.2 (some 1) none] (b2i !decide (it.2 = [])) := by
    rcases bi (!decide (it.2 = [])) with z | z <;> rw [z]
    · exact ixOk_of (by decide) (by show (0 : Int) < ((2 : Nat) : Int); decide)
    · exact ixOk_of (by decide) (by show (1 : Int) < ((2 : Nat) : Int); decide)
  have slr : sl it.2 (some 1) none = it.2.drop 1 := sl_from (by decide)
  obtain ⟨nr, hnr⟩ : ∃ x, ixD [([48] : S), sl it.2 (some 1) none] (b2i !decide (it.2 = [])) = x := ⟨_, rfl⟩
  have nrI : It (it.1, nr) := by
    refine ⟨itt.l1, itt.l2, ?_, itt.pl, ?_⟩
    · show List.length nr ≤ 8
      rw [← hnr, slr]
      rcases bi (!decide (it.2 = [])) with z | z <;> rw [z]
      · show 1 ≤ 8; decide
      · show (it.2.drop 1).length ≤ 8
        rw [List.length_drop]; have := itt.r; omega
    · show Pr nr
      rw [← hnr, slr]
      rcases bi (!decide (it.2 = [])) with z | z <;> rw [z]
      · show Pr [48]
        intro c hc; rw [List.mem_singleton.mp hc]; exact ⟨by decide, by decide⟩
      · exact fun c hc => itt.prr c (List.mem_of_mem_drop hc)
  have b4' : 0 ≤ sp' ∧ sp' < (T.length : Int) + 1 := by rw [← hsp]; exact b4
  have s1 : sl T (some 0) (some sp') = T.take sp'.toNat := sl_to b4'.1
  have s2 : sl T (some sp') none = T.drop sp'.toNat := sl_from b4'.1
  have tl1 : (T.take sp'.toNat).length + (T.drop sp'.toNat).length = T.length := by rw [← List.length_append, List.take_append_drop]
  have T2 := g2.l2
  obtain ⟨U, hU⟩ : ∃ x, sl T (some 0) (some sp') ++ [(it.1, nr)] ++ sl T (some sp') none = x := ⟨_, rfl⟩
  have hUl : U.length = T.length + 1 := by
    rw [← hU, s1, s2, List.length_append, List.length_append, List.length_singleton]; omega
  have hUm : ∀ p ∈ U, p ∈ T ∨ p = (it.1, nr) := fun p hp => by
    rw [← hU, s1, s2] at hp
    simp only [List.mem_append, List.mem_singleton] at hp
    rcases hp with (z | z) | z
    · exact .inl (List.mem_of_mem_take z)
    · exact .inr z
    · exact .inl (List.mem_of_mem_drop z)
  have hUd : ¬ (U.map (·.1)).Nodup := by
    intro z
    have pm : U.Perm ((it.1, nr) :: T) := by
      rw [← hU, s1, s2, List.append_assoc]
      refine List.perm_append_comm.trans ?_
      show ((it.1, nr) :: (T.drop sp'.toNat ++ T.take sp'.toNat)).Perm _
      refine List.Perm.cons _ (List.perm_append_comm.trans ?_)
      rw [List.take_append_drop]
    have := (pm.map (·.1)).nodup_iff.mp z
    rw [List.map_cons, List.nodup_cons] at this
    exact this.1 (List.mem_map.mpr ⟨it, itm, rfl⟩)
  obtain ⟨ck1, ck2, _⟩ := hck T g2.it (by omega) T1
  have ck2 := ck2 g2.nd T2
  obtain ⟨cu1, _, cu2⟩ := hck U (fun p hp => by rcases hUm p hp with z | z; exact g2.it p z; rw [z]; exact nrI) (by omega) (by omega)
  have cu2 := cu2 hUd
  have szA : (sl T (some 0) (some sp')).length + [(it.1, nr)].length ≤ sizeLine := sz_of (by rw [s1, List.length_singleton]; omega)
  have szB : (sl T (some 0) (some sp') ++ [(it.1, nr)]).length + (sl T (some sp') none).length ≤ sizeLine := sz_of (by rw [s1, s2, List.length_append, List.length_singleton]; omega)
  obtain ⟨R, hR⟩ : ∃ x, List.map (fun a : S × S => a) (List.filter (fun a : S × S => !decide (a.1 = [ixD signs 1])) T) = x := ⟨_, rfl⟩
  have hR' : R = List.filter (fun a : S × S => !decide (a.1 = [ixD signs 1])) T := by
    rw [← hR, show (fun a : S × S => a) = id from rfl, List.map_id]
  have RT : Tbl signs R := by
    obtain ⟨p, q1, q2⟩ := g2.fst
    have pR : p ∈ R := by
      rw [hR']
      refine List.mem_filter.mpr ⟨q1, ?_⟩
      rw [Bool.not_eq_true', decide_eq_false_iff_not, q2]
      intro z
      have z2 : ixD signs ((0 : Nat) : Int) = ixD signs ((1 : Nat) : Int) := by simpa using z
      rw [ixD_nat, ixD_nat] at z2
      have := getD_inj sn (by omega) (by omega) z2
      omega
    have sub : ∀ q ∈ R, q ∈ T := fun q hq => by rw [hR'] at hq; exact (List.mem_filter.mp hq).1
    exact ⟨List.length_pos_of_mem pR, by
      have := List.length_filter_le (fun a : S × S => !decide (a.1 = [ixD signs 1])) T
      rw [← hR'] at this; omega, fun q hq => g2.it q (sub q hq), g2.nd.sublist (by rw [hR']; exact List.filter_sublist.map _), fun q hq => g2.sg q (sub q hq), ⟨p, pR, q2⟩⟩
  have d5 : Drw 15 (sl d (some 5) none) := by
    rw [sl_from (by decide)]
    exact ⟨by rw [List.length_drop, n2.1]; rfl, fun x hx => n2.2 x (List.mem_of_mem_drop hx)⟩
  unfold g_law
  simp only [okT, true_and, and_true, and_assoc, implies_true, dec_rec, hd, hev, hsi, hmo, hT, hsp, hit, hnr, hU, ck2, cu2, hR, decide_true, Bool.not_true, Bool.or_false, Bool.false_eq_true, if_false, true_implies]
  refine ⟨n1, n2.ix (by decide) (by decide), e1, n2.ix (by decide) (by decide), by decide, n2.ix (by decide) (by decide), by decide, g1, n2.ix (by decide) (by decide), by omega, ixOk_of b3.1 b3.2, rOk, n2.ix (by decide) (by decide), by omega, ck1, szA, szB, cu1, fun _ _ => ixOk_of (by decide) (by omega), ?_⟩
  refine for_ind (Q := fun v : Bool => v = true) (fun i e => e.2.1 = d ∧ e.2.2.1 = every ∧ e.2.2.2.1 = signs ∧ e.2.2.2.2.1 = T ∧ e.2.2.2.2.2.2.2.2.2.1 = R ∧ e.2.2.2.2.2.2.2.2.2.2.1 = [T, R]) ⟨rfl, rfl, rfl, rfl, rfl, rfl⟩ (fun i a ha e K KO hI hn => ?_) fun e hI => ?_
  · obtain ⟨x1, x2, x3, x4, x5, x6, x7, x8, x9, x10, x11, x12, x13, x14, x15, x16, x17, x18⟩ := e
    dsimp only at hI ⊢
    obtain ⟨rfl, rfl, rfl, rfl, rfl, rfl⟩ := hI
    have am : Tbl x4 a := by
      have := List.mem_of_getElem? ha
      rcases List.mem_cons.mp this with rfl | z
      · exact g2
      · rw [List.mem_singleton.mp z]; exact RT
    obtain ⟨o1, o2⟩ := hso x4 a sn (by omega) am
    obtain ⟨p1, p2⟩ := hfu x4 a sn (by omega) am
    obtain ⟨q1, q2⟩ := hta x4 a am (by omega) (ixD x3 6) (sl x2 (some 5) none) d5
    have ul := used_len x4 a
    have eU : List.map (fun a => a) (List.filter (fun b => decide (0 < ((List.map (fun a => a) (List.filter (fun c : S × S => inS b c.1) a)).length : Int))) (chars x4)) = usedL x4 a := rfl
    rw [eU, hsm _ _ (by
      rw [o2, p2]
      refine congrArg ToD.d (congrArg (fun z => [_, ToD.d z]) (decide_eq_decide.mpr ?_))
      rw [List.length_map, List.length_map]
      refine Iff.of_eq (congrArg (fun z : List S => (z.length : Int) = 0) (List.filter_congr fun b _ => ?_))
      by_cases hm : b ∈ List.map (fun c : S × S => c.1) a <;> simp only [hm, decide_true, decide_false]), q2]
    simp only [Bool.not_true, Bool.or_false, decide_true, Bool.false_eq_true, if_false, true_implies, true_and]
    have sl7 : (srtS (usedL x4 a)).length ≤ 7 := by rw [(srtS_perm _).length_eq]; omega
    exact nx6 (by omega) o1 p1 (hso2 _ _ _ sl7) (ixOk_of (by decide) (by omega)) q1 (hn (_, _, _, _, _, _, _, _, _, _, _, _, _, _, _, _, _, x18) ⟨rfl, rfl, rfl, rfl, rfl, rfl⟩)
  · obtain ⟨x1, x2, x3, x4, x5, x6, x7, x8, x9, x10, x11, x12, x13, x14, x15, x16, x17, x18⟩ := e
    dsimp only at hI ⊢
    obtain ⟨rfl, rfl, rfl, rfl, rfl, rfl⟩ := hI
    exact ⟨trivial, decide_eq_true rfl⟩
theorem plain (ns : List Int) (h : ns.length ≤ 63) : d_law.1.m (⟨ns⟩, ()) = true ∧ d_law.1.ok (⟨ns⟩, ()) := by
  have fb : ∀ b : Bool, fitD 7 (ToD.d b) = true := fun b => rfl
  have := lawP _ d__law_draws.1.ok _ d__law_signs.1.ok _ d__law_great.1.ok _ d__law_checked.1.ok _ d_is_full.1.ok _ d_signs_of.1.ok _ d__law_same.1.ok _ d__law_told_all.1.ok ns (t_draws ns 0 (by decide) (by decide) 20 (by decide)) t_signs (t_great ns) t_checked t_signsof t_isfull (fun a b e => same_true e) (fun a l b hl => by
    have fl : fitD 7 (ToD.d l) = true := by
      show (decide ((l.map ToD.d).length ≤ 16777216) && (l.map ToD.d).all (fitD 6)) = true
      rw [List.length_map, decide_eq_true (by omega), Bool.true_and, List.all_eq_true]
      intro x hx
      obtain ⟨y, _, rfl⟩ := List.mem_map.mp hx
      rfl
    show (decide (2 ≤ 16777216) && (fitD 7 (ToD.d l) && (fitD 7 (ToD.d b) && true))) = true
    rw [fl, fb b]
    rfl) (fun signs T h hs c d hd => t_toldall signs T h hs c d hd (by decide))
  exact ⟨this.2, this.1⟩
end K00
open PySem PySem.W PyProof.Rows PL
set_option maxHeartbeats 0 in
theorem PySem.Challenge.cw_lettersacross_k00_whole_tables_of_forty_holds : PySem.Challenge.rw_lettersacross_k00_whole_tables_of_forty.Holds := by
  w_on; o_law; k_head; (case hw => w_witness2)
  k_fill
  refine PL.walk_scr (l := PySem.Challenge.rw_lettersacross_k00_whole_tables_of_forty) (k := 10) (x := "script") K00.d_law.1.m K00.d_law.1.ok rfl rfl ⟨rfl, by decide, by decide⟩ (fun w h Y => PySem.W.kIn_of Y) ?F K00.plain
  case F =>
    intro w mg fa h K' L KX KX' G hmg
    refine' K00.all_mk L KX KX' G hmg ?hn_x ?ht_x ?xa_InvalidItem ?xk_InvalidItem ?xq_InvalidItem ?xb_InvalidItem ?xt_InvalidItem ?xd_InvalidItem ?xs_InvalidItem ?xv_InvalidItem ?xhg_InvalidItem ?xhk_InvalidItem ?xha_InvalidItem ?xhm_InvalidItem ?xa_NotTold ?xk_NotTold ?xq_NotTold ?xb_NotTold ?xt_NotTold ?xd_NotTold ?xs_NotTold ?xv_NotTold ?xhg_NotTold ?xhk_NotTold ?xha_NotTold ?xhm_NotTold ?xa_ScriptError ?xk_ScriptError ?xq_ScriptError ?xb_ScriptError ?xt_ScriptError ?xd_ScriptError ?xs_ScriptError ?xv_ScriptError ?xhg_ScriptError ?xhk_ScriptError ?xha_ScriptError ?xhm_ScriptError ?xa_WrongCount ?xk_WrongCount ?xq_WrongCount ?xb_WrongCount ?xt_WrongCount ?xd_WrongCount ?xs_WrongCount ?xv_WrongCount ?xhg_WrongCount ?xhk_WrongCount ?xha_WrongCount ?xhm_WrongCount ?y_InvalidItem_InvalidItem ?y_InvalidItem_ScriptError ?y_NotTold_NotTold ?y_NotTold_ScriptError ?y_WrongCount_InvalidItem ?y_WrongCount_WrongCount ?a1 ?l1 ?c1 ?a2 ?l2 ?c2 ?a3 ?l3 ?c3 ?a4 ?l4 ?c4 ?a5 ?l5 ?c5 ?a6 ?l6 ?c6 ?a7 ?l7 ?c7 ?a8 ?l8 ?c8 ?a9 ?l9 ?c9 ?a10 ?l10 ?c10 ?a11 ?l11 ?c11 ?a12 ?l12 ?c12 ?a13 ?l13 ?c13 ?a14 ?l14 ?c14 ?a15 ?l15 ?c15 ?a16 ?l16 ?c16 ?a17 ?l17 ?c17 ?a18 ?l18 ?c18 ?a19 ?l19 ?c19 ?a20 ?l20 ?c20 ?a21 ?l21 ?c21 ?a22 ?l22 ?c22 ?a23 ?l23 ?c23 ?a24 ?l24 ?c24 ?a25 ?l25 ?c25 ?a26 ?l26 ?c26 ?a27 ?l27 ?c27 ?z_MOST_ITEMS ?z_MOST_LEFT ?z_MOST_RIGHT ?z_ValueError ?z_all ?z_bool ?z_enumerate ?z_int ?z_isinstance ?z_len ?z_list ?z_min ?z_range ?z_sorted ?z_str ?z_tuple
    (case hn_x => k_is); (case ht_x => k_is); (case xa_InvalidItem => k_is); (case xk_InvalidItem => k_is); (case xq_InvalidItem => k_exc); (case xb_InvalidItem => k_is); (case xt_InvalidItem => k_is); (case xd_InvalidItem => k_is); (case xs_InvalidItem => first | rfl | k_is); (case xv_InvalidItem => k_is); (case xhg_InvalidItem => k_is); (case xhk_InvalidItem => k_is); (case xha_InvalidItem => k_is); (case xhm_InvalidItem => k_is); (case xa_NotTold => k_is); (case xk_NotTold => k_is); (case xq_NotTold => k_exc); (case xb_NotTold => k_is); (case xt_NotTold => k_is); (case xd_NotTold => k_is); (case xs_NotTold => first | rfl | k_is); (case xv_NotTold => k_is); (case xhg_NotTold => k_is); (case xhk_NotTold => k_is); (case xha_NotTold => k_is); (case xhm_NotTold => k_is); (case xa_ScriptError => k_is); (case xk_ScriptError => k_is); (case xq_ScriptError => k_exc); (case xb_ScriptError => k_is); (case xt_ScriptError => k_is); (case xd_ScriptError => k_is); (case xs_ScriptError => first | rfl | k_is); (case xv_ScriptError => k_is); (case xhg_ScriptError => k_is); (case xhk_ScriptError => k_is); (case xha_ScriptError => k_is); (case xhm_ScriptError => k_is); (case xa_WrongCount => k_is); (case xk_WrongCount => k_is); (case xq_WrongCount => k_exc); (case xb_WrongCount => k_is); (case xt_WrongCount => k_is); (case xd_WrongCount => k_is); (case xs_WrongCount => first | rfl | k_is); (case xv_WrongCount => k_is); (case xhg_WrongCount => k_is); (case xhk_WrongCount => k_is); (case xha_WrongCount => k_is); (case xhm_WrongCount => k_is); (case y_InvalidItem_InvalidItem => first | rfl | k_is); (case y_InvalidItem_ScriptError => first | rfl | k_is); (case y_NotTold_NotTold => first | rfl | k_is); (case y_NotTold_ScriptError => first | rfl | k_is); (case y_WrongCount_InvalidItem => first | rfl | k_is); (case y_WrongCount_WrongCount => first | rfl | k_is); (case a1 => k_is); (case l1 => k_is); (case c1 => k_is); (case a2 => k_is); (case l2 => k_is); (case c2 => k_is); (case a3 => k_is); (case l3 => k_is); (case c3 => k_is); (case a4 => k_is); (case l4 => k_is); (case c4 => k_is); (case a5 => k_is); (case l5 => k_is); (case c5 => k_is); (case a6 => k_is); (case l6 => k_is); (case c6 => k_is); (case a7 => k_is); (case l7 => k_is); (case c7 => k_is); (case a8 => k_is); (case l8 => k_is); (case c8 => k_is); (case a9 => k_is); (case l9 => k_is); (case c9 => k_is); (case a10 => k_is); (case l10 => k_is); (case c10 => k_is); (case a11 => k_is); (case l11 => k_is); (case c11 => k_is); (case a12 => k_is); (case l12 => k_is); (case c12 => k_is); (case a13 => k_is); (case l13 => k_is); (case c13 => k_is); (case a14 => k_is); (case l14 => k_is); (case c14 => k_is); (case a15 => k_is); (case l15 => k_is); (case c15 => k_is); (case a16 => k_is); (case l16 => k_is); (case c16 => k_is); (case a17 => k_is); (case l17 => k_is); (case c17 => k_is); (case a18 => k_is); (case l18 => k_is); (case c18 => k_is); (case a19 => k_is); (case l19 => k_is); (case c19 => k_is); (case a20 => k_is); (case l20 => k_is); (case c20 => k_is); (case a21 => k_is); (case l21 => k_is); (case c21 => k_is); (case a22 => k_is); (case l22 => k_is); (case c22 => k_is); (case a23 => k_is); (case l23 => k_is); (case c23 => k_is); (case a24 => k_is); (case l24 => k_is); (case c24 => k_is); (case a25 => k_is); (case l25 => k_is); (case c25 => k_is); (case a26 => k_is); (case l26 => k_is); (case c26 => k_is); (case a27 => k_is); (case l27 => k_is); (case c27 => k_is); (case z_MOST_ITEMS => k_is); (case z_MOST_LEFT => k_is); (case z_MOST_RIGHT => k_is); (case z_ValueError => k_is); (case z_all => k_is); (case z_bool => k_is); (case z_enumerate => k_is); (case z_int => k_is); (case z_isinstance => k_is); (case z_len => k_is); (case z_list => k_is); (case z_min => k_is); (case z_range => k_is); (case z_sorted => k_is); (case z_str => k_is); (case z_tuple => k_is)
