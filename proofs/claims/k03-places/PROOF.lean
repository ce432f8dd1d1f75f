import PyProof.Rows.All
import Wide.All
import OpenK.AllK
import Wide.FinOn
import HandS.ForMost
import HandS.IsInst
import HandS.Gcd
import HandS.Wide
import HandS.Deep
import HandS.TupAny
import HandS.Flow
import HandS.Conv
import HandS.Defaults
import HandS.Style
import HandS.Ends
import PySem.Challenge.RW_blockedshots_k03_places
import HandS.Evl
set_option Elab.async false
set_option linter.all false
set_option maxRecDepth 100000
/-! MCore: values without the heap (D), states of a body (slots and a resource), what stands for them in the abstract heap, meanings of expressions and statements as plain functions, and that the layer's judgements follow. -/
namespace M
open PySem PySem.Spec PyProof.Rows L2

/-- data -/
inductive D where
  | non | bl (b : Bool) | int (i : Int) | str (x : Str) | res
  | tup (xs : List D) | lst (xs : List D)

mutual
/-- d is v, nothing of it among F -/
def Rep (H : Hp) (F : Addr → Prop) (rv : V) : D → V → Prop
  | .non, v => v = .non
  | .bl b, v => v = .bl b
  | .int i, v => v = .int i
  | .str x, v => v = .str x
  | .res, v => v = rv
  | .tup ds, v => ∃ a xs, v = .ref a ∧ H a = some (.tup xs) ∧ ¬ F a ∧ RepL H F rv ds xs
  | .lst ds, v => ∃ a xs, v = .ref a ∧ H a = some (.lst xs) ∧ ¬ F a ∧ RepL H F rv ds xs
def RepL (H : Hp) (F : Addr → Prop) (rv : V) : List D → List V → Prop
  | [], vs => vs = []
  | d :: ds, vs => ∃ v r, vs = v :: r ∧ Rep H F rv d v ∧ RepL H F rv ds r
end
/-- the object at a is d (itself among F or not) -/
def RepO (H : Hp) (F : Addr → Prop) (rv : V) (d : D) (a : Addr) : Prop :=
  match d with
  | .lst ds => ∃ xs, H a = some (.lst xs) ∧ RepL H F rv ds xs
  | _ => False
/-- d is v to be read: a changing object too -/
def Pk (H : Hp) (F : Addr → Prop) (rv : V) (d : D) (v : V) : Prop :=
  match d with
  | .lst ds => ∃ a xs, v = .ref a ∧ H a = some (.lst xs) ∧ RepL H F rv ds xs
  | d => Rep H F rv d v

section
variable {H H' : Hp} {F F' : Addr → Prop} {rv : V}
mutual
theorem Rep.mono (h : ∀ a o, H a = some o → ¬ F a → H' a = some o ∧ ¬ F' a) : ∀ {d : D} {v : V}, Rep H F rv d v → Rep H' F' rv d v
  | .non, _, r => by simpa only [Rep] using r
  | .bl _, _, r => by simpa only [Rep] using r
  | .int _, _, r => by simpa only [Rep] using r
  | .str _, _, r => by simpa only [Rep] using r
  | .res, _, r => by simpa only [Rep] using r
  | .tup ds, _, r => by
    simp only [Rep] at r ⊢
    obtain ⟨a, xs, e, ha, hf, hl⟩ := r
    exact ⟨a, xs, e, (h a _ ha hf).1, (h a _ ha hf).2, RepL.mono h hl⟩
  | .lst ds, _, r => by
    simp only [Rep] at r ⊢
    obtain ⟨a, xs, e, ha, hf, hl⟩ := r
    exact ⟨a, xs, e, (h a _ ha hf).1, (h a _ ha hf).2, RepL.mono h hl⟩
theorem RepL.mono (h : ∀ a o, H a = some o → ¬ F a → H' a = some o ∧ ¬ F' a) : ∀ {ds : List D} {vs : List V}, RepL H F rv ds vs → RepL H' F' rv ds vs
  | [], _, r => by simpa only [RepL] using r
  | d :: ds, _, r => by
    simp only [RepL] at r ⊢
    obtain ⟨v, t, e, hd, hl⟩ := r
    exact ⟨v, t, e, Rep.mono h hd, RepL.mono h hl⟩
end
theorem RepL.length : ∀ {ds : List D} {vs : List V}, RepL H F rv ds vs → vs.length = ds.length
  | [], _, r => by simp only [RepL] at r; subst r; rfl
  | d :: ds, _, r => by
    simp only [RepL] at r
    obtain ⟨v, t, e, hd, hl⟩ := r
    subst e
    simp only [List.length_cons, RepL.length hl]
theorem RepL.get : ∀ {ds : List D} {vs : List V} {i : Nat} {d : D}, RepL H F rv ds vs → ds[i]? = some d → ∃ v, vs[i]? = some v ∧ Rep H F rv d v
  | [], _, _, _, _, e => by simp at e
  | d :: ds, _, i, d', r, e => by
    simp only [RepL] at r
    obtain ⟨v, t, ev, hd, hl⟩ := r
    subst ev
    cases i with
    | zero =>
      have e2 : d = d' := Option.some.inj e
      subst e2
      exact ⟨v, rfl, hd⟩
    | succ i => exact RepL.get (i := i) hl e
theorem RepL.get' {ds : List D} {vs : List V} {i : Nat} {v : V} (r : RepL H F rv ds vs) (e : vs[i]? = some v) : ∃ d, ds[i]? = some d ∧ Rep H F rv d v := by
  have hi : i < ds.length := by
    rw [← r.length]
    exact (List.getElem?_eq_some_iff.mp e).1
  obtain ⟨v', e', h⟩ := r.get (List.getElem?_eq_getElem hi)
  rw [e] at e'
  cases e'
  exact ⟨_, List.getElem?_eq_getElem hi, h⟩
theorem RepL.append : ∀ {ds es : List D} {vs ws : List V}, RepL H F rv ds vs → RepL H F rv es ws → RepL H F rv (ds ++ es) (vs ++ ws)
  | [], _, _, _, r, q => by
    simp only [RepL] at r; subst r; exact q
  | d :: ds, es, _, ws, r, q => by
    simp only [RepL] at r
    obtain ⟨v, t, ev, hd, hl⟩ := r
    subst ev
    show RepL H F rv (d :: (ds ++ es)) (v :: (t ++ ws))
    simp only [RepL]
    exact ⟨v, _, rfl, hd, RepL.append hl q⟩
theorem RepL.take : ∀ {ds : List D} {vs : List V} (n : Nat), RepL H F rv ds vs → RepL H F rv (ds.take n) (vs.take n)
  | [], _, n, r => by simp only [RepL] at r; subst r; simp [RepL]
  | d :: ds, _, 0, r => by simp [RepL]
  | d :: ds, _, n + 1, r => by
    simp only [RepL] at r
    obtain ⟨v, t, ev, hd, hl⟩ := r
    subst ev
    simp only [List.take_succ_cons, RepL]
    exact ⟨v, _, rfl, hd, RepL.take n hl⟩
theorem RepL.drop : ∀ {ds : List D} {vs : List V} (n : Nat), RepL H F rv ds vs → RepL H F rv (ds.drop n) (vs.drop n)
  | [], _, n, r => by simp only [RepL] at r; subst r; simp [RepL]
  | d :: ds, _, 0, r => by simpa using r
  | d :: ds, _, n + 1, r => by
    simp only [RepL] at r
    obtain ⟨v, t, ev, hd, hl⟩ := r
    subst ev
    simpa using RepL.drop n hl
theorem RepL.set : ∀ {ds : List D} {vs : List V} {d : D} {v : V} (n : Nat), Rep H F rv d v → RepL H F rv ds vs → RepL H F rv (ds.set n d) (vs.set n v)
  | [], _, _, _, n, _, r => by simp only [RepL] at r; subst r; simp [RepL]
  | d :: ds, _, _, _, 0, q, r => by
    simp only [RepL] at r
    obtain ⟨v, t, ev, hd, hl⟩ := r
    subst ev
    simp only [List.set_cons_zero, RepL]
    exact ⟨_, _, rfl, q, hl⟩
  | d :: ds, _, _, _, n + 1, q, r => by
    simp only [RepL] at r
    obtain ⟨v, t, ev, hd, hl⟩ := r
    subst ev
    simp only [List.set_cons_succ, RepL]
    exact ⟨_, _, rfl, hd, RepL.set n q hl⟩
theorem RepL.reverse : ∀ {ds : List D} {vs : List V}, RepL H F rv ds vs → RepL H F rv ds.reverse vs.reverse
  | [], _, r => by simp only [RepL] at r; subst r; simp [RepL]
  | d :: ds, _, r => by
    simp only [RepL] at r
    obtain ⟨v, t, ev, hd, hl⟩ := r
    subst ev
    simp only [List.reverse_cons]
    refine RepL.append (RepL.reverse hl) ?_
    simp only [RepL]
    exact ⟨v, [], rfl, hd, rfl⟩
theorem RepL.ints : ∀ {ns : List Int}, RepL H F rv (ns.map D.int) (ns.map V.int)
  | [] => by simp [RepL]
  | n :: ns => by
    simp only [List.map_cons, RepL]
    exact ⟨_, _, rfl, by simp [Rep], RepL.ints⟩
theorem RepL.nil : RepL H F rv [] [] := by simp [RepL]
theorem RepL.cons {d : D} {ds : List D} {v : V} {vs : List V} (h : Rep H F rv d v) (t : RepL H F rv ds vs) : RepL H F rv (d :: ds) (v :: vs) := by
  simp only [RepL]; exact ⟨v, vs, rfl, h, t⟩
theorem Rep.pk {d : D} {v : V} (r : Rep H F rv d v) : Pk H F rv d v := by
  cases d with
  | lst ds =>
    simp only [Rep] at r
    obtain ⟨a, xs, e, h, _, l⟩ := r
    exact ⟨a, xs, e, h, l⟩
  | _ => exact r
theorem RepO.pk {d : D} {a : Addr} (r : RepO H F rv d a) : Pk H F rv d (.ref a) := by
  cases d with
  | lst ds =>
    obtain ⟨xs, h, l⟩ := r
    exact ⟨a, xs, rfl, h, l⟩
  | _ => exact r.elim
theorem RepO.rep {d : D} {a : Addr} (r : RepO H F rv d a) (hf : ¬ F a) : Rep H F rv d (.ref a) := by
  cases d with
  | lst ds =>
    obtain ⟨xs, h, l⟩ := r
    simp only [Rep]
    exact ⟨a, xs, rfl, h, hf, l⟩
  | _ => exact r.elim
theorem RepO.there {d : D} {a : Addr} (r : RepO H F rv d a) : ∃ o, H a = some o := by
  cases d with
  | lst ds =>
    obtain ⟨xs, h, _⟩ := r
    exact ⟨_, h⟩
  | _ => exact r.elim
theorem RepO.mono {d : D} {a : Addr} (h : ∀ a o, H a = some o → ¬ F a → H' a = some o ∧ ¬ F' a) (e : ∀ o, H a = some o → H' a = some o) (r : RepO H F rv d a) : RepO H' F' rv d a := by
  cases d with
  | lst ds =>
    obtain ⟨xs, q, l⟩ := r
    exact ⟨xs, e _ q, l.mono h⟩
  | _ => exact r.elim
end

/-! ### a resource: an object whose state is told apart -/
structure Res (β : Type) where
  val : V
  foot : Addr → Prop
  rel : β → Hp → Prop
  keep : ∀ b H H', rel b H → (∀ a o, foot a → H a = some o → H' a = some o) → rel b H'
  there : ∀ b H a, rel b H → foot a → ∃ o, H a = some o

/-- which resources go with a state -/
class Kind (β : Type) where
  kd : Res β → Prop

/-- a slot -/
inductive Sl where
  | no | val (d : D) | own (d : D) | lock (d : D)
structure Sta (β : Type) where
  env : List Sl
  bag : β
/-- an expression's result: data, a new object that changes, the slot i -/
inductive R where
  | val (d : D) | new (d : D) | at (i : Nat)

/-- what is fixed in a body: the entry's heap, what may not be handed on -/
structure C (β : Type) [Kind β] where
  R : Res β
  kd : Kind.kd R
  H0 : Hp
  F0 : Addr → Prop
  fs : ∀ a, F0 a → ∃ o, H0 a = some o
  foot : ∀ a, R.foot a → F0 a

variable {β : Type} [Kind β]
def RelSl (c : C β) (F : Addr → Prop) (H : Hp) : Sl → Option (Option V) → Prop
  | .no, _ => True
  | .val d, o => ∃ v, o = some (some v) ∧ Rep H F c.R.val d v
  | .own d, o => ∃ a, o = some (some (.ref a)) ∧ RepO H F c.R.val d a ∧ F a ∧ c.H0 a = none
  | .lock d, o => ∃ a, o = some (some (.ref a)) ∧ RepO H F c.R.val d a ∧ ¬ c.R.foot a ∧ ∃ o, c.H0 a = some o
def Own (st : Sta β) (σ : L2.St) (a : Addr) : Prop := ∃ (i : Nat) (d : D), st.env[i]? = some (Sl.own d) ∧ σ[i]? = some (some (.ref a))
structure Rel (c : C β) (F : Addr → Prop) (st : Sta β) (σ : L2.St) (H : Hp) : Prop where
  len : st.env.length = σ.length
  slot : ∀ (i : Nat) (s : Sl), st.env[i]? = some s → RelSl c F H s σ[i]?
  uniq : ∀ (i j : Nat) (d e : D), st.env[i]? = some (Sl.own d) → st.env[j]? = some (Sl.own e) → σ[i]? = σ[j]? → i = j
  base : ∀ a o, c.H0 a = some o → ¬ c.R.foot a → H a = some o
  bag : c.R.rel st.bag H
  f0 : ∀ a, c.F0 a → F a
  fs : ∀ a, F a → ∃ o, H a = some o
structure Stp (c : C β) (σ : L2.St) (F : Addr → Prop) (st : Sta β) (H : Hp) (F' : Addr → Prop) (st' : Sta β) (H' : Hp) : Prop where
  rel : Rel c F' st' σ H'
  fr : ∀ a o, H a = some o → ¬ c.R.foot a → ¬ Own st σ a → H' a = some o ∧ (F' a ↔ F a)
  own : ∀ a, Own st' σ a → Own st σ a
  dom : ∀ a o, H a = some o → ∃ o', H' a = some o'
/-- Hs: the heap ahead -/
def RepR (c : C β) (σ : L2.St) (Hs : Hp) (F : Addr → Prop) (H : Hp) (st : Sta β) : R → V → Prop
  | .val d, v => Rep H F c.R.val d v
  | .new d, v => ∃ a, v = .ref a ∧ RepO H F c.R.val d a ∧ F a ∧ Hs a = none ∧ ¬ Own st σ a
  | .at i, v => σ[i]? = some (some v)

section
variable {c : C β} {F F1 F2 F' : Addr → Prop} {st st1 st2 st' : Sta β} {σ : L2.St} {H H1 H2 H' Hs : Hp}
theorem Rel.own_f (r : Rel c F st σ H) {a : Addr} (h : Own st σ a) : F a ∧ c.H0 a = none ∧ ∃ o, H a = some o := by
  obtain ⟨i, d, e, q⟩ := h
  have := r.slot i _ e
  simp only [RelSl] at this
  obtain ⟨b, e2, h1, h2, h3⟩ := this
  rw [q] at e2
  cases e2
  exact ⟨h2, h3, h1.there⟩
theorem Rel.own_foot (r : Rel c F st σ H) {a : Addr} (h : Own st σ a) : ¬ c.R.foot a := fun hf => by
  obtain ⟨o, e⟩ := c.fs a (c.foot a hf)
  rw [(r.own_f h).2.1] at e
  cases e
theorem Stp.refl (r : Rel c F st σ H) : Stp c σ F st H F st H := ⟨r, fun _ _ h _ _ => ⟨h, Iff.rfl⟩, fun _ h => h, fun _ o h => ⟨o, h⟩⟩
theorem Stp.trans (a : Stp c σ F st H F1 st1 H1) (b : Stp c σ F1 st1 H1 F2 st2 H2) : Stp c σ F st H F2 st2 H2 :=
  ⟨b.rel, fun x o h hf ho => by
    obtain ⟨h1, i1⟩ := a.fr x o h hf ho
    obtain ⟨h2, i2⟩ := b.fr x o h1 hf fun z => ho (a.own x z)
    exact ⟨h2, i2.trans i1⟩, fun x z => a.own x (b.own x z), fun x o h => by
    obtain ⟨o', h'⟩ := a.dom x o h
    exact b.dom x o' h'⟩
theorem Stp.pers (r : Rel c F st σ H) (a : Stp c σ F st H F' st' H') : ∀ a o, H a = some o → ¬ F a → H' a = some o ∧ ¬ F' a := fun x o h hf => by
  obtain ⟨h1, i⟩ := a.fr x o h (fun z => hf (r.f0 x (c.foot x z))) fun z => hf (r.own_f z).1
  exact ⟨h1, fun z => hf (i.mp z)⟩
theorem Stp.rep (r : Rel c F st σ H) (a : Stp c σ F st H F' st' H') {rv : V} {d : D} {v : V} (h : Rep H F rv d v) : Rep H' F' rv d v := h.mono (a.pers r)
theorem Stp.gone (a : Stp c σ F st H F' st' H') {x : Addr} (h : H' x = none) : H x = none := by
  cases q : H x with
  | none => rfl
  | some o =>
    obtain ⟨o', e⟩ := a.dom x o q
    rw [h] at e
    cases e
/-- an earlier result behind a further step -/
theorem RepR.stp (rl : Rel c F st σ H) (a : Stp c σ F st H F' st' H') {r : R} {v : V} (h : RepR c σ Hs F H st r v) (hs : ∀ x, Hs x = none → ¬ c.R.foot x := by exact fun _ _ => by assumption) : RepR c σ Hs F' H' st' r v := by
  cases r with
  | val d => exact a.rep rl h
  | new d =>
    obtain ⟨x, e, ho, hf, hn, hw⟩ := h
    obtain ⟨o, q⟩ := ho.there
    obtain ⟨h1, i⟩ := a.fr x o q (hs x hn) hw
    refine ⟨x, e, ho.mono (a.pers rl) (fun o' q' => ?_), i.mpr hf, hn, fun z => hw (a.own x z)⟩
    rw [q] at q'
    cases q'
    exact h1
  | «at» i => exact h
theorem Rel.nofoot (r : Rel c F st σ H) {x : Addr} (h : H x = none) : ¬ c.R.foot x := fun z => by
  obtain ⟨o, e⟩ := c.R.there _ _ _ r.bag z
  rw [h] at e
  cases e
theorem Rel.h0 (r : Rel c F st σ H) {x : Addr} (h : H x = none) : c.H0 x = none := by
  cases q : c.H0 x with
  | none => rfl
  | some o =>
    have := r.base x o q (r.nofoot h)
    rw [h] at this
    cases this
theorem RepR.hs {Hs' : Hp} (h : ∀ x, Hs x = none → Hs' x = none) {r : R} {v : V} (q : RepR c σ Hs F H st r v) : RepR c σ Hs' F H st r v := by
  cases r with
  | val d => exact q
  | new d =>
    obtain ⟨x, e, ho, hf, hn, hw⟩ := q
    exact ⟨x, e, ho, hf, h x hn, hw⟩
  | «at» i => exact q
end
end M

/-! MRule: the readings that the meanings give, and one rule for each construct of expressions. -/
namespace M
open PySem PySem.Spec PyProof.Rows L2
variable {β : Type} [Kind β]

/-! ### consequence -/
section
variable {X : Cx}
theorem peI {e : Expr} {t t' : TE} (h : PE X e t) (hi : ∀ σ H Q, t' σ H Q → t σ H Q) : PE X e t' := ⟨fun pins s σ H Q I q => h.run pins s σ H Q I (hi σ H Q q)⟩
theorem ptI {e : Expr} {t t' : TT} (h : PT X e t) (hi : ∀ σ H Q, t' σ H Q → t σ H Q) : PT X e t' := ⟨fun pins s σ H Q I q => h.run pins s σ H Q I (hi σ H Q q)⟩
theorem pwI {e : Expr} {t t' : TT} (h : PW X e t) (hi : ∀ σ H Q, t' σ H Q → t σ H Q) : PW X e t' := ⟨fun wh pins s σ H Q I q => h.run wh pins s σ H Q I (hi σ H Q q)⟩
theorem paI {es : List Expr} {t t' : TA} (h : PA X es t) (hi : ∀ σ H Q, t' σ H Q → t σ H Q) : PA X es t' := ⟨fun pos pins s σ H Q I q => h.run pos pins s σ H Q I (hi σ H Q q)⟩
theorem pkI {es : List Keyword} {t t' : TA} (h : PK X es t) (hi : ∀ σ H Q, t' σ H Q → t σ H Q) : PK X es t' := ⟨fun pos pins s σ H Q I q => h.run pos pins s σ H Q I (hi σ H Q q)⟩
theorem psI {e : Stmt} {t t' : TS} (h : PS X e t) (hi : ∀ D σ H, t' D σ H → t D σ H) : PS X e t' := ⟨fun pins s σ H D I q => h.run pins s σ H D I (hi D σ H q)⟩
theorem pssI {e : List Stmt} {t t' : TS} (h : PSs X e t) (hi : ∀ D σ H, t' D σ H → t D σ H) : PSs X e t' := ⟨fun pins s σ H D I q => h.run pins s σ H D I (hi D σ H q)⟩
theorem poI {e : Option Expr} {t t' : TO} (h : PO X e t) (hi : ∀ σ H Q, t' σ H Q → t σ H Q) : PO X e t' := ⟨fun pins s σ H Q I q => h.run pins s σ H Q I (hi σ H Q q)⟩
end

/-! ### results read, results handed on -/
abbrev Mn (β α : Type) := Sta β → Option (α × Sta β)
def pk (r : R) (st : Sta β) : Option D := match r with
  | .val d => some d
  | .new d => some d
  | .at i => match st.env[i]? with
    | some (.val d) => some d
    | some (.own d) => some d
    | some (.lock d) => some d
    | _ => none
def pkL : List R → Sta β → Option (List D)
  | [], _ => some []
  | r :: rs, st => match pk r st with
    | none => none
    | some d => match pkL rs st with
      | none => none
      | some ds => some (d :: ds)
/-- as data that nothing changes any more -/
def toD (r : R) (st : Sta β) : Option (D × Sta β) := match r with
  | .val d => some (d, st)
  | .new d => some (d, st)
  | .at i => match st.env[i]? with
    | some (.val d) => some (d, st)
    | some (.own d) => some (d, { st with env := st.env.set i (.val d) })
    | _ => none
/-- as an argument -/
def toSl (r : R) (st : Sta β) : Option Sl := match r with
  | .val d => some (.val d)
  | .new d => some (.lock d)
  | .at i => match st.env[i]? with
    | some (.val d) => some (.val d)
    | some (.own d) => some (.lock d)
    | some (.lock d) => some (.lock d)
    | _ => none
def toSlL : List R → Sta β → Option (List Sl)
  | [], _ => some []
  | r :: rs, st => match toSl r st with
    | none => none
    | some d => match toSlL rs st with
      | none => none
      | some ds => some (d :: ds)
def PkL (H : Hp) (F : Addr → Prop) (rv : V) : List D → List V → Prop
  | [], vs => vs = []
  | d :: ds, vs => ∃ v r, vs = v :: r ∧ Pk H F rv d v ∧ PkL H F rv ds r
def RepRs (c : C β) (σ : L2.St) (Hs : Hp) (F : Addr → Prop) (H : Hp) (st : Sta β) : List R → List V → Prop
  | [], vs => vs = []
  | d :: ds, vs => ∃ v r, vs = v :: r ∧ RepR c σ Hs F H st d v ∧ RepRs c σ Hs F H st ds r
/-- an argument as it comes to a def -/
def ArgR (foot : Addr → Prop) (rv : V) (H : Hp) (F : Addr → Prop) : Sl → V → Prop
  | .val d, v => Rep H F rv d v
  | .lock d, v => ∃ a, v = .ref a ∧ RepO H F rv d a ∧ ¬ foot a
  | _, _ => False
def ArgRs (foot : Addr → Prop) (rv : V) (H : Hp) (F : Addr → Prop) : List Sl → List V → Prop
  | [], vs => vs = []
  | d :: ds, vs => ∃ v r, vs = v :: r ∧ ArgR foot rv H F d v ∧ ArgRs foot rv H F ds r

section
variable {c : C β} {F F' : Addr → Prop} {st st' : Sta β} {σ : L2.St} {H H' Hs : Hp}
theorem pk_ok (rl : Rel c F st σ H) {r : R} {v : V} {d : D} (h : RepR c σ Hs F H st r v) (e : pk r st = some d) : Pk H F c.R.val d v := by
  cases r with
  | val d' => simp only [pk, Option.some.injEq] at e; subst e; exact Rep.pk h
  | new d' =>
    simp only [pk, Option.some.injEq] at e
    subst e
    obtain ⟨a, e, ho, _⟩ := h
    subst e
    exact ho.pk
  | «at» i =>
    simp only [pk] at e
    have h' : σ[i]? = some (some v) := h
    cases q : st.env[i]? with
    | none => rw [q] at e; cases e
    | some s =>
      have hs := rl.slot i s q
      rw [h'] at hs
      rw [q] at e
      cases s with
      | no => cases e
      | val d' =>
        simp only [Option.some.injEq] at e
        subst e
        obtain ⟨v', e', hr⟩ := hs
        cases e'
        exact hr.pk
      | own d' =>
        simp only [Option.some.injEq] at e
        subst e
        obtain ⟨v', e', hr, _⟩ := hs
        cases e'
        exact hr.pk
      | lock d' =>
        simp only [Option.some.injEq] at e
        subst e
        obtain ⟨v', e', hr, _⟩ := hs
        cases e'
        exact hr.pk
theorem pkL_ok (rl : Rel c F st σ H) : ∀ {rs : List R} {vs : List V} {ds : List D}, RepRs c σ Hs F H st rs vs → pkL rs st = some ds → PkL H F c.R.val ds vs
  | [], _, _, h, e => by
    simp only [pkL, Option.some.injEq] at e
    subst e
    exact h
  | r :: rs, _, _, h, e => by
    obtain ⟨v, t, ev, h1, h2⟩ := h
    simp only [pkL] at e
    cases q : pk r st with
    | none => rw [q] at e; cases e
    | some d =>
      rw [q] at e
      cases q2 : pkL rs st with
      | none => rw [q2] at e; cases e
      | some ds =>
        rw [q2] at e
        simp only [Option.some.injEq] at e
        subst e
        exact ⟨v, t, ev, pk_ok rl h1 q, pkL_ok rl h2 q2⟩
theorem toSl_ok (rl : Rel c F st σ H) {r : R} {v : V} {d : Sl} (hs : ∀ x, Hs x = none → ¬ c.R.foot x) (h : RepR c σ Hs F H st r v) (e : toSl r st = some d) : ArgR c.R.foot c.R.val H F d v := by
  cases r with
  | val d' => simp only [toSl, Option.some.injEq] at e; subst e; exact h
  | new d' =>
    simp only [toSl, Option.some.injEq] at e
    subst e
    obtain ⟨a, e, ho, _, hn, _⟩ := h
    exact ⟨a, e, ho, hs a hn⟩
  | «at» i =>
    simp only [toSl] at e
    have h' : σ[i]? = some (some v) := h
    cases q : st.env[i]? with
    | none => rw [q] at e; cases e
    | some s =>
      have hsl := rl.slot i s q
      have hw : ∀ a d, s = .own d → σ[i]? = some (some (.ref a)) → Own st σ a := fun a d e1 e2 => ⟨i, d, by rw [q, e1], e2⟩
      rw [h'] at hsl
      rw [q] at e
      cases s with
      | no => cases e
      | val d' =>
        simp only [Option.some.injEq] at e
        subst e
        obtain ⟨v', e', hr⟩ := hsl
        cases e'
        exact hr
      | own d' =>
        simp only [Option.some.injEq] at e
        subst e
        obtain ⟨a, e', hr, _, _⟩ := hsl
        cases e'
        exact ⟨a, rfl, hr, rl.own_foot (hw a d' rfl h')⟩
      | lock d' =>
        simp only [Option.some.injEq] at e
        subst e
        obtain ⟨a, e', hr, hf, _⟩ := hsl
        cases e'
        exact ⟨a, rfl, hr, hf⟩
theorem toSlL_ok (rl : Rel c F st σ H) (hs : ∀ x, Hs x = none → ¬ c.R.foot x) : ∀ {rs : List R} {vs : List V} {ds : List Sl}, RepRs c σ Hs F H st rs vs → toSlL rs st = some ds → ArgRs c.R.foot c.R.val H F ds vs
  | [], _, _, h, e => by
    simp only [toSlL, Option.some.injEq] at e
    subst e
    exact h
  | r :: rs, _, _, h, e => by
    obtain ⟨v, t, ev, h1, h2⟩ := h
    simp only [toSlL] at e
    cases q : toSl r st with
    | none => rw [q] at e; cases e
    | some d =>
      rw [q] at e
      cases q2 : toSlL rs st with
      | none => rw [q2] at e; cases e
      | some ds =>
        rw [q2] at e
        simp only [Option.some.injEq] at e
        subst e
        exact ⟨v, t, ev, toSl_ok rl hs h1 q, toSlL_ok rl hs h2 q2⟩
theorem set_own {i j : Nat} {s : Sl} {d : D} (h : (st.env.set i s)[j]? = some (.own d)) (hs : ∀ d, s ≠ .own d) : i ≠ j ∧ st.env[j]? = some (.own d) := by
  by_cases e : i = j
  · subst e
    by_cases hi : i < st.env.length
    · rw [List.getElem?_set_self hi] at h
      cases h
      exact absurd rfl (hs d)
    · rw [List.getElem?_eq_none (by simpa using hi)] at h
      cases h
  · rw [List.getElem?_set_ne e] at h
    exact ⟨e, h⟩
/-- a result handed on as data -/
theorem toD_ok {F1 : Addr → Prop} {st1 st2 : Sta β} {H1 : Hp} (r0 : Rel c F st σ H) (s : Stp c σ F st H F1 st1 H1) {r : R} {v : V} {d : D} (h : RepR c σ H F1 H1 st1 r v) (e : toD r st1 = some (d, st2)) :
    ∃ F2, Stp c σ F st H F2 st2 H1 ∧ Rep H1 F2 c.R.val d v := by
  cases r with
  | val d' =>
    simp only [toD, Option.some.injEq, Prod.mk.injEq] at e
    obtain ⟨rfl, rfl⟩ := e
    exact ⟨F1, s, h⟩
  | new d' =>
    simp only [toD, Option.some.injEq, Prod.mk.injEq] at e
    obtain ⟨rfl, rfl⟩ := e
    obtain ⟨a, rfl, ho, hf, hn, hw⟩ := h
    have wk : ∀ b o, H1 b = some o → ¬ F1 b → H1 b = some o ∧ ¬ (F1 b ∧ b ≠ a) := fun b o q q2 => ⟨q, fun z => q2 z.1⟩
    refine ⟨fun b => F1 b ∧ b ≠ a, ⟨⟨s.rel.len, fun i sl hi => ?_, s.rel.uniq, s.rel.base, s.rel.bag, fun b hb => ⟨s.rel.f0 b hb, ?_⟩, fun b hb => s.rel.fs b hb.1⟩, fun b o q q1 q2 => ?_, s.own, s.dom⟩, RepO.rep (ho.mono wk fun _ z => z) fun z => z.2 rfl⟩
    · have q := s.rel.slot i sl hi
      cases sl with
      | no => trivial
      | val d => obtain ⟨v, e, hr⟩ := q; exact ⟨v, e, hr.mono wk⟩
      | own d =>
        obtain ⟨x, e, hr, hx, h0⟩ := q
        exact ⟨x, e, hr.mono wk fun _ z => z, ⟨hx, fun z => hw ⟨i, d, hi, by rw [e, z]⟩⟩, h0⟩
      | lock d => obtain ⟨x, e, hr, hx⟩ := q; exact ⟨x, e, hr.mono wk (fun _ z => z), hx⟩
    · intro z
      subst z
      obtain ⟨o, q⟩ := c.fs b hb
      rw [r0.h0 hn] at q
      cases q
    · obtain ⟨h1, i1⟩ := s.fr b o q q1 q2
      refine ⟨h1, ⟨fun z => i1.mp z.1, fun z => ⟨i1.mpr z, fun z2 => ?_⟩⟩⟩
      subst z2
      rw [hn] at q
      cases q
  | «at» i =>
    simp only [toD] at e
    have h' : σ[i]? = some (some v) := h
    cases q : st1.env[i]? with
    | none => rw [q] at e; cases e
    | some sl =>
      have hsl := s.rel.slot i sl q
      rw [h'] at hsl
      rw [q] at e
      cases sl with
      | no => cases e
      | lock d' => cases e
      | val d' =>
        simp only [Option.some.injEq, Prod.mk.injEq] at e
        obtain ⟨rfl, rfl⟩ := e
        obtain ⟨v', e', hr⟩ := hsl
        cases e'
        exact ⟨F1, s, hr⟩
      | own d' =>
        simp only [Option.some.injEq, Prod.mk.injEq] at e
        obtain ⟨rfl, rfl⟩ := e
        obtain ⟨a, e', ho, hf, h0⟩ := hsl
        cases e'
        have wk : ∀ b o, H1 b = some o → ¬ F1 b → H1 b = some o ∧ ¬ (F1 b ∧ b ≠ a) := fun b o q q2 => ⟨q, fun z => q2 z.1⟩
        have hrep : Rep H1 (fun b => F1 b ∧ b ≠ a) c.R.val d' (.ref a) := RepO.rep (ho.mono wk fun _ z => z) fun z => z.2 rfl
        have hl : i < st1.env.length := (List.getElem?_eq_some_iff.mp q).1
        have ow : Own st σ a := s.own a ⟨i, d', q, h'⟩
        refine ⟨fun b => F1 b ∧ b ≠ a, ⟨⟨by simpa using s.rel.len, fun j sl hj => ?_, fun j k dj dk hj hk => ?_, s.rel.base, s.rel.bag, fun b hb => ⟨s.rel.f0 b hb, ?_⟩, fun b hb => s.rel.fs b hb.1⟩, fun b o q q1 q2 => ?_, fun b hb => ?_, s.dom⟩, hrep⟩
        · by_cases e : i = j
          · subst e
            rw [List.getElem?_set_self hl] at hj
            cases hj
            exact ⟨_, h', hrep⟩
          · rw [List.getElem?_set_ne e] at hj
            have q' := s.rel.slot j sl hj
            cases sl with
            | no => trivial
            | val d => obtain ⟨v, e, hr⟩ := q'; exact ⟨v, e, hr.mono wk⟩
            | own d =>
              obtain ⟨x, e2, hr, hx, h0⟩ := q'
              refine ⟨x, e2, hr.mono wk fun _ z => z, ⟨hx, fun z => ?_⟩, h0⟩
              subst z
              exact e (s.rel.uniq i j _ _ q hj (by rw [h', e2]))
            | lock d => obtain ⟨x, e, hr, hx⟩ := q'; exact ⟨x, e, hr.mono wk (fun _ z => z), hx⟩
        · have hj' := (set_own hj (fun _ z => nomatch z)).2
          have hk' := (set_own hk (fun _ z => nomatch z)).2
          exact s.rel.uniq j k _ _ hj' hk'
        · intro z
          subst z
          obtain ⟨o, q⟩ := c.fs b hb
          rw [h0] at q
          cases q
        · obtain ⟨h1, i1⟩ := s.fr b o q q1 q2
          exact ⟨h1, ⟨fun z => i1.mp z.1, fun z => ⟨i1.mpr z, fun z2 => q2 (by rw [z2]; exact ow)⟩⟩⟩
        · obtain ⟨j, dj, hj, hσ⟩ := hb
          exact s.own b ⟨j, dj, (set_own hj (fun _ z => nomatch z)).2, hσ⟩
theorem RepRs.stp (rl : Rel c F st σ H) (a : Stp c σ F st H F' st' H') (hs : ∀ x, Hs x = none → ¬ c.R.foot x) : ∀ {rs : List R} {vs : List V}, RepRs c σ Hs F H st rs vs → RepRs c σ Hs F' H' st' rs vs
  | [], _, h => h
  | _ :: _, _, h => by
    obtain ⟨v, t, e, h1, h2⟩ := h
    exact ⟨v, t, e, h1.stp rl a hs, RepRs.stp rl a hs h2⟩
theorem RepRs.hs {Hs' : Hp} (h : ∀ x, Hs x = none → Hs' x = none) : ∀ {rs : List R} {vs : List V}, RepRs c σ Hs F H st rs vs → RepRs c σ Hs' F H st rs vs
  | [], _, h => h
  | _ :: _, _, q => by
    obtain ⟨v, t, e, h1, h2⟩ := q
    exact ⟨v, t, e, h1.hs h, RepRs.hs h h2⟩
end

/-! ### what an operation leaves -/
inductive Out (H : Hp) (F : Addr → Prop) (rv : V) : R → V → Hp → Prop
  | same {d : D} {v : V} (h : Rep H F rv d v) : Out H F rv (.val d) v H
  | tup {p : Addr} {ds : List D} {xs : List V} (hp : H p = none) (h : RepL H F rv ds xs) : Out H F rv (.val (.tup ds)) (.ref p) (upd H p (.tup xs))
  | lst {p : Addr} {ds : List D} {xs : List V} (hp : H p = none) (h : RepL H F rv ds xs) : Out H F rv (.new (.lst ds)) (.ref p) (upd H p (.lst xs))
section
variable {c : C β} {F F' : Addr → Prop} {st st' : Sta β} {σ : L2.St} {H H' Hs : Hp}
theorem upd_keep {p : Addr} {o : HO} (hp : H p = none) : ∀ a u, H a = some u → upd H p o a = some u := fun a u e => by
  rw [upd_ne (ne_of_none e hp)]
  exact e
/-- nothing that stood has changed; what is forbidden now besides is new -/
theorem Rel.grow (r : Rel c F st σ H) (k : ∀ a o, H a = some o → H' a = some o) (hF : ∀ a, F a → F' a) (hn : ∀ a, F' a → F a ∨ (H a = none ∧ ∃ o, H' a = some o)) : Rel c F' st σ H' := by
  have wk : ∀ a o, H a = some o → ¬ F a → H' a = some o ∧ ¬ F' a := fun a o e hf => ⟨k a o e, fun z => by
    rcases hn a z with z | ⟨z, _⟩
    · exact hf z
    · rw [e] at z; cases z⟩
  refine ⟨r.len, fun i sl hi => ?_, r.uniq, fun a o e hf => k a o (r.base a o e hf), c.R.keep _ _ _ r.bag fun a o _ e => k a o e, fun a h => hF a (r.f0 a h), fun a h => ?_⟩
  · have q := r.slot i sl hi
    cases sl with
    | no => trivial
    | val d => obtain ⟨v, e, hr⟩ := q; exact ⟨v, e, hr.mono wk⟩
    | own d => obtain ⟨x, e, hr, hx, h0⟩ := q; exact ⟨x, e, hr.mono wk (fun o z => k _ o z), hF x hx, h0⟩
    | lock d => obtain ⟨x, e, hr, hx⟩ := q; exact ⟨x, e, hr.mono wk (fun o z => k _ o z), hx⟩
  · rcases hn a h with z | ⟨_, z⟩
    · obtain ⟨o, e⟩ := r.fs a z
      exact ⟨o, k a o e⟩
    · exact z
theorem Stp.grow (r : Rel c F st σ H) (k : ∀ a o, H a = some o → H' a = some o) (hF : ∀ a, F a → F' a) (hn : ∀ a, F' a → F a ∨ (H a = none ∧ ∃ o, H' a = some o)) : Stp c σ F st H F' st H' := by
  refine ⟨r.grow k hF hn, fun a o e _ _ => ⟨k a o e, Iff.intro (fun z => ?_) (hF a)⟩, fun _ h => h, fun a o e => ⟨o, k a o e⟩⟩
  rcases hn a z with z | ⟨z, _⟩
  · exact z
  · rw [e] at z; cases z
theorem out_ok (rl : Rel c F st σ H) {r : R} {v : V} (o : Out H F c.R.val r v H') : ∃ F', Stp c σ F st H F' st H' ∧ RepR c σ H F' H' st r v := by
  cases o with
  | same h => exact ⟨F, .refl rl, h⟩
  | @tup p ds xs hp h =>
    have wk : ∀ a o, H a = some o → ¬ F a → upd H p (.tup xs) a = some o ∧ ¬ F a := fun a o e hf => ⟨upd_keep hp a o e, hf⟩
    refine ⟨F, .grow rl (upd_keep hp) (fun _ h => h) (fun _ h => .inl h), ?_⟩
    show Rep _ _ _ (.tup ds) (.ref p)
    simp only [Rep]
    refine ⟨p, xs, rfl, upd_same, fun z => ?_, h.mono wk⟩
    obtain ⟨o, e⟩ := rl.fs p z
    rw [hp] at e
    cases e
  | @lst p ds xs hp h =>
    have wk : ∀ a o, H a = some o → ¬ F a → upd H p (.lst xs) a = some o ∧ ¬ (F a ∨ a = p) := fun a o e hf => ⟨upd_keep hp a o e, fun z => by
      rcases z with z | z
      · exact hf z
      · subst z; rw [hp] at e; cases e⟩
    refine ⟨fun a => F a ∨ a = p, .grow rl (upd_keep hp) (fun _ h => .inl h) (fun a h => ?_), p, rfl, ⟨xs, upd_same, h.mono wk⟩, .inr rfl, hp, fun z => ?_⟩
    · rcases h with h | h
      · exact .inl h
      · subst h; exact .inr ⟨hp, _, upd_same⟩
    · obtain ⟨o, e⟩ := (rl.own_f z).2.2
      rw [hp] at e
      cases e
end

/-! ### the readings -/
def tE (m : Mn β R) : TE := fun σ H Q => ∃ (c : C β) (F : Addr → Prop) (st : Sta β) (r : R) (st' : Sta β), Rel c F st σ H ∧ m st = some (r, st') ∧
  ∀ v H' F', Stp c σ F st H F' st' H' → RepR c σ H F' H' st' r v → Q v H'
def tDt (m : Mn β D) : TE := fun σ H Q => ∃ (c : C β) (F : Addr → Prop) (st : Sta β) (d : D) (st' : Sta β), Rel c F st σ H ∧ m st = some (d, st') ∧
  ∀ v H' F', Stp c σ F st H F' st' H' → Rep H' F' c.R.val d v → Q v H'
def tTs (m : Mn β Bool) : TT := fun σ H Q => ∃ (c : C β) (F : Addr → Prop) (st : Sta β) (b : Bool) (st' : Sta β), Rel c F st σ H ∧ m st = some (b, st') ∧
  ∀ H' F', Stp c σ F st H F' st' H' → Q b H'
/-- data, one after another -/
def tDs (m : Mn β (List D)) : TA := fun σ H Q => ∃ (c : C β) (F : Addr → Prop) (st : Sta β) (ds : List D) (st' : Sta β), Rel c F st σ H ∧ m st = some (ds, st') ∧
  ∀ vs H' F', Stp c σ F st H F' st' H' → RepL H' F' c.R.val ds vs → Q vs H'
/-- results, one after another -/
def tRs (m : Mn β (List R)) : TA := fun σ H Q => ∃ (c : C β) (F : Addr → Prop) (st : Sta β) (rs : List R) (st' : Sta β), Rel c F st σ H ∧ m st = some (rs, st') ∧
  ∀ vs H' F', Stp c σ F st H F' st' H' → RepRs c σ H F' H' st' rs vs → Q vs H'

/-! ### the meanings -/
def mBind {α γ : Type} (m : Mn β α) (k : α → Mn β γ) : Mn β γ := fun st => match m st with
  | some (a, st') => k a st'
  | none => none
theorem mBind_some {α γ : Type} {m : Mn β α} {k : α → Mn β γ} {st st2 : Sta β} {x : γ} (h : mBind m k st = some (x, st2)) : ∃ a st1, m st = some (a, st1) ∧ k a st1 = some (x, st2) := by
  unfold mBind at h
  cases e : m st with
  | none => rw [e] at h; cases h
  | some p => rw [e] at h; exact ⟨p.1, p.2, rfl, h⟩
def mC (d : D) : Mn β R := fun st => some (.val d, st)
def mV (i : Nat) : Mn β R := fun st => match st.env[i]? with
  | some (.val d) => some (.val d, st)
  | some (.own _) => some (.at i, st)
  | some (.lock _) => some (.at i, st)
  | _ => none
def mD (m : Mn β R) : Mn β D := mBind m toD
def mPk (m : Mn β R) (k : D → Mn β R) : Mn β R := mBind m fun r st => match pk r st with
  | some d => k d st
  | none => none
def mOp2 (f : D → D → Option R) (a b : Mn β R) : Mn β R := mBind a fun r1 => mBind b fun r2 st => match pk r1 st with
  | none => none
  | some d1 => match pk r2 st with
    | none => none
    | some d2 => match f d1 d2 with
      | none => none
      | some r => some (r, st)
def mOp1 (f : D → Option R) (a : Mn β R) : Mn β R := mBind a fun r1 st => match pk r1 st with
  | none => none
  | some d1 => match f d1 with
    | none => none
    | some r => some (r, st)
def mNil {α : Type} : Mn β (List α) := fun st => some ([], st)
def mCons {α : Type} (a : Mn β α) (b : Mn β (List α)) : Mn β (List α) := mBind a fun x => mBind b fun xs st => some (x :: xs, st)
def mBi (f : List D → Option R) (a : Mn β (List R)) : Mn β R := mBind a fun rs st => match pkL rs st with
  | none => none
  | some ds => match f ds with
    | none => none
    | some r => some (r, st)
def line : Nat := 16777216
def mTup (a : Mn β (List D)) : Mn β R := mBind a fun ds st => if ds.length ≤ line then some (.val (.tup ds), st) else none
def mLst (a : Mn β (List D)) : Mn β R := mBind a fun ds st => if ds.length ≤ line then some (.new (.lst ds), st) else none
def truth : D → Option Bool
  | .non => some false
  | .bl b => some b
  | .int i => some (i != 0)
  | .str x => if x.length ≤ line then some ((x.length : Int) != 0) else none
  | .tup ds => some (!ds.isEmpty)
  | .lst ds => some (!ds.isEmpty)
  | .res => none
def mTr (a : Mn β R) : Mn β Bool := mBind a fun r st => match pk r st with
  | none => none
  | some d => match truth d with
    | none => none
    | some b => some (b, st)
/-- a result that is True or False -/
def mBl (a : Mn β R) : Mn β Bool := mBind a fun r st => match r with
  | .val (.bl b) => some (b, st)
  | _ => none
def mAnd (a b : Mn β Bool) : Mn β Bool := mBind a fun x => if x = true then b else fun st => some (false, st)
def mOr (a b : Mn β Bool) : Mn β Bool := mBind a fun x => if x = true then fun st => some (true, st) else b
def mNot (a : Mn β Bool) : Mn β Bool := mBind a fun x st => some (!x, st)
def mOfB (a : Mn β Bool) : Mn β R := mBind a fun x st => some (.val (.bl x), st)
def mIfE (t : Mn β Bool) (a b : Mn β R) : Mn β R := mBind t fun x => if x = true then a else b
/-- results joined: of a conditional expression no slot -/
def mChain (f g : D → D → Option R) (a b d : Mn β R) : Mn β R := mBind a fun r1 => mBind b fun r2 st => match pk r1 st with
  | none => none
  | some d1 => match pk r2 st with
    | none => none
    | some d2 => match f d1 d2 with
      | some (.val (.bl true)) => (mBind d fun r3 st3 => match pk r2 st3 with
        | none => none
        | some d2' => match pk r3 st3 with
          | none => none
          | some d3 => match g d2' d3 with
            | none => none
            | some r => some (r, st3)) st
      | some (.val (.bl false)) => some (.val (.bl false), st)
      | _ => none

/-! ### rules -/
section
variable {X : Cx}
theorem se_c {e : Expr} {d : D} {v : V} (h : PE X e (tC v)) (hr : ∀ (c : C β) (H : Hp) (F : Addr → Prop), Rep H F c.R.val d v) : PE X e (tE (mC (β := β) d)) := by
  refine peI h fun σ H Q q => ?_
  obtain ⟨c, F, st, r, st', rl, e, k⟩ := q
  simp only [mC, Option.some.injEq, Prod.mk.injEq] at e
  obtain ⟨rfl, rfl⟩ := e
  exact k v H F (.refl rl) (hr c H F)
theorem se_int {i : Int} {j : Nat} {pos : Pos} : PE X (.Constant (.int i) j pos) (tE (mC (β := β) (.int i))) := se_c pe_int fun _ _ _ => by simp [Rep]
theorem se_bl {i : Bool} {j : Nat} {pos : Pos} : PE X (.Constant (.bool i) j pos) (tE (mC (β := β) (.bl i))) := se_c pe_bl fun _ _ _ => by simp [Rep]
theorem se_non {j : Nat} {pos : Pos} : PE X (.Constant .none j pos) (tE (mC (β := β) .non)) := se_c pe_non fun _ _ _ => by simp [Rep]
theorem se_str {x : Str} {j : Nat} {pos : Pos} : PE X (.Constant (.str x) j pos) (tE (mC (β := β) (.str x))) := se_c pe_str fun _ _ _ => by simp [Rep]
/-- a module's whole number -/
theorem se_glob {x : Str} {i : Int} {t : Tok} {pos : Pos} (hg : Gl X x) (hm : X.mg x = some (.int i t)) (hd : (x == ("__debug__" : Str)) = false := by decide) : PE X (.Name x pos) (tE (mC (β := β) (.int i))) :=
  se_c (pe_glob (v := .int i) hg hm ⟨_, rfl⟩ hd) fun _ _ _ => by simp [Rep]
theorem se_v {e : Expr} {i : Nat} (h : PE X e (tVar i)) : PE X e (tE (mV (β := β) i)) := by
  refine peI h fun σ H Q q => ?_
  obtain ⟨c, F, st, r, st', rl, e, k⟩ := q
  simp only [mV] at e
  cases q : st.env[i]? with
  | none => rw [q] at e; cases e
  | some s =>
    have hs := rl.slot i s q
    rw [q] at e
    cases s with
    | no => cases e
    | val d =>
      simp only [Option.some.injEq, Prod.mk.injEq] at e
      obtain ⟨rfl, rfl⟩ := e
      obtain ⟨v, e, hr⟩ := hs
      exact ⟨v, e, k v H F (.refl rl) hr⟩
    | own d =>
      simp only [Option.some.injEq, Prod.mk.injEq] at e
      obtain ⟨rfl, rfl⟩ := e
      obtain ⟨a, e, hr⟩ := hs
      exact ⟨.ref a, e, k (.ref a) H F (.refl rl) e⟩
    | lock d =>
      simp only [Option.some.injEq, Prod.mk.injEq] at e
      obtain ⟨rfl, rfl⟩ := e
      obtain ⟨a, e, hr⟩ := hs
      exact ⟨.ref a, e, k (.ref a) H F (.refl rl) e⟩
theorem se_d {e : Expr} {m : Mn β R} (h : PE X e (tE m)) : PE X e (tDt (mD m)) := by
  refine peI h fun σ H Q q => ?_
  obtain ⟨c, F, st, d, st', rl, e, k⟩ := q
  obtain ⟨r, s1, e1, e2⟩ := mBind_some e
  refine ⟨c, F, st, r, s1, rl, e1, fun v H' F' s hr => ?_⟩
  obtain ⟨F2, s2, hd⟩ := toD_ok rl s hr e2
  exact k v H' F2 s2 hd

/-- an operation on two things read -/
def Ok2 (r : R2) (f : D → D → Option R) : Prop := ∀ (H : Hp) (F : Addr → Prop) (rv : V) (x y : V) (d e : D) (res : R) (Q : VK), Pk H F rv d x → Pk H F rv e y → f d e = some res → (∀ v H', Out H F rv res v H' → Q v H') → r x y H Q
def Ok1 (r : V → Hp → VK → Prop) (f : D → Option R) : Prop := ∀ (H : Hp) (F : Addr → Prop) (rv : V) (x : V) (d : D) (res : R) (Q : VK), Pk H F rv d x → f d = some res → (∀ v H', Out H F rv res v H' → Q v H') → r x H Q
def OkC (r : List V → Hp → VK → Prop) (f : List D → Option R) : Prop := ∀ (H : Hp) (F : Addr → Prop) (rv : V) (xs : List V) (ds : List D) (res : R) (Q : VK), PkL H F rv ds xs → f ds = some res → (∀ v H', Out H F rv res v H' → Q v H') → r xs H Q

theorem op2_reads {r : R2} {f : D → D → Option R} (ho : Ok2 r f) {ta tb : TE} {a b : Mn β R} (ha : ∀ σ H Q, tE a σ H Q → ta σ H Q) (hb : ∀ σ H Q, tE b σ H Q → tb σ H Q) : ∀ σ H Q, tE (mOp2 f a b) σ H Q → tOp r ta tb σ H Q := fun σ H Q q => by
  obtain ⟨c, F, st, res, st', rl, e, k⟩ := q
  obtain ⟨r1, s1, e1, e⟩ := mBind_some e
  obtain ⟨r2, s2, e2, e⟩ := mBind_some e
  refine ha _ _ _ ⟨c, F, st, r1, s1, rl, e1, fun x H1 F1 t1 h1 => ?_⟩
  refine hb _ _ _ ⟨c, F1, s1, r2, s2, t1.rel, e2, fun y H2 F2 t2 h2 => ?_⟩
  cases p1 : pk r1 s2 with
  | none => rw [p1] at e; cases e
  | some d1 =>
    rw [p1] at e
    cases p2 : pk r2 s2 with
    | none => rw [p2] at e; cases e
    | some d2 =>
      rw [p2] at e
      simp only at e
      cases p3 : f d1 d2 with
      | none => rw [p3] at e; cases e
      | some r3 =>
        rw [p3] at e
        simp only [Option.some.injEq, Prod.mk.injEq] at e
        obtain ⟨rfl, rfl⟩ := e
        have hnf : ∀ x, H x = none → ¬ c.R.foot x := fun x => rl.nofoot
        have h1' := h1.stp t1.rel t2 hnf
        refine ho H2 F2 c.R.val x y d1 d2 r3 Q (pk_ok t2.rel h1' p1) (pk_ok t2.rel h2 p2) p3 fun v H3 o => ?_
        obtain ⟨F3, t3, h3⟩ := out_ok t2.rel o
        exact k v H3 F3 ((t1.trans t2).trans t3) (h3.hs fun x hx => (t1.trans t2).gone hx)
theorem se_op2 {op : Operator} {r : R2} {f : D → D → Option R} {a b : Expr} {ma mb : Mn β R} {pos : Pos} (ho : OpR X (binaryOp op) r) (hk : Ok2 r f) (ha : PE X a (tE ma)) (hb : PE X b (tE mb)) : PE X (.BinOp a op b pos) (tE (mOp2 f ma mb)) :=
  peI (pe_op ho ha hb) (op2_reads hk (fun _ _ _ h => h) fun _ _ _ h => h)
theorem se_cmp {op : CmpOp} {r : R2} {f : D → D → Option R} {a b : Expr} {ma mb : Mn β R} {pos : Pos} (ho : OpR X (compareOp op) r) (hk : Ok2 r f) (ha : PE X a (tE ma)) (hb : PE X b (tE mb)) (hm : behindInMarks op b = false) : PE X (.Compare a [op] [b] pos) (tE (mOp2 f ma mb)) :=
  peI (pe_cmpR ho ha hb hm) (op2_reads hk (fun _ _ _ h => h) fun _ _ _ h => h)
/-- from a value True or False to a test -/
theorem bl_reads {t : TE} {m : Mn β R} (h : ∀ σ H Q, tE m σ H Q → t σ H Q) : ∀ σ H Q, tTs (mBl m) σ H Q → t σ H (fun x H' => ∃ k, x = .bl k ∧ Q k H') := fun σ H Q q => by
  obtain ⟨c, F, st, b, st', rl, e, k⟩ := q
  obtain ⟨r, s1, e1, e⟩ := mBind_some e
  refine h _ _ _ ⟨c, F, st, r, s1, rl, e1, fun x H1 F1 t1 h1 => ?_⟩
  split at e
  · simp only [Option.some.injEq, Prod.mk.injEq] at e
    obtain ⟨rfl, rfl⟩ := e
    have h1' : Rep H1 F1 c.R.val (.bl _) x := h1
    simp only [Rep] at h1'
    exact ⟨_, h1', k H1 F1 t1⟩
  · cases e
theorem st_cmp {op : CmpOp} {r : R2} {f : D → D → Option R} {a b : Expr} {ma mb : Mn β R} {pos : Pos} (ho : OpR X (compareOp op) r) (hk : Ok2 r f) (ha : PE X a (tE ma)) (hb : PE X b (tE mb)) (hm : behindInMarks op b = false) : PT X (.Compare a [op] [b] pos) (tTs (mBl (mOp2 f ma mb))) :=
  ptI (pt_cmpR ho ha hb hm) (bl_reads (op2_reads hk (fun _ _ _ h => h) fun _ _ _ h => h))
theorem chain_reads {r r' : R2} {f g : D → D → Option R} (ho : Ok2 r f) (ho' : Ok2 r' g) {ta tb tc : TE} {a b d : Mn β R} (ha : ∀ σ H Q, tE a σ H Q → ta σ H Q) (hb : ∀ σ H Q, tE b σ H Q → tb σ H Q) (hc : ∀ σ H Q, tE d σ H Q → tc σ H Q) :
    ∀ σ H Q, tE (mChain f g a b d) σ H Q → tChain r r' ta tb tc σ H Q := fun σ H Q q => by
  obtain ⟨c, F, st, res, st', rl, e, k⟩ := q
  obtain ⟨r1, s1, e1, e⟩ := mBind_some e
  obtain ⟨r2, s2, e2, e⟩ := mBind_some e
  refine ha _ _ _ ⟨c, F, st, r1, s1, rl, e1, fun x H1 F1 t1 h1 => ?_⟩
  refine hb _ _ _ ⟨c, F1, s1, r2, s2, t1.rel, e2, fun y H2 F2 t2 h2 => ?_⟩
  have hnf : ∀ x, H x = none → ¬ c.R.foot x := fun x => rl.nofoot
  cases p1 : pk r1 s2 with
  | none => rw [p1] at e; cases e
  | some d1 =>
    rw [p1] at e
    cases p2 : pk r2 s2 with
    | none => rw [p2] at e; cases e
    | some d2 =>
      rw [p2] at e
      simp only at e
      have h1' := h1.stp t1.rel t2 hnf
      split at e
      · rename_i p3
        refine ho H2 F2 c.R.val x y d1 d2 _ _ (pk_ok t2.rel h1' p1) (pk_ok t2.rel h2 p2) p3 fun v H3 o => ?_
        cases o with
        | same hb3 =>
          simp only [Rep] at hb3
          refine ⟨true, hb3, ?_⟩
          rw [if_pos rfl]
          obtain ⟨r3, s3, e3, e⟩ := mBind_some e
          refine hc _ _ _ ⟨c, F2, s2, r3, s3, t2.rel, e3, fun z H3 F3 t3 h3 => ?_⟩
          cases q2 : pk r2 s3 with
          | none => rw [q2] at e; cases e
          | some d2' =>
            rw [q2] at e
            cases q3 : pk r3 s3 with
            | none => rw [q3] at e; cases e
            | some d3 =>
              rw [q3] at e
              simp only at e
              cases q4 : g d2' d3 with
              | none => rw [q4] at e; cases e
              | some r4 =>
                rw [q4] at e
                simp only [Option.some.injEq, Prod.mk.injEq] at e
                obtain ⟨rfl, rfl⟩ := e
                have h2' := h2.stp t2.rel t3 (fun x => t1.rel.nofoot)
                refine ho' H3 F3 c.R.val y z d2' d3 r4 Q (pk_ok t3.rel h2' q2) (pk_ok t3.rel h3 q3) q4 fun v H4 o => ?_
                obtain ⟨F4, t4, h4⟩ := out_ok t3.rel o
                have tt := (t1.trans t2).trans t3
                exact k v H4 F4 (tt.trans t4) (h4.hs fun x hx => tt.gone hx)
      · rename_i p3
        refine ho H2 F2 c.R.val x y d1 d2 _ _ (pk_ok t2.rel h1' p1) (pk_ok t2.rel h2 p2) p3 fun v H3 o => ?_
        cases o with
        | same hb3 =>
          simp only [Rep] at hb3
          refine ⟨false, hb3, ?_⟩
          rw [if_neg (by decide)]
          simp only [Option.some.injEq, Prod.mk.injEq] at e
          obtain ⟨rfl, rfl⟩ := e
          exact k _ H2 F2 (t1.trans t2) (show Rep H2 F2 c.R.val (.bl false) (.bl false) by simp [Rep])
      · cases e
theorem se_chain {op op' : CmpOp} {r r' : R2} {f g : D → D → Option R} {a b d : Expr} {ma mb md : Mn β R} {pos : Pos} (ho : OpR X (compareOp op) r) (hk : Ok2 r f) (ho' : OpR X (compareOp op') r') (hk' : Ok2 r' g) (ha : PE X a (tE ma)) (hb : PE X b (tE mb)) (hd : PE X d (tE md))
    (hm : lastMarks [op, op'] [b, d] = false := by with_unfolding_all rfl) : PE X (.Compare a [op, op'] [b, d] pos) (tE (mChain f g ma mb md)) :=
  peI (pe_chain ho ho' ha hb hd hm) (chain_reads hk hk' (fun _ _ _ h => h) (fun _ _ _ h => h) fun _ _ _ h => h)
theorem st_chain {op op' : CmpOp} {r r' : R2} {f g : D → D → Option R} {a b d : Expr} {ma mb md : Mn β R} {pos : Pos} (ho : OpR X (compareOp op) r) (hk : Ok2 r f) (ho' : OpR X (compareOp op') r') (hk' : Ok2 r' g) (ha : PE X a (tE ma)) (hb : PE X b (tE mb)) (hd : PE X d (tE md))
    (hm : lastMarks [op, op'] [b, d] = false := by with_unfolding_all rfl) : PT X (.Compare a [op, op'] [b, d] pos) (tTs (mBl (mChain f g ma mb md))) :=
  ptI (pt_chain ho ho' ha hb hd hm) (bl_reads (chain_reads hk hk' (fun _ _ _ h => h) (fun _ _ _ h => h) fun _ _ _ h => h))
end
end M

/-! MStmt: tests, argument lists, displays, calls, statements. -/
namespace M
open PySem PySem.Spec PyProof.Rows L2
variable {β : Type} [Kind β]
section
variable {X : Cx}

/-! ### tests -/
theorem truth_ok {K : PySem.W.Frag} {H : Hp} {F : Addr → Prop} {rv v : V} {d : D} {b : Bool} (h : Pk H F rv d v) (e : truth d = some b) : TruV K v H b := by
  cases d with
  | non => simp only [Pk, Rep] at h; subst h; simp only [truth, Option.some.injEq] at e; exact e.symm
  | bl x => simp only [Pk, Rep] at h; subst h; simp only [truth, Option.some.injEq] at e; exact e.symm
  | int i => simp only [Pk, Rep] at h; subst h; simp only [truth, Option.some.injEq] at e; exact e.symm
  | str x =>
    simp only [Pk, Rep] at h; subst h; simp only [truth] at e
    split at e
    · rename_i hl
      simp only [Option.some.injEq] at e
      exact ⟨by rw [sizeLine_eq]; exact hl, e.symm⟩
    · cases e
  | res => simp [truth] at e
  | tup ds =>
    simp only [Pk, Rep] at h
    obtain ⟨a, xs, rfl, ha, _, hl⟩ := h
    simp only [truth, Option.some.injEq] at e
    refine .inr (.inl ⟨xs, SqT.of ha, ?_⟩)
    rw [← e]
    have := hl.length
    cases ds <;> cases xs <;> simp_all
  | lst ds =>
    simp only [Pk] at h
    obtain ⟨a, xs, rfl, ha, hl⟩ := h
    simp only [truth, Option.some.injEq] at e
    refine .inl ⟨xs, SqL.of ha, ?_⟩
    rw [← e]
    have := hl.length
    cases ds <;> cases xs <;> simp_all
theorem tr_reads {t : TE} {m : Mn β R} {K : PySem.W.Frag} (h : ∀ σ H Q, tE m σ H Q → t σ H Q) : ∀ σ H Q, tTs (mTr m) σ H Q → t σ H (fun x H' => ∃ k, TruV K x H' k ∧ Q k H') := fun σ H Q q => by
  obtain ⟨c, F, st, b, st', rl, e, k⟩ := q
  obtain ⟨r, s1, e1, e⟩ := mBind_some e
  refine h _ _ _ ⟨c, F, st, r, s1, rl, e1, fun x H1 F1 t1 h1 => ?_⟩
  cases p1 : pk r s1 with
  | none => rw [p1] at e; cases e
  | some d =>
    rw [p1] at e
    simp only at e
    cases p2 : truth d with
    | none => rw [p2] at e; cases e
    | some b' =>
      rw [p2] at e
      simp only [Option.some.injEq, Prod.mk.injEq] at e
      obtain ⟨rfl, rfl⟩ := e
      exact ⟨b', truth_ok (pk_ok t1.rel h1 p1) p2, k H1 F1 t1⟩
/-- a value's truth, the test of a name, a call, a subscript .. -/
theorem st_tr {e : Expr} {m : Mn β R} (h : PE X e (tE m)) (he : ∀ whole, isTrue e X.env whole = (do let v ← whole; standAt e.pos; holding [v] (truthy v))) : PT X e (tTs (mTr m)) :=
  ptI (pt_truth h he) (tr_reads fun _ _ _ h => h)
theorem and_reads {t u : TT} {a b : Mn β Bool} (ha : ∀ σ H Q, tTs a σ H Q → t σ H Q) (hb : ∀ σ H Q, tTs b σ H Q → u σ H Q) : ∀ σ H Q, tTs (mAnd a b) σ H Q → tAnd t u σ H Q := fun σ H Q q => by
  obtain ⟨c, F, st, r, st', rl, e, k⟩ := q
  obtain ⟨x, s1, e1, e⟩ := mBind_some e
  refine ha _ _ _ ⟨c, F, st, x, s1, rl, e1, fun H1 F1 t1 => ?_⟩
  cases x with
  | true =>
    rw [if_pos rfl] at e ⊢
    exact hb _ _ _ ⟨c, F1, s1, r, st', t1.rel, e, fun H2 F2 t2 => k H2 F2 (t1.trans t2)⟩
  | false =>
    rw [if_neg (by decide)] at e ⊢
    simp only [Option.some.injEq, Prod.mk.injEq] at e
    obtain ⟨rfl, rfl⟩ := e
    exact k H1 F1 t1
theorem or_reads {t u : TT} {a b : Mn β Bool} (ha : ∀ σ H Q, tTs a σ H Q → t σ H Q) (hb : ∀ σ H Q, tTs b σ H Q → u σ H Q) : ∀ σ H Q, tTs (mOr a b) σ H Q → tOr t u σ H Q := fun σ H Q q => by
  obtain ⟨c, F, st, r, st', rl, e, k⟩ := q
  obtain ⟨x, s1, e1, e⟩ := mBind_some e
  refine ha _ _ _ ⟨c, F, st, x, s1, rl, e1, fun H1 F1 t1 => ?_⟩
  cases x with
  | true =>
    rw [if_pos rfl] at e ⊢
    simp only [Option.some.injEq, Prod.mk.injEq] at e
    obtain ⟨rfl, rfl⟩ := e
    exact k H1 F1 t1
  | false =>
    rw [if_neg (by decide)] at e ⊢
    exact hb _ _ _ ⟨c, F1, s1, r, st', t1.rel, e, fun H2 F2 t2 => k H2 F2 (t1.trans t2)⟩
theorem sw_and1 {a : Expr} {m : Mn β Bool} {pos : Pos} (ha : PT X a (tTs m)) : PW X (.BoolOp .And [a] pos) (tTs m) := pw_and1 ha
theorem sw_or1 {a : Expr} {m : Mn β Bool} {pos : Pos} (ha : PT X a (tTs m)) : PW X (.BoolOp .Or [a] pos) (tTs m) := pw_or1 ha
theorem sw_and {a b : Expr} {rest : List Expr} {m n : Mn β Bool} {pos : Pos} (ha : PT X a (tTs m)) (hb : PW X (.BoolOp .And (b :: rest) pos) (tTs n)) : PW X (.BoolOp .And (a :: b :: rest) pos) (tTs (mAnd m n)) :=
  pwI (pw_and ha hb) (and_reads (fun _ _ _ h => h) fun _ _ _ h => h)
theorem sw_or {a b : Expr} {rest : List Expr} {m n : Mn β Bool} {pos : Pos} (ha : PT X a (tTs m)) (hb : PW X (.BoolOp .Or (b :: rest) pos) (tTs n)) : PW X (.BoolOp .Or (a :: b :: rest) pos) (tTs (mOr m n)) :=
  pwI (pw_or ha hb) (or_reads (fun _ _ _ h => h) fun _ _ _ h => h)
theorem st_not {a : Expr} {m : Mn β Bool} {pos : Pos} (ha : PT X a (tTs m)) : PT X (.UnaryOp .Not a pos) (tTs (mNot m)) := by
  refine ptI (pt_not ha) fun σ H Q q => ?_
  obtain ⟨c, F, st, r, st', rl, e, k⟩ := q
  obtain ⟨x, s1, e1, e⟩ := mBind_some e
  simp only [Option.some.injEq, Prod.mk.injEq] at e
  obtain ⟨rfl, rfl⟩ := e
  exact ⟨c, F, st, x, s1, rl, e1, fun H1 F1 t1 => k H1 F1 t1⟩
/-- and, or, not as values, of values True and False -/
theorem se_one {op : BoolOp} {a : Expr} {m : Mn β R} {pos : Pos} (h : PE X a (tE m)) : PE X (.BoolOp op [a] pos) (tE m) := pe_one h
/-- the last of an and, an or as a value: no slot -/
def mAndV (a b : Mn β R) : Mn β R := mBind (mBl a) fun x => if x = true then b else fun st => some (.val (.bl false), st)
def mOrV (a b : Mn β R) : Mn β R := mBind (mBl a) fun x => if x = true then fun st => some (.val (.bl true), st) else b
def mNotV (a : Mn β R) : Mn β R := mBind (mBl a) fun x st => some (.val (.bl !x), st)
theorem rep_bl {H : Hp} {F : Addr → Prop} {rv : V} {b : Bool} : Rep H F rv (.bl b) (.bl b) := by simp [Rep]
theorem rr_bl {c : C β} {σ : L2.St} {Hs H : Hp} {F : Addr → Prop} {st : Sta β} {b : Bool} : RepR c σ Hs F H st (.val (.bl b)) (.bl b) := @rep_bl H F c.R.val b
theorem rep_int {H : Hp} {F : Addr → Prop} {rv : V} {b : Int} : Rep H F rv (.int b) (.int b) := by simp [Rep]
theorem rep_non {H : Hp} {F : Addr → Prop} {rv : V} : Rep H F rv .non .non := by simp [Rep]
theorem se_and {a b : Expr} {rest : List Expr} {m n : Mn β R} {pos : Pos} (ha : PE X a (tE m)) (hb : PE X (.BoolOp .And (b :: rest) pos) (tE n)) : PE X (.BoolOp .And (a :: b :: rest) pos) (tE (mAndV m n)) := by
  refine peI (pe_and ha hb) fun σ H Q q => ?_
  obtain ⟨c, F, st, r, st', rl, e, k⟩ := q
  obtain ⟨x, s1, e1, e⟩ := mBind_some e
  refine bl_reads (fun _ _ _ h => h) σ H _ ⟨c, F, st, x, s1, rl, e1, fun H1 F1 t1 => ?_⟩
  cases x with
  | true =>
    rw [if_pos rfl] at e ⊢
    exact ⟨c, F1, s1, r, st', t1.rel, e, fun v H2 F2 t2 h2 => k v H2 F2 (t1.trans t2) (h2.hs fun x hx => t1.gone hx)⟩
  | false =>
    rw [if_neg (by decide)] at e ⊢
    simp only [Option.some.injEq, Prod.mk.injEq] at e
    obtain ⟨rfl, rfl⟩ := e
    exact k _ H1 F1 t1 rr_bl
theorem se_or {a b : Expr} {rest : List Expr} {m n : Mn β R} {pos : Pos} (ha : PE X a (tE m)) (hb : PE X (.BoolOp .Or (b :: rest) pos) (tE n)) : PE X (.BoolOp .Or (a :: b :: rest) pos) (tE (mOrV m n)) := by
  refine peI (pe_or ha hb) fun σ H Q q => ?_
  obtain ⟨c, F, st, r, st', rl, e, k⟩ := q
  obtain ⟨x, s1, e1, e⟩ := mBind_some e
  refine bl_reads (fun _ _ _ h => h) σ H _ ⟨c, F, st, x, s1, rl, e1, fun H1 F1 t1 => ?_⟩
  cases x with
  | false =>
    rw [if_neg (by decide)] at e ⊢
    exact ⟨c, F1, s1, r, st', t1.rel, e, fun v H2 F2 t2 h2 => k v H2 F2 (t1.trans t2) (h2.hs fun x hx => t1.gone hx)⟩
  | true =>
    rw [if_pos rfl] at e ⊢
    simp only [Option.some.injEq, Prod.mk.injEq] at e
    obtain ⟨rfl, rfl⟩ := e
    exact k _ H1 F1 t1 rr_bl
theorem se_not {a : Expr} {m : Mn β R} {pos : Pos} (ha : PE X a (tE m)) : PE X (.UnaryOp .Not a pos) (tE (mNotV m)) := by
  refine peI (pe_not ha) fun σ H Q q => ?_
  obtain ⟨c, F, st, r, st', rl, e, k⟩ := q
  obtain ⟨x, s1, e1, e⟩ := mBind_some e
  simp only [Option.some.injEq, Prod.mk.injEq] at e
  obtain ⟨rfl, rfl⟩ := e
  exact bl_reads (fun _ _ _ h => h) σ H _ ⟨c, F, st, x, s1, rl, e1, fun H1 F1 t1 => k _ H1 F1 t1 rr_bl⟩
theorem se_ifE {t a b : Expr} {mt : Mn β Bool} {ma mb : Mn β R} {pos : Pos} (ht : PT X t (tTs mt)) (ha : PE X a (tE ma)) (hb : PE X b (tE mb)) : PE X (.IfExp t a b pos) (tE (mIfE mt ma mb)) := by
  refine peI (pe_ifExp ht ha hb) fun σ H Q q => ?_
  obtain ⟨c, F, st, r, st', rl, e, k⟩ := q
  obtain ⟨x, s1, e1, e⟩ := mBind_some e
  refine ⟨c, F, st, x, s1, rl, e1, fun H1 F1 t1 => ?_⟩
  cases x with
  | true =>
    rw [if_pos rfl] at e ⊢
    exact ⟨c, F1, s1, r, st', t1.rel, e, fun v H2 F2 t2 h2 => k v H2 F2 (t1.trans t2) (h2.hs fun x hx => t1.gone hx)⟩
  | false =>
    rw [if_neg (by decide)] at e ⊢
    exact ⟨c, F1, s1, r, st', t1.rel, e, fun v H2 F2 t2 h2 => k v H2 F2 (t1.trans t2) (h2.hs fun x hx => t1.gone hx)⟩

/-! ### one operand; argument lists -/
theorem op1_reads {r : V → Hp → VK → Prop} {f : D → Option R} (ho : Ok1 r f) {ta : TE} {a : Mn β R} (ha : ∀ σ H Q, tE a σ H Q → ta σ H Q) : ∀ σ H Q, tE (mOp1 f a) σ H Q → tUn r ta σ H Q := fun σ H Q q => by
  obtain ⟨c, F, st, res, st', rl, e, k⟩ := q
  obtain ⟨r1, s1, e1, e⟩ := mBind_some e
  refine ha _ _ _ ⟨c, F, st, r1, s1, rl, e1, fun x H1 F1 t1 h1 => ?_⟩
  cases p1 : pk r1 s1 with
  | none => rw [p1] at e; cases e
  | some d1 =>
    rw [p1] at e
    simp only at e
    cases p3 : f d1 with
    | none => rw [p3] at e; cases e
    | some r3 =>
      rw [p3] at e
      simp only [Option.some.injEq, Prod.mk.injEq] at e
      obtain ⟨rfl, rfl⟩ := e
      refine ho H1 F1 c.R.val x d1 r3 Q (pk_ok t1.rel h1 p1) p3 fun v H3 o => ?_
      obtain ⟨F3, t3, h3⟩ := out_ok t1.rel o
      exact k v H3 F3 (t1.trans t3) (h3.hs fun x hx => t1.gone hx)
theorem se_un {op : UnaryOp} {r : V → Hp → VK → Prop} {f : D → Option R} {a : Expr} {m : Mn β R} {pos : Pos} (ho : UnR X (unaryOp op) r) (hk : Ok1 r f) (ha : PE X a (tE m)) : PE X (.UnaryOp op a pos) (tE (mOp1 f m)) :=
  peI (pe_un ho ha) (op1_reads hk fun _ _ _ h => h)
theorem sr_nil : PA X [] (tRs (mNil (β := β))) := paI pa_nil fun σ H Q q => by
  obtain ⟨c, F, st, res, st', rl, e, k⟩ := q
  simp only [mNil, Option.some.injEq, Prod.mk.injEq] at e
  obtain ⟨rfl, rfl⟩ := e
  exact k [] H F (.refl rl) rfl
theorem rs_reads {ta : TE} {tr : TA} {a : Mn β R} {b : Mn β (List R)} (ha : ∀ σ H Q, tE a σ H Q → ta σ H Q) (hb : ∀ σ H Q, tRs b σ H Q → tr σ H Q) : ∀ σ H Q, tRs (mCons a b) σ H Q → tCons ta tr σ H Q := fun σ H Q q => by
  obtain ⟨c, F, st, res, st', rl, e, k⟩ := q
  obtain ⟨r1, s1, e1, e⟩ := mBind_some e
  obtain ⟨rs, s2, e2, e⟩ := mBind_some e
  simp only [Option.some.injEq, Prod.mk.injEq] at e
  obtain ⟨rfl, rfl⟩ := e
  refine ha _ _ _ ⟨c, F, st, r1, s1, rl, e1, fun x H1 F1 t1 h1 => ?_⟩
  refine hb _ _ _ ⟨c, F1, s1, rs, s2, t1.rel, e2, fun xs H2 F2 t2 h2 => ?_⟩
  exact k (x :: xs) H2 F2 (t1.trans t2) ⟨x, xs, rfl, h1.stp t1.rel t2 (fun x => rl.nofoot), h2.hs fun x hx => t1.gone hx⟩
theorem sr_cons {e : Expr} {es : List Expr} {a : Mn β R} {b : Mn β (List R)} (ha : PE X e (tE a)) (hb : PA X es (tRs b)) (hs : starEach (e :: es) X.env = (false, eval e X.env) :: starEach es X.env := by rfl) : PA X (e :: es) (tRs (mCons a b)) :=
  paI (pa_cons ha hb hs) (rs_reads (fun _ _ _ h => h) fun _ _ _ h => h)
theorem sd_nil : PA X [] (tDs (mNil (β := β))) := paI pa_nil fun σ H Q q => by
  obtain ⟨c, F, st, res, st', rl, e, k⟩ := q
  simp only [mNil, Option.some.injEq, Prod.mk.injEq] at e
  obtain ⟨rfl, rfl⟩ := e
  exact k [] H F (.refl rl) .nil
theorem sd_cons {e : Expr} {es : List Expr} {a : Mn β R} {b : Mn β (List D)} (ha : PE X e (tE a)) (hb : PA X es (tDs b)) (hs : starEach (e :: es) X.env = (false, eval e X.env) :: starEach es X.env := by rfl) : PA X (e :: es) (tDs (mCons (mD a) b)) := by
  refine paI (pa_cons (se_d ha) hb hs) fun σ H Q q => ?_
  obtain ⟨c, F, st, res, st', rl, e, k⟩ := q
  obtain ⟨d, s1, e1, e⟩ := mBind_some e
  obtain ⟨ds, s2, e2, e⟩ := mBind_some e
  simp only [Option.some.injEq, Prod.mk.injEq] at e
  obtain ⟨rfl, rfl⟩ := e
  refine ⟨c, F, st, d, s1, rl, e1, fun x H1 F1 t1 h1 => ?_⟩
  refine ⟨c, F1, s1, ds, s2, t1.rel, e2, fun xs H2 F2 t2 h2 => ?_⟩
  exact k (x :: xs) H2 F2 (t1.trans t2) (.cons (t2.rep t1.rel h1) h2)
theorem line_eq : line = sizeLine := sizeLine_eq.symm
theorem se_tup {es : List Expr} {a : Mn β (List D)} {x1 : Nat} {pos : Pos} (h : PA X es (tDs a)) : PE X (.Tuple es x1 pos) (tE (mTup a)) := by
  refine peI (pe_tup h) fun σ H Q q => ?_
  obtain ⟨c, F, st, res, st', rl, e, k⟩ := q
  obtain ⟨ds, s1, e1, e⟩ := mBind_some e
  refine ⟨c, F, st, ds, s1, rl, e1, fun xs H1 F1 t1 h1 => ?_⟩
  split at e
  · rename_i hl
    simp only [Option.some.injEq, Prod.mk.injEq] at e
    obtain ⟨rfl, rfl⟩ := e
    refine ⟨by rw [h1.length, ← line_eq]; exact hl, fun p hp => ?_⟩
    obtain ⟨F3, t3, h3⟩ := out_ok t1.rel (Out.tup (rv := c.R.val) hp h1)
    exact k _ _ F3 (t1.trans t3) (h3.hs fun x hx => t1.gone hx)
  · cases e
theorem se_lst {es : List Expr} {a : Mn β (List D)} {pos : Pos} (h : PA X es (tDs a)) : PE X (.List es pos) (tE (mLst a)) := by
  refine peI (pe_lst h) fun σ H Q q => ?_
  obtain ⟨c, F, st, res, st', rl, e, k⟩ := q
  obtain ⟨ds, s1, e1, e⟩ := mBind_some e
  refine ⟨c, F, st, ds, s1, rl, e1, fun xs H1 F1 t1 h1 => ?_⟩
  split at e
  · rename_i hl
    simp only [Option.some.injEq, Prod.mk.injEq] at e
    obtain ⟨rfl, rfl⟩ := e
    refine ⟨by rw [h1.length, ← line_eq]; exact hl, fun p hp => ?_⟩
    obtain ⟨F3, t3, h3⟩ := out_ok t1.rel (Out.lst (rv := c.R.val) hp h1)
    exact k _ _ F3 (t1.trans t3) (h3.hs fun x hx => t1.gone hx)
  · cases e
theorem bi_reads {r : List V → Hp → VK → Prop} {f : List D → Option R} (ho : OkC r f) {ta : TA} {a : Mn β (List R)} (ha : ∀ σ H Q, tRs a σ H Q → ta σ H Q) : ∀ σ H Q, tE (mBi f a) σ H Q → tCB r ta σ H Q := fun σ H Q q => by
  obtain ⟨c, F, st, res, st', rl, e, k⟩ := q
  obtain ⟨rs, s1, e1, e⟩ := mBind_some e
  refine ha _ _ _ ⟨c, F, st, rs, s1, rl, e1, fun xs H1 F1 t1 h1 => ?_⟩
  cases p1 : pkL rs s1 with
  | none => rw [p1] at e; cases e
  | some ds =>
    rw [p1] at e
    simp only at e
    cases p3 : f ds with
    | none => rw [p3] at e; cases e
    | some r3 =>
      rw [p3] at e
      simp only [Option.some.injEq, Prod.mk.injEq] at e
      obtain ⟨rfl, rfl⟩ := e
      refine ho H1 F1 c.R.val xs ds r3 Q (pkL_ok t1.rel h1 p1) p3 fun v H3 o => ?_
      obtain ⟨F3, t3, h3⟩ := out_ok t1.rel o
      exact k v H3 F3 (t1.trans t3) (h3.hs fun x hx => t1.gone hx)
/-- a built-in function, a built-in class, a module's name for a built-in function -/
theorem se_bi {id : String} {r : List V → Hp → VK → Prop} {f : List D → Option R} {x : Str} {p pos : Pos} {e : Expr} {es : List Expr} {a : Mn β (List R)} (hc : CallR X (.builtin id) r) (hk : OkC r f) (hg : Gl X x) (hm : X.mg x = none) (hv : bootBuiltins x = some (.builtin id)) (ha : PA X (e :: es) (tRs a))
    (hn : x ≠ "__name__" := by decide) (hdb : (x == ("__debug__" : Str)) = false := by decide) (he : starEach (e :: es) X.env = (false, eval e X.env) :: starEach es X.env := by rfl) (hpl : (backTo pos (starEach es X.env)).any (·.1) = false := by rfl) :
    PE X (.Call (.Name x p) (e :: es) [] pos) (tE (mBi f a)) := peI (pe_callB hc hg hm hv ha hn hdb he hpl) (bi_reads hk fun _ _ _ h => h)
theorem se_ty {id : String} {r : List V → Hp → VK → Prop} {f : List D → Option R} {x : Str} {p pos : Pos} {e : Expr} {es : List Expr} {a : Mn β (List R)} (hc : CallR X (.type id) r) (hk : OkC r f) (hg : Gl X x) (hm : X.mg x = none) (hv : bootBuiltins x = some (.type id)) (ha : PA X (e :: es) (tRs a))
    (hn : x ≠ "__name__" := by decide) (hdb : (x == ("__debug__" : Str)) = false := by decide) (he : starEach (e :: es) X.env = (false, eval e X.env) :: starEach es X.env := by rfl) (hpl : (backTo pos (starEach es X.env)).any (·.1) = false := by rfl) :
    PE X (.Call (.Name x p) (e :: es) [] pos) (tE (mBi f a)) := peI (pe_callTy hc hg hm hv ha hn hdb he hpl) (bi_reads hk fun _ _ _ h => h)
theorem se_fun {id : String} {r : List V → Hp → VK → Prop} {f : List D → Option R} {x : Str} {p pos : Pos} {e : Expr} {es : List Expr} {a : Mn β (List R)} (hc : CallR X (.builtin id) r) (hk : OkC r f) (hg : Gl X x) (hm : X.mg x = some (.builtin id)) (ha : PA X (e :: es) (tRs a))
    (hdb : (x == ("__debug__" : Str)) = false := by decide) (he : starEach (e :: es) X.env = (false, eval e X.env) :: starEach es X.env := by rfl) (hpl : (backTo pos (starEach es X.env)).any (·.1) = false := by rfl) :
    PE X (.Call (.Name x p) (e :: es) [] pos) (tE (mBi f a)) := peI (pe_callBfun hc hg hm ha hdb he hpl) (bi_reads hk fun _ _ _ h => h)
/-- a[b] -/
theorem se_ix {r : R2} {f : D → D → Option R} {a b : Expr} {ma mb : Mn β R} {pos : Pos} (hr : IxR X r) (hk : Ok2 r f) (ha : PE X a (tE ma)) (hb : PE X b (tE mb)) (hs : PlainIx b) : PE X (.Subscript a b pos) (tE (mOp2 f ma mb)) :=
  peI (pe_ix hr ha hb hs) (op2_reads hk (fun _ _ _ h => h) fun _ _ _ h => h)

/-! ### slices -/
def tOs (m : Mn β (Option Int)) : TO := fun σ H Q => ∃ (c : C β) (F : Addr → Prop) (st : Sta β) (o : Option Int) (st' : Sta β), Rel c F st σ H ∧ m st = some (o, st') ∧
  ∀ H' F', Stp c σ F st H F' st' H' → Q o H'
def mNo : Mn β (Option Int) := fun st => some (none, st)
def mSo (a : Mn β R) : Mn β (Option Int) := mBind a fun r st => match r with
  | .val (.int i) => some (some i, st)
  | _ => none
theorem so_no : PO X none (tOs (mNo (β := β))) := poI po_none fun σ H Q q => by
  obtain ⟨c, F, st, res, st', rl, e, k⟩ := q
  simp only [mNo, Option.some.injEq, Prod.mk.injEq] at e
  obtain ⟨rfl, rfl⟩ := e
  exact k H F (.refl rl)
theorem so_so {e : Expr} {a : Mn β R} (ha : PE X e (tE a)) : PO X (some e) (tOs (mSo a)) := poI (po_some ha) fun σ H Q q => by
  obtain ⟨c, F, st, res, st', rl, e, k⟩ := q
  obtain ⟨r, s1, e1, e⟩ := mBind_some e
  refine ⟨c, F, st, r, s1, rl, e1, fun x H1 F1 t1 h1 => ?_⟩
  split at e
  · simp only [Option.some.injEq, Prod.mk.injEq] at e
    obtain ⟨rfl, rfl⟩ := e
    have h1' : Rep H1 F1 c.R.val (.int _) x := h1
    simp only [Rep] at h1'
    exact ⟨_, h1', k H1 F1 t1⟩
  · cases e
def OkS (r : V → Option Int → Option Int → Hp → VK → Prop) (f : D → Option Int → Option Int → Option R) : Prop := ∀ (H : Hp) (F : Addr → Prop) (rv : V) (x : V) (d : D) (lo hi : Option Int) (res : R) (Q : VK), Pk H F rv d x → f d lo hi = some res → (∀ v H', Out H F rv res v H' → Q v H') → r x lo hi H Q
def mSl (f : D → Option Int → Option Int → Option R) (a : Mn β R) (lo hi : Mn β (Option Int)) : Mn β R := mBind a fun r1 => mBind lo fun l => mBind hi fun h st => match pk r1 st with
  | none => none
  | some d1 => match f d1 l h with
    | none => none
    | some r => some (r, st)
theorem se_sl {r : V → Option Int → Option Int → Hp → VK → Prop} {f : D → Option Int → Option Int → Option R} {e : Expr} {lo hi : Option Expr} {a : Mn β R} {l h : Mn β (Option Int)} {p2 pos : Pos} (hr : SlR X r) (hk : OkS r f) (he : PE X e (tE a)) (hl : PO X lo (tOs l)) (hu : PO X hi (tOs h)) :
    PE X (.Subscript e (.Slice lo hi none p2) pos) (tE (mSl f a l h)) := by
  refine peI (pe_slice hr he hl hu) fun σ H Q q => ?_
  obtain ⟨c, F, st, res, st', rl, e, k⟩ := q
  obtain ⟨r1, s1, e1, e⟩ := mBind_some e
  obtain ⟨l', s2, e2, e⟩ := mBind_some e
  obtain ⟨h', s3, e3, e⟩ := mBind_some e
  refine ⟨c, F, st, r1, s1, rl, e1, fun x H1 F1 t1 h1 => ?_⟩
  refine ⟨c, F1, s1, l', s2, t1.rel, e2, fun H2 F2 t2 => ?_⟩
  refine ⟨c, F2, s2, h', s3, t2.rel, e3, fun H3 F3 t3 => ?_⟩
  cases p1 : pk r1 s3 with
  | none => rw [p1] at e; cases e
  | some d1 =>
    rw [p1] at e
    simp only at e
    cases p3 : f d1 l' h' with
    | none => rw [p3] at e; cases e
    | some r3 =>
      rw [p3] at e
      simp only [Option.some.injEq, Prod.mk.injEq] at e
      obtain ⟨rfl, rfl⟩ := e
      have hnf : ∀ x, H x = none → ¬ c.R.foot x := fun x => rl.nofoot
      have h1' := (h1.stp t1.rel t2 hnf).stp t2.rel t3 hnf
      refine hk H3 F3 c.R.val x d1 l' h' r3 Q (pk_ok t3.rel h1' p1) p3 fun v H4 o => ?_
      obtain ⟨F4, t4, h4⟩ := out_ok t3.rel o
      have tt := (t1.trans t2).trans t3
      exact k v H4 F4 (tt.trans t4) (h4.hs fun x hx => tt.gone hx)
end

/-! ### calls of own defs -/
/-- a def's meaning: what comes in, the resource; what goes out -/
abbrev Fn (β : Type) := List Sl → β → Option (R × β)
/-- what comes out: H ahead, F not to be handed on -/
def ResR (rv : V) (H : Hp) (F : Addr → Prop) (H' : Hp) : R → V → Prop
  | .val d, v => Rep H' F rv d v
  | .new d, v => ∃ a, v = .ref a ∧ H a = none ∧ RepO H' (fun b => F b ∨ b = a) rv d a
  | .at _, _ => False
def spF (f : Fn β) : Sp := fun vs H Q _ => ∃ (S : Res β) (F : Addr → Prop) (args : List Sl) (b : β) (r : R) (b' : β), Kind.kd S ∧ (∀ a, F a → ∃ o, H a = some o) ∧ (∀ a, S.foot a → F a) ∧ S.rel b H ∧ ArgRs S.foot S.val H F args vs ∧
  f args b = some (r, b') ∧ ∀ v H', (∀ a o, H a = some o → ¬ S.foot a → H' a = some o) → S.rel b' H' → ResR S.val H F H' r v → Q v H'
def mCall (f : Fn β) (a : Mn β (List R)) : Mn β R := mBind a fun rs st => match toSlL rs st with
  | none => none
  | some args => match f args st.bag with
    | none => none
    | some (r, b) => some (r, { st with bag := b })
section
variable {c : C β} {F : Addr → Prop} {st : Sta β} {σ : L2.St} {H : Hp}
/-- behind a call -/
theorem call_ok (rl : Rel c F st σ H) {r : R} {b : β} {v : V} {H' : Hp} (k : ∀ a o, H a = some o → ¬ c.R.foot a → H' a = some o) (hb : c.R.rel b H') (hr : ResR c.R.val H F H' r v) :
    ∃ F', Stp c σ F st H F' { st with bag := b } H' ∧ RepR c σ H F' H' { st with bag := b } r v := by
  have dom : ∀ a o, H a = some o → ∃ o', H' a = some o' := fun a o e => by
    by_cases hf : c.R.foot a
    · exact c.R.there _ _ _ hb hf
    · exact ⟨o, k a o e hf⟩
  have gen : ∀ (F' : Addr → Prop), (∀ a, F a → F' a) → (∀ a, F' a → F a ∨ (H a = none ∧ ∃ o, H' a = some o)) → Stp c σ F st H F' { st with bag := b } H' := fun F' hF hn => by
    have nf : ∀ a o, H a = some o → F' a → F a := fun a o e z => by
      rcases hn a z with z | ⟨z, _⟩
      · exact z
      · rw [e] at z; cases z
    have wk : ∀ a o, H a = some o → ¬ F a → H' a = some o ∧ ¬ F' a := fun a o e hf => ⟨k a o e fun z => hf (rl.f0 a (c.foot a z)), fun z => hf (nf a o e z)⟩
    refine ⟨⟨rl.len, fun i sl hi => ?_, rl.uniq, fun a o e hf => k a o (rl.base a o e hf) hf, hb, fun a h => hF a (rl.f0 a h), fun a h => ?_⟩, fun a o e hf _ => ⟨k a o e hf, nf a o e, hF a⟩, fun _ h => h, dom⟩
    · have q := rl.slot i sl hi
      cases sl with
      | no => trivial
      | val d => obtain ⟨v, e, hr⟩ := q; exact ⟨v, e, hr.mono wk⟩
      | own d =>
        obtain ⟨x, e, hr, hx, h0⟩ := q
        have hnf := rl.own_foot ⟨i, d, hi, e⟩
        exact ⟨x, e, hr.mono wk (fun o z => k _ o z hnf), hF x hx, h0⟩
      | lock d => obtain ⟨x, e, hr, hx⟩ := q; exact ⟨x, e, hr.mono wk (fun o z => k _ o z hx.1), hx⟩
    · rcases hn a h with z | ⟨_, z⟩
      · obtain ⟨o, e⟩ := rl.fs a z
        exact dom a o e
      · exact z
  cases r with
  | val d => exact ⟨F, gen F (fun _ h => h) fun _ h => .inl h, hr⟩
  | «at» i => exact hr.elim
  | new d =>
    obtain ⟨a, e, hn, ho⟩ := hr
    refine ⟨fun b => F b ∨ b = a, gen _ (fun _ h => .inl h) (fun b h => ?_), a, e, ho, .inr rfl, hn, fun z => ?_⟩
    · rcases h with h | h
      · exact .inl h
      · subst h; exact .inr ⟨hn, ho.there⟩
    · obtain ⟨o, e⟩ := (rl.own_f (show Own st σ a from z)).2.2
      rw [hn] at e
      cases e
end
section
variable {X : Cx}
theorem call_reads {f : Fn β} {ta : TA} {a : Mn β (List R)} {E : XK} (ha : ∀ σ H Q, tRs a σ H Q → ta σ H Q) : ∀ σ H Q, tE (mCall f a) σ H Q → tCall (spF f) [] E ta σ H Q := fun σ H Q q => by
  obtain ⟨c, F, st, res, st', rl, e, k⟩ := q
  obtain ⟨rs, s1, e1, e⟩ := mBind_some e
  refine ha _ _ _ ⟨c, F, st, rs, s1, rl, e1, fun xs H1 F1 t1 h1 => ?_⟩
  cases p1 : toSlL rs s1 with
  | none => rw [p1] at e; cases e
  | some args =>
    rw [p1] at e
    simp only at e
    cases p2 : f args s1.bag with
    | none => rw [p2] at e; cases e
    | some p =>
      rw [p2] at e
      simp only [Option.some.injEq, Prod.mk.injEq] at e
      obtain ⟨rfl, rfl⟩ := e
      have hnf : ∀ x, H x = none → ¬ c.R.foot x := fun x => rl.nofoot
      refine ⟨c.R, F1, args, s1.bag, p.1, p.2, c.kd, t1.rel.fs, fun x h => t1.rel.f0 x (c.foot x h), t1.rel.bag, ?_, p2, fun v H2 k2 b2 r2 => ?_⟩
      · rw [List.append_nil]
        exact toSlL_ok t1.rel hnf h1 p1
      · obtain ⟨F2, t2, h2⟩ := call_ok t1.rel k2 b2 r2
        exact k v H2 F2 (t1.trans t2) (h2.hs fun x hx => t1.gone hx)
theorem se_call {k : Nat} {f : Addr} {fd : FuncData} {ps : List Str} {g : Fn β} {x : Str} {p pos : Pos} {e : Expr} {es : List Expr} {a : Mn β (List R)} (G : FnOk X.prog X.w X.K X.mg X.base CX0 k f fd ps (spF g)) (hr : Room k X.A) (hg : Gl X x) (hm : X.mg x = some (.ref f)) (hk : PySem.W.keepIn X.K (.ref f) = true)
    (hb : Binds X.K fd ps []) (ha : PA X (e :: es) (tRs a)) (hdb : (x == ("__debug__" : Str)) = false := by decide) (he : starEach (e :: es) X.env = (false, eval e X.env) :: starEach es X.env := by rfl) (hpl : (backTo pos (starEach es X.env)).any (·.1) = false := by rfl) :
    PE X (.Call (.Name x p) (e :: es) [] pos) (tE (mCall g a)) := peI (pe_call G hr hg hm hk hb .nil pass0 ha hdb he hpl) (call_reads fun _ _ _ h => h)
end
end M

/-! MLoop: statements, targets, what is walked, for, while, comprehensions, a def's body. -/
namespace M
open PySem PySem.Spec PyProof.Rows L2
variable {β : Type} [Kind β]

/-! ### statements -/
inductive O where
  | nx | bk | ct | rt (r : R)
abbrev Ms (β : Type) := Mn β O
/-- what stays from statement to statement -/
def FrS (F : Addr → Prop) (H : Hp) (F' : Addr → Prop) (H' : Hp) : Prop := ∀ a o, H a = some o → ¬ F a → H' a = some o ∧ ¬ F' a
theorem FrS.refl {F : Addr → Prop} {H : Hp} : FrS F H F H := fun _ _ h f => ⟨h, f⟩
theorem FrS.trans {F F1 F2 : Addr → Prop} {H H1 H2 : Hp} (a : FrS F H F1 H1) (b : FrS F1 H1 F2 H2) : FrS F H F2 H2 := fun x o h f => b x o (a x o h f).1 (a x o h f).2
def RtOk (c : C β) (b : β) (r : R) (v : V) (H : Hp) : Prop := (∀ a o, c.H0 a = some o → ¬ c.R.foot a → H a = some o) ∧ c.R.rel b H ∧ ResR c.R.val c.H0 c.F0 H r v
def Goes (c : C β) (F : Addr → Prop) (H : Hp) (D : Ends) (o : O) (st' : Sta β) : Prop := match o with
  | .nx => ∀ σ' H' F', Rel c F' st' σ' H' → FrS F H F' H' → D.nx σ' H'
  | .bk => ∀ σ' H' F', Rel c F' st' σ' H' → FrS F H F' H' → D.bk σ' H'
  | .ct => ∀ σ' H' F', Rel c F' st' σ' H' → FrS F H F' H' → D.ct σ' H'
  | .rt r => ∀ v H', RtOk c st'.bag r v H' → D.rt v H'
def tSt (m : Ms β) : TS := fun D σ H => ∃ (c : C β) (F : Addr → Prop) (st : Sta β) (o : O) (st' : Sta β), Rel c F st σ H ∧ m st = some (o, st') ∧ Goes c F H D o st'
section
variable {c : C β} {F F1 F' : Addr → Prop} {st st' : Sta β} {σ : L2.St} {H H1 H' : Hp} {D D' : Ends} {o : O}
theorem Goes.from (f : FrS F H F1 H1) (g : Goes c F H D o st') : Goes c F1 H1 D o st' := by
  cases o with
  | nx => exact fun σ' H' F' r f' => g σ' H' F' r (f.trans f')
  | bk => exact fun σ' H' F' r f' => g σ' H' F' r (f.trans f')
  | ct => exact fun σ' H' F' r f' => g σ' H' F' r (f.trans f')
  | rt r => exact g
theorem Stp.frs (r : Rel c F st σ H) (s : Stp c σ F st H F' st' H') : FrS F H F' H' := s.pers r
end
def mSkip : Ms β := fun st => some (.nx, st)
def mSeq (a b : Ms β) : Ms β := mBind a fun o => match o with
  | .nx => b
  | o => fun st => some (o, st)
def mBk : Ms β := fun st => some (.bk, st)
def mCt : Ms β := fun st => some (.ct, st)
def mIf (t : Mn β Bool) (a b : Ms β) : Ms β := mBind t fun x => if x = true then a else b
def mEx (a : Mn β R) : Ms β := mBind a fun _ st => some (.nx, st)
def toRes (r : R) (st : Sta β) : Option R := match r with
  | .val d => some (.val d)
  | .new d => some (.new d)
  | .at i => match st.env[i]? with
    | some (.val d) => some (.val d)
    | some (.own d) => some (.new d)
    | _ => none
def mRet (a : Mn β R) : Ms β := mBind a fun r st => match toRes r st with
  | none => none
  | some r => some (.rt r, st)
def mRetN : Ms β := fun st => some (.rt (.val .non), st)
/-- x = r: a new object is owned by the slot; an owned list of another slot is given up to reading -/
def setSl (i : Nat) (r : R) (st : Sta β) : Option (Sta β) := match r with
  | .val d => some { st with env := st.env.set i (.val d) }
  | .new d => some { st with env := st.env.set i (.own d) }
  | .at j => match toD (.at j) st with
    | some (d, st') => some { st' with env := st'.env.set i (.val d) }
    | none => none
def mSet (i : Nat) (a : Mn β R) : Ms β := mBind a fun r st => match setSl i r st with
  | none => none
  | some st' => some (.nx, st')
section
variable {c : C β} {F F1 F' : Addr → Prop} {st st' : Sta β} {σ : L2.St} {H H1 H' Hs : Hp} {D D' : Ends} {o : O}
theorem Rel.set (r : Rel c F st σ H) {i : Nat} {s : Sl} {v : V} (h : RelSl c F H s (some (some v))) (hw : ∀ d, s = .own d → ∀ a, v = .ref a → ¬ Own st σ a) : Rel c F { st with env := st.env.set i s } (σ.set i (some v)) H := by
  have hl := r.len
  refine ⟨by simp [hl], fun j sl hj => ?_, fun j k d e hj hk hσ => ?_, r.base, r.bag, r.f0, r.fs⟩
  · by_cases e : i = j
    · subst e
      by_cases hi : i < st.env.length
      · rw [List.getElem?_set_self hi] at hj
        cases hj
        rw [List.getElem?_set_self (by omega)]
        exact h
      · rw [List.getElem?_eq_none (by simpa using hi)] at hj
        cases hj
    · rw [List.getElem?_set_ne e] at hj
      rw [List.getElem?_set_ne e]
      exact r.slot j sl hj
  · have own_at : ∀ (j : Nat) (d : D), (st.env.set i s)[j]? = some (.own d) → (i = j ∧ s = .own d ∧ (σ.set i (some v))[j]? = some (some v)) ∨ (i ≠ j ∧ st.env[j]? = some (.own d) ∧ (σ.set i (some v))[j]? = σ[j]?) := fun j d hj => by
      by_cases e : i = j
      · subst e
        by_cases hi : i < st.env.length
        · rw [List.getElem?_set_self hi] at hj
          cases hj
          exact .inl ⟨rfl, rfl, List.getElem?_set_self (by omega)⟩
        · rw [List.getElem?_eq_none (by simpa using hi)] at hj
          cases hj
      · rw [List.getElem?_set_ne e] at hj
        exact .inr ⟨e, hj, List.getElem?_set_ne e⟩
    have clash : ∀ (k : Nat) (d d' : D), s = .own d → st.env[k]? = some (.own d') → σ[k]? = some (some v) → False := fun k d d' es ek eσ => by
      subst es
      obtain ⟨a, ea, _⟩ := h
      cases ea
      exact hw d rfl a rfl ⟨k, d', ek, eσ⟩
    rcases own_at j d hj with ⟨e1, e2, e3⟩ | ⟨e1, e2, e3⟩
    · rcases own_at k e hk with ⟨g1, g2, g3⟩ | ⟨g1, g2, g3⟩
      · exact e1.symm.trans g1
      · rw [e3, g3] at hσ
        exact (clash k d e e2 g2 hσ.symm).elim
    · rcases own_at k e hk with ⟨g1, g2, g3⟩ | ⟨g1, g2, g3⟩
      · rw [e3, g3] at hσ
        exact (clash j e d g2 e2 hσ).elim
      · rw [e3, g3] at hσ
        exact r.uniq j k d e e2 g2 hσ
theorem setSl_ok (rl : Rel c F st σ H) {st1 st2 : Sta β} (s : Stp c σ F st H F1 st1 H1) {r : R} {v : V} {i : Nat} (h : RepR c σ H F1 H1 st1 r v) (e : setSl i r st1 = some st2) : ∃ F2, Rel c F2 st2 (σ.set i (some v)) H1 ∧ FrS F H F2 H1 := by
  cases r with
  | val d =>
    simp only [setSl, Option.some.injEq] at e
    subst e
    exact ⟨F1, s.rel.set ⟨v, rfl, h⟩ (fun _ z => nomatch z), s.frs rl⟩
  | new d =>
    simp only [setSl, Option.some.injEq] at e
    subst e
    obtain ⟨a, e, ho, hf, hn, hw⟩ := h
    subst e
    exact ⟨F1, s.rel.set ⟨a, rfl, ho, hf, rl.h0 hn⟩ (fun _ _ b eb => by cases eb; exact hw), s.frs rl⟩
  | «at» j =>
    simp only [setSl] at e
    cases q : toD (.at j) st1 with
    | none => rw [q] at e; cases e
    | some p =>
      rw [q] at e
      simp only [Option.some.injEq] at e
      subst e
      obtain ⟨F2, s2, hd⟩ := toD_ok rl s h q
      exact ⟨F2, s2.rel.set ⟨v, rfl, hd⟩ (fun _ z => nomatch z), s2.frs rl⟩
theorem toRes_ok (rl : Rel c F st σ H) {st1 : Sta β} (s : Stp c σ F st H F1 st1 H1) {r r' : R} {v : V} (h : RepR c σ H F1 H1 st1 r v) (e : toRes r st1 = some r') : RtOk c st1.bag r' v H1 := by
  refine ⟨s.rel.base, s.rel.bag, ?_⟩
  have w1 : ∀ a o, H1 a = some o → ¬ F1 a → H1 a = some o ∧ ¬ c.F0 a := fun a o h f => ⟨h, fun z => f (s.rel.f0 a z)⟩
  cases r with
  | val d =>
    simp only [toRes, Option.some.injEq] at e
    subst e
    exact Rep.mono w1 h
  | new d =>
    simp only [toRes, Option.some.injEq] at e
    subst e
    obtain ⟨a, e, ho, hf, hn, hw⟩ := h
    exact ⟨a, e, rl.h0 hn, ho.mono (fun b o q f => ⟨q, fun z => f (z.elim (s.rel.f0 b) fun z => z ▸ hf)⟩) fun _ z => z⟩
  | «at» j =>
    simp only [toRes] at e
    have h' : σ[j]? = some (some v) := h
    cases q : st1.env[j]? with
    | none => rw [q] at e; cases e
    | some sl =>
      have hsl := s.rel.slot j sl q
      rw [h'] at hsl
      rw [q] at e
      cases sl with
      | no => cases e
      | lock _ => cases e
      | val d =>
        simp only [Option.some.injEq] at e
        subst e
        obtain ⟨v', e', hr⟩ := hsl
        cases e'
        exact Rep.mono w1 hr
      | own d =>
        simp only [Option.some.injEq] at e
        subst e
        obtain ⟨a, e', ho, hf, h0⟩ := hsl
        cases e'
        exact ⟨a, rfl, h0, ho.mono (fun b o q f => ⟨q, fun z => f (z.elim (s.rel.f0 b) fun z => z ▸ hf)⟩) fun _ z => z⟩
end
section
variable {X : Cx}
theorem ss_nil : PSs X [] (tSt (mSkip (β := β))) := pssI pss_nil fun D σ H q => by
  obtain ⟨c, F, st, o, st', rl, e, g⟩ := q
  simp only [mSkip, Option.some.injEq, Prod.mk.injEq] at e
  obtain ⟨rfl, rfl⟩ := e
  exact g σ H F rl .refl
theorem ss_cons {s : Stmt} {r : List Stmt} {a b : Ms β} (h1 : PS X s (tSt a)) (h2 : PSs X r (tSt b)) : PSs X (s :: r) (tSt (mSeq a b)) := by
  refine pssI (pss_cons h1 h2) fun D σ H q => ?_
  obtain ⟨c, F, st, o, st', rl, e, g⟩ := q
  obtain ⟨o1, s1, e1, e⟩ := mBind_some e
  refine ⟨c, F, st, o1, s1, rl, e1, ?_⟩
  cases o1 with
  | nx => exact fun σ' H' F' r' f => ⟨c, F', s1, o, st', r', e, g.from f⟩
  | bk => simp only [Option.some.injEq, Prod.mk.injEq] at e; obtain ⟨rfl, rfl⟩ := e; exact g
  | ct => simp only [Option.some.injEq, Prod.mk.injEq] at e; obtain ⟨rfl, rfl⟩ := e; exact g
  | rt r => simp only [Option.some.injEq, Prod.mk.injEq] at e; obtain ⟨rfl, rfl⟩ := e; exact g
theorem ss_one {s : Stmt} {a : Ms β} (h1 : PS X s (tSt a)) : PSs X [s] (tSt a) := pss_one h1
theorem ss_pass {pos : Pos} : PS X (.Pass pos) (tSt (mSkip (β := β))) := psI ps_pass fun D σ H q => by
  obtain ⟨c, F, st, o, st', rl, e, g⟩ := q
  simp only [mSkip, Option.some.injEq, Prod.mk.injEq] at e
  obtain ⟨rfl, rfl⟩ := e
  exact g σ H F rl .refl
theorem ss_bk {pos : Pos} : PS X (.Break pos) (tSt (mBk (β := β))) := psI ps_break fun D σ H q => by
  obtain ⟨c, F, st, o, st', rl, e, g⟩ := q
  simp only [mBk, Option.some.injEq, Prod.mk.injEq] at e
  obtain ⟨rfl, rfl⟩ := e
  exact g σ H F rl .refl
theorem ss_ct {pos : Pos} : PS X (.Continue pos) (tSt (mCt (β := β))) := psI ps_continue fun D σ H q => by
  obtain ⟨c, F, st, o, st', rl, e, g⟩ := q
  simp only [mCt, Option.some.injEq, Prod.mk.injEq] at e
  obtain ⟨rfl, rfl⟩ := e
  exact g σ H F rl .refl
theorem ss_if {t : Expr} {a b : List Stmt} {mt : Mn β Bool} {ma mb : Ms β} {pos : Pos} (ht : PT X t (tTs mt)) (ha : PSs X a (tSt ma)) (hb : PSs X b (tSt mb)) : PS X (.If t a b pos) (tSt (mIf mt ma mb)) := by
  refine psI (ps_if ht ha hb) fun D σ H q => ?_
  obtain ⟨c, F, st, o, st', rl, e, g⟩ := q
  obtain ⟨x, s1, e1, e⟩ := mBind_some e
  refine ⟨c, F, st, x, s1, rl, e1, fun H1 F1 t1 => ?_⟩
  cases x with
  | true =>
    rw [if_pos rfl] at e ⊢
    exact ⟨c, F1, s1, o, st', t1.rel, e, g.from (t1.frs rl)⟩
  | false =>
    rw [if_neg (by decide)] at e ⊢
    exact ⟨c, F1, s1, o, st', t1.rel, e, g.from (t1.frs rl)⟩
theorem ss_ex {e : Expr} {a : Mn β R} {pos : Pos} (he : PE X e (tE a)) (hs : swapsWith e none pos.line X.env = pure false := by rfl) : PS X (.Expr e pos) (tSt (mEx a)) := by
  refine psI (ps_expr he hs) fun D σ H q => ?_
  obtain ⟨c, F, st, o, st', rl, e, g⟩ := q
  obtain ⟨x, s1, e1, e⟩ := mBind_some e
  simp only [Option.some.injEq, Prod.mk.injEq] at e
  obtain ⟨rfl, rfl⟩ := e
  exact ⟨c, F, st, x, s1, rl, e1, fun v H1 F1 t1 _ => g σ H1 F1 t1.rel (t1.frs rl)⟩
theorem ss_ret {e : Expr} {a : Mn β R} {pos : Pos} (he : PE X e (tE a)) : PS X (.Return (some e) pos) (tSt (mRet a)) := by
  refine psI (ps_ret he) fun D σ H q => ?_
  obtain ⟨c, F, st, o, st', rl, e, g⟩ := q
  obtain ⟨x, s1, e1, e⟩ := mBind_some e
  refine ⟨c, F, st, x, s1, rl, e1, fun v H1 F1 t1 h1 => ?_⟩
  cases q : toRes x s1 with
  | none => rw [q] at e; cases e
  | some r' =>
    rw [q] at e
    simp only [Option.some.injEq, Prod.mk.injEq] at e
    obtain ⟨rfl, rfl⟩ := e
    exact g v H1 (toRes_ok rl t1 h1 q)
theorem ss_retN {pos : Pos} : PS X (.Return none pos) (tSt (mRetN (β := β))) := psI ps_retN fun D σ H q => by
  obtain ⟨c, F, st, o, st', rl, e, g⟩ := q
  simp only [mRetN, Option.some.injEq, Prod.mk.injEq] at e
  obtain ⟨rfl, rfl⟩ := e
  exact g .non H ⟨rl.base, rl.bag, by simp [ResR, Rep]⟩
theorem ss_set {i : Nat} {x : Str} {e : Expr} {a : Mn β R} {pos pos' : Pos} (hN : X.N.Nodup) (hi : X.N[i]? = some x) (hx : Loc X.env.scope x) (he : PE X e (tE a)) (hs : swapsWith e (some (.Name x pos')) pos.line X.env = pure false := by rfl) (hf : X.fn x = true ∨ X.env.scope.names.lookup x = some .local := by first | exact .inl rfl | exact .inr rfl | assumption) :
    PS X (.Assign [.Name x pos'] e pos) (tSt (mSet i a)) := by
  refine psI (ps_set hN hi hx he hs hf) fun D σ H q => ?_
  obtain ⟨c, F, st, o, st', rl, e, g⟩ := q
  obtain ⟨r, s1, e1, e⟩ := mBind_some e
  refine ⟨c, F, st, r, s1, rl, e1, fun v H1 F1 t1 h1 => ?_⟩
  cases q : setSl i r s1 with
  | none => rw [q] at e; cases e
  | some s2 =>
    rw [q] at e
    simp only [Option.some.injEq, Prod.mk.injEq] at e
    obtain ⟨rfl, rfl⟩ := e
    obtain ⟨F2, r2, f2⟩ := setSl_ok rl t1 h1 q
    exact g _ H1 F2 r2 f2
end

/-! ### targets: names alone; the slots that they change -/
abbrev Tm (β : Type) := D → Sta β → Option (Sta β)
abbrev Tms (β : Type) := List D → Sta β → Option (Sta β)
def Chg (is : List Nat) (σ σ' : L2.St) : Prop := σ'.length = σ.length ∧ ∀ j, j ∉ is → σ'[j]? = σ[j]?
def gTm (m : Tm β) (is : List Nat) : TG := fun v σ H Q => ∃ (c : C β) (F : Addr → Prop) (st : Sta β) (d : D) (st' : Sta β), Rel c F st σ H ∧ Rep H F c.R.val d v ∧ m d st = some st' ∧ ∀ σ', Rel c F st' σ' H → Chg is σ σ' → Q σ' H
def gTms (m : Tms β) (is : List Nat) : TGs := fun vs σ H Q => ∃ (c : C β) (F : Addr → Prop) (st : Sta β) (ds : List D) (st' : Sta β), Rel c F st σ H ∧ RepL H F c.R.val ds vs ∧ m ds st = some st' ∧ ∀ σ', Rel c F st' σ' H → Chg is σ σ' → Q σ' H
def tmN (i : Nat) : Tm β := fun d st => some { st with env := st.env.set i (.val d) }
def tmT (m : Tms β) (n : Nat) : Tm β := fun d st => match d with
  | .tup ds => if ds.length = n then m ds st else none
  | _ => none
def tmNil : Tms β := fun ds st => match ds with
  | [] => some st
  | _ => none
def tmCons (m : Tm β) (n : Tms β) : Tms β := fun ds st => match ds with
  | d :: r => match m d st with
    | some st' => n r st'
    | none => none
  | [] => none
section
variable {X : Cx}
theorem pgI {e : Expr} {t t' : TG} (h : PG X e t) (hi : ∀ v σ H Q, t' v σ H Q → t v σ H Q) : PG X e t' := ⟨fun pins s σ H v u Q I r q => h.run pins s σ H v u Q I r (hi v σ H Q q)⟩
theorem pgsI {e : List Expr} {t t' : TGs} (h : PGs X e t) (hi : ∀ v σ H Q, t' v σ H Q → t v σ H Q) : PGs X e t' := ⟨fun pins s σ H v u Q I r q => h.run pins s σ H v u Q I r (hi v σ H Q q)⟩
theorem sg_n {i : Nat} {x : Str} {pos : Pos} (hN : X.N.Nodup) (hi : X.N[i]? = some x) (hx : Loc X.env.scope x) (hf : X.fn x = true ∨ X.env.scope.names.lookup x = some .local := by first | exact .inl rfl | exact .inr rfl | assumption) : PG X (.Name x pos) (gTm (tmN (β := β) i) [i]) :=
  pgI (pg_name hN hi hx hf) fun v σ H Q q => by
    obtain ⟨c, F, st, d, st', rl, hd, e, k⟩ := q
    simp only [tmN, Option.some.injEq] at e
    subst e
    exact k _ (rl.set ⟨v, rfl, hd⟩ (fun _ z => nomatch z)) ⟨by simp, fun j hj => List.getElem?_set_ne (by simp at hj; omega)⟩
theorem sg_nil : PGs X [] (gTms (tmNil (β := β)) []) := pgsI pgs_nil fun vs σ H Q q => by
  obtain ⟨c, F, st, ds, st', rl, hd, e, k⟩ := q
  cases ds with
  | nil =>
    simp only [tmNil, Option.some.injEq] at e
    subst e
    simp only [RepL] at hd
    exact ⟨hd, k σ rl ⟨rfl, fun _ _ => rfl⟩⟩
  | cons d r => simp [tmNil] at e
theorem sg_cons {e : Expr} {es : List Expr} {m : Tm β} {n : Tms β} {is js : List Nat} (h1 : PG X e (gTm m is)) (h2 : PGs X es (gTms n js)) (hs : (assignEach (e :: es) X.env).map (·.2) = assign e X.env :: (assignEach es X.env).map (·.2) := by rfl) : PGs X (e :: es) (gTms (tmCons m n) (is ++ js)) :=
  pgsI (pgs_cons h1 h2 hs) fun vs σ H Q q => by
    obtain ⟨c, F, st, ds, st', rl, hd, e, k⟩ := q
    cases ds with
    | nil => simp [tmCons] at e
    | cons d r =>
      simp only [RepL] at hd
      obtain ⟨v, t, ev, h1, h2⟩ := hd
      subst ev
      simp only [tmCons] at e
      cases q1 : m d st with
      | none => rw [q1] at e; cases e
      | some s1 =>
        rw [q1] at e
        refine ⟨v, t, rfl, c, F, st, d, s1, rl, h1, q1, fun σ1 r1 g1 => ?_⟩
        refine ⟨c, F, s1, r, st', r1, h2, e, fun σ2 r2 g2 => k σ2 r2 ⟨g2.1.trans g1.1, fun j hj => ?_⟩⟩
        rw [g2.2 j (fun z => hj (List.mem_append_right _ z)), g1.2 j (fun z => hj (List.mem_append_left _ z))]
theorem sg_tup {es : List Expr} {k : Nat} {pos : Pos} {n : Nat} {m : Tms β} {is : List Nat} (hc : X.calm = true) (h : PGs X es (gTms m is)) (hn : (assignEach es X.env).length = n := by rfl) (hst : (assignEach es X.env).findIdx? (·.1) = none := by rfl) : PG X (.Tuple es k pos) (gTm (tmT m n) is) :=
  pgI (pg_tup hc h hn hst) fun v σ H Q q => by
    obtain ⟨c, F, st, d, st', rl, hd, e, k⟩ := q
    cases d with
    | tup ds =>
      simp only [tmT] at e
      split at e
      · rename_i hl
        simp only [Rep] at hd
        obtain ⟨a, xs, ev, ha, hf, hl2⟩ := hd
        exact ⟨a, xs, ev, SqT.of ha, by rw [hl2.length, hl], c, F, st, ds, st', rl, hl2, e, k⟩
      · cases e
    | _ => simp [tmT] at e
/-- a, b = e -/
def mUnp (a : Mn β R) (m : Tm β) : Ms β := mBind (mD a) fun d st => match m d st with
  | none => none
  | some st' => some (.nx, st')
theorem ss_unp {tg e : Expr} {a : Mn β R} {m : Tm β} {is : List Nat} {pos : Pos} (he : PE X e (tE a)) (hg : PG X tg (gTm m is)) (hs : swapsWithSole [tg] e pos.line X.env = pure false := by rfl) (hw : swappedStores [tg] e X.env = pure none := by rfl)
    (h1 : (assignEach [tg] X.env).map (·.2) = [assign tg X.env] := by rfl) : PS X (.Assign [tg] e pos) (tSt (mUnp a m)) := by
  refine psI (ps_asg (se_d he) hg hs hw h1) fun D σ H q => ?_
  obtain ⟨c, F, st, o, st', rl, e, g⟩ := q
  obtain ⟨d, s1, e1, e⟩ := mBind_some e
  refine ⟨c, F, st, d, s1, rl, e1, fun v H1 F1 t1 h1 => ?_⟩
  cases q1 : m d s1 with
  | none => rw [q1] at e; cases e
  | some s2 =>
    rw [q1] at e
    simp only [Option.some.injEq, Prod.mk.injEq] at e
    obtain ⟨rfl, rfl⟩ := e
    exact ⟨c, F1, s1, d, s2, t1.rel, h1, q1, fun σ' r' _ => g σ' H1 F1 r' (t1.frs rl)⟩
/-- a, b = x, y with plain local names -/
def mPar (i j : Nat) (a b : Mn β R) : Ms β := mBind a fun r1 => mBind b fun r2 st => match r1, r2 with
  | .at _, _ => none
  | _, .at _ => none
  | r1, r2 => match setSl i r1 st with
    | none => none
    | some st1 => match setSl j r2 st1 with
      | none => none
      | some st2 => some (.nx, st2)
/-- .. where a slot stands on the right: as data -/
def mParD (i j : Nat) (a b : Mn β R) : Ms β := mBind (mD a) fun d1 => mBind (mD b) fun d2 st => some (.nx, { st with env := (st.env.set i (.val d1)).set j (.val d2) })
theorem ss_parD {i j : Nat} {x y : Str} {a b : Expr} {ma mb : Mn β R} {px py pt pos : Pos} {kt k2 : Nat} {pt2 : Pos} (hc : X.calm = true) (hN : X.N.Nodup) (hi : X.N[i]? = some x) (hj : X.N[j]? = some y) (hij : i ≠ j) (hx : X.env.scope.names.lookup x = some .local) (hy : X.env.scope.names.lookup y = some .local)
    (ha : PE X a (tE ma)) (hb : PE X b (tE mb)) (hw : swappedStores [.Tuple [.Name x px, .Name y py] kt pt] (.Tuple [a, b] k2 pt2) X.env = pure (some [x, y])) (hs : swapsWithSole [.Tuple [.Name x px, .Name y py] kt pt] (.Tuple [a, b] k2 pt2) pos.line X.env = pure false := by rfl)
    (h1 : starEach [a, b] X.env = (false, eval a X.env) :: starEach [b] X.env := by rfl) (h2 : starEach [b] X.env = (false, eval b X.env) :: starEach [] X.env := by rfl) :
    PS X (.Assign [.Tuple [.Name x px, .Name y py] kt pt] (.Tuple [a, b] k2 pt2) pos) (tSt (mParD i j ma mb)) := by
  refine psI (ps_par hc hN hi hj hij hx hy (pa_cons (se_d ha) (pa_cons (se_d hb) pa_nil h2) h1) hw hs) fun D σ H q => ?_
  obtain ⟨c, F, st, o, st', rl, e, g⟩ := q
  obtain ⟨d1, s1, e1, e⟩ := mBind_some e
  obtain ⟨d2, s2, e2, e⟩ := mBind_some e
  simp only [Option.some.injEq, Prod.mk.injEq] at e
  obtain ⟨rfl, rfl⟩ := e
  refine ⟨c, F, st, d1, s1, rl, e1, fun v H1 F1 t1 h1 => ?_⟩
  refine ⟨c, F1, s1, d2, s2, t1.rel, e2, fun w H2 F2 t2 h2 => ?_⟩
  refine ⟨v, w, rfl, g _ H2 F2 ?_ ((t1.trans t2).frs rl)⟩
  have q1 := t2.rel.set (i := i) (s := .val d1) (v := v) ⟨v, rfl, t2.rep t1.rel h1⟩ (fun _ z => nomatch z)
  exact q1.set (i := j) (s := .val d2) (v := w) ⟨w, rfl, h2⟩ (fun _ z => nomatch z)
def slOf : R → Sl
  | .val d => .val d
  | .new d => .own d
  | .at _ => .no
theorem setSl_env {r : R} {i : Nat} {s s' : Sta β} (h : ∀ k, r ≠ .at k) (e : setSl i r s = some s') : s'.env = s.env.set i (slOf r) := by
  cases r with
  | val d => simp only [setSl, Option.some.injEq] at e; rw [← e]; rfl
  | new d => simp only [setSl, Option.some.injEq] at e; rw [← e]; rfl
  | «at» k => exact absurd rfl (h k)
theorem ss_par {i j : Nat} {x y : Str} {a b : Expr} {ma mb : Mn β R} {px py pt pos : Pos} {kt k2 : Nat} {pt2 : Pos} (hc : X.calm = true) (hN : X.N.Nodup) (hi : X.N[i]? = some x) (hj : X.N[j]? = some y) (hij : i ≠ j) (hx : X.env.scope.names.lookup x = some .local) (hy : X.env.scope.names.lookup y = some .local)
    (ha : PE X a (tE ma)) (hb : PE X b (tE mb)) (hw : swappedStores [.Tuple [.Name x px, .Name y py] kt pt] (.Tuple [a, b] k2 pt2) X.env = pure (some [x, y])) (hs : swapsWithSole [.Tuple [.Name x px, .Name y py] kt pt] (.Tuple [a, b] k2 pt2) pos.line X.env = pure false := by rfl)
    (h1 : starEach [a, b] X.env = (false, eval a X.env) :: starEach [b] X.env := by rfl) (h2 : starEach [b] X.env = (false, eval b X.env) :: starEach [] X.env := by rfl) :
    PS X (.Assign [.Tuple [.Name x px, .Name y py] kt pt] (.Tuple [a, b] k2 pt2) pos) (tSt (mPar i j ma mb)) := by
  refine psI (ps_par hc hN hi hj hij hx hy (pa_cons ha (pa_cons hb pa_nil h2) h1) hw hs) fun D σ H q => ?_
  obtain ⟨c, F, st, o, st', rl, e, g⟩ := q
  obtain ⟨r1, s1, e1, e⟩ := mBind_some e
  obtain ⟨r2, s2, e2, e⟩ := mBind_some e
  refine ⟨c, F, st, r1, s1, rl, e1, fun v H1 F1 t1 h1 => ?_⟩
  refine ⟨c, F1, s1, r2, s2, t1.rel, e2, fun w H2 F2 t2 h2 => ?_⟩
  have hnf : ∀ x, H x = none → ¬ c.R.foot x := fun x => rl.nofoot
  have h1' := h1.stp t1.rel t2 hnf
  have tt := t1.trans t2
  have h2' : RepR c σ H F2 H2 s2 r2 w := h2.hs fun x hx => t1.gone hx
  refine ⟨v, w, rfl, ?_⟩
  -- a new object's address is not the other's
  have ap : ∀ d d', r1 = .new d → r2 = .new d' → v ≠ w := fun d d' q1 q2 z => by
    subst q1 q2
    obtain ⟨a, ea, ho, _⟩ := h1
    obtain ⟨b, eb, _, _, hn, _⟩ := h2
    rw [ea, eb] at z
    cases z
    obtain ⟨o, q⟩ := ho.there
    rw [hn] at q
    cases q
  have one : ∀ {r : R} {u : V} {i : Nat} {s3 s4 : Sta β} {σ3 : L2.St} (hr : RepR c σ H F2 H2 s2 r u), (∀ k, r ≠ .at k) → Rel c F2 s3 σ3 H2 → (∀ d a, r = .new d → u = .ref a → ¬ Own s3 σ3 a) → setSl i r s3 = some s4 → Rel c F2 s4 (σ3.set i (some u)) H2 := by
    intro r u i s3 s4 σ3 hr hna r3 hno e
    cases r with
    | val d =>
      simp only [setSl, Option.some.injEq] at e
      subst e
      exact r3.set ⟨u, rfl, hr⟩ (fun _ z => nomatch z)
    | new d =>
      simp only [setSl, Option.some.injEq] at e
      subst e
      obtain ⟨a, e, ho, hf, hn, hw⟩ := hr
      subst e
      exact r3.set ⟨a, rfl, ho, hf, rl.h0 hn⟩ (fun _ _ b eb => by cases eb; exact hno d a rfl rfl)
    | «at» k => exact absurd rfl (hna k)
  have nat1 : ∀ k, r1 ≠ .at k := fun k z => by subst z; simp at e
  have nat2 : ∀ k, r2 ≠ .at k := fun k z => by subst z; cases r1 <;> simp at e
  have e' : (match setSl i r1 s2 with
    | none => none
    | some st1 => match setSl j r2 st1 with
      | none => none
      | some st2 => some (O.nx, st2)) = some (o, st') := by
    cases r1 with
    | «at» k => exact absurd rfl (nat1 k)
    | val d => cases r2 with
      | «at» k => exact absurd rfl (nat2 k)
      | val d' => exact e
      | new d' => exact e
    | new d => cases r2 with
      | «at» k => exact absurd rfl (nat2 k)
      | val d' => exact e
      | new d' => exact e
  clear e
  cases q1 : setSl i r1 s2 with
  | none => rw [q1] at e'; cases e'
  | some s3 =>
    rw [q1] at e'
    simp only at e'
    cases q2 : setSl j r2 s3 with
    | none => rw [q2] at e'; cases e'
    | some s4 =>
      rw [q2] at e'
      simp only [Option.some.injEq, Prod.mk.injEq] at e'
      obtain ⟨rfl, rfl⟩ := e'
      have R3 := one h1' nat1 t2.rel (fun d a q z => by subst q; obtain ⟨b, eb, _, _, _, hw⟩ := h1'; rw [eb] at z; cases z; exact hw) q1
      have R4 := one h2' nat2 R3 (fun d a q z => by
        subst q
        obtain ⟨b, eb, _, _, hn, hw⟩ := h2'
        rw [eb] at z
        cases z
        rintro ⟨k, dk, hk, hσ⟩
        have hs3 : s3.env = s2.env.set i (slOf r1) := setSl_env nat1 q1
        by_cases hki : i = k
        · subst hki
          rw [hs3] at hk
          by_cases hil : i < s2.env.length
          · rw [List.getElem?_set_self hil] at hk
            have : i < σ.length := by have := t2.rel.len; omega
            rw [List.getElem?_set_self this] at hσ
            have hv : v = .ref a := by simpa using hσ
            cases r1 with
            | val d1 => simp [slOf] at hk
            | new d1 => exact ap d1 d rfl rfl (by rw [hv, eb])
            | «at» k => exact absurd rfl (nat1 k)
          · rw [List.getElem?_eq_none (by simpa using hil)] at hk
            cases hk
        · rw [hs3, List.getElem?_set_ne hki] at hk
          rw [List.getElem?_set_ne hki] at hσ
          exact hw ⟨k, dk, hk, hσ⟩) q2
      exact g _ H2 F2 R4 (tt.frs rl)
end
end M

/-! MFor: what is walked, for, while, comprehensions, a def's body. -/
namespace M
open PySem PySem.Spec PyProof.Rows L2
variable {β : Type} [Kind β]

/-! ### a def's body -/
def runF (np n : Nat) (m : Ms β) : Fn β := fun args b => if args.length = np then (match m ⟨args ++ List.replicate (n - args.length) .no, b⟩ with
  | some (.rt r, st') => some (r, st'.bag)
  | some (.nx, st') => some (.val .non, st'.bag)
  | _ => none) else none
theorem ArgRs.length {foot : Addr → Prop} {rv : V} {H : Hp} {F : Addr → Prop} : ∀ {as : List Sl} {vs : List V}, ArgRs foot rv H F as vs → vs.length = as.length
  | [], _, h => by cases h; rfl
  | a :: as, _, h => by
    obtain ⟨v, r, e, _, h2⟩ := h
    subst e
    simp [ArgRs.length h2]
theorem ArgRs.get {foot : Addr → Prop} {rv : V} {H : Hp} {F : Addr → Prop} : ∀ {as : List Sl} {vs : List V} {i : Nat} {s : Sl}, ArgRs foot rv H F as vs → as[i]? = some s → ∃ v, vs[i]? = some v ∧ ArgR foot rv H F s v
  | [], _, _, _, _, e => by simp at e
  | a :: as, _, i, s, h, e => by
    obtain ⟨v, r, ev, h1, h2⟩ := h
    subst ev
    cases i with
    | zero =>
      have e2 : a = s := Option.some.inj e
      subst e2
      exact ⟨v, rfl, h1⟩
    | succ i => exact ArgRs.get (i := i) h2 e
theorem argR_slot {c : C β} {F : Addr → Prop} {s : Sl} {v : V} (hF : c.F0 = F) (h : ArgR c.R.foot c.R.val c.H0 F s v) : RelSl c F c.H0 s (some (some v)) := by
  cases s with
  | no => trivial
  | val d => exact ⟨v, rfl, h⟩
  | own d => exact h.elim
  | lock d =>
    obtain ⟨a, e, ho, hf⟩ := h
    subst e
    exact ⟨a, rfl, ho, hf, ho.there⟩
section
variable {P : Program} {w : World} {K : PySem.W.Frag} {mg : Str → Option Value} {base : Heap}
theorem fn_ok {x qual : Str} {st : Stmt} {f : Addr} {fd : FuncData} {N ps : List Str} {k : Nat} {m : Ms β} (F : Fun K x qual st f fd) (S : FnScope N ps (defScope st))
    (hbody : ∀ (cdv : Value) (A : Around) (outer : List Env) (s : Shared) (H : Hp) (E : XK), Room k (A.deeper (envOfC qual (defScope st) s.heap.objs.size f cdv)) →
      PSs (cxOf CX0 P w K mg base N qual (defScope st) f cdv A outer s H E).nox (defBody st) (tSt m)) : FnOk P w K mg base CX0 (k + 1) f fd ps (spF (runF ps.length N.length m)) := by
  refine F.ok S (fun vs H Q E h => ?_) (fun cdv A outer s H vs Q E hr h => ⟨tSt m, hbody cdv A outer s H E hr, ?_⟩)
  · obtain ⟨Sr, F, args, b, r, b', _, _, _, _, ha, e, _⟩ := h
    unfold runF at e
    split at e
    · rename_i hl; rw [ha.length, hl]
    · cases e
  · obtain ⟨Sr, Fb, args, b, r, b', hkd, hfs, hft, hb, ha, e, q⟩ := h
    unfold runF at e
    split at e
    · rename_i hl
      have hvl := ha.length
      let c : C β := ⟨Sr, hkd, H, Fb, hfs, hft⟩
      let st0 : Sta β := ⟨args ++ List.replicate (N.length - args.length) .no, b⟩
      have rl : Rel c Fb st0 (start N vs) H := by
        have own_no : ∀ (i : Nat) (d : D), st0.env[i]? ≠ some (.own d) := fun i d z => by
          rw [List.getElem?_append] at z
          split at z
          · obtain ⟨v, _, h⟩ := ha.get z
            exact h.elim
          · rw [List.getElem?_replicate] at z
            split at z <;> cases z
        refine ⟨?_, fun i s hi => ?_, fun i j d e' hi => absurd hi (own_no i d), fun a o h _ => h, hb, fun a h => h, hfs⟩
        · show (args ++ List.replicate (N.length - args.length) Sl.no).length = (vs.map some ++ List.replicate (N.length - vs.length) none).length
          simp [hvl]
        · have hi' : (args ++ List.replicate (N.length - args.length) Sl.no)[i]? = some s := hi
          show RelSl c Fb H s (vs.map some ++ List.replicate (N.length - vs.length) none)[i]?
          rw [List.getElem?_append] at hi'
          split at hi'
          · obtain ⟨v, e1, h1⟩ := ha.get hi'
            have hlt : i < (vs.map some).length := by rw [List.length_map, hvl]; assumption
            rw [List.getElem?_append_left hlt, List.getElem?_map, e1]
            exact argR_slot (c := c) rfl h1
          · rw [List.getElem?_replicate] at hi'
            split at hi'
            · cases hi'; trivial
            · cases hi'
      split at e
      · rename_i r' st' em
        simp only [Option.some.injEq, Prod.mk.injEq] at e
        obtain ⟨rfl, rfl⟩ := e
        exact ⟨c, Fb, st0, .rt r', st', rl, em, fun v H' h => q v H' h.1 h.2.1 h.2.2⟩
      · rename_i st' em
        simp only [Option.some.injEq, Prod.mk.injEq] at e
        obtain ⟨rfl, rfl⟩ := e
        exact ⟨c, Fb, st0, .nx, st', rl, em, fun σ' H' F' r' _ => q .non H' r'.base r'.bag (by simp [ResR, Rep])⟩
      · cases e
    · cases e
theorem fn_none {f : Addr} {fd : FuncData} {ps : List Str} {k : Nat} : FnOk P w K mg base CX0 k f fd ps (spF fun _ (_ : β) => none) := by
  refine ⟨fun vs H Q E h => ?_, fun A outer s H args us vs Q E _ _ _ _ h => ?_⟩
  · obtain ⟨_, _, _, _, _, _, _, _, _, _, _, e, _⟩ := h; cases e
  · obtain ⟨_, _, _, _, _, _, _, _, _, _, _, e, _⟩ := h; cases e
end

/-! ### an owned list changes -/
section
variable {c : C β} {F F1 F' : Addr → Prop} {st st' : Sta β} {σ : L2.St} {H H1 H' Hs : Hp} {D D' : Ends} {o : O}
theorem own_at (rl : Rel c F st σ H) {i : Nat} {ds : List M.D} (hi : st.env[i]? = some (.own (.lst ds))) : ∃ a xs, σ[i]? = some (some (.ref a)) ∧ H a = some (.lst xs) ∧ RepL H F c.R.val ds xs := by
  obtain ⟨a, e, ⟨xs, h, l⟩, _⟩ := rl.slot i _ hi
  exact ⟨a, xs, e, h, l⟩
theorem own_upd (rl : Rel c F st σ H) {i : Nat} {ds ds' : List M.D} {a : Addr} {xs' : List V} (hi : st.env[i]? = some (.own (.lst ds))) (hσ : σ[i]? = some (some (.ref a))) (hl : RepL H F c.R.val ds' xs') :
    Stp c σ F st H F { st with env := st.env.set i (.own (.lst ds')) } (upd H a (.lst xs')) := by
  have ow : Own st σ a := ⟨i, _, hi, hσ⟩
  obtain ⟨hFa, h0a, o, ha⟩ := rl.own_f ow
  have hil : i < st.env.length := (List.getElem?_eq_some_iff.mp hi).1
  have wk : ∀ b o, H b = some o → ¬ F b → upd H a (.lst xs') b = some o ∧ ¬ F b := fun b o e f => ⟨by rw [upd_ne (fun z => f (by rw [z]; exact hFa))]; exact e, f⟩
  have nft : ∀ b, c.R.foot b → b ≠ a := fun b hb z => rl.own_foot ow (z ▸ hb)
  refine ⟨⟨by simpa using rl.len, fun j s hj => ?_, fun j k d e hj hk hq => ?_, fun b o e f => ?_, c.R.keep _ _ _ rl.bag fun b o hb e => by rw [upd_ne (nft b hb)]; exact e, rl.f0, fun b hb => ?_⟩, fun b o e _ hw => ⟨?_, Iff.rfl⟩, fun b hb => ?_, fun b o e => ?_⟩
  · by_cases e : i = j
    · subst e
      rw [List.getElem?_set_self hil] at hj
      cases hj
      rw [hσ]
      exact ⟨a, rfl, ⟨xs', upd_same, hl.mono wk⟩, hFa, h0a⟩
    · rw [List.getElem?_set_ne e] at hj
      have q := rl.slot j s hj
      cases s with
      | no => trivial
      | val d => obtain ⟨v, e, hr⟩ := q; exact ⟨v, e, hr.mono wk⟩
      | own d =>
        obtain ⟨x, e2, hr, hx, h0⟩ := q
        refine ⟨x, e2, hr.mono wk (fun o z => ?_), hx, h0⟩
        rw [upd_ne (fun z => e (rl.uniq i j _ _ hi hj (by rw [hσ, e2, z])))]
        exact z
      | lock d =>
        obtain ⟨x, e2, hr, hx, ⟨o', h0⟩⟩ := q
        refine ⟨x, e2, hr.mono wk (fun o z => ?_), hx, ⟨o', h0⟩⟩
        rw [upd_ne (fun z => by rw [z, h0a] at h0; cases h0)]
        exact z
  · have gj : ∃ d', st.env[j]? = some (.own d') := by
      by_cases e : i = j
      · subst e; exact ⟨_, hi⟩
      · rw [List.getElem?_set_ne e] at hj; exact ⟨_, hj⟩
    have gk : ∃ d', st.env[k]? = some (.own d') := by
      by_cases e : i = k
      · subst e; exact ⟨_, hi⟩
      · rw [List.getElem?_set_ne e] at hk; exact ⟨_, hk⟩
    obtain ⟨d1, g1⟩ := gj
    obtain ⟨d2, g2⟩ := gk
    exact rl.uniq j k d1 d2 g1 g2 hq
  · rw [upd_ne (fun z => by rw [z, h0a] at e; cases e)]
    exact rl.base b o e f
  · by_cases e : b = a
    · subst e; exact ⟨_, upd_same⟩
    · rw [upd_ne e]; exact rl.fs b hb
  · rw [upd_ne (fun z => hw (by rw [z]; exact ow))]
    exact e
  · obtain ⟨j, d, hj, hq⟩ := hb
    by_cases e : i = j
    · subst e; exact ⟨i, _, hi, hq⟩
    · rw [List.getElem?_set_ne e] at hj; exact ⟨j, d, hj, hq⟩
  · by_cases e2 : b = a
    · subst e2; exact ⟨_, upd_same⟩
    · rw [upd_ne e2]; exact ⟨o, e⟩
end
/-- x.append(e), .. : the slot i an owned list; args as data -/
def mOwn (i : Nat) (f : List D → List D → Option (D × List D)) (a : Mn β (List D)) : Mn β R := fun st => match st.env[i]? with
  | some (.own _) => mBind a (fun args st1 => match st1.env[i]? with
    | some (.own (.lst ds)) => match f ds args with
      | some (d, ds') => some (.val d, { st1 with env := st1.env.set i (.own (.lst ds')) })
      | none => none
    | _ => none) st
  | _ => none
/-- a method of a list that changes it -/
def OkM (r : V → List V → Hp → VK → Prop) (f : List D → List D → Option (D × List D)) : Prop := ∀ (H : Hp) (F : Addr → Prop) (rv : V) (l : Addr) (xs vs : List V) (ds as : List D) (d : D) (ds' : List D) (Q : VK), H l = some (.lst xs) → RepL H F rv ds xs → RepL H F rv as vs →
  f ds as = some (d, ds') → (∀ v xs', RepL H F rv ds' xs' → (∀ F' H', (∀ a o, H a = some o → ¬ F a → H' a = some o ∧ ¬ F' a) → Rep H' F' rv d v) → Q v (upd H l (.lst xs'))) → r (.ref l) vs H Q
section
variable {X : Cx}
theorem meth_reads {r : V → List V → Hp → VK → Prop} {f : List D → List D → Option (D × List D)} (ho : OkM r f) {i : Nat} {ta : TA} {a : Mn β (List D)} {K : PySem.W.Frag} (ha : ∀ σ H Q, tDs a σ H Q → ta σ H Q) : ∀ σ H Q, tE (mOwn i f a) σ H Q → tBM K "list" r (tVar i) ta σ H Q := fun σ H Q q => by
  obtain ⟨c, F, st, res, st', rl, e, k⟩ := q
  simp only [mOwn] at e
  cases q0 : st.env[i]? with
  | none => rw [q0] at e; cases e
  | some s0 =>
    rw [q0] at e
    cases s0 with
    | no => cases e
    | val _ => cases e
    | lock _ => cases e
    | own d0 =>
      simp only at e
      obtain ⟨args, s1, e1, e⟩ := mBind_some e
      cases d0 with
      | lst ds0 =>
        obtain ⟨a0, xs0, hσ, h0, _⟩ := own_at rl q0
        refine ⟨.ref a0, hσ, .inl ⟨rfl, xs0, SqL.of h0⟩, ?_⟩
        refine ha _ _ _ ⟨c, F, st, args, s1, rl, e1, fun vs H1 F1 t1 h1 => ?_⟩
        split at e
        · rename_i ds q1
          split at e
          · rename_i d ds' q2
            simp only [Option.some.injEq, Prod.mk.injEq] at e
            obtain ⟨rfl, rfl⟩ := e
            obtain ⟨a1, xs1, hσ1, h1a, hl1⟩ := own_at t1.rel q1
            rw [hσ] at hσ1
            cases hσ1
            refine ho H1 F1 c.R.val a0 xs1 vs ds args d ds' Q h1a hl1 h1 q2 fun v xs' hl' hv => ?_
            have t2 := own_upd t1.rel q1 hσ hl'
            exact k v _ F1 (t1.trans t2) (hv F1 _ (t2.pers t1.rel))
          · cases e
        · cases e
      | _ => exact (rl.slot i _ q0).elim fun a z => z.2.1.elim
end
def fAppend : List D → List D → Option (D × List D) := fun ds as => match as with
  | [d] => if ds.length < line then some (.non, ds ++ [d]) else none
  | _ => none
def fPop : List D → List D → Option (D × List D) := fun ds as => match as with
  | [] => match ds[ds.length - 1]? with
    | some d => some (d, ds.dropLast)
    | none => none
  | _ => none
def fPopAt : List D → List D → Option (D × List D) := fun ds as => match as with
  | [.int i] => if -(2 ^ 63) ≤ i ∧ i < 2 ^ 63 then (match seqIndex? i ds.length with
    | some k => match ds[k]? with
      | some d => some (d, ds.eraseIdx k)
      | none => none
    | none => none) else none
  | _ => none
def fReverse : List D → List D → Option (D × List D) := fun ds as => match as with
  | [] => some (.non, ds.reverse)
  | _ => none
theorem ok_append : OkM rAppend fAppend := fun H F rv l xs vs ds as d ds' Q h hl ha e k => by
  unfold fAppend at e
  split at e
  · split at e
    · rename_i d1 hlt
      simp only [Option.some.injEq, Prod.mk.injEq] at e
      obtain ⟨rfl, rfl⟩ := e
      simp only [RepL] at ha
      obtain ⟨v, r, rfl, h1, rfl⟩ := ha
      refine ⟨l, xs, v, rfl, rfl, h, by rw [hl.length, ← line_eq]; exact hlt, k .non _ (hl.append (.cons h1 .nil)) fun _ _ _ => by simp [Rep]⟩
    · cases e
  · cases e
theorem RepL.dropLast {H : Hp} {F : Addr → Prop} {rv : V} {ds : List D} {vs : List V} (h : RepL H F rv ds vs) : RepL H F rv ds.dropLast vs.dropLast := by
  rw [List.dropLast_eq_take, List.dropLast_eq_take, h.length]
  exact h.take _
theorem RepL.eraseIdx {H : Hp} {F : Addr → Prop} {rv : V} : ∀ {ds : List D} {vs : List V} (n : Nat), RepL H F rv ds vs → RepL H F rv (ds.eraseIdx n) (vs.eraseIdx n)
  | [], _, n, r => by simp only [RepL] at r; subst r; simp [RepL]
  | d :: ds, _, 0, r => by
    simp only [RepL] at r
    obtain ⟨v, t, ev, hd, hl⟩ := r
    subst ev
    simpa using hl
  | d :: ds, _, n + 1, r => by
    simp only [RepL] at r
    obtain ⟨v, t, ev, hd, hl⟩ := r
    subst ev
    simp only [List.eraseIdx_cons_succ, RepL]
    exact ⟨_, _, rfl, hd, RepL.eraseIdx n hl⟩
theorem ok_pop : OkM rPop fPop := fun H F rv l xs vs ds as d ds' Q h hl ha e k => by
  unfold fPop at e
  split at e
  · split at e
    · rename_i d1 hq
      simp only [Option.some.injEq, Prod.mk.injEq] at e
      obtain ⟨rfl, rfl⟩ := e
      simp only [RepL] at ha
      subst ha
      obtain ⟨v, e2, hr⟩ := hl.get hq
      rw [← hl.length] at e2
      exact ⟨l, xs, v, rfl, rfl, h, e2, k v _ hl.dropLast fun F' H' w => hr.mono w⟩
    · cases e
  · cases e
theorem ok_popAt : OkM rPopAt fPopAt := fun H F rv l xs vs ds as d ds' Q h hl ha e k => by
  unfold fPopAt at e
  split at e
  · rename_i i
    split at e
    · rename_i hi
      split at e
      · rename_i kk hk
        split at e
        · rename_i d1 hq
          simp only [Option.some.injEq, Prod.mk.injEq] at e
          obtain ⟨rfl, rfl⟩ := e
          simp only [RepL, Rep] at ha
          obtain ⟨v, r, rfl, rfl, rfl⟩ := ha
          obtain ⟨v, e2, hr⟩ := hl.get hq
          exact ⟨l, xs, i, kk, v, rfl, rfl, h, hi.1, hi.2, by rw [hl.length]; exact hk, e2, k v _ (hl.eraseIdx kk) fun F' H' w => hr.mono w⟩
        · cases e
      · cases e
    · cases e
  · cases e
theorem ok_reverse : OkM rReverse fReverse := fun H F rv l xs vs ds as d ds' Q h hl ha e k => by
  unfold fReverse at e
  split at e
  · simp only [Option.some.injEq, Prod.mk.injEq] at e
    obtain ⟨rfl, rfl⟩ := e
    simp only [RepL] at ha
    subst ha
    exact ⟨l, xs, rfl, rfl, h, k .non _ hl.reverse fun _ _ _ => by simp [Rep]⟩
  · cases e
section
variable {X : Cx}
theorem se_m {i : Nat} {r : V → List V → Hp → VK → Prop} {f : List D → List D → Option (D × List D)} {o e : Expr} {es : List Expr} {a : Mn β (List D)} {name : Str} {apos cpos : Pos} {id : String} (hk : OkM r f) (hm : MtR X id r) (slot : Slot "list" name id) (hty : typeOf (.builtin id) = pure (.type "method_descriptor"))
    (ho : PE X o (tVar i)) (ha : PA X (e :: es) (tDs a))
    (hbase : attributeBase o name X.env (eval o X.env) = eval o X.env := by rfl)
    (hfew : ((backTo cpos (starEach (e :: es) X.env)).all (fun x => !x.1) && (backToKw cpos (keywordEach [] X.env)).all (fun x => x.1.isSome)
      && decide ((e :: es).length + ([] : List Keyword).length + (if ([] : List Keyword).isEmpty then 0 else 1) < 30)) = true := by rfl)
    (hline : (apos.endLine == cpos.line) = true := by rfl) (hs : starEach (e :: es) X.env = (false, eval e X.env) :: starEach es X.env := by rfl) (hplain : (backTo cpos (starEach es X.env)).any (·.1) = false := by rfl) :
    PE X (.Call (.Attribute o name apos) (e :: es) [] cpos) (tE (mOwn i f a)) :=
  peI (pe_bm PySem.F.plainAttrs_list slot hty hm ho ha hbase hfew hline hs hplain) (meth_reads hk fun _ _ _ h => h)
theorem se_m0 {i : Nat} {r : V → List V → Hp → VK → Prop} {f : List D → List D → Option (D × List D)} {o : Expr} {name : Str} {apos cpos : Pos} {id : String} (hk : OkM r f) (hm : MtR X id r) (slot : Slot "list" name id) (hty : typeOf (.builtin id) = pure (.type "method_descriptor"))
    (ho : PE X o (tVar i)) (hbase : attributeBase o name X.env (eval o X.env) = eval o X.env := by rfl) (hline : (apos.endLine == cpos.line) = true := by rfl) :
    PE X (.Call (.Attribute o name apos) [] [] cpos) (tE (mOwn i f (mNil (β := β)))) := by
  refine peI (pe_bm0 PySem.F.plainAttrs_list slot hty hm ho hbase hline) fun σ H Q q => ?_
  have := meth_reads (K := X.K) hk (ta := tNil) (a := mNil) (fun σ H Q q => ?_) σ H Q q
  · exact this
  · obtain ⟨c, F, st, res, st', rl, e, k⟩ := q
    simp only [mNil, Option.some.injEq, Prod.mk.injEq] at e
    obtain ⟨rfl, rfl⟩ := e
    exact k [] H F (.refl rl) .nil
end

/-! ### x[i] = e; a[i], b[j] = e -/
def gSb (m : Tm β) : TG := fun v σ H Q => ∃ (c : C β) (F : Addr → Prop) (st : Sta β) (d : D) (st' : Sta β), Rel c F st σ H ∧ Rep H F c.R.val d v ∧ m d st = some st' ∧ ∀ H' F', Rel c F' st' σ H' → FrS F H F' H' → Q σ H'
def gSbs (m : Tms β) : TGs := fun vs σ H Q => ∃ (c : C β) (F : Addr → Prop) (st : Sta β) (ds : List D) (st' : Sta β), Rel c F st σ H ∧ RepL H F c.R.val ds vs ∧ m ds st = some st' ∧ ∀ H' F', Rel c F' st' σ H' → FrS F H F' H' → Q σ H'
def tmSub (i : Nat) (a : Mn β R) : Tm β := fun d st => match mBind a (fun r st1 => match r with
    | .val (.int k) => match st1.env[i]? with
      | some (.own (.lst ds)) => match ixN ds.length k with
        | some j => some ((), { st1 with env := st1.env.set i (.own (.lst (ds.set j d))) })
        | none => none
      | _ => none
    | _ => none) st with
  | some (_, st') => match st.env[i]? with
    | some (.own _) => some st'
    | _ => none
  | none => none
section
variable {X : Cx}
theorem sg_sub {i : Nat} {o e : Expr} {a : Mn β R} {pos : Pos} (ho : PE X o (tVar i)) (ha : PE X e (tE a))
    (hs : ∀ v, assign (.Subscript o e pos) X.env v = (do
      let ov ← holding [v] (eval o X.env)
      let iv ← holding [v, ov] (eval e X.env)
      standAt pos
      holding [v, ov, iv] (setItem ov iv v)
      release [v, ov, iv] []) := by intro _; rfl) : PG X (.Subscript o e pos) (gSb (tmSub i a)) :=
  pgI (pg_sub ho ha set_list hs) fun v σ H Q q => by
    obtain ⟨c, F, st, d, st', rl, hd, e, k⟩ := q
    unfold tmSub at e
    split at e
    · rename_i u s2 em
      obtain ⟨r, s1, e1, em⟩ := mBind_some em
      split at e
      · rename_i d0 q0
        simp only [Option.some.injEq] at e
        subst e
        cases d0 with
        | lst ds0 =>
          obtain ⟨a0, xs0, hσ, h0, _⟩ := own_at rl q0
          refine ⟨.ref a0, hσ, c, F, st, r, s1, rl, e1, fun x H1 F1 t1 h1 => ?_⟩
          split at em
          · rename_i kk
            split at em
            · rename_i ds q1
              split at em
              · rename_i j q2
                simp only [Option.some.injEq, Prod.mk.injEq] at em
                obtain ⟨_, rfl⟩ := em
                obtain ⟨a1, xs1, hσ1, h1a, hl1⟩ := own_at t1.rel q1
                rw [hσ] at hσ1
                cases hσ1
                have h1' : Rep H1 F1 c.R.val (.int kk) x := h1
                simp only [Rep] at h1'
                refine ⟨a0, xs1, kk, j, rfl, h1', h1a, by rw [hl1.length]; exact q2, ?_⟩
                have t2 := own_upd t1.rel q1 hσ (hl1.set j (t1.rep rl hd))
                exact k _ F1 t2.rel ((t1.trans t2).frs rl)
              · cases em
            · cases em
          · cases em
        | _ => exact (rl.slot i _ q0).elim fun a z => z.2.1.elim
      · cases e
    · cases e
/-- x[i] = e -/
def mPut (a : Mn β R) (m : Tm β) : Ms β := mUnp a m
theorem ss_put {tg e : Expr} {a : Mn β R} {m : Tm β} {pos : Pos} (he : PE X e (tE a)) (hg : PG X tg (gSb m)) (hs : swapsWithSole [tg] e pos.line X.env = pure false := by rfl) (hw : swappedStores [tg] e X.env = pure none := by rfl)
    (h1 : (assignEach [tg] X.env).map (·.2) = [assign tg X.env] := by rfl) : PS X (.Assign [tg] e pos) (tSt (mPut a m)) := by
  refine psI (ps_asg (se_d he) hg hs hw h1) fun D σ H q => ?_
  obtain ⟨c, F, st, o, st', rl, e, g⟩ := q
  obtain ⟨d, s1, e1, e⟩ := mBind_some e
  refine ⟨c, F, st, d, s1, rl, e1, fun v H1 F1 t1 h1 => ?_⟩
  cases q1 : m d s1 with
  | none => rw [q1] at e; cases e
  | some s2 =>
    rw [q1] at e
    simp only [Option.some.injEq, Prod.mk.injEq] at e
    obtain ⟨rfl, rfl⟩ := e
    exact ⟨c, F1, s1, d, s2, t1.rel, h1, q1, fun H' F' r' f => g σ H' F' r' ((t1.frs rl).trans f)⟩
theorem sgs_nil : PGs X [] (gSbs (tmNil (β := β))) := pgsI pgs_nil fun vs σ H Q q => by
  obtain ⟨c, F, st, ds, st', rl, hd, e, k⟩ := q
  cases ds with
  | nil =>
    simp only [tmNil, Option.some.injEq] at e
    subst e
    simp only [RepL] at hd
    exact ⟨hd, k H F rl .refl⟩
  | cons d r => simp [tmNil] at e
theorem sgs_cons {e : Expr} {es : List Expr} {m : Tm β} {n : Tms β} (h1 : PG X e (gSb m)) (h2 : PGs X es (gSbs n)) (hs : (assignEach (e :: es) X.env).map (·.2) = assign e X.env :: (assignEach es X.env).map (·.2) := by rfl) : PGs X (e :: es) (gSbs (tmCons m n)) :=
  pgsI (pgs_cons h1 h2 hs) fun vs σ H Q q => by
    obtain ⟨c, F, st, ds, st', rl, hd, e, k⟩ := q
    cases ds with
    | nil => simp [tmCons] at e
    | cons d r =>
      simp only [RepL] at hd
      obtain ⟨v, t, ev, h1, h2⟩ := hd
      subst ev
      simp only [tmCons] at e
      cases q1 : m d st with
      | none => rw [q1] at e; cases e
      | some s1 =>
        rw [q1] at e
        refine ⟨v, t, rfl, c, F, st, d, s1, rl, h1, q1, fun H1 F1 r1 f1 => ?_⟩
        exact ⟨c, F1, s1, r, st', r1, h2.mono f1, e, fun H2 F2 r2 f2 => k H2 F2 r2 (f1.trans f2)⟩
theorem sgs_tup {es : List Expr} {k : Nat} {pos : Pos} {n : Nat} {m : Tms β} (hc : X.calm = true) (h : PGs X es (gSbs m)) (hn : (assignEach es X.env).length = n := by rfl) (hst : (assignEach es X.env).findIdx? (·.1) = none := by rfl) : PG X (.Tuple es k pos) (gSb (tmT m n)) :=
  pgI (pg_tup hc h hn hst) fun v σ H Q q => by
    obtain ⟨c, F, st, d, st', rl, hd, e, k⟩ := q
    cases d with
    | tup ds =>
      simp only [tmT] at e
      split at e
      · rename_i hl
        simp only [Rep] at hd
        obtain ⟨a, xs, ev, ha, hf, hl2⟩ := hd
        exact ⟨a, xs, ev, SqT.of ha, by rw [hl2.length, hl], c, F, st, ds, st', rl, hl2, e, k⟩
      · cases e
    | _ => simp [tmT] at e
/-- x op= e, whole numbers -/
def mAug (i : Nat) (f : Int → Int → Option Int) (a : Mn β R) : Ms β := fun st => match st.env[i]? with
  | some (.val (.int x)) => mBind a (fun r st1 => match r with
    | .val (.int y) => match f x y with
      | some z => some (.nx, { st1 with env := st1.env.set i (.val (.int z)) })
      | none => none
    | _ => none) st
  | _ => none
theorem ss_aug {i : Nat} {x : Str} {e : Expr} {a : Mn β R} {op : Operator} {g : Int → Int → Int} {pos pos' : Pos} (hN : X.N.Nodup) (hi : X.N[i]? = some x) (hx : Loc X.env.scope x) (he : PE X e (tE a)) (ho : PIp X op (ipI g))
    (hf : X.fn x = true ∨ X.env.scope.names.lookup x = some .local := by first | exact .inl rfl | exact .inr rfl | assumption) : PS X (.AugAssign (.Name x pos') op e pos) (tSt (mAug i (fun x y => some (g x y)) a)) := by
  refine psI (ps_aug hN hi hx he ho hf) fun D σ H q => ?_
  obtain ⟨c, F, st, o, st', rl, e, k⟩ := q
  unfold mAug at e
  split at e
  · rename_i x0 q0
    obtain ⟨r, s1, e1, e⟩ := mBind_some e
    obtain ⟨v, ev, hv⟩ := rl.slot i _ q0
    simp only [Rep] at hv
    subst hv
    refine ⟨_, ev, c, F, st, r, s1, rl, e1, fun w H1 F1 t1 h1 => ?_⟩
    split at e
    · rename_i y
      simp only [Option.some.injEq, Prod.mk.injEq] at e
      obtain ⟨rfl, rfl⟩ := e
      have h1' : Rep H1 F1 c.R.val (.int y) w := h1
      simp only [Rep] at h1'
      refine ⟨x0, y, rfl, h1', k _ H1 F1 (t1.rel.set (s := .val (.int (g x0 y))) ⟨_, rfl, by simp [Rep]⟩ (fun _ z => nomatch z)) (t1.frs rl)⟩
    · cases e
  · cases e
end
end M

/-! MIter: what is walked, for, while, comprehensions. -/
namespace M
open PySem PySem.Spec PyProof.Rows L2
variable {β : Type} [Kind β]

/-! ### what is walked -/
/-- J yields the data ds, as long as what G says stands -/
structure Walks (c : C β) (J : It) (ds : List D) (G : (Addr → Prop) → Hp → Prop) : Prop where
  go : ∀ (i : Nat) (d : D) (F : Addr → Prop) (st : Sta β) (σ : L2.St) (H : Hp), ds[i]? = some d → Rel c F st σ H → G F H → J.go i H ∧ ∀ x H', J.yld i H x H' → ∃ F', Stp c σ F st H F' st H' ∧ Rep H' F' c.R.val d x
  stop : ∀ (F : Addr → Prop) (st : Sta β) (σ : L2.St) (H : Hp), Rel c F st σ H → G F H → J.stop ds.length H
  stay : ∀ (F : Addr → Prop) (st st' : Sta β) (σ σ' : L2.St) (H : Hp) (F' : Addr → Prop) (H' : Hp), Rel c F st σ H → G F H → Rel c F' st' σ' H' → FrS F H F' H' → G F' H'
def tIt (m : Mn β (List D)) : TI := fun σ H R => ∃ (c : C β) (F : Addr → Prop) (st : Sta β) (ds : List D) (st' : Sta β), Rel c F st σ H ∧ m st = some (ds, st') ∧
  ∀ J H' F' G, Stp c σ F st H F' st' H' → Walks c J ds G → G F' H' → R J H'
/-- an object that stands still: handed on, or the caller's -/
def Held (c : C β) (F : Addr → Prop) (H : Hp) (a : Addr) (ho : HO) : Prop := H a = some ho ∧ (¬ F a ∨ (¬ c.R.foot a ∧ ∃ o, c.H0 a = some o))
theorem Held.stay {c : C β} {F F' : Addr → Prop} {st st' : Sta β} {σ σ' : L2.St} {H H' : Hp} {a : Addr} {ho : HO} (h : Held c F H a ho) (r : Rel c F st σ H) (r' : Rel c F' st' σ' H') (f : FrS F H F' H') : Held c F' H' a ho := by
  obtain ⟨e, h | ⟨h1, o, h2⟩⟩ := h
  · exact ⟨(f a ho e h).1, .inl (f a ho e h).2⟩
  · have q := r.base a o h2 h1
    rw [e] at q
    cases q
    exact ⟨r'.base a ho h2 h1, .inr ⟨h1, ho, h2⟩⟩
theorem walks_list {c : C β} {K : PySem.W.Frag} {a : Addr} {xs : List V} {ds : List D} : Walks c (Itl K a) ds (fun F H => Held c F H a (.lst xs) ∧ RepL H F c.R.val ds xs) where
  go := fun i d F st σ H hd rl g => by
    obtain ⟨v, e, hv⟩ := g.2.get hd
    refine ⟨⟨xs, v, SqL.of g.1.1, e⟩, fun x H' y => ?_⟩
    obtain ⟨rfl, y⟩ := y
    have q := y xs (SqL.of g.1.1)
    rw [e] at q
    cases q
    exact ⟨F, .refl rl, hv⟩
  stop := fun F st σ H rl g => ⟨xs, SqL.of g.1.1, by rw [g.2.length]; exact Nat.le_refl _⟩
  stay := fun F st st' σ σ' H F' H' r g r' f => ⟨g.1.stay r r' f, g.2.mono f⟩
theorem walks_tup {c : C β} {K : PySem.W.Frag} {a : Addr} {xs : List V} {ds : List D} : Walks c (Itt K a) ds (fun F H => Held c F H a (.tup xs) ∧ RepL H F c.R.val ds xs) where
  go := fun i d F st σ H hd rl g => by
    obtain ⟨v, e, hv⟩ := g.2.get hd
    refine ⟨⟨xs, v, SqT.of g.1.1, e⟩, fun x H' y => ?_⟩
    obtain ⟨rfl, y⟩ := y
    have q := y xs (SqT.of g.1.1)
    rw [e] at q
    cases q
    exact ⟨F, .refl rl, hv⟩
  stop := fun F st σ H rl g => ⟨xs, SqT.of g.1.1, by rw [g.2.length]; exact Nat.le_refl _⟩
  stay := fun F st st' σ σ' H F' H' r g r' f => ⟨g.1.stay r r' f, g.2.mono f⟩
theorem walks_rng {c : C β} {lo : Int} {n : Nat} : Walks c (Itr lo n) ((List.range n).map fun (i : Nat) => D.int (lo + (i : Int))) (fun _ _ => True) where
  go := fun i d F st σ H hd rl _ => by
    rw [List.getElem?_map] at hd
    cases q : (List.range n)[i]? with
    | none => rw [q] at hd; cases hd
    | some j =>
      obtain ⟨hi, e⟩ := List.getElem?_eq_some_iff.mp q
      rw [List.getElem_range] at e
      subst e
      rw [q] at hd
      cases hd
      have hi' : i < n := by simpa using hi
      refine ⟨hi', fun x H' y => ?_⟩
      obtain ⟨rfl, rfl⟩ := y
      exact ⟨F, .refl rl, by simp [Rep]⟩
  stop := fun F st σ H rl _ => by
    show n ≤ _
    simp
  stay := fun _ _ _ _ _ _ _ _ _ g _ _ => g
theorem walks_rngC {c : C β} {lo s : Int} {n : Nat} : Walks c (Itc lo s n) ((List.range n).map fun (i : Nat) => D.int (lo + (i : Int) * s)) (fun _ _ => True) where
  go := fun i d F st σ H hd rl _ => by
    rw [List.getElem?_map] at hd
    cases q : (List.range n)[i]? with
    | none => rw [q] at hd; cases hd
    | some j =>
      obtain ⟨hi, e⟩ := List.getElem?_eq_some_iff.mp q
      rw [List.getElem_range] at e
      subst e
      rw [q] at hd
      cases hd
      have hi' : i < n := by simpa using hi
      refine ⟨hi', fun x H' y => ?_⟩
      obtain ⟨rfl, rfl⟩ := y
      exact ⟨F, .refl rl, by simp [Rep]⟩
  stop := fun F st σ H rl _ => by
    show n ≤ _
    simp
  stay := fun _ _ _ _ _ _ _ _ _ g _ _ => g
/-- what a for walks: a list or a tuple, its data -/
def toIt (r : R) (st : Sta β) : Option (List D × Sta β) := match r with
  | .val (.lst ds) => some (ds, st)
  | .val (.tup ds) => some (ds, st)
  | .new (.lst ds) => some (ds, st)
  | .at i => match st.env[i]? with
    | some (.val (.lst ds)) => some (ds, st)
    | some (.val (.tup ds)) => some (ds, st)
    | some (.own (.lst ds)) => some (ds, { st with env := st.env.set i (.val (.lst ds)) })
    | some (.lock (.lst ds)) => some (ds, st)
    | _ => none
  | _ => none
def mIt (a : Mn β R) : Mn β (List D) := mBind a toIt
def iSeq (K : PySem.W.Frag) (tl : TE) : TI := fun σ H R => tl σ H fun x H1 => ∃ a, x = .ref a ∧ (((∃ xs, SqL K H1 a xs) ∧ R (Itl K a) H1) ∨ ((∃ xs, SqT K H1 a xs) ∧ R (Itt K a) H1))
section
variable {X : Cx}
theorem piI {tg e : Expr} {t t' : TI} (h : PI X tg e t) (hi : ∀ σ H Q, t' σ H Q → t σ H Q) : PI X tg e t' := ⟨fun pins s σ H R I q => h.run pins s σ H R I (hi σ H R q)⟩
theorem pi_seq {tg l : Expr} {tl : TE} (hl : PE X l tl) : PI X tg l (iSeq X.K tl) := by
  refine ⟨fun pins s σ H R I h => ?_⟩
  refine thn (hl.run pins s σ H _ I h) fun v s1 ⟨x, H1, I1, r1, q1⟩ => ?_
  obtain ⟨a, e, ⟨⟨xs, hq⟩, q⟩ | ⟨⟨xs, hq⟩, q⟩⟩ := q1
  · subst e
    cases r1
    obtain ⟨its, rv, p, hz⟩ := I1.list hq
    refine wpAny_pyIter_list p.isList ?_
    refine ⟨s1.heap.objs.size, [s1.heap.objs.size], _, _, H1, rfl, I1.kept (t' := s1.toks) fun b o e => Heap.get?_push_of_some _ e, turn_list a _, ⟨_, Heap.get?_push_size _ rfl, rfl, rfl⟩, fun b hb => ?_, q⟩
    have e : b = s1.heap.objs.size := by simpa using hb
    subst e
    exact I1.fpOk (Nat.le_refl _) (I1.hok.fresh (Nat.le_refl _))
  · subst e
    cases r1
    obtain ⟨its, rv, p, hz⟩ := I1.tuple hq
    refine wpAny_pyIter_tuple (show s1.heap.IsTuple a its.toArray from p) ?_
    refine ⟨s1.heap.objs.size, [s1.heap.objs.size], _, _, H1, rfl, I1.kept (t' := s1.toks) fun b o e => Heap.get?_push_of_some _ e, turn_tuple a _, ⟨_, Heap.get?_push_size _ rfl, rfl, rfl⟩, fun b hb => ?_, q⟩
    have e : b = s1.heap.objs.size := by simpa using hb
    subst e
    exact I1.fpOk (Nat.le_refl _) (I1.hok.fresh (Nat.le_refl _))
theorem toIt_ok {c : C β} {F F1 : Addr → Prop} {st st1 st2 : Sta β} {σ : L2.St} {H H1 : Hp} (rl : Rel c F st σ H) (s : Stp c σ F st H F1 st1 H1) {r : R} {v : V} {ds : List D} (h : RepR c σ H F1 H1 st1 r v) (e : toIt r st1 = some (ds, st2)) :
    ∃ F2 a, Stp c σ F st H F2 st2 H1 ∧ v = .ref a ∧ ∃ xs, RepL H1 F2 c.R.val ds xs ∧ (Held c F2 H1 a (.lst xs) ∨ Held c F2 H1 a (.tup xs)) := by
  have fin : ∀ {d : D} {F2 : Addr → Prop}, (d = .lst ds ∨ d = .tup ds) → Stp c σ F st H F2 st2 H1 → Rep H1 F2 c.R.val d v → ∃ F2 a, Stp c σ F st H F2 st2 H1 ∧ v = .ref a ∧ ∃ xs, RepL H1 F2 c.R.val ds xs ∧ (Held c F2 H1 a (.lst xs) ∨ Held c F2 H1 a (.tup xs)) := fun {d F2} hd s2 hr => by
    rcases hd with rfl | rfl
    · simp only [Rep] at hr
      obtain ⟨a, xs, ev, ha, hf, hl⟩ := hr
      exact ⟨F2, a, s2, ev, xs, hl, .inl ⟨ha, .inl hf⟩⟩
    · simp only [Rep] at hr
      obtain ⟨a, xs, ev, ha, hf, hl⟩ := hr
      exact ⟨F2, a, s2, ev, xs, hl, .inr ⟨ha, .inl hf⟩⟩
  cases r with
  | val d =>
    cases d with
    | lst ds' => simp only [toIt, Option.some.injEq, Prod.mk.injEq] at e; obtain ⟨rfl, rfl⟩ := e; exact fin (.inl rfl) s h
    | tup ds' => simp only [toIt, Option.some.injEq, Prod.mk.injEq] at e; obtain ⟨rfl, rfl⟩ := e; exact fin (.inr rfl) s h
    | _ => simp [toIt] at e
  | new d =>
    cases d with
    | lst ds' =>
      simp only [toIt, Option.some.injEq, Prod.mk.injEq] at e
      obtain ⟨rfl, rfl⟩ := e
      obtain ⟨F2, s2, hd⟩ := toD_ok (st2 := st1) (d := .lst ds') rl s h rfl
      exact fin (.inl rfl) s2 hd
    | _ => simp [toIt] at e
  | «at» i =>
    have h' : σ[i]? = some (some v) := h
    simp only [toIt] at e
    split at e
    · rename_i ds' q
      simp only [Option.some.injEq, Prod.mk.injEq] at e; obtain ⟨rfl, rfl⟩ := e
      obtain ⟨F2, s2, hd⟩ := toD_ok (st2 := st1) (d := .lst ds') rl s h (by simp [toD, q])
      exact fin (.inl rfl) s2 hd
    · rename_i ds' q
      simp only [Option.some.injEq, Prod.mk.injEq] at e; obtain ⟨rfl, rfl⟩ := e
      obtain ⟨F2, s2, hd⟩ := toD_ok (st2 := st1) (d := .tup ds') rl s h (by simp [toD, q])
      exact fin (.inr rfl) s2 hd
    · rename_i ds' q
      simp only [Option.some.injEq, Prod.mk.injEq] at e; obtain ⟨rfl, rfl⟩ := e
      obtain ⟨F2, s2, hd⟩ := toD_ok (d := .lst ds') rl s h (by simp only [toD, q]; rfl)
      exact fin (.inl rfl) s2 hd
    · rename_i ds' q
      simp only [Option.some.injEq, Prod.mk.injEq] at e; obtain ⟨rfl, rfl⟩ := e
      have hs := s.rel.slot i _ q
      obtain ⟨a, ea, ⟨xs, ha, hl⟩, hf, h0⟩ := hs
      rw [h'] at ea
      cases ea
      exact ⟨F1, a, s, rfl, xs, hl, .inl ⟨ha, .inr ⟨hf, h0⟩⟩⟩
    · cases e
/-- for x in e, e a list or a tuple -/
theorem si_seq {tg e : Expr} {a : Mn β R} (he : PE X e (tE a)) : PI X tg e (tIt (mIt a)) := piI (pi_seq he) fun σ H R q => by
  obtain ⟨c, F, st, ds, st', rl, e, k⟩ := q
  obtain ⟨r, s1, e1, e⟩ := mBind_some e
  refine ⟨c, F, st, r, s1, rl, e1, fun v H1 F1 t1 h1 => ?_⟩
  obtain ⟨F2, a, s2, ev, xs, hl, hh | hh⟩ := toIt_ok rl t1 h1 e
  · exact ⟨a, ev, .inl ⟨⟨xs, SqL.of hh.1⟩, k _ H1 F2 _ s2 walks_list ⟨hh, hl⟩⟩⟩
  · exact ⟨a, ev, .inr ⟨⟨xs, SqT.of hh.1⟩, k _ H1 F2 _ s2 walks_tup ⟨hh, hl⟩⟩⟩
/-- of the size that a range takes (by a choice: nothing is reckoned of it) -/
noncomputable def rgOk (i : Int) : Bool := @decide (-(2 ^ 62) ≤ i ∧ i < 2 ^ 62) (Classical.propDecidable _)
theorem rgOk_iff {i : Int} (h : rgOk i = true) : -(2 ^ 62) ≤ i ∧ i < 2 ^ 62 := @of_decide_eq_true _ (Classical.propDecidable _) h
theorem rgOk_of {i : Int} (h : -(2 ^ 62) ≤ i ∧ i < 2 ^ 62) : rgOk i = true := @decide_eq_true _ (Classical.propDecidable _) h
def rgL (lo : Int) (n : Nat) : List D := (List.range n).map fun (i : Nat) => D.int (lo + (i : Int))
def rgLC (lo s : Int) (n : Nat) : List D := (List.range n).map fun (i : Nat) => D.int (lo + (i : Int) * s)
noncomputable def fR1 : List D → Option (List D)
  | [.int j] => if rgOk j = true then some (rgL 0 j.toNat) else none
  | _ => none
noncomputable def fR2 : List D → Option (List D)
  | [.int i, .int j] => if (rgOk i && rgOk j) = true then some (rgL i (j - i).toNat) else none
  | _ => none
/-- range(i, j, -1) -/
noncomputable def fR3 : List D → Option (List D)
  | [.int i, .int j, .int s] => if (decide (s = -1) && (rgOk i && rgOk j)) = true then some (rgLC i s (i - j).toNat) else none
  | _ => none
def mRng (f : List D → Option (List D)) (a : Mn β (List R)) : Mn β (List D) := mBind a fun rs st => match pkL rs st with
  | none => none
  | some ds => match f ds with
    | none => none
    | some xs => some (xs, st)
theorem pkl_int {H : Hp} {F : Addr → Prop} {rv : V} {i : Int} {v : V} (h : Pk H F rv (.int i) v) : v = .int i := by simpa [Pk, Rep] using h
theorem rng_reads {f : List D → Option (List D)} {ta : TA} {m : Mn β (List R)} {P : List V → (It → Hp → Prop) → Hp → Prop} (ha : ∀ σ H Q, tRs m σ H Q → ta σ H Q)
    (hP : ∀ (c : C β) (F : Addr → Prop) (H : Hp) (ds xs : List D) (vs : List V) (R : It → Hp → Prop), PkL H F c.R.val ds vs → f ds = some xs → (∀ J, Walks c J xs (fun _ _ => True) → R J H) → P vs R H) :
    ∀ σ H R, tIt (mRng f m) σ H R → ta σ H fun vs H1 => P vs R H1 := fun σ H R q => by
  obtain ⟨c, F, st, ds, st', rl, e, k⟩ := q
  obtain ⟨rs, s1, e1, e⟩ := mBind_some e
  refine ha _ _ _ ⟨c, F, st, rs, s1, rl, e1, fun vs H1 F1 t1 h1 => ?_⟩
  cases q1 : pkL rs s1 with
  | none => rw [q1] at e; cases e
  | some as =>
    rw [q1] at e
    simp only at e
    cases q2 : f as with
    | none => rw [q2] at e; cases e
    | some xs =>
      rw [q2] at e
      simp only [Option.some.injEq, Prod.mk.injEq] at e
      obtain ⟨rfl, rfl⟩ := e
      exact hP c F1 H1 as xs vs R (pkL_ok t1.rel h1 q1) q2 fun J w => k J H1 F1 _ t1 w trivial
theorem si_rng1 {tg a : Expr} {m : Mn β (List R)} {p pos : Pos} (hg : Gl X "range") (hm : X.mg "range" = none) (ha : PA X [a] (tRs m)) (hs : starEach [a] X.env = [(false, eval a X.env)] := by rfl) : PI X tg (.Call (.Name "range" p) [a] [] pos) (tIt (mRng fR1 m)) :=
  piI (pi_range1 hg hm ha hs) (rng_reads (fun _ _ _ h => h) fun c F H ds xs vs R hp e k => by
    unfold fR1 at e
    split at e
    · rename_i j
      split at e
      · rename_i hj
        simp only [Option.some.injEq] at e
        subst e
        obtain ⟨v, r, rfl, h1, rfl⟩ := hp
        have := pkl_int h1
        subst this
        exact ⟨j, rfl, (rgOk_iff hj).1, (rgOk_iff hj).2, k _ walks_rng⟩
      · cases e
    · cases e)
theorem si_rng2 {tg a b : Expr} {m : Mn β (List R)} {p pos : Pos} (hg : Gl X "range") (hm : X.mg "range" = none) (ha : PA X [a, b] (tRs m)) (hs : starEach [a, b] X.env = [(false, eval a X.env), (false, eval b X.env)] := by rfl) (hs2 : starEach [b] X.env = [(false, eval b X.env)] := by rfl) :
    PI X tg (.Call (.Name "range" p) [a, b] [] pos) (tIt (mRng fR2 m)) :=
  piI (pi_range2 hg hm ha hs hs2) (rng_reads (fun _ _ _ h => h) fun c F H ds xs vs R hp e k => by
    unfold fR2 at e
    split at e
    · rename_i i j
      split at e
      · rename_i hj
        simp only [Option.some.injEq] at e
        subst e
        rw [Bool.and_eq_true] at hj
        obtain ⟨v, r, rfl, h1, w, r2, rfl, h2, rfl⟩ := hp
        have := pkl_int h1
        subst this
        have := pkl_int h2
        subst this
        exact ⟨i, j, rfl, ⟨(rgOk_iff hj.1).1, (rgOk_iff hj.1).2, (rgOk_iff hj.2).1, (rgOk_iff hj.2).2⟩, k _ walks_rng⟩
      · cases e
    · cases e)
theorem si_rng3 {tg a b d : Expr} {m : Mn β (List R)} {p pos : Pos} (hg : Gl X "range") (hm : X.mg "range" = none) (ha : PA X [a, b, d] (tRs m)) (hs : starEach [a, b, d] X.env = (false, eval a X.env) :: starEach [b, d] X.env := by rfl) (hpl : (backTo pos (starEach [b, d] X.env)).any (·.1) = false := by rfl) :
    PI X tg (.Call (.Name "range" p) [a, b, d] [] pos) (tIt (mRng fR3 m)) :=
  piI (pi_range3 hg hm ha hs hpl) (rng_reads (fun _ _ _ h => h) fun c F H ds xs vs R hp e k => by
    unfold fR3 at e
    split at e
    · rename_i i j s
      split at e
      · rename_i hj
        simp only [Option.some.injEq] at e
        subst e
        rw [Bool.and_eq_true, Bool.and_eq_true] at hj
        obtain ⟨hs1, hi, hj⟩ := hj
        have hs1 := of_decide_eq_true hs1
        subst hs1
        obtain ⟨v, r, rfl, h1, w, r2, rfl, h2, x, r3, rfl, h3, rfl⟩ := hp
        have := pkl_int h1
        subst this
        have := pkl_int h2
        subst this
        have := pkl_int h3
        subst this
        exact ⟨i, j, -1, (i - j).toNat, rfl, RgC.neg (rgOk_iff hi).1 (rgOk_iff hi).2 (rgOk_iff hj).1 (rgOk_iff hj).2, k _ walks_rngC⟩
      · cases e
    · cases e)
end

/-! ### for, while -/
def forL (tg : Tm β) (body : Ms β) : List D → Ms β
  | [], st => some (.nx, st)
  | d :: ds, st => match tg d st with
    | none => none
    | some st1 => match body st1 with
      | none => none
      | some (.nx, st2) => forL tg body ds st2
      | some (.ct, st2) => forL tg body ds st2
      | some (.bk, st2) => some (.nx, st2)
      | some (.rt r, st2) => some (.rt r, st2)
def mFor (it : Mn β (List D)) (tg : Tm β) (body : Ms β) : Ms β := mBind it fun ds => forL tg body ds
def whileN (t : Mn β Bool) (body : Ms β) : Nat → Ms β
  | 0, _ => none
  | n + 1, st => match t st with
    | none => none
    | some (false, st1) => some (.nx, st1)
    | some (true, st1) => match body st1 with
      | none => none
      | some (.nx, st2) => whileN t body n st2
      | some (.ct, st2) => whileN t body n st2
      | some (.bk, st2) => some (.nx, st2)
      | some (.rt r, st2) => some (.rt r, st2)
def fuel : Nat := 18446744073709551616
def mWhile (t : Mn β Bool) (body : Ms β) : Ms β := fun st => whileN t body fuel st
section
variable {X : Cx}
theorem ss_for {tg iter : Expr} {body : List Stmt} {it : Mn β (List D)} {mt : Tm β} {is : List Nat} {mb : Ms β} {pos : Pos} (hp : PassesOwn (model X.prog X.w) X.A X.env X.xe) (hc : X.calm = true) (hi : PI X tg iter (tIt it)) (hg : PG X tg (gTm mt is)) (hb : PSs X body (tSt mb))
    (hs : ∀ x, foldedSetIterable iter X.env x = pure x := by intro _; rfl) : PS X (.For tg iter body [] pos) (tSt (mFor it mt mb)) := by
  refine psI (ps_for hp hc hi hg hb hs) fun D σ H q => ?_
  obtain ⟨c, F, st, o, st', rl, e, g⟩ := q
  obtain ⟨ds, s1, e1, e⟩ := mBind_some e
  refine ⟨c, F, st, ds, s1, rl, e1, fun J H1 F1 G t1 w g1 => ?_⟩
  refine ⟨fun i m σ' H' => i + m = ds.length ∧ ∃ F' s', Rel c F' s' σ' H' ∧ G F' H' ∧ FrS F H F' H' ∧ forL mt mb (ds.drop i) s' = some (o, st'), ⟨ds.length, by omega, F1, s1, t1.rel, g1, t1.frs rl, by rw [List.drop_zero]; exact e⟩, ?_⟩
  rintro i m σ' H' ⟨him, F', s', r', g', f', e'⟩
  by_cases hlt : i < ds.length
  · right
    have hd : ds[i]? = some ds[i] := List.getElem?_eq_getElem hlt
    obtain ⟨go, yl⟩ := w.go i ds[i] F' s' σ' H' hd r' g'
    refine ⟨go, fun σ2 H2 => (i + 1) + (m - 1) = ds.length ∧ ∃ F' s', Rel c F' s' σ2 H2 ∧ G F' H2 ∧ FrS F H F' H2 ∧ forL mt mb (ds.drop (i + 1)) s' = some (o, st'), fun σ2 H2 h2 => ⟨m - 1, by omega, h2⟩, fun x H2 y => ?_⟩
    obtain ⟨F2, t2, hx⟩ := yl x H2 y
    rw [List.drop_eq_getElem_cons hlt] at e'
    simp only [forL] at e'
    split at e'
    · cases e'
    · rename_i s3 q3
      refine ⟨c, F2, s', ds[i], s3, t2.rel, hx, q3, fun σ3 r3 _ => ?_⟩
      have f2 : FrS F H F2 H2 := f'.trans (t2.frs r')
      have g2 : G F2 H2 := w.stay F' s' s' σ' σ' H' F2 H2 r' g' t2.rel (t2.frs r')
      split at e'
      · cases e'
      · rename_i s4 q4
        exact ⟨c, F2, s3, .nx, s4, r3, q4, fun σ4 H4 F4 r4 f4 => ⟨by omega, F4, s4, r4, w.stay F2 s3 s4 σ3 σ4 H2 F4 H4 r3 g2 r4 f4, f2.trans f4, e'⟩⟩
      · rename_i s4 q4
        exact ⟨c, F2, s3, .ct, s4, r3, q4, fun σ4 H4 F4 r4 f4 => ⟨by omega, F4, s4, r4, w.stay F2 s3 s4 σ3 σ4 H2 F4 H4 r3 g2 r4 f4, f2.trans f4, e'⟩⟩
      · rename_i s4 q4
        simp only [Option.some.injEq, Prod.mk.injEq] at e'
        obtain ⟨rfl, rfl⟩ := e'
        exact ⟨c, F2, s3, .bk, s4, r3, q4, fun σ4 H4 F4 r4 f4 => g σ4 H4 F4 r4 (f2.trans f4)⟩
      · rename_i r s4 q4
        simp only [Option.some.injEq, Prod.mk.injEq] at e'
        obtain ⟨rfl, rfl⟩ := e'
        exact ⟨c, F2, s3, .rt r, s4, r3, q4, g⟩
  · left
    have hi : i = ds.length := by omega
    subst hi
    rw [List.drop_length] at e'
    simp only [forL, Option.some.injEq, Prod.mk.injEq] at e'
    obtain ⟨rfl, rfl⟩ := e'
    exact ⟨w.stop F' s' σ' H' r' g', g σ' H' F' r' f'⟩
theorem ss_while {t : Expr} {body : List Stmt} {mt : Mn β Bool} {mb : Ms β} {pos : Pos} (hp : PassesOwn (model X.prog X.w) X.A X.env X.xe) (ht : PT X t (tTs mt)) (hb : PSs X body (tSt mb)) : PS X (.While t body [] pos) (tSt (mWhile mt mb)) := by
  refine psI (ps_while hp ht hb) fun D σ H q => ?_
  obtain ⟨c, F, st, o, st', rl, e, g⟩ := q
  refine ⟨fun n σ' H' => ∃ F' s', Rel c F' s' σ' H' ∧ FrS F H F' H' ∧ whileN mt mb n s' = some (o, st'), ⟨fuel, F, st, rl, .refl, e⟩, ?_⟩
  rintro n σ' H' ⟨F', s', r', f', e'⟩
  cases n with
  | zero => cases e'
  | succ n =>
    simp only [whileN] at e'
    split at e'
    · cases e'
    · rename_i s1 q1
      simp only [Option.some.injEq, Prod.mk.injEq] at e'
      obtain ⟨rfl, rfl⟩ := e'
      refine ⟨c, F', s', false, s1, r', q1, fun H1 F1 t1 => ?_⟩
      exact iteF (g σ' H1 F1 t1.rel (f'.trans (t1.frs r')))
    · rename_i s1 q1
      refine ⟨c, F', s', true, s1, r', q1, fun H1 F1 t1 => ?_⟩
      have f1 := f'.trans (t1.frs r')
      refine iteT ?_
      refine ⟨fun σ2 H2 => ∃ F2 s2, Rel c F2 s2 σ2 H2 ∧ FrS F H F2 H2 ∧ whileN mt mb n s2 = some (o, st'), fun σ2 H2 h2 => ⟨n, Nat.lt_succ_self n, h2⟩, ?_⟩
      split at e'
      · cases e'
      · rename_i s2 q2
        exact ⟨c, F1, s1, .nx, s2, t1.rel, q2, fun σ4 H4 F4 r4 f4 => ⟨F4, s2, r4, f1.trans f4, e'⟩⟩
      · rename_i s2 q2
        exact ⟨c, F1, s1, .ct, s2, t1.rel, q2, fun σ4 H4 F4 r4 f4 => ⟨F4, s2, r4, f1.trans f4, e'⟩⟩
      · rename_i s2 q2
        simp only [Option.some.injEq, Prod.mk.injEq] at e'
        obtain ⟨rfl, rfl⟩ := e'
        exact ⟨c, F1, s1, .bk, s2, t1.rel, q2, fun σ4 H4 F4 r4 f4 => g σ4 H4 F4 r4 (f1.trans f4)⟩
      · rename_i r s2 q2
        simp only [Option.some.injEq, Prod.mk.injEq] at e'
        obtain ⟨rfl, rfl⟩ := e'
        exact ⟨c, F1, s1, .rt r, s2, t1.rel, q2, g⟩
end
end M

/-! MComp: list comprehensions. -/
namespace M
open PySem PySem.Spec PyProof.Rows L2
variable {β : Type} [Kind β]
def wipeE (env : List Sl) : List Nat → List Sl
  | [] => env
  | v :: vs => (wipeE env vs).set v .no
/-- the slots vs as they were in e0 -/
def backE (e0 env : List Sl) : List Nat → List Sl
  | [] => env
  | v :: vs => (backE e0 env vs).set v (e0.getD v .no)
def noOwn (env : List Sl) : List Nat → Bool
  | [] => true
  | v :: vs => (match env[v]? with
    | some (.own _) => false
    | _ => true) && noOwn env vs
def compL (vs : List Nat) (e0 : List Sl) (tg : Tm β) (tt : Mn β Bool) (te : Mn β D) : List D → List D → Mn β (List D)
  | [], acc, st => some (acc, st)
  | d :: ds, acc, st => match tg d { st with env := wipeE st.env vs } with
    | none => none
    | some s1 => match tt s1 with
      | none => none
      | some (false, s2) => compL vs e0 tg tt te ds acc { s2 with env := backE e0 s2.env vs }
      | some (true, s2) => match te s2 with
        | none => none
        | some (x, s3) => if acc.length < line then compL vs e0 tg tt te ds (acc ++ [x]) { s3 with env := backE e0 s3.env vs } else none
def mComp (vs : List Nat) (it : Mn β (List D)) (tg : Tm β) (tt : Mn β Bool) (te : Mn β D) : Mn β R := mBind it fun ds st => if noOwn st.env vs = true then (match compL vs st.env tg tt te ds [] st with
  | some (acc, st') => some (.new (.lst acc), st')
  | none => none) else none
theorem wipeE_length (env : List Sl) : ∀ vs : List Nat, (wipeE env vs).length = env.length
  | [] => rfl
  | v :: vs => by simp [wipeE, wipeE_length env vs]
theorem backE_length (e0 env : List Sl) : ∀ vs : List Nat, (backE e0 env vs).length = env.length
  | [] => rfl
  | v :: vs => by simp [backE, backE_length e0 env vs]
theorem wipeE_get {env : List Sl} {i : Nat} {s : Sl} : ∀ {vs : List Nat}, (wipeE env vs)[i]? = some s → s = .no ∨ (i ∉ vs ∧ env[i]? = some s)
  | [], h => .inr ⟨by simp, h⟩
  | v :: vs, h => by
    simp only [wipeE] at h
    by_cases e : v = i
    · subst e
      by_cases hl : v < (wipeE env vs).length
      · rw [List.getElem?_set_self hl] at h; cases h; exact .inl rfl
      · rw [List.getElem?_eq_none (by simpa using hl)] at h; cases h
    · rw [List.getElem?_set_ne e] at h
      rcases wipeE_get h with h | ⟨h1, h2⟩
      · exact .inl h
      · exact .inr ⟨by simp [h1, Ne.symm e], h2⟩
theorem backE_get {e0 env : List Sl} {i : Nat} {s : Sl} : ∀ {vs : List Nat}, (backE e0 env vs)[i]? = some s → (i ∈ vs ∧ s = e0.getD i .no) ∨ (i ∉ vs ∧ env[i]? = some s)
  | [], h => .inr ⟨by simp, h⟩
  | v :: vs, h => by
    simp only [backE] at h
    by_cases e : v = i
    · subst e
      by_cases hl : v < (backE e0 env vs).length
      · rw [List.getElem?_set_self hl] at h; cases h; exact .inl ⟨by simp, rfl⟩
      · rw [List.getElem?_eq_none (by simpa using hl)] at h; cases h
    · rw [List.getElem?_set_ne e] at h
      rcases backE_get h with ⟨h1, h2⟩ | ⟨h1, h2⟩
      · exact .inl ⟨by simp [h1], h2⟩
      · exact .inr ⟨by simp [h1, Ne.symm e], h2⟩
theorem noOwn_get {env : List Sl} {i : Nat} {d : D} : ∀ {vs : List Nat}, noOwn env vs = true → i ∈ vs → env[i]? ≠ some (.own d)
  | [], _, h => by simp at h
  | v :: vs, h, hi => by
    simp only [noOwn, Bool.and_eq_true] at h
    rcases List.mem_cons.mp hi with e | hi
    · subst e
      intro z
      rw [z] at h
      simp at h
    · exact noOwn_get h.2 hi
theorem wipe_get {σ : L2.St} {i : Nat} : ∀ {vs : List Nat}, i ∉ vs → (wipe σ vs)[i]? = σ[i]?
  | [], _ => rfl
  | v :: vs, h => by
    simp only [List.mem_cons, not_or] at h
    unfold wipe
    rw [List.getElem?_set_ne (Ne.symm h.1)]
    exact wipe_get h.2
theorem wipe_ext {σ σ' : L2.St} (hl : σ'.length = σ.length) : ∀ {vs : List Nat}, (∀ j, j ∉ vs → σ'[j]? = σ[j]?) → wipe σ' vs = wipe σ vs := fun {vs} h => by
  apply List.ext_getElem?
  intro i
  by_cases hi : i ∈ vs
  · have at_ : ∀ (τ : L2.St) (ws : List Nat), i ∈ ws → (wipe τ ws)[i]? = if i < τ.length then some none else none := by
      intro τ ws hw
      induction ws with
      | nil => simp at hw
      | cons w ws ih =>
        unfold wipe
        by_cases e : w = i
        · subst e
          by_cases hl : w < τ.length
          · rw [List.getElem?_set_self (by rw [wipe_length]; exact hl), if_pos hl]
          · rw [List.getElem?_eq_none (by rw [List.length_set, wipe_length]; omega), if_neg hl]
        · rw [List.getElem?_set_ne e]
          rcases List.mem_cons.mp hw with z | z
          · exact absurd z.symm e
          · exact ih z
    rw [at_ _ _ hi, at_ _ _ hi, hl]
  · rw [wipe_get hi, wipe_get hi]
    exact h i hi
section
variable {c : C β} {F F' : Addr → Prop} {st st' : Sta β} {σ σ' : L2.St} {H H' : Hp}
/-- into a comprehension's block -/
theorem Rel.wiped (r : Rel c F st σ H) (vs : List Nat) : Rel c F { st with env := wipeE st.env vs } (wipe σ vs) H := by
  refine ⟨by rw [wipe_length]; simpa [wipeE_length] using r.len, fun i s hi => ?_, fun i j d e hi hj hq => ?_, r.base, r.bag, r.f0, r.fs⟩
  · rcases wipeE_get hi with h | ⟨h1, h2⟩
    · subst h; trivial
    · rw [wipe_get h1]; exact r.slot i s h2
  · rcases wipeE_get hi with h | ⟨h1, h2⟩
    · cases h
    · rcases wipeE_get hj with h | ⟨g1, g2⟩
      · cases h
      · rw [wipe_get h1, wipe_get g1] at hq
        exact r.uniq i j d e h2 g2 hq
/-- out of it: e0 the slots ahead -/
theorem Rel.back {vs : List Nat} {st0 : Sta β} {H0 : Hp} {F0 : Addr → Prop} (r0 : Rel c F0 st0 σ H0) (no : noOwn st0.env vs = true) (r : Rel c F st σ' H) (f : FrS F0 H0 F H) (hl : σ'.length = σ.length) (hσ : ∀ j, j ∉ vs → σ'[j]? = σ[j]?) :
    Rel c F { st with env := backE st0.env st.env vs } σ H := by
  have ow : ∀ (i : Nat) (d : D), (backE st0.env st.env vs)[i]? = some (.own d) → i ∉ vs ∧ st.env[i]? = some (.own d) := fun i d hi => by
    rcases backE_get hi with ⟨h1, h2⟩ | h
    · have : st0.env[i]? = some (.own d) := by
        cases q : st0.env[i]? with
        | none => simp [List.getD_eq_getElem?_getD, q] at h2
        | some s => simp [List.getD_eq_getElem?_getD, q] at h2; rw [h2]
      exact absurd this (noOwn_get no h1)
    · exact h
  refine ⟨by rw [← hl]; simpa [backE_length] using r.len, fun i s hi => ?_, fun i j d e hi hj hq => ?_, r.base, r.bag, r.f0, r.fs⟩
  · rcases backE_get hi with ⟨h1, h2⟩ | ⟨h1, h2⟩
    · cases q : st0.env[i]? with
      | none =>
        have e : s = .no := by simpa [List.getD_eq_getElem?_getD, q] using h2
        subst e
        trivial
      | some s0 =>
        have e : s = s0 := by simpa [List.getD_eq_getElem?_getD, q] using h2
        subst e
        have g := r0.slot i s q
        cases s with
        | no => trivial
        | own d => exact absurd q (noOwn_get no h1)
        | val d =>
          obtain ⟨v, e, hr⟩ := g
          exact ⟨v, e, hr.mono f⟩
        | lock d =>
          obtain ⟨a, e, hr, hf, ⟨o, h0⟩⟩ := g
          refine ⟨a, e, hr.mono f (fun o' z => ?_), hf, ⟨o, h0⟩⟩
          have q1 := r0.base a o h0 hf
          rw [q1] at z
          cases z
          exact r.base a o h0 hf
    · rw [← hσ i h1]
      exact r.slot i s h2
  · obtain ⟨h1, h2⟩ := ow i d hi
    obtain ⟨g1, g2⟩ := ow j e hj
    rw [← hσ i h1, ← hσ j g1] at hq
    exact r.uniq i j d e h2 g2 hq
end
section
variable {X : Cx}
def mYes : Mn β Bool := fun st => some (true, st)
theorem ptsI {es : List Expr} {t t' : TT} (h : PTs X es t) (hi : ∀ σ H Q, t' σ H Q → t σ H Q) : PTs X es t' := ⟨fun pins s σ H Q I q => h.run pins s σ H Q I (hi σ H Q q)⟩
theorem sts_nil : PTs X [] (tTs (mYes (β := β))) := ptsI pts_nil fun σ H Q q => by
  obtain ⟨c, F, st, b, st', rl, e, k⟩ := q
  simp only [mYes, Option.some.injEq, Prod.mk.injEq] at e
  obtain ⟨rfl, rfl⟩ := e
  exact k H F (.refl rl)
theorem sts_one {e : Expr} {m : Mn β Bool} (h : PT X e (tTs m)) : PTs X [e] (tTs m) := pts_one h
/-- a target that stores data alone -/
def TgV (m : Tm β) : Prop := ∀ (d : D) (st st' : Sta β), m d st = some st' → ∀ (i : Nat) (e : D), st'.env[i]? = some (.own e) → st.env[i]? = some (.own e)
def TgsV (m : Tms β) : Prop := ∀ (d : List D) (st st' : Sta β), m d st = some st' → ∀ (i : Nat) (e : D), st'.env[i]? = some (.own e) → st.env[i]? = some (.own e)
theorem tgv_n {i : Nat} : TgV (tmN (β := β) i) := fun d st st' e j e' h => by
  simp only [tmN, Option.some.injEq] at e
  subst e
  exact (set_own h (fun _ z => nomatch z)).2
theorem tgsv_nil : TgsV (tmNil (β := β)) := fun d st st' e j e' h => by
  cases d with
  | nil => simp only [tmNil, Option.some.injEq] at e; subst e; exact h
  | cons _ _ => simp [tmNil] at e
theorem tgsv_cons {m : Tm β} {n : Tms β} (hm : TgV m) (hn : TgsV n) : TgsV (tmCons m n) := fun d st st' e j e' h => by
  cases d with
  | nil => simp [tmCons] at e
  | cons x r =>
    simp only [tmCons] at e
    cases q : m x st with
    | none => rw [q] at e; cases e
    | some s1 => rw [q] at e; exact hm x st s1 q j e' (hn r s1 st' e j e' h)
theorem tgv_t {m : Tms β} {n : Nat} (hm : TgsV m) : TgV (tmT m n) := fun d st st' e j e' h => by
  cases d with
  | tup ds =>
    simp only [tmT] at e
    split at e
    · exact hm ds st st' e j e' h
    · cases e
  | _ => simp [tmT] at e
theorem blk_stp {c : C β} {σ σ3 : L2.St} {F1 F2 F4 : Addr → Prop} {s1 s' s3 s4 : Sta β} {H1 H2 H4 : Hp} {vs : List Nat} (r1 : Rel c F1 s1 σ H1) (no : noOwn s1.env vs = true) (t : Stp c σ F1 s1 H1 F2 s' H2)
    (hs3 : ∀ (i : Nat) (d : D), s3.env[i]? = some (.own d) → i ∉ vs ∧ s'.env[i]? = some (.own d)) (hl : σ3.length = σ.length) (hσ : ∀ j, j ∉ vs → σ3[j]? = σ[j]?) (u : Stp c σ3 F2 s3 H2 F4 s4 H4) :
    Stp c σ F1 s1 H1 F4 { s4 with env := backE s1.env s4.env vs } H4 := by
  have o3 : ∀ a, Own s3 σ3 a → Own s1 σ a := fun a ⟨i, d, h, q⟩ => by
    obtain ⟨h1, h2⟩ := hs3 i d h
    rw [hσ i h1] at q
    exact t.own a ⟨i, d, h2, q⟩
  have fr : ∀ a o, H1 a = some o → ¬ c.R.foot a → ¬ Own s1 σ a → H4 a = some o ∧ (F4 a ↔ F1 a) := fun a o e hf hw => by
    obtain ⟨e2, i2⟩ := t.fr a o e hf hw
    obtain ⟨e4, i4⟩ := u.fr a o e2 hf fun z => hw (o3 a z)
    exact ⟨e4, i4.trans i2⟩
  have frs : FrS F1 H1 F4 H4 := fun a o e hf => by
    obtain ⟨e4, i4⟩ := fr a o e (fun z => hf (r1.f0 a (c.foot a z))) fun z => hf (r1.own_f z).1
    exact ⟨e4, fun z => hf (i4.mp z)⟩
  refine ⟨r1.back no u.rel frs hl hσ, fr, fun a ⟨i, d, h, q⟩ => ?_, fun a o e => ?_⟩
  · have g : i ∉ vs ∧ s4.env[i]? = some (.own d) := by
      rcases backE_get h with ⟨h1, h2⟩ | g
      · have : s1.env[i]? = some (.own d) := by
          cases q : s1.env[i]? with
          | none => simp [List.getD_eq_getElem?_getD, q] at h2
          | some s => simp [List.getD_eq_getElem?_getD, q] at h2; rw [h2]
        exact absurd this (noOwn_get no h1)
      · exact g
    exact o3 a (u.own a ⟨i, d, g.2, by rw [hσ i g.1]; exact q⟩)
  · obtain ⟨o2, e2⟩ := t.dom a o e
    exact u.dom a o2 e2
/-- a new list that no slot has is filled -/
theorem tmp_upd {c : C β} {σ : L2.St} {F1 F : Addr → Prop} {s1 s : Sta β} {H1 H : Hp} {p : Addr} {ds : List D} {xs : List V} (r1 : Rel c F1 s1 σ H1) (t : Stp c σ F1 s1 H1 F s H) (hD : H1 p = none) (hF : F p) (hx : RepL H F c.R.val ds xs) :
    Stp c σ F1 s1 H1 F s (upd H p (.lst xs)) := by
  have h0 : c.H0 p = none := r1.h0 hD
  have nf : ¬ c.R.foot p := r1.nofoot hD
  have now : ∀ b, Own s σ b → b ≠ p := fun b hb z => by
    obtain ⟨o, e⟩ := (r1.own_f (t.own b hb)).2.2
    rw [z, hD] at e
    cases e
  have wk : ∀ b o, H b = some o → ¬ F b → upd H p (.lst xs) b = some o ∧ ¬ F b := fun b o e f => ⟨by rw [upd_ne (fun z => f (by rw [z]; exact hF))]; exact e, f⟩
  refine ⟨⟨t.rel.len, fun i sl hi => ?_, t.rel.uniq, fun b o e f => ?_, c.R.keep _ _ _ t.rel.bag fun b o hb e => (upd_ne (fun (z : b = p) => nf (by rw [← z]; exact hb))).trans e, t.rel.f0, fun b hb => ?_⟩, fun b o e f hw => ?_, t.own, fun b o e => ?_⟩
  · have q := t.rel.slot i sl hi
    cases sl with
    | no => trivial
    | val d => obtain ⟨v, e, hr⟩ := q; exact ⟨v, e, hr.mono wk⟩
    | own d =>
      obtain ⟨x, e, hr, hx, h0⟩ := q
      refine ⟨x, e, hr.mono wk (fun o z => ?_), hx, h0⟩
      rw [upd_ne (now x ⟨i, d, hi, e⟩)]
      exact z
    | lock d =>
      obtain ⟨x, e, hr, hx, ⟨o', h0'⟩⟩ := q
      refine ⟨x, e, hr.mono wk (fun o z => ?_), hx, ⟨o', h0'⟩⟩
      rw [upd_ne (fun z => by rw [z, h0] at h0'; cases h0')]
      exact z
  · rw [upd_ne (fun z => by rw [z, h0] at e; cases e)]
    exact t.rel.base b o e f
  · by_cases e : b = p
    · subst e; exact ⟨_, upd_same⟩
    · rw [upd_ne e]; exact t.rel.fs b hb
  · obtain ⟨e2, i2⟩ := t.fr b o e f hw
    rw [upd_ne (fun z => by rw [z, hD] at e; cases e)]
    exact ⟨e2, i2⟩
  · obtain ⟨o2, e2⟩ := t.dom b o e
    by_cases z : b = p
    · subst z; exact ⟨_, upd_same⟩
    · rw [upd_ne z]; exact ⟨o2, e2⟩
theorem comp_reads {it : Mn β (List D)} {vs is : List Nat} {tg : Tm β} {tt : Mn β Bool} {te : Mn β D} (hv : ∀ i ∈ is, i ∈ vs) (hg : TgV tg) : ∀ σ H Q, tE (mComp vs it tg tt te) σ H Q → tLc (tIt it) (gTm tg is) (tTs tt) (tDt te) vs σ H Q := fun σ H Q q => by
  obtain ⟨c, F, st, res, st', rl, e, k⟩ := q
  obtain ⟨ds, s1, e1, e⟩ := mBind_some e
  split at e
  · rename_i no
    refine ⟨c, F, st, ds, s1, rl, e1, fun J H1 F1 G t1 w g1 Dd hD => ?_⟩
    split at e
    · rename_i acc s2 e2
      simp only [Option.some.injEq, Prod.mk.injEq] at e
      obtain ⟨rfl, rfl⟩ := e
      -- what holds at a turn
      let Pv : Nat → Hp → Prop := fun i H' => ∃ F' s' ac xs, Stp c σ F1 s1 H1 F' s' H' ∧ H' Dd = some (.lst xs) ∧ RepL H' F' c.R.val ac xs ∧ F' Dd ∧ G F' H' ∧ compL vs s1.env tg tt te (ds.drop i) ac s' = some (acc, s2)
      have start : Pv 0 (upd H1 Dd (.lst [])) := by
        have hn : ∀ a, F1 a ∨ a = Dd → F1 a ∨ (H1 a = none ∧ ∃ o, upd H1 Dd (.lst []) a = some o) := fun a h => by
          rcases h with h | h
          · exact .inl h
          · subst h; exact .inr ⟨hD, _, upd_same⟩
        refine ⟨fun b => F1 b ∨ b = Dd, s1, [], [], .grow t1.rel (upd_keep hD) (fun _ h => .inl h) hn, upd_same, .nil, .inr rfl, ?_, by rw [List.drop_zero]; exact e2⟩
        refine w.stay F1 s1 s1 σ σ H1 _ _ t1.rel g1 (t1.rel.grow (upd_keep hD) (fun _ h => .inl h) hn) (fun b o e hf => ⟨upd_keep hD b o e, fun z => ?_⟩)
        rcases z with z | z
        · exact hf z
        · subst z; rw [hD] at e; cases e
      have hnD : ¬ c.R.foot Dd := t1.rel.nofoot hD
      have hnO : ¬ Own s1 σ Dd := fun z => by
        obtain ⟨o, e⟩ := (t1.rel.own_f z).2.2
        rw [hD] at e
        cases e
      refine ⟨fun i m H' => i + m = ds.length ∧ Pv i H', ⟨ds.length, by omega, start⟩, ?_⟩
      rintro i m H' ⟨him, F', s', ac, xs, t', hx, hl, hFD, g', e'⟩
      by_cases hlt : i < ds.length
      · right
        have hd : ds[i]? = some ds[i] := List.getElem?_eq_getElem hlt
        obtain ⟨go, yl⟩ := w.go i ds[i] F' s' σ H' hd t'.rel g'
        refine ⟨go, fun H2 => (i + 1) + (m - 1) = ds.length ∧ Pv (i + 1) H2, fun H2 h2 => ⟨m - 1, by omega, h2⟩, fun x H2 y => ?_⟩
        obtain ⟨F2, t2, hx2⟩ := yl x H2 y
        rw [List.drop_eq_getElem_cons hlt] at e'
        simp only [compL] at e'
        split at e'
        · cases e'
        · rename_i s3 q3
          have t12 := t'.trans t2
          obtain ⟨hx3, hF3⟩ := t2.fr Dd _ hx hnD (fun z => hnO (t'.own _ z))
          have hFD2 : F2 Dd := hF3.mpr hFD
          have hl3 := hl.mono (t2.pers t'.rel)
          have g2 : G F2 H2 := w.stay F' s' s' σ σ H' F2 H2 t'.rel g' t2.rel (t2.frs t'.rel)
          refine ⟨c, F2, { s' with env := wipeE s'.env vs }, ds[i], s3, t2.rel.wiped vs, hx2, q3, fun σ3 r3 ch => ⟨wipe_ext (by rw [ch.1, wipe_length]) (fun j hj => ?_), ?_⟩⟩
          · rw [ch.2 j (fun z => hj (hv j z)), wipe_get hj]
          · have hσl : σ3.length = σ.length := by rw [ch.1, wipe_length]
            have hσ : ∀ j, j ∉ vs → σ3[j]? = σ[j]? := fun j hj => by rw [ch.2 j (fun z => hj (hv j z)), wipe_get hj]
            have hs3 : ∀ (i : Nat) (d : D), s3.env[i]? = some (.own d) → i ∉ vs ∧ s'.env[i]? = some (.own d) := fun i d h => by
              have q := hg _ _ _ q3 i d h
              rcases wipeE_get q with z | z
              · cases z
              · exact z
            have o3 : ¬ Own s3 σ3 Dd := fun ⟨i, d, h, q⟩ => by
              obtain ⟨h1, h2⟩ := hs3 i d h
              rw [hσ i h1] at q
              exact hnO (t'.own _ ⟨i, d, h2, q⟩)
            split at e'
            · cases e'
            · rename_i s4 q4
              refine ⟨c, F2, s3, false, s4, r3, q4, fun H4 F4 u => iteF ⟨by omega, ?_⟩⟩
              obtain ⟨hx4, hF4⟩ := u.fr Dd _ hx3 hnD o3
              have tb := blk_stp t1.rel no t12 hs3 hσl hσ u
              exact ⟨F4, _, ac, xs, tb, hx4, hl3.mono (u.pers r3), hF4.mpr hFD2, w.stay F2 s3 s4 σ3 σ3 H2 F4 H4 r3 g2 u.rel (u.frs r3), e'⟩
            · rename_i s4 q4
              refine ⟨c, F2, s3, true, s4, r3, q4, fun H4 F4 u => iteT ?_⟩
              split at e'
              · cases e'
              · rename_i dx s5 q5
                refine ⟨c, F4, s4, dx, s5, u.rel, q5, fun v H5 F5 u2 hv5 => ?_⟩
                have u3 := u.trans u2
                obtain ⟨hx5, hF5⟩ := u3.fr Dd _ hx3 hnD o3
                have hl5 := hl3.mono (u3.pers r3)
                split at e'
                · rename_i hln
                  refine ⟨xs, hx5, by rw [hl.length, ← line_eq]; exact hln, by omega, ?_⟩
                  have tb := blk_stp t1.rel no t12 hs3 hσl hσ u3
                  have hl6 := hl5.append (.cons hv5 .nil)
                  have tu := tmp_upd t1.rel tb hD (hF5.mpr hFD2) hl6
                  have fr5 : FrS F5 H5 F5 (upd H5 Dd (.lst (xs ++ [v]))) := fun b o e f => ⟨by rw [upd_ne (fun z => f (by rw [z]; exact hF5.mpr hFD2))]; exact e, f⟩
                  exact ⟨F5, _, ac ++ [dx], xs ++ [v], tu, upd_same, hl6.mono fr5, hF5.mpr hFD2, w.stay F5 s5 _ σ3 σ H5 F5 _ u3.rel (w.stay F2 s3 s5 σ3 σ3 H2 F5 H5 r3 g2 u3.rel (u3.frs r3)) tu.rel fr5, e'⟩
                · cases e'
      · left
        have hi : i = ds.length := by omega
        subst hi
        rw [List.drop_length] at e'
        simp only [compL, Option.some.injEq, Prod.mk.injEq] at e'
        obtain ⟨rfl, rfl⟩ := e'
        refine ⟨w.stop F' s' σ H' t'.rel g', ?_⟩
        exact k (.ref Dd) H' F' (t1.trans t') ⟨Dd, rfl, ⟨xs, hx, hl⟩, hFD, t1.gone hD, fun z => hnO (t'.own _ z)⟩
    · cases e
  · cases e
theorem se_comp {elt tg iter : Expr} {ifs : List Expr} {scope : Scope} {own : List (Str × Nat)} {pos : Pos} {it : Mn β (List D)} {is : List Nat} {mt : Tm β} {tt : Mn β Bool} {te : Mn β R} (hc : X.calm = true) (hN : X.N.Nodup) (hi : PI X tg iter (tIt it)) (ok : BlkOk X.N X.env.scope scope own)
    (hv : ∀ i ∈ is, i ∈ own.map (·.2)) (hgv : TgV mt)
    (hg : ∀ (s : Shared) (H : Hp) (C : Addr) (cl : List (Str × Addr)) (fp : List Addr), PG (X.blk s H scope (compEnvC scope cl C X.env) fp) tg (gTm mt is)) (ht : ∀ (s : Shared) (H : Hp) (C : Addr) (cl : List (Str × Addr)) (fp : List Addr), PTs (X.blk s H scope (compEnvC scope cl C X.env) fp) ifs (tTs tt))
    (he : ∀ (s : Shared) (H : Hp) (C : Addr) (cl : List (Str × Addr)) (fp : List Addr), PE (X.blk s H scope (compEnvC scope cl C X.env) fp) elt (tE te)) (hs : ∀ x, foldedSetIterable iter X.env x = pure x := by intro _; rfl) :
    PE X (.ListComp elt [⟨tg, iter, ifs, 0⟩] scope pos) (tE (mComp (own.map (·.2)) it mt tt (mD te))) :=
  peI (pe_lc hc hN hi ok hg ht (fun s H C cl fp => se_d (he s H C cl fp)) hs) (comp_reads hv hgv)
/-- y = [..], y a local name -/
theorem ss_setLc {i : Nat} {y : Str} {py : Pos} {elt tg iter : Expr} {ifs : List Expr} {scope : Scope} {own : List (Str × Nat)} {pos spos : Pos} {it : Mn β (List D)} {is : List Nat} {mt : Tm β} {tt : Mn β Bool} {te : Mn β R} (hc : X.calm = true) (hN : X.N.Nodup) (hy : X.N[i]? = some y) (hyl : X.env.scope.names.lookup y = some .local)
    (hsw : swapsWith (.ListComp elt [⟨tg, iter, ifs, 0⟩] scope pos) (some (.Name y py)) spos.line X.env = pure true) (hi : PI X tg iter (tIt it)) (ok : BlkOk X.N X.env.scope scope own)
    (hv : ∀ i ∈ is, i ∈ own.map (·.2)) (hgv : TgV mt)
    (hg : ∀ (s : Shared) (H : Hp) (C : Addr) (cl : List (Str × Addr)) (fp : List Addr), PG (X.blk s H scope (compEnvC scope cl C X.env) fp) tg (gTm mt is)) (ht : ∀ (s : Shared) (H : Hp) (C : Addr) (cl : List (Str × Addr)) (fp : List Addr), PTs (X.blk s H scope (compEnvC scope cl C X.env) fp) ifs (tTs tt))
    (he : ∀ (s : Shared) (H : Hp) (C : Addr) (cl : List (Str × Addr)) (fp : List Addr), PE (X.blk s H scope (compEnvC scope cl C X.env) fp) elt (tE te)) (hs : ∀ x, foldedSetIterable iter X.env x = pure x := by intro _; rfl) :
    PS X (.Assign [.Name y py] (.ListComp elt [⟨tg, iter, ifs, 0⟩] scope pos) spos) (tSt (mSet i (mComp (own.map (·.2)) it mt tt (mD te)))) := by
  refine psI (ps_setLc hc hN hy hyl hsw hi ok hg ht (fun s H C cl fp => se_d (he s H C cl fp)) hs) fun D σ H q => ?_
  obtain ⟨c, F, st, o, st', rl, e, g⟩ := q
  obtain ⟨r, s1, e1, e⟩ := mBind_some e
  refine comp_reads hv hgv _ _ _ ⟨c, F, st, r, s1, rl, e1, fun v H1 F1 t1 h1 => ?_⟩
  cases q : setSl i r s1 with
  | none => rw [q] at e; cases e
  | some s2 =>
    rw [q] at e
    simp only [Option.some.injEq, Prod.mk.injEq] at e
    obtain ⟨rfl, rfl⟩ := e
    obtain ⟨F2, r2, f2⟩ := setSl_ok rl t1 h1 q
    exact g _ H1 F2 r2 f2
end
end M

/-! MOps: what each operation and built-in function does with data. -/
namespace M
open PySem PySem.Spec PyProof.Rows L2
variable {β : Type} [Kind β]

/-! ### whole numbers -/
def fI (C : Int → Int → Bool) (g : Int → Int → Int) : D → D → Option R
  | .int i, .int j => if C i j = true then some (.val (.int (g i j))) else none
  | _, _ => none
theorem pk_i {H : Hp} {F : Addr → Prop} {rv v : V} {i : Int} (h : Pk H F rv (.int i) v) : v = .int i := by simpa [Pk, Rep] using h
theorem ok_I {C : Int → Int → Prop} {Cb : Int → Int → Bool} {g : Int → Int → Int} (hC : ∀ i j, Cb i j = true → C i j) : Ok2 (rI C fun i j => .int (g i j)) (fI Cb g) := fun H F rv x y d e res Q hx hy he k => by
  unfold fI at he
  split at he
  · rename_i i j
    split at he
    · rename_i hc
      simp only [Option.some.injEq] at he
      subst he
      exact ⟨i, j, pk_i hx, pk_i hy, hC i j hc, k _ _ (.same (by simp [Rep]))⟩
    · cases he
  · cases he
def cTrue : Int → Int → Bool := fun _ _ => true
theorem ok_I0 {g : Int → Int → Int} : Ok2 (rI0 fun i j => .int (g i j)) (fI cTrue g) := fun H F rv x y d e res Q hx hy he k => by
  unfold fI at he
  split at he
  · rename_i i j
    split at he
    · simp only [Option.some.injEq] at he
      subst he
      exact ⟨i, j, pk_i hx, pk_i hy, k _ _ (.same (by simp [Rep]))⟩
    · cases he
  · cases he
def fCmpI (g : Int → Int → Bool) : D → D → Option R
  | .int i, .int j => some (.val (.bl (g i j)))
  | _, _ => none
theorem ok_CmpI {g : Int → Int → Bool} : Ok2 (rI0 fun i j => .bl (g i j)) (fCmpI g) := fun H F rv x y d e res Q hx hy he k => by
  unfold fCmpI at he
  split at he
  · rename_i i j
    simp only [Option.some.injEq] at he
    subst he
    exact ⟨i, j, pk_i hx, pk_i hy, k _ _ (.same (by simp [Rep]))⟩
  · cases he
/-- one factor below 2^64 -/
def cMul (i j : Int) : Bool := decide (i.natAbs < 18446744073709551616) || decide (j.natAbs < 18446744073709551616)
theorem cMul_ok (i j : Int) (h : cMul i j = true) : CMul i j := by
  unfold cMul at h
  rw [Bool.or_eq_true] at h
  rcases h with h | h
  · have := of_decide_eq_true h; exact .inl (by omega)
  · have := of_decide_eq_true h; exact .inr (by omega)
def cDiv (_ j : Int) : Bool := decide (0 < j) && decide (j.natAbs.log2 < 9000)
theorem cDiv_ok (i j : Int) (h : cDiv i j = true) : CDivW i j := by
  unfold cDiv at h
  rw [Bool.and_eq_true] at h
  exact ⟨of_decide_eq_true h.1, of_decide_eq_true h.2⟩
def cMod (_ j : Int) : Bool := decide (0 < j)
def cPow (i j : Int) : Bool := decide (0 ≤ j) && decide (j ≤ 1000000) && decide (i.natAbs < 18446744073709551616)
theorem cPow_ok (i j : Int) (h : cPow i j = true) : CPow i j := by
  unfold cPow at h
  rw [Bool.and_eq_true, Bool.and_eq_true] at h
  exact ⟨of_decide_eq_true h.1.1, of_decide_eq_true h.1.2, of_decide_eq_true h.2⟩
abbrev fSub := fI cTrue (fun i j => i - j)
abbrev fMul := fI cMul (fun i j => i * j)
abbrev fDiv := fI cDiv (fun i j => i / j)
abbrev fMod := fI cMod (fun i j => i % j)
abbrev fPow := fI cPow (fun i j => i ^ j.toNat)
abbrev fLt := fCmpI (fun i j => decide (i < j))
abbrev fLe := fCmpI (fun i j => decide (i ≤ j))
abbrev fGt := fCmpI (fun i j => decide (j < i))
abbrev fGe := fCmpI (fun i j => decide (j ≤ i))
def fNeg : D → Option R
  | .int i => some (.val (.int (-i)))
  | _ => none
theorem ok_neg : Ok1 (rU fun i => .int (-i)) fNeg := fun H F rv x d res Q hx he k => by
  unfold fNeg at he
  split at he
  · rename_i i
    simp only [Option.some.injEq] at he
    subst he
    exact ⟨i, pk_i hx, k _ _ (.same (by simp [Rep]))⟩
  · cases he

/-! ### == of data -/
mutual
def py : D → PyData
  | .non => .none
  | .bl b => .bool b
  | .int i => .int i
  | .str x => .str x
  | .res => .none
  | .tup ds => .tuple (pyL ds)
  | .lst ds => .list (pyL ds)
def pyL : List D → List PyData
  | [] => []
  | d :: ds => py d :: pyL ds
end
mutual
/-- data alone, no resource, texts of signs -/
def fine : D → Bool
  | .str x => PyData.strOk x
  | .res => false
  | .tup ds => fineL ds
  | .lst ds => fineL ds
  | _ => true
def fineL : List D → Bool
  | [] => true
  | d :: ds => fine d && fineL ds
end
mutual
def deep : D → Nat
  | .tup ds => deepL ds + 1
  | .lst ds => deepL ds + 1
  | _ => 0
def deepL : List D → Nat
  | [] => 0
  | d :: ds => max (deep d) (deepL ds)
end
mutual
/-- Python's == -/
def deq : D → D → Bool
  | .non, .non => true
  | .bl a, .bl b => a == b
  | .bl a, .int j => (if a then 1 else 0) == j
  | .int i, .bl b => i == (if b then 1 else 0)
  | .int i, .int j => i == j
  | .str x, .str y => x == y
  | .tup xs, .tup ys => deqL xs ys
  | .lst xs, .lst ys => deqL xs ys
  | _, _ => false
def deqL : List D → List D → Bool
  | [], [] => true
  | x :: xs, y :: ys => deq x y && deqL xs ys
  | _, _ => false
end
def okq (d : D) : Bool := fine d && decide (deep d ≤ 64)
mutual
theorem eqv_py : ∀ (d e : D), fine d = true → fine e = true → PyData.eqv (py d) (py e) = deq d e
  | .non, e, _, h => by cases e <;> simp_all [py, deq, PyData.eqv, fine]
  | .bl _, e, _, h => by cases e <;> simp_all [py, deq, PyData.eqv, fine]
  | .int _, e, _, h => by cases e <;> simp_all [py, deq, PyData.eqv, fine]
  | .str _, e, _, h => by cases e <;> simp_all [py, deq, PyData.eqv, fine]
  | .res, e, h, _ => by simp [fine] at h
  | .tup xs, e, h, h2 => by
    cases e with
    | tup ys =>
      simp only [fine] at h h2
      simp only [py, deq, PyData.eqv]
      exact eqvAll_py xs ys h h2
    | _ => simp_all [py, deq, PyData.eqv, fine]
  | .lst xs, e, h, h2 => by
    cases e with
    | lst ys =>
      simp only [fine] at h h2
      simp only [py, deq, PyData.eqv]
      exact eqvAll_py xs ys h h2
    | _ => simp_all [py, deq, PyData.eqv, fine]
theorem eqvAll_py : ∀ (xs ys : List D), fineL xs = true → fineL ys = true → PyData.eqvAll (pyL xs) (pyL ys) = deqL xs ys
  | [], [], _, _ => by simp [pyL, deqL, PyData.eqvAll]
  | [], _ :: _, _, _ => by simp [pyL, deqL, PyData.eqvAll]
  | _ :: _, [], _, _ => by simp [pyL, deqL, PyData.eqvAll]
  | x :: xs, y :: ys, h, h2 => by
    simp only [fineL, Bool.and_eq_true] at h h2
    simp only [pyL, deqL, PyData.eqvAll]
    rw [eqv_py x y h.1 h2.1, eqvAll_py xs ys h.2 h2.2]
end
mutual
theorem lay_py : ∀ d : D, fine d = true → PyData.canLay0 (py d) = true
  | .non, _ => by simp [py, PyData.canLay0]
  | .bl _, _ => by simp [py, PyData.canLay0]
  | .int _, _ => by simp [py, PyData.canLay0]
  | .str x, h => by simpa [py, PyData.canLay0, fine] using h
  | .res, h => by simp [fine] at h
  | .tup xs, h => by simp only [py, PyData.canLay0]; exact layL_py xs (by simpa [fine] using h)
  | .lst xs, h => by simp only [py, PyData.canLay0]; exact layL_py xs (by simpa [fine] using h)
theorem layL_py : ∀ ds : List D, fineL ds = true → PyData.canLayAll0 (pyL ds) = true
  | [], _ => by simp [pyL, PyData.canLayAll0]
  | d :: ds, h => by
    simp only [fineL, Bool.and_eq_true] at h
    simp only [pyL, PyData.canLayAll0, Bool.and_eq_true]
    exact ⟨lay_py d h.1, layL_py ds h.2⟩
end
mutual
theorem depth_py : ∀ d : D, PyData.depth (py d) = deep d
  | .non => by simp [py, PyData.depth, deep]
  | .bl _ => by simp [py, PyData.depth, deep]
  | .int _ => by simp [py, PyData.depth, deep]
  | .str x => by simp [py, PyData.depth, deep]
  | .res => by simp [py, PyData.depth, deep]
  | .tup xs => by simp only [py, PyData.depth, deep, depthL_py xs]
  | .lst xs => by simp only [py, PyData.depth, deep, depthL_py xs]
theorem depthL_py : ∀ ds : List D, PyData.depthAll (pyL ds) = deepL ds
  | [] => by simp [pyL, PyData.depthAll, deepL]
  | d :: ds => by simp only [pyL, PyData.depthAll, deepL, depth_py d, depthL_py ds]
end
theorem shaped_py {d : D} (h : okq d = true) : SeqAt.shaped (py d) = true := by
  unfold okq at h
  rw [Bool.and_eq_true] at h
  show (PyData.canLay0 (py d) && decide (PyData.depth (py d) ≤ 64)) = true
  rw [Bool.and_eq_true, depth_py]
  exact ⟨lay_py d h.1, h.2⟩
section
variable {K : PySem.W.Frag} {H : Hp} {F : Addr → Prop} {rv : V}
mutual
theorem Rep.dp : ∀ {d : D} {v : V}, fine d = true → Rep H F rv d v → Dp K H v (py d)
  | .non, v, _, h => by simp only [Rep] at h; subst h; simp only [py]; exact .non
  | .bl b, v, _, h => by simp only [Rep] at h; subst h; simp only [py]; exact .bl b
  | .int i, v, _, h => by simp only [Rep] at h; subst h; simp only [py]; exact .int i
  | .str x, v, _, h => by simp only [Rep] at h; subst h; simp only [py]; exact .str x
  | .res, v, f, h => by simp [fine] at f
  | .tup xs, v, f, h => by
    simp only [Rep] at h
    obtain ⟨a, vs, rfl, ha, _, hl⟩ := h
    simp only [py]
    exact .tup (SqT.of ha) (RepL.dp (by simpa [fine] using f) hl)
  | .lst xs, v, f, h => by
    simp only [Rep] at h
    obtain ⟨a, vs, rfl, ha, _, hl⟩ := h
    simp only [py]
    exact .lst (SqL.of ha) (RepL.dp (by simpa [fine] using f) hl)
theorem RepL.dp : ∀ {ds : List D} {vs : List V}, fineL ds = true → RepL H F rv ds vs → DpAll K H vs (pyL ds)
  | [], vs, _, h => by simp only [RepL] at h; subst h; simp only [pyL]; exact .nil
  | d :: ds, vs, f, h => by
    simp only [RepL] at h
    obtain ⟨v, r, rfl, h1, h2⟩ := h
    simp only [fineL, Bool.and_eq_true] at f
    simp only [pyL]
    exact .cons (Rep.dp f.1 h1) (RepL.dp f.2 h2)
end
theorem pk_dp {d : D} {v : V} (f : fine d = true) (h : Pk H F rv d v) : Dp K H v (py d) := by
  cases d with
  | lst xs =>
    obtain ⟨a, vs, rfl, ha, hl⟩ := h
    simp only [py]
    exact .lst (SqL.of ha) (RepL.dp (by simpa [fine] using f) hl)
  | _ => exact Rep.dp (F := F) (rv := rv) f h
end
theorem okq_fine {d : D} (h : okq d = true) : fine d = true := by
  unfold okq at h
  rw [Bool.and_eq_true] at h
  exact h.1
def fEq : D → D → Option R := fun d e => if (okq d && okq e) = true then some (.val (.bl (deq d e))) else none
def fNe : D → D → Option R := fun d e => if (okq d && okq e) = true then some (.val (.bl (!deq d e))) else none
theorem ok_eq {K : PySem.W.Frag} : Ok2 (rEqD K) fEq := fun H F rv x y d e res Q hx hy he k => by
  unfold fEq at he
  split at he
  · rename_i hc
    rw [Bool.and_eq_true] at hc
    simp only [Option.some.injEq] at he
    subst he
    refine ⟨py d, py e, pk_dp (okq_fine hc.1) hx, pk_dp (okq_fine hc.2) hy, shaped_py hc.1, shaped_py hc.2, ?_⟩
    rw [eqv_py d e (okq_fine hc.1) (okq_fine hc.2)]
    exact k _ _ (.same (by simp [Rep]))
  · cases he
theorem ok_ne {K : PySem.W.Frag} : Ok2 (rNeD K) fNe := fun H F rv x y d e res Q hx hy he k => by
  unfold fNe at he
  split at he
  · rename_i hc
    rw [Bool.and_eq_true] at hc
    simp only [Option.some.injEq] at he
    subst he
    refine ⟨py d, py e, pk_dp (okq_fine hc.1) hx, pk_dp (okq_fine hc.2) hy, shaped_py hc.1, shaped_py hc.2, ?_⟩
    rw [eqv_py d e (okq_fine hc.1) (okq_fine hc.2)]
    exact k _ _ (.same (by simp [Rep]))
  · cases he

/-! ### in, not in; is None -/
def rInA (K : PySem.W.Frag) (neg : Bool) : R2 := fun x y H Q => ∃ (d : PyData) (ds : List PyData), Dp K H x d ∧ (Dp K H y (.list ds) ∨ Dp K H y (.tuple ds)) ∧ SeqAt.shaped d = true ∧ SeqAt.shaped (.list ds) = true ∧
  Q (.bl (if neg then !(ds.any fun z => PyData.eqv z d) else ds.any fun z => PyData.eqv z d)) H
section
variable {X : Cx}
theorem shaped_lt {ds : List PyData} (h : SeqAt.shaped (.list ds) = true) : SeqAt.shaped (.tuple ds) = true := by
  have h' : (PyData.canLay0 (.list ds) && decide (PyData.depth (.list ds) ≤ 64)) = true := h
  show (PyData.canLay0 (.tuple ds) && decide (PyData.depth (.tuple ds) ≤ 64)) = true
  simpa [PyData.canLay0, PyData.depth] using h'
theorem op_inA (hu : X.A.units + 65 < cLine) : OpR X (compareOp .In) (rInA X.K false) := by
  intro pins s σ H x y v u Q I rx ry h
  obtain ⟨d, ds, hd, he | he, sd, se, q⟩ := h
  · exact op_inD hu pins s σ H x y v u Q I rx ry ⟨d, ds, hd, he, sd, se, q⟩
  · obtain ⟨as, r1⟩ := Dp.reads I d x v hd rx
    obtain ⟨bs, r2⟩ := Dp.reads I (.tuple ds) y u he ry
    exact SeqAt.in_tuple_reads r2 r1 (SeqAt.canLay_of_shaped se) (SeqAt.canLay_of_shaped sd) (room_in_shaped sd hu) ⟨.bl _, H, I, rfl, q⟩
theorem op_notInA (hu : X.A.units + 65 < cLine) : OpR X (compareOp .NotIn) (rInA X.K true) := by
  intro pins s σ H x y v u Q I rx ry h
  obtain ⟨d, ds, hd, he | he, sd, se, q⟩ := h
  · exact op_notInD hu pins s σ H x y v u Q I rx ry ⟨d, ds, hd, he, sd, se, q⟩
  · obtain ⟨as, r1⟩ := Dp.reads I d x v hd rx
    obtain ⟨bs, r2⟩ := Dp.reads I (.tuple ds) y u he ry
    exact SeqAt.notIn_tuple_reads r2 r1 (SeqAt.canLay_of_shaped se) (SeqAt.canLay_of_shaped sd) (room_in_shaped sd hu) ⟨.bl _, H, I, rfl, q⟩
end
def dIn (d : D) (ds : List D) : Bool := ds.any fun z => deq z d
theorem any_py {d : D} (f : fine d = true) : ∀ {ds : List D}, fineL ds = true → ((pyL ds).any fun z => PyData.eqv z (py d)) = dIn d ds
  | [], _ => by simp [pyL, dIn]
  | z :: ds, h => by
    simp only [fineL, Bool.and_eq_true] at h
    have ih := any_py f h.2
    simp only [pyL, dIn, List.any_cons] at ih ⊢
    rw [ih, eqv_py z d h.1 f]
def fInB (neg : Bool) : D → D → Option R
  | d, .lst ds => if (okq d && okq (.lst ds)) = true then some (.val (.bl (if neg then !dIn d ds else dIn d ds))) else none
  | d, .tup ds => if (okq d && okq (.tup ds)) = true then some (.val (.bl (if neg then !dIn d ds else dIn d ds))) else none
  | _, _ => none
theorem ok_in {K : PySem.W.Frag} {neg : Bool} : Ok2 (rInA K neg) (fInB neg) := fun H F rv x y d e res Q hx hy he k => by
  have fin : ∀ {ds : List D}, (Dp K H y (.list (pyL ds)) ∨ Dp K H y (.tuple (pyL ds))) → okq d = true → okq (.lst ds) = true → some (R.val (.bl (if neg then !dIn d ds else dIn d ds))) = some res → rInA K neg x y H Q := fun {ds} hd h1 h2 he => by
    simp only [Option.some.injEq] at he
    subst he
    refine ⟨py d, pyL ds, pk_dp (okq_fine h1) hx, hd, shaped_py h1, by simpa [py] using shaped_py h2, ?_⟩
    rw [any_py (okq_fine h1) (by simpa [fine] using okq_fine h2)]
    exact k _ _ (.same (by simp [Rep]))
  unfold fInB at he
  split at he
  · rename_i ds
    split at he
    · rename_i hc
      rw [Bool.and_eq_true] at hc
      exact fin (.inl (by simpa [py] using pk_dp (K := K) (okq_fine hc.2) hy)) hc.1 hc.2 he
    · cases he
  · rename_i ds
    split at he
    · rename_i hc
      rw [Bool.and_eq_true] at hc
      have h2 : okq (.lst ds) = true := by simpa [okq, fine, deep] using hc.2
      exact fin (.inr (by simpa [py] using pk_dp (K := K) (okq_fine hc.2) hy)) hc.1 h2 he
    · cases he
  · cases he
def isNon : D → Bool
  | .non => true
  | _ => false
theorem pk_non {H : Hp} {F : Addr → Prop} {rv v : V} {d : D} (hr : d ≠ .res) (h : Pk H F rv d v) : decide (v = .non) = isNon d := by
  cases d with
  | non => simp only [Pk, Rep] at h; subst h; rfl
  | bl _ => simp only [Pk, Rep] at h; subst h; rfl
  | int _ => simp only [Pk, Rep] at h; subst h; rfl
  | str _ => simp only [Pk, Rep] at h; subst h; rfl
  | res => exact absurd rfl hr
  | tup _ => simp only [Pk, Rep] at h; obtain ⟨a, xs, rfl, _⟩ := h; rfl
  | lst _ => simp only [Pk] at h; obtain ⟨a, xs, rfl, _⟩ := h; rfl
def fIs (neg : Bool) : D → D → Option R
  | .res, _ => none
  | d, .non => some (.val (.bl (if neg then !isNon d else isNon d)))
  | _, _ => none
theorem ok_is : Ok2 (fun x y H Q => y = .non ∧ Q (.bl (decide (x = .non))) H) (fIs false) := fun H F rv x y d e res Q hx hy he k => by
  unfold fIs at he
  split at he
  · cases he
  · rename_i hr
    simp only [Option.some.injEq] at he
    subst he
    refine ⟨by simpa [Pk, Rep] using hy, ?_⟩
    rw [pk_non (fun z => hr z) hx]
    exact k _ _ (.same (by simp [Rep]))
  · cases he
theorem ok_isnot : Ok2 (fun x y H Q => y = .non ∧ Q (.bl (!decide (x = .non))) H) (fIs true) := fun H F rv x y d e res Q hx hy he k => by
  unfold fIs at he
  split at he
  · cases he
  · rename_i hr
    simp only [Option.some.injEq] at he
    subst he
    refine ⟨by simpa [Pk, Rep] using hy, ?_⟩
    rw [pk_non (fun z => hr z) hx]
    exact k _ _ (.same (by simp [Rep]))
  · cases he

/-! ### places, slices -/
def fIx : D → D → Option R
  | .lst ds, .int i => match atI ds i with
    | some d => some (.val d)
    | none => none
  | .tup ds, .int i => match atI ds i with
    | some d => some (.val d)
    | none => none
  | _, _ => none
theorem atI_rep {H : Hp} {F : Addr → Prop} {rv : V} {ds : List D} {xs : List V} {i : Int} {d : D} (h : RepL H F rv ds xs) (e : atI ds i = some d) : ∃ v, atI xs i = some v ∧ Rep H F rv d v := by
  unfold atI at e ⊢
  rw [h.length]
  cases q : ixN ds.length i with
  | none => rw [q] at e; cases e
  | some j =>
    rw [q] at e
    exact h.get (i := j) e
theorem ok_ix {K : PySem.W.Frag} : Ok2 (rIx K) fIx := fun H F rv x y d e res Q hx hy he k => by
  unfold fIx at he
  split at he
  · rename_i ds i
    split at he
    · rename_i d' q
      simp only [Option.some.injEq] at he
      subst he
      obtain ⟨a, xs, rfl, ha, hl⟩ := hx
      obtain ⟨v, e1, hv⟩ := atI_rep hl q
      exact .inl ⟨a, xs, i, v, rfl, pk_i hy, SqL.of ha, e1, k _ _ (.same hv)⟩
    · cases he
  · rename_i ds i
    split at he
    · rename_i d' q
      simp only [Option.some.injEq] at he
      subst he
      simp only [Pk, Rep] at hx
      obtain ⟨a, xs, rfl, ha, _, hl⟩ := hx
      obtain ⟨v, e1, hv⟩ := atI_rep hl q
      exact .inr (.inl ⟨a, xs, i, v, rfl, pk_i hy, SqT.of ha, e1, k _ _ (.same hv)⟩)
    · cases he
  · cases he
def cutD (xs : List D) (lo hi : Option Int) : List D := (xs.drop (HT.sIx xs.length 0 lo)).take (HT.sIx xs.length xs.length hi - HT.sIx xs.length 0 lo)
theorem cut_rep {H : Hp} {F : Addr → Prop} {rv : V} {ds : List D} {xs : List V} {lo hi : Option Int} (h : RepL H F rv ds xs) : RepL H F rv (cutD ds lo hi) (cutV xs lo hi) := by
  unfold cutD cutV
  rw [h.length]
  exact (h.drop _).take _
def fCut : D → Option Int → Option Int → Option R
  | .lst ds, lo, hi => some (.new (.lst (cutD ds lo hi)))
  | .tup ds, lo, hi => some (.val (.tup (cutD ds lo hi)))
  | _, _, _ => none
def rCut (K : PySem.W.Frag) : V → Option Int → Option Int → Hp → VK → Prop := fun x lo hi H Q => rSlL K x lo hi H Q ∨ rSlA K x lo hi H Q
theorem sl_cut {X : Cx} : SlR X (rCut X.K) := sl_list.or sl_tupA
theorem cut_all {ds : List D} {lo hi : Option Int} (h : HT.sIx ds.length 0 lo = 0 ∧ HT.sIx ds.length ds.length hi = ds.length) : cutD ds lo hi = ds := by
  unfold cutD
  rw [h.1, h.2]
  simp
theorem ok_cut {K : PySem.W.Frag} : OkS (rCut K) fCut := fun H F rv x d lo hi res Q hx he k => by
  unfold fCut at he
  split at he
  · rename_i ds
    simp only [Option.some.injEq] at he
    subst he
    obtain ⟨a, xs, rfl, ha, hl⟩ := hx
    exact .inl ⟨a, xs, rfl, SqL.of ha, fun p hp => k _ _ (.lst hp (cut_rep hl))⟩
  · rename_i ds
    simp only [Option.some.injEq] at he
    subst he
    have hx' := hx
    simp only [Pk, Rep] at hx
    obtain ⟨a, xs, rfl, ha, hf, hl⟩ := hx
    refine .inr ⟨a, xs, rfl, SqT.of ha, fun hw => ?_, fun _ p hp => k _ _ (.tup hp (cut_rep hl))⟩
    rw [hl.length] at hw
    rw [cut_all hw] at k
    exact k _ _ (.same hx')
  · cases he

/-! ### + of lists, of tuples, of whole numbers -/
def fAdd : D → D → Option R
  | .int i, .int j => some (.val (.int (i + j)))
  | .lst xs, .lst ys => if xs.length + ys.length ≤ line then some (.new (.lst (xs ++ ys))) else none
  | .tup xs, .tup ys => if xs.length + ys.length ≤ line then some (.val (.tup (xs ++ ys))) else none
  | _, _ => none
def rAddA (K : PySem.W.Frag) : R2 := fun x y H Q => (rI0 fun i j => .int (i + j)) x y H Q ∨ rCat x y H Q ∨ rCatA K x y H Q
theorem op_addA {X : Cx} : OpR X (binaryOp .Add) (rAddA X.K) := op_add.or (op_cat.or op_catA)
theorem ok_add {K : PySem.W.Frag} : Ok2 (rAddA K) fAdd := fun H F rv x y d e res Q hx hy he k => by
  unfold fAdd at he
  split at he
  · rename_i i j
    simp only [Option.some.injEq] at he
    subst he
    exact .inl ⟨i, j, pk_i hx, pk_i hy, k _ _ (.same (by simp [Rep]))⟩
  · rename_i ds es
    split at he
    · rename_i hl
      simp only [Option.some.injEq] at he
      subst he
      obtain ⟨a, xs, rfl, ha, hxs⟩ := hx
      obtain ⟨b, ys, rfl, hb, hys⟩ := hy
      exact .inr (.inl ⟨a, b, xs, ys, rfl, rfl, ha, hb, by rw [hxs.length, hys.length, ← line_eq]; exact hl, fun p hp => k _ _ (.lst hp (hxs.append hys))⟩)
    · cases he
  · rename_i ds es
    split at he
    · rename_i hl
      simp only [Option.some.injEq] at he
      subst he
      have hx' := hx
      have hy' := hy
      simp only [Pk, Rep] at hx hy
      obtain ⟨a, xs, rfl, ha, _, hxs⟩ := hx
      obtain ⟨b, ys, rfl, hb, _, hys⟩ := hy
      have lx := hxs.length
      have ly := hys.length
      refine .inr (.inr ⟨a, b, xs, ys, rfl, rfl, SqT.of ha, SqT.of hb, by rw [lx, ly, ← line_eq]; exact hl, fun h0 => ?_, fun _ h0 => ?_, fun _ _ p hp => k _ _ (.tup hp (hxs.append hys))⟩)
      · subst h0
        have : ds = [] := List.length_eq_zero_iff.mp lx.symm
        subst this
        exact k _ _ (.same hy')
      · subst h0
        have : es = [] := List.length_eq_zero_iff.mp ly.symm
        subst this
        rw [List.append_nil] at k
        exact k _ _ (.same hx')
    · cases he
  · cases he

/-! ### built-in functions -/
theorem pkl1 {H : Hp} {F : Addr → Prop} {rv : V} {d : D} {vs : List V} (h : PkL H F rv [d] vs) : ∃ v, vs = [v] ∧ Pk H F rv d v := by
  obtain ⟨v, r, e, h1, h2⟩ := h
  cases h2
  exact ⟨v, e, h1⟩
theorem pkl2 {H : Hp} {F : Addr → Prop} {rv : V} {d d2 : D} {vs : List V} (h : PkL H F rv [d, d2] vs) : ∃ v w, vs = [v, w] ∧ Pk H F rv d v ∧ Pk H F rv d2 w := by
  obtain ⟨v, r, e, h1, w, r2, e2, h2, h3⟩ := h
  cases h3
  subst e2
  exact ⟨v, w, e, h1, h2⟩
def fLen : List D → Option R
  | [.lst ds] => some (.val (.int (ds.length : Int)))
  | [.tup ds] => some (.val (.int (ds.length : Int)))
  | [.str x] => if x.length ≤ line then some (.val (.int (x.length : Int))) else none
  | _ => none
theorem ok_len {K : PySem.W.Frag} : OkC (fun xs H Q => ∃ x n, xs = [x] ∧ LenV K x H n ∧ Q (.int n) H) fLen := fun H F rv xs ds res Q hx he k => by
  unfold fLen at he
  split at he
  · rename_i ds
    simp only [Option.some.injEq] at he
    subst he
    obtain ⟨v, rfl, a, xs, rfl, ha, hl⟩ := pkl1 hx
    exact ⟨.ref a, ds.length, rfl, .inl ⟨xs, SqL.of ha, hl.length.symm⟩, k _ _ (.same (by simp [Rep]))⟩
  · rename_i ds
    simp only [Option.some.injEq] at he
    subst he
    obtain ⟨v, rfl, h⟩ := pkl1 hx
    simp only [Pk, Rep] at h
    obtain ⟨a, xs, rfl, ha, _, hl⟩ := h
    exact ⟨.ref a, ds.length, rfl, .inr ⟨xs, SqT.of ha, hl.length.symm⟩, k _ _ (.same (by simp [Rep]))⟩
  · rename_i x
    split at he
    · rename_i hl
      simp only [Option.some.injEq] at he
      subst he
      obtain ⟨v, rfl, h⟩ := pkl1 hx
      simp only [Pk, Rep] at h
      subst h
      exact ⟨.str x, x.length, rfl, ⟨by rw [← line_eq]; exact hl, rfl⟩, k _ _ (.same (by simp [Rep]))⟩
    · cases he
  · cases he
def fInt : List D → Option R
  | [.int i] => some (.val (.int i))
  | [.bl b] => some (.val (.int (if b then 1 else 0)))
  | _ => none
theorem ok_int : OkC (fun xs H Q => (∃ i, xs = [.int i] ∧ Q (.int i) H) ∨ ∃ k, xs = [.bl k] ∧ Q (.int (if k then 1 else 0)) H) fInt := fun H F rv xs ds res Q hx he k => by
  unfold fInt at he
  split at he
  · rename_i i
    simp only [Option.some.injEq] at he
    subst he
    obtain ⟨v, rfl, h⟩ := pkl1 hx
    simp only [Pk, Rep] at h
    subst h
    exact .inl ⟨i, rfl, k _ _ (.same (by simp [Rep]))⟩
  · rename_i b
    simp only [Option.some.injEq] at he
    subst he
    obtain ⟨v, rfl, h⟩ := pkl1 hx
    simp only [Pk, Rep] at h
    subst h
    exact .inr ⟨b, rfl, k _ _ (.same (by simp [Rep]))⟩
  · cases he
def fAbs : List D → Option R
  | [.int i] => some (.val (.int (if i < 0 then -i else i)))
  | _ => none
theorem ok_abs : OkC (fun xs H Q => ∃ i, xs = [.int i] ∧ Q (.int (if i < 0 then -i else i)) H) fAbs := fun H F rv xs ds res Q hx he k => by
  unfold fAbs at he
  split at he
  · rename_i i
    simp only [Option.some.injEq] at he
    subst he
    obtain ⟨v, rfl, h⟩ := pkl1 hx
    simp only [Pk, Rep] at h
    subst h
    exact ⟨i, rfl, k _ _ (.same (by simp [Rep]))⟩
  · cases he
def fMax2 : List D → Option R
  | [.int i, .int j] => some (.val (.int (if j > i then j else i)))
  | _ => none
def fMin2 : List D → Option R
  | [.int i, .int j] => some (.val (.int (if j < i then j else i)))
  | _ => none
theorem ok_max2 : OkC (fun xs H Q => ∃ i j, xs = [.int i, .int j] ∧ Q (.int (if j > i then j else i)) H) fMax2 := fun H F rv xs ds res Q hx he k => by
  unfold fMax2 at he
  split at he
  · rename_i i j
    simp only [Option.some.injEq] at he
    subst he
    obtain ⟨v, w, rfl, h1, h2⟩ := pkl2 hx
    simp only [Pk, Rep] at h1 h2
    subst h1 h2
    exact ⟨i, j, rfl, k _ _ (.same (by simp [Rep]))⟩
  · cases he
theorem ok_min2 : OkC (fun xs H Q => ∃ i j, xs = [.int i, .int j] ∧ Q (.int (if j < i then j else i)) H) fMin2 := fun H F rv xs ds res Q hx he k => by
  unfold fMin2 at he
  split at he
  · rename_i i j
    simp only [Option.some.injEq] at he
    subst he
    obtain ⟨v, w, rfl, h1, h2⟩ := pkl2 hx
    simp only [Pk, Rep] at h1 h2
    subst h1 h2
    exact ⟨i, j, rfl, k _ _ (.same (by simp [Rep]))⟩
  · cases he
def fGcd : List D → Option R
  | [.int i, .int j] => some (.val (.int ((Nat.gcd i.natAbs j.natAbs : Nat) : Int)))
  | _ => none
theorem ok_gcd : OkC rGcd fGcd := fun H F rv xs ds res Q hx he k => by
  unfold fGcd at he
  split at he
  · rename_i i j
    simp only [Option.some.injEq] at he
    subst he
    obtain ⟨v, w, rfl, h1, h2⟩ := pkl2 hx
    simp only [Pk, Rep] at h1 h2
    subst h1 h2
    exact ⟨i, j, rfl, k _ _ (.same (by simp [Rep]))⟩
  · cases he
def fTuple : List D → Option R
  | [.lst ds] => some (.val (.tup ds))
  | [.tup ds] => some (.val (.tup ds))
  | _ => none
theorem ok_tuple {K : PySem.W.Frag} : OkC (fun xs H Q => ∃ p ys, xs = [.ref p] ∧ ((SqL K H p ys ∧ ∀ l, H l = none → Q (.ref l) (upd H l (.tup ys))) ∨ (SqT K H p ys ∧ Q (.ref p) H))) fTuple := fun H F rv xs ds res Q hx he k => by
  unfold fTuple at he
  split at he
  · rename_i ds
    simp only [Option.some.injEq] at he
    subst he
    obtain ⟨v, rfl, a, xs, rfl, ha, hl⟩ := pkl1 hx
    exact ⟨a, xs, rfl, .inl ⟨SqL.of ha, fun p hp => k _ _ (.tup hp hl)⟩⟩
  · rename_i ds
    simp only [Option.some.injEq] at he
    subst he
    obtain ⟨v, rfl, h⟩ := pkl1 hx
    have h' := h
    simp only [Pk, Rep] at h
    obtain ⟨a, xs, rfl, ha, _, hl⟩ := h
    exact ⟨a, xs, rfl, .inr ⟨SqT.of ha, k _ _ (.same h')⟩⟩
  · cases he
def fList : List D → Option R
  | [.lst ds] => some (.new (.lst ds))
  | [.tup ds] => some (.new (.lst ds))
  | _ => none
theorem ok_list {K : PySem.W.Frag} : OkC (fun xs H Q => ∃ p ys, xs = [.ref p] ∧ (SqL K H p ys ∨ SqT K H p ys) ∧ ∀ l, H l = none → Q (.ref l) (upd H l (.lst ys))) fList := fun H F rv xs ds res Q hx he k => by
  unfold fList at he
  split at he
  · rename_i ds
    simp only [Option.some.injEq] at he
    subst he
    obtain ⟨v, rfl, a, xs, rfl, ha, hl⟩ := pkl1 hx
    exact ⟨a, xs, rfl, .inl (SqL.of ha), fun p hp => k _ _ (.lst hp hl)⟩
  · rename_i ds
    simp only [Option.some.injEq] at he
    subst he
    obtain ⟨v, rfl, h⟩ := pkl1 hx
    simp only [Pk, Rep] at h
    obtain ⟨a, xs, rfl, ha, _, hl⟩ := h
    exact ⟨a, xs, rfl, .inr (SqT.of ha), fun p hp => k _ _ (.lst hp hl)⟩
  · cases he
/-- isinstance(x, T) -/
def isi (T : String) : D → Option Bool
  | .non => kitB "NoneType" T
  | .bl _ => kitB "bool" T
  | .int _ => kitB "int" T
  | .str _ => kitB "str" T
  | .tup _ => kitB "tuple" T
  | .lst _ => kitB "list" T
  | .res => none
def fIsi (T : String) (d : D) : Option R := match isi T d with
  | some b => some (.val (.bl b))
  | none => none
theorem isi_ok {K : PySem.W.Frag} {H : Hp} {F : Addr → Prop} {rv v : V} {d : D} {T : String} {b : Bool} (h : Pk H F rv d v) (e : isi T d = some b) : ∃ t, TyX K H v (.type t) ∧ kitB t T = some b := by
  cases d with
  | non => simp only [Pk, Rep] at h; subst h; exact ⟨_, .base .non, e⟩
  | bl x => simp only [Pk, Rep] at h; subst h; exact ⟨_, .base (.bl x), e⟩
  | int x => simp only [Pk, Rep] at h; subst h; exact ⟨_, .base (.int x), e⟩
  | str x => simp only [Pk, Rep] at h; subst h; exact ⟨_, .base (.str x), e⟩
  | res => cases e
  | tup ds => simp only [Pk, Rep] at h; obtain ⟨a, xs, rfl, ha, _⟩ := h; exact ⟨_, .base (.tup ha), e⟩
  | lst ds => simp only [Pk] at h; obtain ⟨a, xs, rfl, ha, _⟩ := h; exact ⟨_, .base (.lst ha), e⟩
section
variable {X : Cx}
theorem se_isi {T : Str} {Ts : String} {e : Expr} {a : Mn β R} {p p2 pos : Pos} (hg : Gl X "isinstance") (hm : X.mg "isinstance" = none) (hg2 : Gl X T) (hm2 : X.mg T = none) (hv : bootBuiltins T = some (.type Ts)) (ha : PE X e (tE a)) (hn : T ≠ "__name__" := by decide) (hd : (T == ("__debug__" : Str)) = false := by decide)
    (he : starEach [e, .Name T p2] X.env = (false, eval e X.env) :: starEach [.Name T p2] X.env := by rfl) (hpl : (backTo pos (starEach [.Name T p2] X.env)).any (·.1) = false := by rfl) :
    PE X (.Call (.Name "isinstance" p) [e, .Name T p2] [] pos) (tE (mOp1 (fIsi Ts) a)) := by
  refine peI (pe_callB call_isi hg hm (by decide +kernel) (pa_cons ha (pa_cons (pe_bltn (v := .ty Ts) hg2 hm2 hv rfl hn hd) pa_nil) he) (by decide) (by decide) he hpl) fun σ H Q q => ?_
  obtain ⟨c, F, st, res, st', rl, e, k⟩ := q
  obtain ⟨r1, s1, e1, e⟩ := mBind_some e
  refine ⟨c, F, st, r1, s1, rl, e1, fun x H1 F1 t1 h1 => ?_⟩
  cases p1 : pk r1 s1 with
  | none => rw [p1] at e; cases e
  | some d1 =>
    rw [p1] at e
    simp only [fIsi] at e
    cases p3 : isi Ts d1 with
    | none => rw [p3] at e; cases e
    | some b =>
      rw [p3] at e
      simp only [Option.some.injEq, Prod.mk.injEq] at e
      obtain ⟨rfl, rfl⟩ := e
      obtain ⟨t, ty, hk⟩ := isi_ok (K := X.K) (pk_ok t1.rel h1 p1) p3
      exact ⟨x, .ty Ts, .type t, .type Ts, b, rfl, .ty Ts, ty, kit_ty hk, k _ H1 F1 t1 rr_bl⟩
/-- list(range(n)), list(range(a, b)) -/
noncomputable def lrOk (a b : Int) : Bool := rgOk a && rgOk b && decide ((b - a).toNat ≤ 16777216)
noncomputable def mLR1 (a : Mn β R) : Mn β R := mBind a fun r st => match r with
  | .val (.int n) => if lrOk 0 n = true then some (.new (.lst (rgL 0 n.toNat)), st) else none
  | _ => none
theorem rgV_rep {H : Hp} {F : Addr → Prop} {rv : V} {a b : Int} : RepL H F rv (rgL a (b - a).toNat) (rgV a b) := by
  unfold rgL rgV
  have : ∀ l : List Nat, RepL H F rv (l.map fun (i : Nat) => D.int (a + (i : Int))) (l.map fun (i : Nat) => V.int (a + (i : Int))) := by
    intro l
    induction l with
    | nil => exact .nil
    | cons x l ih => exact .cons (by simp [Rep]) ih
  exact this _
theorem se_lr1 {e : Expr} {a : Mn β R} {p p2 pos pos2 : Pos} (hc : X.calm = true) (hg : Gl X "list") (hm : X.mg "list" = none) (hg2 : Gl X "range") (hm2 : X.mg "range" = none) (ha : PE X e (tE a))
    (na : starEach [e] X.env = (false, eval e X.env) :: starEach [] X.env := by rfl) (na2 : starEach [.Call (.Name "range" p2) [e] [] pos2] X.env = (false, eval (.Call (.Name "range" p2) [e] [] pos2) X.env) :: starEach [] X.env := by rfl) :
    PE X (.Call (.Name "list" p) [.Call (.Name "range" p2) [e] [] pos2] [] pos) (tE (mLR1 a)) := by
  refine peI (pe_listRg hc hg hm (prg_1 hg2 hm2 ha na) na2) fun σ H Q q => ?_
  obtain ⟨c, F, st, res, st', rl, e, k⟩ := q
  obtain ⟨r1, s1, e1, e⟩ := mBind_some e
  refine ⟨c, F, st, r1, s1, rl, e1, fun x H1 F1 t1 h1 => ?_⟩
  split at e
  · rename_i n
    split at e
    · rename_i hl
      simp only [Option.some.injEq, Prod.mk.injEq] at e
      obtain ⟨rfl, rfl⟩ := e
      have h1' : Rep H1 F1 c.R.val (.int n) x := h1
      simp only [Rep] at h1'
      unfold lrOk at hl
      rw [Bool.and_eq_true, Bool.and_eq_true] at hl
      obtain ⟨⟨g1, g2⟩, g3⟩ := hl
      refine ⟨n, h1', ⟨(rgOk_iff g1).1, (rgOk_iff g1).2, (rgOk_iff g2).1, (rgOk_iff g2).2, of_decide_eq_true g3⟩, fun p hp => ?_⟩
      have h0 : (n - 0).toNat = n.toNat := by rw [Int.sub_zero]
      obtain ⟨F3, t3, h3⟩ := out_ok t1.rel (Out.lst (rv := c.R.val) (ds := rgL 0 n.toNat) hp (by rw [← h0]; exact rgV_rep))
      exact k _ _ F3 (t1.trans t3) (h3.hs fun x hx => t1.gone hx)
    · cases e
  · cases e

/-! ### calls by keywords -/
def pickL {α : Type} (is : List Nat) (xs : List α) : List α := is.filterMap fun i => xs[i]?
theorem pick_args {foot : Addr → Prop} {rv : V} {H : Hp} {F : Addr → Prop} {as : List Sl} {vs : List V} (h : ArgRs foot rv H F as vs) : ∀ is : List Nat, ArgRs foot rv H F (pickL is as) (pickL is vs)
  | [] => rfl
  | i :: is => by
    have ih := pick_args h is
    unfold pickL at ih ⊢
    cases q : as[i]? with
    | none =>
      have : vs[i]? = none := by
        rw [List.getElem?_eq_none_iff] at q ⊢
        rw [h.length]
        exact q
      rw [List.filterMap_cons_none q, List.filterMap_cons_none this]
      exact ih
    | some s =>
      obtain ⟨v, e, hv⟩ := h.get q
      rw [List.filterMap_cons_some q, List.filterMap_cons_some e]
      exact ⟨v, _, rfl, hv, ih⟩
theorem pick_vals {vs : List V} {us : List Value} (h : Vals vs us) : ∀ is : List Nat, Vals (pickL is vs) (pickL is us)
  | [] => .nil
  | i :: is => by
    have ih := pick_vals h is
    unfold pickL at ih ⊢
    cases q : vs[i]? with
    | none =>
      rw [List.filterMap_cons_none q, List.filterMap_cons_none (h.none_of q)]
      exact ih
    | some s =>
      obtain ⟨v, e, hv⟩ := h.get q
      rw [List.filterMap_cons_some q, List.filterMap_cons_some e]
      exact .cons hv ih
theorem kbn_of {K : PySem.W.Frag} {x qual : Str} {st : Stmt} {f : Addr} {fd : FuncData} {ps ks : List Str} {n : Nat} (F : Fun K x qual st f fd) (is : List Nat)
    (h : ∀ (kV doc pm : Value) (an : Option Addr) (cdv ct : Value) (us ws : List Value), us.length = n → ws.length = ks.length → bindArgs (PySem.W.fnOf x qual (defArgs st) (defBody st) (defScope st) .none kV doc pm an cdv ct) ⟨us, ks.zip ws⟩ = pure (ps.zip (pickL is (us ++ ws)))) :
    KBn K fd ps n ks (fun us ws => pickL is (us ++ ws)) (fun vs zs => pickL is (vs ++ zs)) := by
  obtain ⟨oc, od, kV, doc, pm, an, cdv, ct, osl, rfl, lk, hcd⟩ := F.ex
  exact ⟨fun s us ws _ h1 h2 => .of_eq (h kV doc pm an cdv ct us ws h1 h2), fun r z => pick_vals (r.append z) is⟩
theorem pe_callN0 {CX : CXT} {k n : Nat} {f : Addr} {fd : FuncData} {ps ks : List Str} {sp : Sp} {E : XK} {x : Str} {p pos : Pos} {kws : List Keyword} {tk : TA} {g : List Value → List Value → List Value} {gV : List V → List V → List V}
    (F : FnOk X.prog X.w X.K X.mg X.base CX k f fd ps sp) (hr : Room k X.A) (hg : Gl X x) (hm : X.mg x = some (.ref f)) (hk : PySem.W.keepIn X.K (.ref f) = true) (hb : KBn X.K fd ps 0 ks g gV) (hx : Passes CX X E)
    (hkw : PK X kws tk) (hall : (backToKw pos (keywordEach kws X.env)).all (·.1.isSome) = true := by rfl) (hks : (backToKw pos (keywordEach kws X.env)).filterMap (·.1) = ks := by rfl)
    (hdb : (x == ("__debug__" : Str)) = false := by decide)
    (hpl : ((backTo pos (starEach [] X.env)).any (·.1) || (backToKw pos (keywordEach kws X.env)).any (·.1.isNone)) = false := by rfl) :
    PE X (.Call (.Name x p) [] kws pos) (tCallN 0 ks.length sp gV E tNil tk) := by
  refine ⟨fun pins s σ H Q I h => ?_⟩
  refine wpAny_Call_Name_kw (ld_glob I hg hm ?_ hdb)
  refine PySem.W.callWith_KW0 (h₀ := X.base) I.ok.mod.kin hk hall (thn (hkw.run pos pins s σ H _ I h) fun ws s2 ⟨zs, H2, I2, rz, l1, l2, q2⟩ => ⟨I2.kIn, ?_⟩) hpl
  rw [hks]
  exact run_fnN F hr hb hx I2 .nil rz l1 l2 q2
/-- n positional, m keyword arguments -/
def mCallK (f : Fn β) (is : List Nat) (n m : Nat) (a k : Mn β (List R)) : Mn β R := mBind a fun rs => mBind k fun ks st => if rs.length = n ∧ ks.length = m then (match toSlL (rs ++ ks) st with
  | none => none
  | some args => match f (pickL is args) st.bag with
    | none => none
    | some (r, b) => some (r, { st with bag := b })) else none
theorem RepRs.length {c : C β} {σ : L2.St} {Hs : Hp} {F : Addr → Prop} {H : Hp} {st : Sta β} : ∀ {rs : List R} {vs : List V}, RepRs c σ Hs F H st rs vs → vs.length = rs.length
  | [], _, h => by cases h; rfl
  | _ :: _, _, h => by
    obtain ⟨v, t, e, _, h2⟩ := h
    subst e
    simp [RepRs.length h2]
theorem RepRs.app {c : C β} {σ : L2.St} {Hs : Hp} {F : Addr → Prop} {H : Hp} {st : Sta β} : ∀ {rs ks : List R} {vs zs : List V}, RepRs c σ Hs F H st rs vs → RepRs c σ Hs F H st ks zs → RepRs c σ Hs F H st (rs ++ ks) (vs ++ zs)
  | [], _, _, _, h, g => by cases h; exact g
  | _ :: _, _, _, _, h, g => by
    obtain ⟨v, t, e, h1, h2⟩ := h
    subst e
    exact ⟨v, _, rfl, h1, RepRs.app h2 g⟩
theorem callK_reads {f : Fn β} {is : List Nat} {n m : Nat} {ta tk : TA} {a k : Mn β (List R)} {E : XK} (ha : ∀ σ H Q, tRs a σ H Q → ta σ H Q) (hk : ∀ σ H Q, tRs k σ H Q → tk σ H Q) :
    ∀ σ H Q, tE (mCallK f is n m a k) σ H Q → tCallN n m (spF f) (fun vs zs => pickL is (vs ++ zs)) E ta tk σ H Q := fun σ H Q q => by
  obtain ⟨c, F, st, res, st', rl, e, g⟩ := q
  obtain ⟨rs, s1, e1, e⟩ := mBind_some e
  obtain ⟨ks, s2, e2, e⟩ := mBind_some e
  refine ha _ _ _ ⟨c, F, st, rs, s1, rl, e1, fun xs H1 F1 t1 h1 => ?_⟩
  refine hk _ _ _ ⟨c, F1, s1, ks, s2, t1.rel, e2, fun zs H2 F2 t2 h2 => ?_⟩
  split at e
  · rename_i hnm
    have hnf : ∀ x, H x = none → ¬ c.R.foot x := fun x => rl.nofoot
    have h1' := h1.stp t1.rel t2 hnf
    have h2' := h2.hs fun x hx => t1.gone hx
    refine ⟨by rw [h1.length]; exact hnm.1, by rw [h2.length]; exact hnm.2, ?_⟩
    cases p1 : toSlL (rs ++ ks) s2 with
    | none => rw [p1] at e; cases e
    | some args =>
      rw [p1] at e
      simp only at e
      cases p2 : f (pickL is args) s2.bag with
      | none => rw [p2] at e; cases e
      | some p =>
        rw [p2] at e
        simp only [Option.some.injEq, Prod.mk.injEq] at e
        obtain ⟨rfl, rfl⟩ := e
        refine ⟨c.R, F2, pickL is args, s2.bag, p.1, p.2, c.kd, t2.rel.fs, fun x h => t2.rel.f0 x (c.foot x h), t2.rel.bag, pick_args (toSlL_ok t2.rel hnf (h1'.app h2') p1) is, p2, fun v H3 k2 b2 r2 => ?_⟩
        obtain ⟨F3, t3, h3⟩ := call_ok t2.rel k2 b2 r2
        exact g v H3 F3 ((t1.trans t2).trans t3) (h3.hs fun x hx => (t1.trans t2).gone hx)
  · cases e
theorem sk_nil : PK X [] (tRs (mNil (β := β))) := pkI pk_nil fun σ H Q q => by
  obtain ⟨c, F, st, res, st', rl, e, k⟩ := q
  simp only [mNil, Option.some.injEq, Prod.mk.injEq] at e
  obtain ⟨rfl, rfl⟩ := e
  exact k [] H F (.refl rl) rfl
theorem sk_cons {nm : Option Str} {e : Expr} {kpos : Pos} {kws : List Keyword} {a : Mn β R} {b : Mn β (List R)} (ha : PE X e (tE a)) (hb : PK X kws (tRs b)) : PK X (⟨nm, e, kpos⟩ :: kws) (tRs (mCons a b)) :=
  pkI (pk_cons ha hb) (rs_reads (fun _ _ _ h => h) fun _ _ _ h => h)
theorem se_callK {k n m : Nat} {f : Addr} {fd : FuncData} {ps ks : List Str} {g : Fn β} {x : Str} {p pos : Pos} {e : Expr} {es : List Expr} {kws : List Keyword} {a b : Mn β (List R)} {is : List Nat} (G : FnOk X.prog X.w X.K X.mg X.base CX0 k f fd ps (spF g)) (hr : Room k X.A) (hg : Gl X x) (hm : X.mg x = some (.ref f)) (hk : PySem.W.keepIn X.K (.ref f) = true)
    (hb : KBn X.K fd ps n ks (fun us ws => pickL is (us ++ ws)) (fun vs zs => pickL is (vs ++ zs))) (ha : PA X (e :: es) (tRs a)) (hkw : PK X kws (tRs b)) (hlen : ks.length = m := by rfl) (hall : (backToKw pos (keywordEach kws X.env)).all (·.1.isSome) = true := by rfl) (hks : (backToKw pos (keywordEach kws X.env)).filterMap (·.1) = ks := by rfl)
    (hdb : (x == ("__debug__" : Str)) = false := by decide) (he : starEach (e :: es) X.env = (false, eval e X.env) :: starEach es X.env := by rfl)
    (hpl : ((backTo pos (starEach (e :: es) X.env)).any (·.1) || (backToKw pos (keywordEach kws X.env)).any (·.1.isNone)) = false := by rfl) :
    PE X (.Call (.Name x p) (e :: es) kws pos) (tE (mCallK g is n m a b)) := by
  subst hlen
  exact peI (pe_callN G hr hg hm hk hb pass0 ha hkw hall hks hdb he hpl) (callK_reads (fun _ _ _ h => h) fun _ _ _ h => h)
theorem se_callK0 {k m : Nat} {f : Addr} {fd : FuncData} {ps ks : List Str} {g : Fn β} {x : Str} {p pos : Pos} {kws : List Keyword} {b : Mn β (List R)} {is : List Nat} (G : FnOk X.prog X.w X.K X.mg X.base CX0 k f fd ps (spF g)) (hr : Room k X.A) (hg : Gl X x) (hm : X.mg x = some (.ref f)) (hk : PySem.W.keepIn X.K (.ref f) = true)
    (hb : KBn X.K fd ps 0 ks (fun us ws => pickL is (us ++ ws)) (fun vs zs => pickL is (vs ++ zs))) (hkw : PK X kws (tRs b)) (hlen : ks.length = m := by rfl) (hall : (backToKw pos (keywordEach kws X.env)).all (·.1.isSome) = true := by rfl) (hks : (backToKw pos (keywordEach kws X.env)).filterMap (·.1) = ks := by rfl)
    (hdb : (x == ("__debug__" : Str)) = false := by decide)
    (hpl : ((backTo pos (starEach [] X.env)).any (·.1) || (backToKw pos (keywordEach kws X.env)).any (·.1.isNone)) = false := by rfl) :
    PE X (.Call (.Name x p) [] kws pos) (tE (mCallK g is 0 m mNil b)) := by
  subst hlen
  exact peI (pe_callN0 (n := 0) G hr hg hm hk hb pass0 hkw hall hks hdb hpl) (callK_reads (fun σ H Q q => by
      obtain ⟨c, F, st, res, st', rl, e, k⟩ := q
      simp only [mNil, Option.some.injEq, Prod.mk.injEq] at e
      obtain ⟨rfl, rfl⟩ := e
      exact k [] H F (.refl rl) rfl) fun _ _ _ h => h)
end
end M

/-! MPar: a, b = x, y: new lists stay the names' own. -/
namespace M
open PySem PySem.Spec PyProof.Rows L2
variable {β : Type} [Kind β]
def mH (a : Mn β R) : Mn β R := mBind a fun r st => match r with
  | .at i => match toD (.at i) st with
    | some (d, st') => some (.val d, st')
    | none => none
  | r => some (r, st)
def noAt : List R → Bool
  | [] => true
  | .at _ :: _ => false
  | _ :: rs => noAt rs
def Apart : List R → List V → Prop
  | r :: rs, v :: vs => (∀ d, r = .new d → ∀ (j : Nat) (d' : D) (v' : V), rs[j]? = some (.new d') → vs[j]? = some v' → v' ≠ v) ∧ Apart rs vs
  | _, _ => True
theorem noAt_ne {r : R} {rs : List R} (h : noAt (r :: rs) = true) : (∀ k, r ≠ .at k) ∧ noAt rs = true := by
  cases r with
  | val d => exact ⟨fun _ z => (nomatch z), h⟩
  | new d => exact ⟨fun _ z => (nomatch z), h⟩
  | «at» k => exact (Bool.noConfusion h)
section
variable {c : C β} {F F' : Addr → Prop} {st st' : Sta β} {σ σ' : L2.St} {H H' Hs : Hp}
theorem RepRs.get : ∀ {rs : List R} {vs : List V}, RepRs c σ Hs F H st rs vs → ∀ {i : Nat} {r : R}, rs[i]? = some r → ∃ v, vs[i]? = some v ∧ RepR c σ Hs F H st r v
  | [], _, _, _, _, e => by simp at e
  | x :: rs, _, h, i, r, e => by
    obtain ⟨v, t, ev, h1, h2⟩ := h
    subst ev
    cases i with
    | zero =>
      have e2 : x = r := Option.some.inj e
      subst e2
      exact ⟨v, rfl, h1⟩
    | succ i => exact RepRs.get h2 (i := i) e
end
def tRa (m : Mn β (List R)) : TA := fun σ H Q => ∃ (c : C β) (F : Addr → Prop) (st : Sta β) (rs : List R) (st' : Sta β), Rel c F st σ H ∧ m st = some (rs, st') ∧
  ∀ vs H' F', Stp c σ F st H F' st' H' → RepRs c σ H F' H' st' rs vs → Apart rs vs → Q vs H'
section
variable {X : Cx}
theorem se_h {e : Expr} {a : Mn β R} (h : PE X e (tE a)) : PE X e (tE (mH a)) := peI h fun σ H Q q => by
  obtain ⟨c, F, st, res, st', rl, e, k⟩ := q
  obtain ⟨r, s1, e1, e⟩ := mBind_some e
  refine ⟨c, F, st, r, s1, rl, e1, fun v H1 F1 t1 h1 => ?_⟩
  cases r with
  | val d => simp only [Option.some.injEq, Prod.mk.injEq] at e; obtain ⟨rfl, rfl⟩ := e; exact k v H1 F1 t1 h1
  | new d => simp only [Option.some.injEq, Prod.mk.injEq] at e; obtain ⟨rfl, rfl⟩ := e; exact k v H1 F1 t1 h1
  | «at» i =>
    simp only at e
    cases q : toD (.at i) s1 with
    | none => rw [q] at e; cases e
    | some p =>
      rw [q] at e
      simp only [Option.some.injEq, Prod.mk.injEq] at e
      obtain ⟨rfl, rfl⟩ := e
      obtain ⟨F2, t2, hd⟩ := toD_ok rl t1 h1 q
      exact k v H1 F2 t2 hd
theorem sra_nil : PA X [] (tRa (mNil (β := β))) := paI pa_nil fun σ H Q q => by
  obtain ⟨c, F, st, res, st', rl, e, k⟩ := q
  simp only [mNil, Option.some.injEq, Prod.mk.injEq] at e
  obtain ⟨rfl, rfl⟩ := e
  exact k [] H F (.refl rl) rfl trivial
theorem sra_cons {e : Expr} {es : List Expr} {a : Mn β R} {b : Mn β (List R)} (ha : PE X e (tE a)) (hb : PA X es (tRa b)) (hs : starEach (e :: es) X.env = (false, eval e X.env) :: starEach es X.env := by rfl) : PA X (e :: es) (tRa (mCons (mH a) b)) := by
  refine paI (pa_cons (se_h ha) hb hs) fun σ H Q q => ?_
  obtain ⟨c, F, st, res, st', rl, e, k⟩ := q
  obtain ⟨r1, s1, e1, e⟩ := mBind_some e
  obtain ⟨rs, s2, e2, e⟩ := mBind_some e
  simp only [Option.some.injEq, Prod.mk.injEq] at e
  obtain ⟨rfl, rfl⟩ := e
  refine ⟨c, F, st, r1, s1, rl, e1, fun x H1 F1 t1 h1 => ?_⟩
  refine ⟨c, F1, s1, rs, s2, t1.rel, e2, fun xs H2 F2 t2 h2 ap => ?_⟩
  refine k (x :: xs) H2 F2 (t1.trans t2) ⟨x, xs, rfl, h1.stp t1.rel t2 (fun x => rl.nofoot), h2.hs fun x hx => t1.gone hx⟩ ⟨fun d ed j d' v' ej ev z => ?_, ap⟩
  subst ed
  obtain ⟨a, ea, ho, _⟩ := h1
  obtain ⟨w, ew, b, eb, _, _, hn, _⟩ := RepRs.get h2 ej
  rw [ev] at ew
  cases ew
  rw [z, ea] at eb
  cases eb
  obtain ⟨o, q⟩ := ho.there
  rw [hn] at q
  cases q
end
def setL : List Nat → List R → Sta β → Option (Sta β)
  | i :: is, r :: rs, st => match setSl i r st with
    | some st1 => setL is rs st1
    | none => none
  | [], [], st => some st
  | _, _, _ => none
def sigL : L2.St → List Nat → List V → L2.St
  | σ, i :: is, v :: vs => sigL (σ.set i (some v)) is vs
  | σ, _, _ => σ
theorem setL_ok {c : C β} {F : Addr → Prop} {H Hs : Hp} (hs : ∀ x, Hs x = none → c.H0 x = none) : ∀ {is : List Nat} {rs : List R} {vs : List V} {st st' : Sta β} {σ : L2.St}, Rel c F st σ H → RepRs c σ Hs F H st rs vs → Apart rs vs → noAt rs = true → setL is rs st = some st' →
    is.length = rs.length ∧ Rel c F st' (sigL σ is vs) H
  | [], [], vs, st, st', σ, rl, _, _, _, e => by
    simp only [setL, Option.some.injEq] at e
    subst e
    exact ⟨rfl, by cases vs <;> exact rl⟩
  | [], _ :: _, _, _, _, _, _, _, _, _, e => by simp [setL] at e
  | _ :: _, [], _, _, _, _, _, _, _, _, e => by simp [setL] at e
  | i :: is, r :: rs, vs, st, st', σ, rl, hr, ap, na, e => by
    obtain ⟨v, t, ev, h1, h2⟩ := hr
    subst ev
    obtain ⟨nat, na2⟩ := noAt_ne na
    simp only [setL] at e
    cases q : setSl i r st with
    | none => rw [q] at e; cases e
    | some s1 =>
      rw [q] at e
      have env1 := setSl_env nat q
      have r1 : Rel c F s1 (σ.set i (some v)) H := by
        cases r with
        | val d =>
          simp only [setSl, Option.some.injEq] at q
          subst q
          exact rl.set ⟨v, rfl, h1⟩ (fun _ z => nomatch z)
        | new d =>
          simp only [setSl, Option.some.injEq] at q
          subst q
          obtain ⟨a, ea, ho, hf, hn, hw⟩ := h1
          subst ea
          exact rl.set ⟨a, rfl, ho, hf, hs a hn⟩ (fun _ _ b eb => by cases eb; exact hw)
        | «at» k => exact absurd rfl (nat k)
      have h2' : RepRs c (σ.set i (some v)) Hs F H s1 rs t := by
        have : ∀ (rs' : List R) (t' : List V), RepRs c σ Hs F H st rs' t' → noAt rs' = true → (∀ d, r = .new d → ∀ (j : Nat) (d' : D) (v' : V), rs'[j]? = some (.new d') → t'[j]? = some v' → v' ≠ v) → RepRs c (σ.set i (some v)) Hs F H s1 rs' t' := by
          intro rs'
          induction rs' with
          | nil => intro t' h _ _; exact h
          | cons x rs' ih =>
            intro t' h hna hap
            obtain ⟨u, t2, eu, g1, g2⟩ := h
            subst eu
            obtain ⟨hx, hna2⟩ := noAt_ne hna
            refine ⟨u, t2, rfl, ?_, ih t2 g2 hna2 fun d ed j d' v' ej ev => hap d ed (j + 1) d' v' ej ev⟩
            cases x with
            | val d => exact g1
            | «at» k => exact absurd rfl (hx k)
            | new d =>
              obtain ⟨a, ea, ho, hf, hn, hw⟩ := g1
              refine ⟨a, ea, ho, hf, hn, fun ⟨k, dk, hk, hσ⟩ => ?_⟩
              rw [env1] at hk
              by_cases e : i = k
              · subst e
                by_cases hl : i < st.env.length
                · rw [List.getElem?_set_self hl] at hk
                  have hlσ : i < σ.length := by have := rl.len; omega
                  rw [List.getElem?_set_self hlσ] at hσ
                  have hv : v = .ref a := by simpa using hσ
                  cases r with
                  | val d1 => simp [slOf] at hk
                  | new d1 => exact hap d1 rfl 0 d u rfl rfl (by rw [ea, hv])
                  | «at» k => exact absurd rfl (nat k)
                · rw [List.getElem?_eq_none (by simpa using hl)] at hk
                  cases hk
              · rw [List.getElem?_set_ne e] at hk hσ
                exact hw ⟨k, dk, hk, hσ⟩
        exact this rs t h2 na2 ap.1
      obtain ⟨l, r2⟩ := setL_ok hs r1 h2' ap.2 na2 e
      exact ⟨by simp [l], r2⟩
def gNs : List Nat → TGs
  | [] => gNil
  | i :: is => gCons (gName i) (gNs is)
theorem gNs_reads : ∀ {is : List Nat} {vs : List V} {σ : L2.St} {H : Hp} {Q : L2.St → Hp → Prop}, is.length = vs.length → Q (sigL σ is vs) H → gNs is vs σ H Q
  | [], [], _, _, _, _, q => ⟨rfl, q⟩
  | i :: is, v :: vs, _, _, _, h, q => ⟨v, vs, rfl, gNs_reads (by simpa using h) q⟩
def mPars (is : List Nat) (a : Mn β (List R)) : Ms β := mBind a fun rs st => if noAt rs = true then (match setL is rs st with
  | some st' => some (.nx, st')
  | none => none) else none
section
variable {X : Cx}
/-- by the tuple that is made and taken apart -/
theorem ss_parT {es ts : List Expr} {is : List Nat} {a : Mn β (List R)} {kt k2 : Nat} {pt pt2 pos : Pos} (hc : X.calm = true) (ha : PA X es (tRa a)) (hg : PGs X ts (gNs is)) (hl : is.length ≤ 1000) (hn : (assignEach ts X.env).length = is.length) (hst : (assignEach ts X.env).findIdx? (·.1) = none := by rfl)
    (hs : swapsWithSole [.Tuple ts kt pt] (.Tuple es k2 pt2) pos.line X.env = pure false := by rfl) (hw : swappedStores [.Tuple ts kt pt] (.Tuple es k2 pt2) X.env = pure none := by rfl)
    (h1 : (assignEach [.Tuple ts kt pt] X.env).map (·.2) = [assign (.Tuple ts kt pt) X.env] := by rfl) : PS X (.Assign [.Tuple ts kt pt] (.Tuple es k2 pt2) pos) (tSt (mPars is a)) := by
  refine psI (ps_asg (pe_tup ha) (pg_tup hc hg hn hst) hs hw h1) fun D σ H q => ?_
  obtain ⟨c, F, st, o, st', rl, e, g⟩ := q
  obtain ⟨rs, s1, e1, e⟩ := mBind_some e
  split at e
  · rename_i hna
    split at e
    · rename_i s2 q1
      simp only [Option.some.injEq, Prod.mk.injEq] at e
      obtain ⟨rfl, rfl⟩ := e
      refine ⟨c, F, st, rs, s1, rl, e1, fun vs H1 F1 t1 h1 ap => ?_⟩
      have hlen : is.length = rs.length := (setL_ok (fun x => rl.h0) t1.rel h1 ap hna q1).1
      have hvl := h1.length
      have hle : vs.length ≤ sizeLine := by rw [hvl, ← hlen]; exact Nat.le_of_lt (small1000 hl)
      refine ⟨hle, fun p hp => ?_⟩
      have t2 : Stp c σ F1 s1 H1 F1 s1 (upd H1 p (.tup vs)) := .grow t1.rel (upd_keep hp) (fun _ h => h) fun _ h => .inl h
      have h1' := h1.stp t1.rel t2 (fun x => rl.nofoot)
      have r3 := (setL_ok (fun x => rl.h0) t2.rel h1' ap hna q1).2
      exact ⟨p, vs, rfl, SqT.of upd_same, by rw [hvl, hlen], gNs_reads (by rw [hvl, hlen]) (g _ _ F1 r3 ((t1.trans t2).frs rl))⟩
    · cases e
  · cases e
theorem ss_par2 {i j : Nat} {x y : Str} {a b : Expr} {ma : Mn β (List R)} {px py pt pos : Pos} {kt k2 : Nat} {pt2 : Pos} (hc : X.calm = true) (hN : X.N.Nodup) (hi : X.N[i]? = some x) (hj : X.N[j]? = some y) (hij : i ≠ j) (hx : X.env.scope.names.lookup x = some .local) (hy : X.env.scope.names.lookup y = some .local)
    (ha : PA X [a, b] (tRa ma)) (hw : swappedStores [.Tuple [.Name x px, .Name y py] kt pt] (.Tuple [a, b] k2 pt2) X.env = pure (some [x, y])) (hs : swapsWithSole [.Tuple [.Name x px, .Name y py] kt pt] (.Tuple [a, b] k2 pt2) pos.line X.env = pure false := by rfl) :
    PS X (.Assign [.Tuple [.Name x px, .Name y py] kt pt] (.Tuple [a, b] k2 pt2) pos) (tSt (mPars [i, j] ma)) := by
  refine psI (ps_par hc hN hi hj hij hx hy ha hw hs) fun D σ H q => ?_
  obtain ⟨c, F, st, o, st', rl, e, g⟩ := q
  obtain ⟨rs, s1, e1, e⟩ := mBind_some e
  split at e
  · rename_i hna
    split at e
    · rename_i s2 q1
      simp only [Option.some.injEq, Prod.mk.injEq] at e
      obtain ⟨rfl, rfl⟩ := e
      refine ⟨c, F, st, rs, s1, rl, e1, fun vs H1 F1 t1 h1 ap => ?_⟩
      obtain ⟨hlen, r3⟩ := setL_ok (fun x => rl.h0) t1.rel h1 ap hna q1
      have hvl := h1.length
      obtain ⟨v, w, rfl⟩ : ∃ v w, vs = [v, w] := by
        match vs, hvl.trans hlen.symm with
        | [v, w], _ => exact ⟨v, w, rfl⟩
      exact ⟨v, w, rfl, g _ _ F1 r3 (t1.frs rl)⟩
    · cases e
  · cases e
end
end M

/-! MEnd: defs of a text with their meanings; the bag of draws. -/
namespace M
open PySem PySem.Spec PyProof.Rows L2
/-! ### more operations -/
theorem ok_mod : Ok2 (rI (fun _ j => 0 < j) fun i j => .int (i % j)) fMod := ok_I fun _ _ h => of_decide_eq_true h
theorem hu65 {k : Nat} {A : Around} (r : Room k A) : A.units + 65 < cLine := by have := r.un; omega

/-! ### defs -/
/-- the def x of the text stands behind the top -/
def Dn (K : PySem.W.Frag) (mg : Str → Option Value) (x : Str) (st : Stmt) : Prop := ∃ f fd, mg x = some (.ref f) ∧ Fun K x x st f fd
/-- .. and its meaning is F -/
def Ok {β : Type} [Kind β] (P : Program) (w : World) (K : PySem.W.Frag) (mg : Str → Option Value) (base : Heap) (k : Nat) (x : Str) (st : Stmt) (ps : List Str) (F : Fn β) : Prop :=
  ∃ f fd, mg x = some (.ref f) ∧ Fun K x x st f fd ∧ FnOk P w K mg base CX0 k f fd ps (spF F)
section
variable {β : Type} [Kind β] {P : Program} {w : World} {K : PySem.W.Frag} {mg : Str → Option Value} {base : Heap}
theorem Ok.zero {k : Nat} {x : Str} {st : Stmt} {ps : List Str} (d : Dn K mg x st) : Ok P w K mg base k x st ps (fun _ (_ : β) => none) := by
  obtain ⟨f, fd, g, F⟩ := d
  exact ⟨f, fd, g, F, fn_none⟩
theorem Ok.of {k : Nat} {x : Str} {st : Stmt} {N ps : List Str} {m : Ms β} (d : Dn K mg x st) (S : FnScope N ps (defScope st))
    (h : ∀ (f : Addr) (fd : FuncData) (cdv : Value) (A : Around) (outer : List Env) (s : Shared) (H : Hp) (E : XK), Room k (A.deeper (envOfC x (defScope st) s.heap.objs.size f cdv)) →
      PSs (cxOf CX0 P w K mg base N x (defScope st) f cdv A outer s H E).nox (defBody st) (tSt m)) : Ok P w K mg base (k + 1) x st ps (runF ps.length N.length m) := by
  obtain ⟨f, fd, g, F⟩ := d
  exact ⟨f, fd, g, F, fn_ok F S fun cdv A outer s H E hr => h f fd cdv A outer s H E hr⟩
end

/-- no resource -/
instance : Kind Unit := ⟨fun _ => True⟩
def noRes : Res Unit := ⟨.non, fun _ => False, fun _ _ => True, fun _ _ _ _ _ => trivial, fun _ _ _ _ h => h.elim⟩

/-! ### the bag -/
structure BagT where
  c0 : Int
  c1 : Int
  great : List Int
  cells : List Int
def bagL (b : BagT) (ag ac : Addr) : List V := [.int b.c0, .int b.c1, .ref ag, .ref ac]
def bagRes (ab ag ac : Addr) : Res BagT where
  val := .ref ab
  foot a := a = ab ∨ a = ag ∨ a = ac
  rel b H := H ab = some (.lst (bagL b ag ac)) ∧ H ag = some (.lst (b.great.map V.int)) ∧ H ac = some (.lst (b.cells.map V.int)) ∧ ab ≠ ag ∧ ag ≠ ac ∧ ab ≠ ac
  keep b H H' r k := ⟨k _ _ (.inl rfl) r.1, k _ _ (.inr (.inl rfl)) r.2.1, k _ _ (.inr (.inr rfl)) r.2.2.1, r.2.2.2⟩
  there b H a r h := by
    rcases h with h | h | h
    · subst h; exact ⟨_, r.1⟩
    · subst h; exact ⟨_, r.2.1⟩
    · subst h; exact ⟨_, r.2.2.1⟩
instance : Kind BagT := ⟨fun R => ∃ ab ag ac, R = bagRes ab ag ac⟩
/-- the great cell at hand, the great cells behind it -/
def drawA (b : BagT) : Int × List Int := if b.c0 = 0 ∧ 0 < b.great.length then (b.great.getD (b.great.length - 1) 0, b.great.dropLast) else (b.c0, b.great)
def mixed (cell c1 : Int) : Int := (cell * 48271 + c1 * 69621 + 1) % 2147483647
def drawN (b : BagT) (m : Int) : Int := (mixed (b.cells.getD ((b.c1 + 1) % (b.cells.length : Int)).toNat 0) (b.c1 + 1) * mixed (b.cells.getD ((b.c1 + 1) % (b.cells.length : Int)).toNat 0) (b.c1 + 1) + mixed (b.cells.getD ((b.c1 + 1) % (b.cells.length : Int)).toNat 0) (b.c1 + 1) * 16807 + (b.c1 + 1) * 40014) % 2147483629 / 32 % m
def draw (b : BagT) (m : Int) : Int × BagT := if 0 < (drawA b).1 then ((drawA b).1 % m, ⟨(drawA b).1 / m, b.c1 + 1, (drawA b).2, b.cells⟩) else (drawN b m, ⟨(drawA b).1, b.c1 + 1, (drawA b).2, b.cells⟩)
theorem draw_lt (b : BagT) {m : Int} (h : 0 < m) : 0 ≤ (draw b m).1 ∧ (draw b m).1 < m := by
  unfold draw
  split
  · exact ⟨Int.emod_nonneg _ (by omega), Int.emod_lt_of_pos _ h⟩
  · exact ⟨Int.emod_nonneg _ (by omega), Int.emod_lt_of_pos _ h⟩
theorem draw_cells (b : BagT) (m : Int) : (draw b m).2.cells = b.cells := by
  unfold draw
  split <;> rfl
def mOk (m : Int) : Bool := decide (0 < m) && decide (m.natAbs.log2 < 9000)
def F_draw : Fn BagT := fun args b => match args with
  | [.val .res, .val (.int m)] => if (mOk m && !b.cells.isEmpty) = true then some (.val (.int (draw b m).1), (draw b m).2) else none
  | _ => none
end M

/-! MPure: the meanings evaluated. -/
namespace M
open PySem L2
section
variable {β : Type} [Kind β] {α γ : Type}
@[simp] theorem mBind_ap (m : Mn β α) (k : α → Mn β γ) (st : Sta β) : mBind m k st = (m st).bind fun p => k p.1 p.2 := by
  unfold mBind
  cases m st <;> rfl
@[simp] theorem mC_ap (d : D) (st : Sta β) : mC d st = some (.val d, st) := rfl
@[simp] theorem mNil_ap (st : Sta β) : (mNil : Mn β (List α)) st = some ([], st) := rfl
@[simp] theorem mCons_ap (a : Mn β α) (b : Mn β (List α)) (st : Sta β) : mCons a b st = (a st).bind fun p => (b p.2).bind fun q => some (p.1 :: q.1, q.2) := by
  simp [mCons]
def slR : Option Sl → Nat → Option R
  | some (.val d), _ => some (.val d)
  | some (.own _), i => some (.at i)
  | some (.lock _), i => some (.at i)
  | _, _ => none
@[simp] theorem slR_val (d : D) (i : Nat) : slR (some (.val d)) i = some (.val d) := rfl
@[simp] theorem slR_own (d : D) (i : Nat) : slR (some (.own d)) i = some (.at i) := rfl
@[simp] theorem slR_lock (d : D) (i : Nat) : slR (some (.lock d)) i = some (.at i) := rfl
@[simp] theorem mV_ap (i : Nat) (st : Sta β) : mV i st = (slR st.env[i]? i).map fun r => (r, st) := by
  unfold mV slR
  cases st.env[i]? with
  | none => rfl
  | some s => cases s <;> rfl
def slD : Option Sl → Option D
  | some (.val d) => some d
  | some (.own d) => some d
  | some (.lock d) => some d
  | _ => none
@[simp] theorem slD_val (d : D) : slD (some (.val d)) = some d := rfl
@[simp] theorem slD_own (d : D) : slD (some (.own d)) = some d := rfl
@[simp] theorem slD_lock (d : D) : slD (some (.lock d)) = some d := rfl
@[simp] theorem pk_val (d : D) (st : Sta β) : pk (.val d) st = some d := rfl
@[simp] theorem pk_new (d : D) (st : Sta β) : pk (.new d) st = some d := rfl
@[simp] theorem pk_at (i : Nat) (st : Sta β) : pk (.at i) st = slD st.env[i]? := by
  simp only [pk]
  cases st.env[i]? with
  | none => rfl
  | some s => cases s <;> rfl
@[simp] theorem pkL_nil (st : Sta β) : pkL [] st = some [] := rfl
@[simp] theorem pkL_cons (r : R) (rs : List R) (st : Sta β) : pkL (r :: rs) st = (pk r st).bind fun d => (pkL rs st).bind fun ds => some (d :: ds) := by
  simp only [pkL]
  cases pk r st with
  | none => rfl
  | some d => cases pkL rs st <;> rfl
@[simp] theorem toD_val (d : D) (st : Sta β) : toD (.val d) st = some (d, st) := rfl
@[simp] theorem toD_new (d : D) (st : Sta β) : toD (.new d) st = some (d, st) := rfl
def slTo : Option Sl → Nat → Sta β → Option (D × Sta β)
  | some (.val d), _, st => some (d, st)
  | some (.own d), i, st => some (d, { st with env := st.env.set i (.val d) })
  | _, _, _ => none
@[simp] theorem slTo_val (d : D) (i : Nat) (st : Sta β) : slTo (some (.val d)) i st = some (d, st) := rfl
@[simp] theorem slTo_own (d : D) (i : Nat) (st : Sta β) : slTo (some (.own d)) i st = some (d, { st with env := st.env.set i (.val d) }) := rfl
@[simp] theorem toD_at (i : Nat) (st : Sta β) : toD (.at i) st = slTo st.env[i]? i st := by
  simp only [toD]
  cases st.env[i]? with
  | none => rfl
  | some s => cases s <;> rfl
@[simp] theorem mD_ap (a : Mn β R) (st : Sta β) : mD a st = (a st).bind fun p => toD p.1 p.2 := by simp [mD]
@[simp] theorem mOp2_ap (f : D → D → Option R) (a b : Mn β R) (st : Sta β) : mOp2 f a b st = (a st).bind fun p => (b p.2).bind fun q => (pk p.1 q.2).bind fun d => (pk q.1 q.2).bind fun e => (f d e).map fun r => (r, q.2) := by
  simp only [mOp2, mBind_ap]
  congr; funext p; congr; funext q
  cases pk p.1 q.2 with
  | none => rfl
  | some d => cases pk q.1 q.2 with
    | none => rfl
    | some e => show (match f d e with | none => none | some r => some (r, q.2)) = (f d e).map _; cases f d e <;> rfl
@[simp] theorem mOp1_ap (f : D → Option R) (a : Mn β R) (st : Sta β) : mOp1 f a st = (a st).bind fun p => (pk p.1 p.2).bind fun d => (f d).map fun r => (r, p.2) := by
  simp only [mOp1, mBind_ap]
  congr; funext p
  cases pk p.1 p.2 with
  | none => rfl
  | some d => show (match f d with | none => none | some r => some (r, p.2)) = (f d).map _; cases f d <;> rfl
@[simp] theorem mBi_ap (f : List D → Option R) (a : Mn β (List R)) (st : Sta β) : mBi f a st = (a st).bind fun p => (pkL p.1 p.2).bind fun ds => (f ds).map fun r => (r, p.2) := by
  simp only [mBi, mBind_ap]
  congr; funext p
  cases pkL p.1 p.2 with
  | none => rfl
  | some ds => show (match f ds with | none => none | some r => some (r, p.2)) = (f ds).map _; cases f ds <;> rfl
@[simp] theorem mTup_ap (a : Mn β (List D)) (st : Sta β) : mTup a st = (a st).bind fun p => if p.1.length ≤ line then some (.val (.tup p.1), p.2) else none := by simp [mTup]
@[simp] theorem mLst_ap (a : Mn β (List D)) (st : Sta β) : mLst a st = (a st).bind fun p => if p.1.length ≤ line then some (.new (.lst p.1), p.2) else none := by simp [mLst]
@[simp] theorem mTr_ap (a : Mn β R) (st : Sta β) : mTr a st = (a st).bind fun p => (pk p.1 p.2).bind fun d => (truth d).map fun b => (b, p.2) := by
  simp only [mTr, mBind_ap]
  congr; funext p
  cases pk p.1 p.2 with
  | none => rfl
  | some d => show (match truth d with | none => none | some b => some (b, p.2)) = (truth d).map _; cases truth d <;> rfl
def rBl : R → Option Bool
  | .val (.bl b) => some b
  | _ => none
@[simp] theorem rBl_bl (b : Bool) : rBl (.val (.bl b)) = some b := rfl
@[simp] theorem mBl_ap (a : Mn β R) (st : Sta β) : mBl a st = (a st).bind fun p => (rBl p.1).map fun b => (b, p.2) := by
  simp only [mBl, mBind_ap]
  congr; funext p
  cases p.1 with
  | val d => cases d <;> rfl
  | new d => rfl
  | «at» i => rfl
@[simp] theorem truth_bl (b : Bool) : truth (.bl b) = some b := rfl
@[simp] theorem truth_int (i : Int) : truth (.int i) = some (i != 0) := rfl
@[simp] theorem truth_lst (ds : List D) : truth (.lst ds) = some (!ds.isEmpty) := rfl
@[simp] theorem truth_tup (ds : List D) : truth (.tup ds) = some (!ds.isEmpty) := rfl
@[simp] theorem truth_non : truth .non = some false := rfl
@[simp] theorem mAnd_ap (a b : Mn β Bool) (st : Sta β) : mAnd a b st = (a st).bind fun p => if p.1 = true then b p.2 else some (false, p.2) := by
  simp only [mAnd, mBind_ap]
  congr; funext p
  split <;> rfl
@[simp] theorem mOr_ap (a b : Mn β Bool) (st : Sta β) : mOr a b st = (a st).bind fun p => if p.1 = true then some (true, p.2) else b p.2 := by
  simp only [mOr, mBind_ap]
  congr; funext p
  split <;> rfl
@[simp] theorem mNot_ap (a : Mn β Bool) (st : Sta β) : mNot a st = (a st).map fun p => (!p.1, p.2) := by
  simp only [mNot, mBind_ap]
  cases a st <;> rfl
@[simp] theorem mAndV_ap (a b : Mn β R) (st : Sta β) : mAndV a b st = (mBl a st).bind fun p => if p.1 = true then b p.2 else some (.val (.bl false), p.2) := by
  simp only [mAndV]
  rw [mBind_ap]
  congr; funext p
  split <;> rfl
@[simp] theorem mOrV_ap (a b : Mn β R) (st : Sta β) : mOrV a b st = (mBl a st).bind fun p => if p.1 = true then some (.val (.bl true), p.2) else b p.2 := by
  simp only [mOrV]
  rw [mBind_ap]
  congr; funext p
  split <;> rfl
@[simp] theorem mNotV_ap (a : Mn β R) (st : Sta β) : mNotV a st = (mBl a st).map fun p => (.val (.bl !p.1), p.2) := by
  simp only [mNotV]
  rw [mBind_ap]
  cases mBl a st <;> rfl
@[simp] theorem mIfE_ap (t : Mn β Bool) (a b : Mn β R) (st : Sta β) : mIfE t a b st = (t st).bind fun p => if p.1 = true then a p.2 else b p.2 := by
  simp only [mIfE, mBind_ap]
  congr; funext p
  split <;> rfl
@[simp] theorem mIf_ap (t : Mn β Bool) (a b : Ms β) (st : Sta β) : mIf t a b st = (t st).bind fun p => if p.1 = true then a p.2 else b p.2 := by
  simp only [mIf, mBind_ap]
  congr; funext p
  split <;> rfl
@[simp] theorem mChain_ap (f g : D → D → Option R) (a b d : Mn β R) (st : Sta β) : mChain f g a b d st = (a st).bind fun p => (b p.2).bind fun q => (pk p.1 q.2).bind fun x => (pk q.1 q.2).bind fun y => ((f x y).bind rBl).bind fun k =>
    if k = true then (d q.2).bind fun u => (pk q.1 u.2).bind fun y' => (pk u.1 u.2).bind fun z => (g y' z).map fun r => (r, u.2) else some (.val (.bl false), q.2) := by
  simp only [mChain, mBind_ap]
  congr; funext p; congr; funext q
  cases pk p.1 q.2 with
  | none => rfl
  | some x => cases pk q.1 q.2 with
    | none => rfl
    | some y =>
      simp only [Option.bind_some]
      cases f x y with
      | none => rfl
      | some r =>
        cases r with
        | val v =>
          cases v with
          | bl k =>
            cases k with
            | false => rfl
            | true =>
              simp only [Option.bind_some, rBl_bl, if_true]
              congr; funext u
              cases pk q.1 u.2 with
              | none => rfl
              | some y' => cases pk u.1 u.2 with
                | none => rfl
                | some z => show (match g y' z with | none => none | some r => some (r, u.2)) = (g y' z).map _; cases g y' z <;> rfl
          | _ => rfl
        | _ => rfl
@[simp] theorem mNo_ap (st : Sta β) : (mNo : Mn β (Option Int)) st = some (none, st) := rfl
def rInt : R → Option Int
  | .val (.int i) => some i
  | _ => none
@[simp] theorem rInt_int (i : Int) : rInt (.val (.int i)) = some i := rfl
@[simp] theorem mSo_ap (a : Mn β R) (st : Sta β) : mSo a st = (a st).bind fun p => (rInt p.1).map fun i => (some i, p.2) := by
  simp only [mSo, mBind_ap]
  congr; funext p
  cases p.1 with
  | val d => cases d <;> rfl
  | new d => rfl
  | «at» i => rfl
@[simp] theorem mSl_ap (f : D → Option Int → Option Int → Option R) (a : Mn β R) (lo hi : Mn β (Option Int)) (st : Sta β) : mSl f a lo hi st = (a st).bind fun p => (lo p.2).bind fun l => (hi l.2).bind fun h => (pk p.1 h.2).bind fun d => (f d l.1 h.1).map fun r => (r, h.2) := by
  simp only [mSl, mBind_ap]
  congr; funext p; congr; funext l; congr; funext h
  cases pk p.1 h.2 with
  | none => rfl
  | some d => show (match f d l.1 h.1 with | none => none | some r => some (r, h.2)) = (f d l.1 h.1).map _; cases f d l.1 h.1 <;> rfl
/-! statements -/
@[simp] theorem mSkip_ap (st : Sta β) : (mSkip : Ms β) st = some (.nx, st) := rfl
@[simp] theorem mBk_ap (st : Sta β) : (mBk : Ms β) st = some (.bk, st) := rfl
@[simp] theorem mCt_ap (st : Sta β) : (mCt : Ms β) st = some (.ct, st) := rfl
@[simp] theorem mRetN_ap (st : Sta β) : (mRetN : Ms β) st = some (.rt (.val .non), st) := rfl
def thn (b : Ms β) : O × Sta β → Option (O × Sta β)
  | (.nx, st) => b st
  | p => some p
@[simp] theorem thn_nx (b : Ms β) (st : Sta β) : M.thn b (.nx, st) = b st := rfl
@[simp] theorem thn_bk (b : Ms β) (st : Sta β) : M.thn b (.bk, st) = some (.bk, st) := rfl
@[simp] theorem thn_ct (b : Ms β) (st : Sta β) : M.thn b (.ct, st) = some (.ct, st) := rfl
@[simp] theorem thn_rt (b : Ms β) (r : R) (st : Sta β) : M.thn b (.rt r, st) = some (.rt r, st) := rfl
@[simp] theorem mSeq_ap (a b : Ms β) (st : Sta β) : mSeq a b st = (a st).bind (M.thn b) := by
  simp only [mSeq, mBind_ap]
  congr; funext p
  obtain ⟨o, s⟩ := p
  cases o <;> rfl
@[simp] theorem mEx_ap (a : Mn β R) (st : Sta β) : mEx a st = (a st).map fun p => (.nx, p.2) := by
  simp only [mEx, mBind_ap]
  cases a st <;> rfl
def slRes : Option Sl → Option R
  | some (.val d) => some (.val d)
  | some (.own d) => some (.new d)
  | _ => none
@[simp] theorem slRes_val (d : D) : slRes (some (.val d)) = some (.val d) := rfl
@[simp] theorem slRes_own (d : D) : slRes (some (.own d)) = some (.new d) := rfl
@[simp] theorem toRes_val (d : D) (st : Sta β) : toRes (.val d) st = some (.val d) := rfl
@[simp] theorem toRes_new (d : D) (st : Sta β) : toRes (.new d) st = some (.new d) := rfl
@[simp] theorem toRes_at (i : Nat) (st : Sta β) : toRes (.at i) st = slRes st.env[i]? := by
  simp only [toRes]
  cases st.env[i]? with
  | none => rfl
  | some s => cases s <;> rfl
@[simp] theorem mRet_ap (a : Mn β R) (st : Sta β) : mRet a st = (a st).bind fun p => (toRes p.1 p.2).map fun r => (.rt r, p.2) := by
  simp only [mRet, mBind_ap]
  congr; funext p
  show (match toRes p.1 p.2 with | none => none | some r => some (O.rt r, p.2)) = (toRes p.1 p.2).map _
  cases toRes p.1 p.2 <;> rfl
@[simp] theorem setSl_val (i : Nat) (d : D) (st : Sta β) : setSl i (.val d) st = some { st with env := st.env.set i (.val d) } := rfl
@[simp] theorem setSl_new (i : Nat) (d : D) (st : Sta β) : setSl i (.new d) st = some { st with env := st.env.set i (.own d) } := rfl
@[simp] theorem setSl_at (i j : Nat) (st : Sta β) : setSl i (.at j) st = (toD (.at j) st).map fun p => { p.2 with env := p.2.env.set i (.val p.1) } := by
  simp only [setSl]
  cases toD (.at j) st <;> rfl
@[simp] theorem mSet_ap (i : Nat) (a : Mn β R) (st : Sta β) : mSet i a st = (a st).bind fun p => (setSl i p.1 p.2).map fun s => (.nx, s) := by
  simp only [mSet, mBind_ap]
  congr; funext p
  show (match setSl i p.1 p.2 with | none => none | some s => some (O.nx, s)) = (setSl i p.1 p.2).map _
  cases setSl i p.1 p.2 <;> rfl
@[simp] theorem tmN_ap (i : Nat) (d : D) (st : Sta β) : tmN i d st = some { st with env := st.env.set i (.val d) } := rfl
@[simp] theorem tmNil_nil (st : Sta β) : tmNil [] st = some st := rfl
@[simp] theorem tmCons_cons (m : Tm β) (n : Tms β) (d : D) (ds : List D) (st : Sta β) : tmCons m n (d :: ds) st = (m d st).bind (n ds) := by
  simp only [tmCons]
  cases m d st <;> rfl
@[simp] theorem tmT_tup (m : Tms β) (n : Nat) (ds : List D) (st : Sta β) : tmT m n (.tup ds) st = if ds.length = n then m ds st else none := rfl
@[simp] theorem mUnp_ap (a : Mn β R) (m : Tm β) (st : Sta β) : mUnp a m st = (mD a st).bind fun p => (m p.1 p.2).map fun s => (.nx, s) := by
  simp only [mUnp]
  rw [mBind_ap]
  congr; funext p
  show (match m p.1 p.2 with | none => none | some s => some (O.nx, s)) = (m p.1 p.2).map _
  cases m p.1 p.2 <;> rfl
@[simp] theorem mPut_ap (a : Mn β R) (m : Tm β) (st : Sta β) : mPut a m st = (mD a st).bind fun p => (m p.1 p.2).map fun s => (.nx, s) := mUnp_ap a m st
/-- the slot's own list -/
def slOwn : Option Sl → Option (List D)
  | some (.own (.lst ds)) => some ds
  | _ => none
@[simp] theorem slOwn_own (ds : List D) : slOwn (some (.own (.lst ds))) = some ds := rfl
def isOwn : Option Sl → Bool
  | some (.own _) => true
  | _ => false
@[simp] theorem isOwn_own (d : D) : isOwn (some (.own d)) = true := rfl
@[simp] theorem tmSub_ap (i : Nat) (a : Mn β R) (d : D) (st : Sta β) : tmSub i a d st = if isOwn st.env[i]? = true then (a st).bind fun p => (rInt p.1).bind fun k => (slOwn p.2.env[i]?).bind fun ds => (ixN ds.length k).map fun j => { p.2 with env := p.2.env.set i (.own (.lst (ds.set j d))) } else none := by
  simp only [tmSub, mBind_ap]
  cases a st with
  | none => simp
  | some p =>
    simp only [Option.bind_some]
    cases hp : p.1 with
    | new _ => simp [rInt]
    | «at» _ => simp [rInt]
    | val v =>
      cases v with
      | int k =>
        simp only [rInt_int, Option.bind_some]
        cases h1 : p.2.env[i]? with
        | none => simp [slOwn]
        | some s =>
          cases s with
          | own o =>
            cases o with
            | lst ds =>
              simp only [slOwn_own, Option.bind_some]
              cases ixN ds.length k with
              | none => simp
              | some j =>
                cases st.env[i]? with
                | none => rfl
                | some t => cases t <;> rfl
            | _ => simp [slOwn]
          | _ => simp [slOwn]
      | _ => simp [rInt]
@[simp] theorem mOwn_ap (i : Nat) (f : List D → List D → Option (D × List D)) (a : Mn β (List D)) (st : Sta β) : mOwn i f a st = if isOwn st.env[i]? = true then (a st).bind fun p => (slOwn p.2.env[i]?).bind fun ds => (f ds p.1).map fun q => (.val q.1, { p.2 with env := p.2.env.set i (.own (.lst q.2)) }) else none := by
  simp only [mOwn]
  cases h0 : st.env[i]? with
  | none => rfl
  | some s =>
    cases s with
    | own o =>
      simp only [isOwn_own, if_true]
      rw [mBind_ap]
      congr; funext p
      cases h1 : p.2.env[i]? with
      | none => simp [slOwn]
      | some t =>
        cases t with
        | own o' =>
          cases o' with
          | lst ds => simp only [slOwn_own, Option.bind_some]; cases f ds p.1 <;> rfl
          | _ => rfl
        | _ => rfl
    | _ => rfl
@[simp] theorem fAppend_1 (ds : List D) (d : D) : fAppend ds [d] = if ds.length < line then some (.non, ds ++ [d]) else none := rfl
@[simp] theorem fPop_0 (ds : List D) : fPop ds [] = (ds[ds.length - 1]?).map fun d => (d, ds.dropLast) := by
  simp only [fPop]
  cases ds[ds.length - 1]? <;> rfl
@[simp] theorem fReverse_0 (ds : List D) : fReverse ds [] = some (.non, ds.reverse) := rfl
/-! walks -/
def slIt : Option Sl → Nat → Sta β → Option (List D × Sta β)
  | some (.val (.lst ds)), _, st => some (ds, st)
  | some (.val (.tup ds)), _, st => some (ds, st)
  | some (.own (.lst ds)), i, st => some (ds, { st with env := st.env.set i (.val (.lst ds)) })
  | some (.lock (.lst ds)), _, st => some (ds, st)
  | _, _, _ => none
@[simp] theorem slIt_vl (ds : List D) (i : Nat) (st : Sta β) : slIt (some (.val (.lst ds))) i st = some (ds, st) := rfl
@[simp] theorem slIt_vt (ds : List D) (i : Nat) (st : Sta β) : slIt (some (.val (.tup ds))) i st = some (ds, st) := rfl
@[simp] theorem slIt_o (ds : List D) (i : Nat) (st : Sta β) : slIt (some (.own (.lst ds))) i st = some (ds, { st with env := st.env.set i (.val (.lst ds)) }) := rfl
@[simp] theorem slIt_l (ds : List D) (i : Nat) (st : Sta β) : slIt (some (.lock (.lst ds))) i st = some (ds, st) := rfl
@[simp] theorem toIt_vl (ds : List D) (st : Sta β) : toIt (.val (.lst ds)) st = some (ds, st) := rfl
@[simp] theorem toIt_vt (ds : List D) (st : Sta β) : toIt (.val (.tup ds)) st = some (ds, st) := rfl
@[simp] theorem toIt_n (ds : List D) (st : Sta β) : toIt (.new (.lst ds)) st = some (ds, st) := rfl
@[simp] theorem toIt_at (i : Nat) (st : Sta β) : toIt (.at i) st = slIt st.env[i]? i st := by
  simp only [toIt]
  cases st.env[i]? with
  | none => rfl
  | some s =>
    cases s with
    | no => rfl
    | val d => cases d <;> rfl
    | own d => cases d <;> rfl
    | lock d => cases d <;> rfl
@[simp] theorem mIt_ap (a : Mn β R) (st : Sta β) : mIt a st = (a st).bind fun p => toIt p.1 p.2 := by simp [mIt]
@[simp] theorem mRng_ap (f : List D → Option (List D)) (a : Mn β (List R)) (st : Sta β) : mRng f a st = (a st).bind fun p => (pkL p.1 p.2).bind fun ds => (f ds).map fun xs => (xs, p.2) := by
  simp only [mRng, mBind_ap]
  congr; funext p
  cases pkL p.1 p.2 with
  | none => rfl
  | some ds => show (match f ds with | none => none | some r => some (r, p.2)) = (f ds).map _; cases f ds <;> rfl
@[simp] theorem mFor_ap (it : Mn β (List D)) (tg : Tm β) (body : Ms β) (st : Sta β) : mFor it tg body st = (it st).bind fun p => forL tg body p.1 p.2 := by simp [mFor]
@[simp] theorem forL_nil (tg : Tm β) (body : Ms β) (st : Sta β) : forL tg body [] st = some (.nx, st) := rfl
/-- behind a turn -/
def nxt (tg : Tm β) (body : Ms β) (ds : List D) : O × Sta β → Option (O × Sta β)
  | (.nx, st) => forL tg body ds st
  | (.ct, st) => forL tg body ds st
  | (.bk, st) => some (.nx, st)
  | (.rt r, st) => some (.rt r, st)
@[simp] theorem nxt_nx (tg : Tm β) (body : Ms β) (ds : List D) (st : Sta β) : nxt tg body ds (.nx, st) = forL tg body ds st := rfl
@[simp] theorem nxt_ct (tg : Tm β) (body : Ms β) (ds : List D) (st : Sta β) : nxt tg body ds (.ct, st) = forL tg body ds st := rfl
@[simp] theorem nxt_bk (tg : Tm β) (body : Ms β) (ds : List D) (st : Sta β) : nxt tg body ds (.bk, st) = some (.nx, st) := rfl
@[simp] theorem nxt_rt (tg : Tm β) (body : Ms β) (ds : List D) (r : R) (st : Sta β) : nxt tg body ds (.rt r, st) = some (.rt r, st) := rfl
theorem forL_cons (tg : Tm β) (body : Ms β) (d : D) (ds : List D) (st : Sta β) : forL tg body (d :: ds) st = ((tg d st).bind body).bind (nxt tg body ds) := by
  simp only [forL]
  cases tg d st with
  | none => rfl
  | some s1 =>
    simp only [Option.bind_some]
    cases body s1 with
    | none => rfl
    | some p => obtain ⟨o, s⟩ := p; cases o <;> rfl
/-- calls -/
def slA : Option Sl → Option Sl
  | some (.val d) => some (.val d)
  | some (.own d) => some (.lock d)
  | some (.lock d) => some (.lock d)
  | _ => none
@[simp] theorem slA_val (d : D) : slA (some (.val d)) = some (.val d) := rfl
@[simp] theorem slA_own (d : D) : slA (some (.own d)) = some (.lock d) := rfl
@[simp] theorem slA_lock (d : D) : slA (some (.lock d)) = some (.lock d) := rfl
@[simp] theorem toSl_val (d : D) (st : Sta β) : toSl (.val d) st = some (.val d) := rfl
@[simp] theorem toSl_new (d : D) (st : Sta β) : toSl (.new d) st = some (.lock d) := rfl
@[simp] theorem toSl_at (i : Nat) (st : Sta β) : toSl (.at i) st = slA st.env[i]? := by
  simp only [toSl]
  cases st.env[i]? with
  | none => rfl
  | some s => cases s <;> rfl
@[simp] theorem toSlL_nil (st : Sta β) : toSlL [] st = some [] := rfl
@[simp] theorem toSlL_cons (r : R) (rs : List R) (st : Sta β) : toSlL (r :: rs) st = (toSl r st).bind fun d => (toSlL rs st).bind fun ds => some (d :: ds) := by
  simp only [toSlL]
  cases toSl r st with
  | none => rfl
  | some d => cases toSlL rs st <;> rfl
@[simp] theorem mCall_ap (f : Fn β) (a : Mn β (List R)) (st : Sta β) : mCall f a st = (a st).bind fun p => (toSlL p.1 p.2).bind fun as => (f as p.2.bag).map fun q => (q.1, { p.2 with bag := q.2 }) := by
  simp only [mCall, mBind_ap]
  congr; funext p
  cases toSlL p.1 p.2 with
  | none => rfl
  | some as =>
    simp only [Option.bind_some]
    cases f as p.2.bag <;> rfl
@[simp] theorem mCallK_ap (f : Fn β) (is : List Nat) (n m : Nat) (a k : Mn β (List R)) (st : Sta β) : mCallK f is n m a k st = (a st).bind fun p => (k p.2).bind fun q => if p.1.length = n ∧ q.1.length = m then (toSlL (p.1 ++ q.1) q.2).bind fun as => (f (pickL is as) q.2.bag).map fun u => (u.1, { q.2 with bag := u.2 }) else none := by
  simp only [mCallK, mBind_ap]
  congr; funext p; congr; funext q
  split
  · cases toSlL (p.1 ++ q.1) q.2 with
    | none => rfl
    | some as =>
      simp only [Option.bind_some]
      cases f (pickL is as) q.2.bag <;> rfl
  · rfl
/-- what a body hands back -/
def outF : Option (O × Sta β) → Option (R × β)
  | some (.rt r, st) => some (r, st.bag)
  | some (.nx, st) => some (.val .non, st.bag)
  | _ => none
@[simp] theorem outF_rt (r : R) (st : Sta β) : outF (some (.rt r, st)) = some (r, st.bag) := rfl
@[simp] theorem outF_nx (st : Sta β) : outF (some (.nx, st)) = some (.val .non, st.bag) := rfl
theorem runF_ap (np n : Nat) (m : Ms β) (args : List Sl) (b : β) (h : args.length = np) : runF np n m args b = outF (m ⟨args ++ List.replicate (n - args.length) .no, b⟩) := by
  unfold runF
  rw [if_pos h]
  cases m ⟨args ++ List.replicate (n - args.length) .no, b⟩ with
  | none => rfl
  | some p => obtain ⟨o, s⟩ := p; cases o <;> rfl
@[simp] theorem runF_eq (np n : Nat) (m : Ms β) (args : List Sl) (b : β) : runF np n m args b = if args.length = np then outF (m ⟨args ++ List.replicate (n - args.length) .no, b⟩) else none := by
  by_cases h : args.length = np
  · rw [runF_ap np n m args b h, if_pos h]
  · unfold runF
    rw [if_neg h, if_neg h]
end
end M

/-! MLib: facts of the operations; loops by invariants. -/
namespace M
open PySem L2
/-! ### isinstance -/
section
variable (i : Int) (b : Bool) (x : Str) (ds : List D)
@[simp] theorem isi_1 : isi "int" (.int i) = some true := by show kitB "int" "int" = some true; decide +kernel
@[simp] theorem isi_2 : isi "int" (.bl b) = some true := by show kitB "bool" "int" = some true; decide +kernel
@[simp] theorem isi_3 : isi "int" .non = some false := by show kitB "NoneType" "int" = some false; decide +kernel
@[simp] theorem isi_4 : isi "int" (.str x) = some false := by show kitB "str" "int" = some false; decide +kernel
@[simp] theorem isi_5 : isi "int" (.tup ds) = some false := by show kitB "tuple" "int" = some false; decide +kernel
@[simp] theorem isi_6 : isi "int" (.lst ds) = some false := by show kitB "list" "int" = some false; decide +kernel
@[simp] theorem isi_7 : isi "bool" (.int i) = some false := by show kitB "int" "bool" = some false; decide +kernel
@[simp] theorem isi_8 : isi "bool" (.bl b) = some true := by show kitB "bool" "bool" = some true; decide +kernel
@[simp] theorem isi_9 : isi "bool" .non = some false := by show kitB "NoneType" "bool" = some false; decide +kernel
@[simp] theorem isi_10 : isi "bool" (.str x) = some false := by show kitB "str" "bool" = some false; decide +kernel
@[simp] theorem isi_11 : isi "bool" (.tup ds) = some false := by show kitB "tuple" "bool" = some false; decide +kernel
@[simp] theorem isi_12 : isi "bool" (.lst ds) = some false := by show kitB "list" "bool" = some false; decide +kernel
@[simp] theorem isi_13 : isi "tuple" (.int i) = some false := by show kitB "int" "tuple" = some false; decide +kernel
@[simp] theorem isi_14 : isi "tuple" (.bl b) = some false := by show kitB "bool" "tuple" = some false; decide +kernel
@[simp] theorem isi_15 : isi "tuple" .non = some false := by show kitB "NoneType" "tuple" = some false; decide +kernel
@[simp] theorem isi_16 : isi "tuple" (.str x) = some false := by show kitB "str" "tuple" = some false; decide +kernel
@[simp] theorem isi_17 : isi "tuple" (.tup ds) = some true := by show kitB "tuple" "tuple" = some true; decide +kernel
@[simp] theorem isi_18 : isi "tuple" (.lst ds) = some false := by show kitB "list" "tuple" = some false; decide +kernel
@[simp] theorem isi_19 : isi "str" (.int i) = some false := by show kitB "int" "str" = some false; decide +kernel
@[simp] theorem isi_20 : isi "str" (.bl b) = some false := by show kitB "bool" "str" = some false; decide +kernel
@[simp] theorem isi_21 : isi "str" .non = some false := by show kitB "NoneType" "str" = some false; decide +kernel
@[simp] theorem isi_22 : isi "str" (.str x) = some true := by show kitB "str" "str" = some true; decide +kernel
@[simp] theorem isi_23 : isi "str" (.tup ds) = some false := by show kitB "tuple" "str" = some false; decide +kernel
@[simp] theorem isi_24 : isi "str" (.lst ds) = some false := by show kitB "list" "str" = some false; decide +kernel
end
theorem fIsi_eq (T : String) (d : D) : fIsi T d = (isi T d).map fun b => .val (.bl b) := by
  unfold fIsi
  cases isi T d <;> rfl
/-! ### numbers -/
section
variable (i j : Int)
@[simp] theorem fSub_i : fSub (.int i) (.int j) = some (.val (.int (i - j))) := rfl
@[simp] theorem fAdd_i : fAdd (.int i) (.int j) = some (.val (.int (i + j))) := rfl
@[simp] theorem fMul_i : fMul (.int i) (.int j) = if cMul i j = true then some (.val (.int (i * j))) else none := rfl
@[simp] theorem fDiv_i : fDiv (.int i) (.int j) = if cDiv i j = true then some (.val (.int (i / j))) else none := rfl
@[simp] theorem fMod_i : fMod (.int i) (.int j) = if cMod i j = true then some (.val (.int (i % j))) else none := rfl
@[simp] theorem fLt_i : fLt (.int i) (.int j) = some (.val (.bl (decide (i < j)))) := rfl
@[simp] theorem fLe_i : fLe (.int i) (.int j) = some (.val (.bl (decide (i ≤ j)))) := rfl
@[simp] theorem fGt_i : fGt (.int i) (.int j) = some (.val (.bl (decide (j < i)))) := rfl
@[simp] theorem fGe_i : fGe (.int i) (.int j) = some (.val (.bl (decide (j ≤ i)))) := rfl
@[simp] theorem fNeg_i : fNeg (.int i) = some (.val (.int (-i))) := rfl
@[simp] theorem fEq_i : fEq (.int i) (.int j) = some (.val (.bl (i == j))) := by simp [fEq, okq, fine, deep, deq]
@[simp] theorem fNe_i : fNe (.int i) (.int j) = some (.val (.bl (i != j))) := by simp [fNe, okq, fine, deep, deq, bne]
@[simp] theorem fEq_b (a b : Bool) : fEq (.bl a) (.bl b) = some (.val (.bl (a == b))) := by simp [fEq, okq, fine, deep, deq]
@[simp] theorem fInt_i : fInt [.int i] = some (.val (.int i)) := rfl
@[simp] theorem fAbs_i : fAbs [.int i] = some (.val (.int (if i < 0 then -i else i))) := rfl
@[simp] theorem fGcd_i : fGcd [.int i, .int j] = some (.val (.int ((Nat.gcd i.natAbs j.natAbs : Nat) : Int))) := rfl
@[simp] theorem fLen_l (ds : List D) : fLen [.lst ds] = some (.val (.int (ds.length : Int))) := rfl
@[simp] theorem fLen_t (ds : List D) : fLen [.tup ds] = some (.val (.int (ds.length : Int))) := rfl
@[simp] theorem fTuple_l (ds : List D) : fTuple [.lst ds] = some (.val (.tup ds)) := rfl
@[simp] theorem fTuple_t (ds : List D) : fTuple [.tup ds] = some (.val (.tup ds)) := rfl
@[simp] theorem fList_l (ds : List D) : fList [.lst ds] = some (.new (.lst ds)) := rfl
@[simp] theorem fList_t (ds : List D) : fList [.tup ds] = some (.new (.lst ds)) := rfl
@[simp] theorem fIs_non (neg : Bool) (d : D) (h : d ≠ .res) : fIs neg d .non = some (.val (.bl (if neg then !isNon d else isNon d))) := by
  cases d <;> first | rfl | exact absurd rfl h
end
theorem cMod_pos {i j : Int} (h : 0 < j) : cMod i j = true := decide_eq_true h
theorem log_small {n : Nat} (h : n < 2 ^ 64) : n.log2 < 9000 := by
  by_cases h0 : n = 0
  · subst h0; decide
  · have : n.log2 < 64 := (Nat.log2_lt h0).mpr h
    omega
theorem cDiv_pos {i j : Int} (h : 0 < j) (h2 : j < 18446744073709551616) : cDiv i j = true := by
  unfold cDiv
  rw [Bool.and_eq_true]
  exact ⟨decide_eq_true h, decide_eq_true (log_small (by omega))⟩
theorem cMul_l {i j : Int} (h : i.natAbs < 18446744073709551616) : cMul i j = true := by
  unfold cMul
  rw [decide_eq_true h, Bool.true_or]
theorem cMul_r {i j : Int} (h : j.natAbs < 18446744073709551616) : cMul i j = true := by
  unfold cMul
  rw [decide_eq_true h, Bool.or_true]
theorem rgOk_small {i : Int} (h : -1000000 ≤ i) (h2 : i ≤ 1000000) : rgOk i = true := rgOk_of ⟨by omega, by omega⟩
/-! ### places -/
@[simp] theorem atI_nc {α : Type} (ds : List α) (n : Nat) : atI ds (n : Int) = ds[n]? := by
  cases h : ds[n]? with
  | some d => exact atI_nat h
  | none =>
    have hn := List.getElem?_eq_none_iff.mp h
    unfold atI ixN
    rw [if_pos (by omega), if_neg (by omega)]
    rfl
@[simp] theorem atI_0 {α : Type} (ds : List α) : atI ds 0 = ds[0]? := atI_nc ds 0
@[simp] theorem atI_1 {α : Type} (ds : List α) : atI ds 1 = ds[1]? := atI_nc ds 1
@[simp] theorem atI_2 {α : Type} (ds : List α) : atI ds 2 = ds[2]? := atI_nc ds 2
@[simp] theorem atI_3 {α : Type} (ds : List α) : atI ds 3 = ds[3]? := atI_nc ds 3
@[simp] theorem fIx_l (ds : List D) (i : Int) : fIx (.lst ds) (.int i) = (atI ds i).map R.val := by
  simp only [fIx]
  cases atI ds i <;> rfl
@[simp] theorem fIx_t (ds : List D) (i : Int) : fIx (.tup ds) (.int i) = (atI ds i).map R.val := by
  simp only [fIx]
  cases atI ds i <;> rfl
theorem ixN_nc {n k : Nat} (h : k < n) : ixN n (k : Int) = some k := by
  unfold ixN
  rw [if_pos (by omega), if_pos (by omega)]
  simp
@[simp] theorem fCut_l (ds : List D) (lo hi : Option Int) : fCut (.lst ds) lo hi = some (.new (.lst (cutD ds lo hi))) := rfl
@[simp] theorem fCut_t (ds : List D) (lo hi : Option Int) : fCut (.tup ds) lo hi = some (.val (.tup (cutD ds lo hi))) := rfl
theorem cut_from (ds : List D) (k : Nat) : cutD ds (some (k : Int)) none = ds.drop k := by
  unfold cutD
  rw [HT.sIx_nat, HT.sIx_none]
  by_cases h : k ≤ ds.length
  · rw [Nat.min_eq_left h]
    exact List.take_of_length_le (by simp)
  · rw [Nat.min_eq_right (by omega)]
    rw [List.drop_of_length_le (Nat.le_refl _), List.drop_of_length_le (by omega)]
    exact List.take_nil
/-! ### loops -/
section
variable {β : Type} [Kind β]
/-- a for that never leaves -/
theorem forL_inv {tg : Tm β} {body : Ms β} (I : Nat → Sta β → Prop) : ∀ (ds : List D) (k : Nat) (st : Sta β), I k st →
    (∀ (i : Nat) (d : D) (s : Sta β), ds[i]? = some d → I (k + i) s → ∃ s1 o s2, tg d s = some s1 ∧ body s1 = some (o, s2) ∧ (o = .nx ∨ o = .ct) ∧ I (k + i + 1) s2) → ∃ st', forL tg body ds st = some (.nx, st') ∧ I (k + ds.length) st'
  | [], k, st, h, _ => ⟨st, rfl, h⟩
  | d :: ds, k, st, h, hs => by
    obtain ⟨s1, o, s2, e1, e2, ho, h2⟩ := hs 0 d st rfl h
    obtain ⟨st', e3, h3⟩ := forL_inv I ds (k + 1) s2 h2 fun i d' s hd hi => by
      have := hs (i + 1) d' s (by simpa using hd) (by rw [show k + (i + 1) = k + 1 + i by omega]; exact hi)
      rw [show k + (i + 1) + 1 = k + 1 + i + 1 by omega] at this
      exact this
    refine ⟨st', ?_, by rw [List.length_cons, show k + (ds.length + 1) = k + 1 + ds.length by omega]; exact h3⟩
    rw [forL_cons, e1, Option.bind_some, e2, Option.bind_some]
    rcases ho with rfl | rfl
    · exact e3
    · exact e3
/-- a comprehension that changes nothing: p which items, f what of them -/
theorem compL_pure {vs : List Nat} {e0 : List Sl} {tg : Tm β} {tt : Mn β Bool} {te : Mn β D} (p : D → Bool) (f : D → D) (st : Sta β) : ∀ (ds acc : List D),
    (∀ d ∈ ds, ∃ s1 s2, tg d { st with env := wipeE st.env vs } = some s1 ∧ tt s1 = some (p d, s2) ∧ (p d = true → ∃ s3, te s2 = some (f d, s3) ∧ s3.bag = st.bag ∧ backE e0 s3.env vs = st.env) ∧ (p d = false → s2.bag = st.bag ∧ backE e0 s2.env vs = st.env)) →
    acc.length + ds.length ≤ line → compL vs e0 tg tt te ds acc st = some (acc ++ (ds.filter p).map f, st)
  | [], acc, _, _ => by simp [compL]
  | d :: ds, acc, h, hl => by
    obtain ⟨s1, s2, e1, e2, ht, hf⟩ := h d List.mem_cons_self
    have hl' : acc.length + ds.length + 1 ≤ line := by simpa [Nat.add_assoc] using hl
    simp only [compL]
    rw [e1]
    simp only
    rw [e2]
    cases hp : p d with
    | true =>
      obtain ⟨s3, e3, hb, he⟩ := ht hp
      simp only
      rw [e3]
      simp only
      rw [if_pos (by omega)]
      have es : ({ s3 with env := backE e0 s3.env vs } : Sta β) = st := by
        cases st; cases s3; simp only at hb he ⊢; rw [hb, he]
      rw [es, compL_pure p f st ds (acc ++ [f d]) (fun d' hd => h d' (List.mem_cons_of_mem _ hd)) (by rw [List.length_append, List.length_singleton]; omega)]
      rw [List.filter_cons_of_pos hp, List.map_cons, List.append_assoc]
      rfl
    | false =>
      obtain ⟨hb, he⟩ := hf hp
      simp only
      have es : ({ s2 with env := backE e0 s2.env vs } : Sta β) = st := by
        cases st; cases s2; simp only at hb he ⊢; rw [hb, he]
      rw [es, compL_pure p f st ds acc (fun d' hd => h d' (List.mem_cons_of_mem _ hd)) (by omega)]
      rw [List.filter_cons_of_neg (by simp [hp])]
theorem mComp_ap (vs : List Nat) (it : Mn β (List D)) (tg : Tm β) (tt : Mn β Bool) (te : Mn β D) (st : Sta β) : mComp vs it tg tt te st = (it st).bind fun p => if noOwn p.2.env vs = true then (compL vs p.2.env tg tt te p.1 [] p.2).map fun q => (.new (.lst q.1), q.2) else none := by
  simp only [mComp, mBind_ap]
  congr; funext p
  split
  · cases compL vs p.2.env tg tt te p.1 [] p.2 with
    | none => rfl
    | some q => rfl
  · rfl
theorem mComp_pure {vs : List Nat} {it : Mn β (List D)} {tg : Tm β} {tt : Mn β Bool} {te : Mn β D} {st st1 : Sta β} {ds : List D} (p : D → Bool) (f : D → D) (h0 : it st = some (ds, st1)) (no : noOwn st1.env vs = true) (hl : ds.length ≤ line)
    (h : ∀ d ∈ ds, ∃ s1 s2, tg d { st1 with env := wipeE st1.env vs } = some s1 ∧ tt s1 = some (p d, s2) ∧ (p d = true → ∃ s3, te s2 = some (f d, s3) ∧ s3.bag = st1.bag ∧ backE st1.env s3.env vs = st1.env) ∧ (p d = false → s2.bag = st1.bag ∧ backE st1.env s2.env vs = st1.env)) :
    mComp vs it tg tt te st = some (.new (.lst ((ds.filter p).map f)), st1) := by
  rw [mComp_ap, h0, Option.bind_some]
  simp only
  rw [if_pos no, compL_pure p f st1 ds [] h (by simpa using hl)]
  rfl
/-- a comprehension by an invariant: what is made, the state -/
theorem compL_inv {vs : List Nat} {e0 : List Sl} {tg : Tm β} {tt : Mn β Bool} {te : Mn β D} (I : Nat → List D → Sta β → Prop) : ∀ (ds : List D) (k : Nat) (acc : List D) (st : Sta β), I k acc st →
    (∀ (i : Nat) (d : D) (a : List D) (s : Sta β), ds[i]? = some d → I (k + i) a s → ∃ s1 c s2, tg d { s with env := wipeE s.env vs } = some s1 ∧ tt s1 = some (c, s2) ∧
      (c = true → ∃ x s3, te s2 = some (x, s3) ∧ a.length < line ∧ I (k + i + 1) (a ++ [x]) { s3 with env := backE e0 s3.env vs }) ∧ (c = false → I (k + i + 1) a { s2 with env := backE e0 s2.env vs })) →
    ∃ acc' st', compL vs e0 tg tt te ds acc st = some (acc', st') ∧ I (k + ds.length) acc' st'
  | [], k, acc, st, h, _ => ⟨acc, st, rfl, h⟩
  | d :: ds, k, acc, st, h, hs => by
    obtain ⟨s1, c, s2, e1, e2, ht, hf⟩ := hs 0 d acc st rfl h
    have hs' : ∀ (i : Nat) (d : D) (a : List D) (s : Sta β), ds[i]? = some d → I (k + 1 + i) a s → ∃ s1 c s2, tg d { s with env := wipeE s.env vs } = some s1 ∧ tt s1 = some (c, s2) ∧
      (c = true → ∃ x s3, te s2 = some (x, s3) ∧ a.length < line ∧ I (k + 1 + i + 1) (a ++ [x]) { s3 with env := backE e0 s3.env vs }) ∧ (c = false → I (k + 1 + i + 1) a { s2 with env := backE e0 s2.env vs }) := fun i d' a s hd hi => by
      have := hs (i + 1) d' a s (by simpa using hd) (by rw [show k + (i + 1) = k + 1 + i by omega]; exact hi)
      rw [show k + (i + 1) + 1 = k + 1 + i + 1 by omega] at this
      exact this
    have hlen : k + (d :: ds).length = k + 1 + ds.length := by rw [List.length_cons]; omega
    rw [hlen]
    simp only [compL]
    rw [e1]
    simp only
    rw [e2]
    cases c with
    | true =>
      obtain ⟨x, s3, e3, hl, h3⟩ := ht rfl
      simp only
      rw [e3]
      simp only
      rw [if_pos hl]
      exact compL_inv I ds (k + 1) _ _ h3 hs'
    | false =>
      simp only
      exact compL_inv I ds (k + 1) _ _ (hf rfl) hs'
@[simp] theorem mYes_ap (st : Sta β) : (mYes : Mn β Bool) st = some (true, st) := rfl
end
end M

/-! MNat: lists of whole numbers from 0 on; tuples assigned; ranges. -/
namespace M
open PySem L2
section
variable {β : Type} [Kind β]
@[simp] theorem mH_ap (a : Mn β R) (st : Sta β) : mH a st = (a st).bind fun p => match p.1 with
  | .at i => (slTo p.2.env[i]? i p.2).map fun q => (.val q.1, q.2)
  | r => some (r, p.2) := by
  simp only [mH, mBind_ap]
  congr; funext p
  cases p.1 with
  | val d => rfl
  | new d => rfl
  | «at» i =>
    simp only
    rw [← toD_at]
    cases toD (.at i) p.2 <;> rfl
@[simp] theorem noAt_nil : noAt [] = true := rfl
@[simp] theorem noAt_val (d : D) (rs : List R) : noAt (.val d :: rs) = noAt rs := rfl
@[simp] theorem noAt_new (d : D) (rs : List R) : noAt (.new d :: rs) = noAt rs := rfl
@[simp] theorem setL_nil (st : Sta β) : setL [] [] st = some st := rfl
@[simp] theorem setL_cons (i : Nat) (is : List Nat) (r : R) (rs : List R) (st : Sta β) : setL (i :: is) (r :: rs) st = (setSl i r st).bind (setL is rs) := by
  simp only [setL]
  cases setSl i r st <;> rfl
@[simp] theorem mPars_ap (is : List Nat) (a : Mn β (List R)) (st : Sta β) : mPars is a st = (a st).bind fun p => if noAt p.1 = true then (setL is p.1 p.2).map fun s => (.nx, s) else none := by
  simp only [mPars, mBind_ap]
  congr; funext p
  split
  · show (match setL is p.1 p.2 with | some s => some (O.nx, s) | none => none) = (setL is p.1 p.2).map _
    cases setL is p.1 p.2 <;> rfl
  · rfl
@[simp] theorem mLR1_ap (a : Mn β R) (st : Sta β) : mLR1 a st = (a st).bind fun p => (rInt p.1).bind fun n => if lrOk 0 n = true then some (.new (.lst (rgL 0 n.toNat)), p.2) else none := by
  simp only [mLR1, mBind_ap]
  congr; funext p
  cases p.1 with
  | val d => cases d <;> rfl
  | new d => rfl
  | «at» i => rfl
end
@[simp] theorem fR1_i (j : Int) : fR1 [.int j] = if rgOk j = true then some (rgL 0 j.toNat) else none := rfl
@[simp] theorem fR2_i (i j : Int) : fR2 [.int i, .int j] = if (rgOk i && rgOk j) = true then some (rgL i (j - i).toNat) else none := rfl
@[simp] theorem fR3_i (i j s : Int) : fR3 [.int i, .int j, .int s] = if (decide (s = -1) && (rgOk i && rgOk j)) = true then some (rgLC i s (i - j).toNat) else none := rfl
/-! ### lists of numbers -/
def ni (s : List Nat) : List D := s.map fun (n : Nat) => D.int (n : Int)
@[simp] theorem ni_length (s : List Nat) : (ni s).length = s.length := by simp [ni]
@[simp] theorem ni_get (s : List Nat) (k : Nat) : (ni s)[k]? = (s[k]?).map fun (n : Nat) => D.int (n : Int) := by simp [ni]
theorem ni_set (s : List Nat) (k v : Nat) : (ni s).set k (.int (v : Int)) = ni (s.set k v) := by
  unfold ni
  rw [List.map_set]
theorem ni_append (s t : List Nat) : ni s ++ ni t = ni (s ++ t) := by simp [ni]
theorem ni_single (k : Nat) : [D.int (k : Int)] = ni [k] := rfl
theorem ni_nil : ([] : List D) = ni [] := rfl
theorem rgL_ni (n : Nat) : rgL 0 n = ni (List.range n) := by
  unfold rgL ni
  apply List.map_congr_left
  intro a _
  rw [Int.zero_add]
theorem fineL_ni (s : List Nat) : fineL (ni s) = true := by
  induction s with
  | nil => rfl
  | cons a s ih => simpa [ni, fineL, fine] using ih
theorem deepL_ni (s : List Nat) : deepL (ni s) = 0 := by
  induction s with
  | nil => rfl
  | cons a s ih => simpa [ni, deepL, deep] using ih
@[simp] theorem okq_int (i : Int) : okq (.int i) = true := by simp [okq, fine, deep]
@[simp] theorem okq_bl (b : Bool) : okq (.bl b) = true := by simp [okq, fine, deep]
@[simp] theorem okq_lni (s : List Nat) : okq (.lst (ni s)) = true := by simp [okq, fine, deep, fineL_ni, deepL_ni]
@[simp] theorem okq_tni (s : List Nat) : okq (.tup (ni s)) = true := by simp [okq, fine, deep, fineL_ni, deepL_ni]
@[simp] theorem okq_lnil : okq (.lst []) = true := by simp [okq, fine, deep, fineL, deepL]
@[simp] theorem okq_tnil : okq (.tup []) = true := by simp [okq, fine, deep, fineL, deepL]
theorem dIn_ni (k : Nat) (s : List Nat) : dIn (.int (k : Int)) (ni s) = decide (k ∈ s) := by
  unfold dIn ni
  rw [List.any_map]
  induction s with
  | nil => rfl
  | cons a s ih =>
    rw [List.any_cons, ih]
    simp only [Function.comp, deq, List.mem_cons]
    by_cases h : k = a
    · subst h; simp
    · have h2 : ¬ (a : Int) = (k : Int) := by omega
      simp [h, h2]
@[simp] theorem fInB_l (neg : Bool) (d : D) (ds : List D) : fInB neg d (.lst ds) = if (okq d && okq (.lst ds)) = true then some (.val (.bl (if neg then !dIn d ds else dIn d ds))) else none := by
  cases d <;> rfl
@[simp] theorem fInB_t (neg : Bool) (d : D) (ds : List D) : fInB neg d (.tup ds) = if (okq d && okq (.tup ds)) = true then some (.val (.bl (if neg then !dIn d ds else dIn d ds))) else none := by
  cases d <;> rfl
theorem deqL_ni : ∀ (s t : List Nat), deqL (ni s) (ni t) = decide (s = t)
  | [], [] => rfl
  | [], _ :: _ => rfl
  | _ :: _, [] => rfl
  | a :: s, b :: t => by
    have ih := deqL_ni s t
    simp only [ni, List.map_cons, deqL, deq] at ih ⊢
    rw [ih]
    by_cases h : a = b
    · subst h; simp
    · have h2 : ¬ (a : Int) = (b : Int) := by omega
      simp [h, h2]
theorem ni_inj : ∀ {s t : List Nat}, ni s = ni t → s = t
  | [], [], _ => rfl
  | [], _ :: _, h => by simp [ni] at h
  | _ :: _, [], h => by simp [ni] at h
  | a :: s, b :: t, h => by
    simp only [ni, List.map_cons, List.cons.injEq, D.int.injEq] at h
    rw [ni_inj (s := s) (t := t) h.2]
    congr 1
    omega
/-- x is read as the row of numbers s -/
def Row (x : D) (s : List Nat) : Prop := x = .lst (ni s) ∨ x = .tup (ni s)
theorem row_l (s : List Nat) : Row (.lst (ni s)) s := .inl rfl
theorem row_t (s : List Nat) : Row (.tup (ni s)) s := .inr rfl
/-- an argument that is such -/
def RowA (x : Sl) (s : List Nat) : Prop := x = .val (.tup (ni s)) ∨ x = .lock (.lst (ni s)) ∨ x = .val (.lst (ni s))
theorem rowa_t (s : List Nat) : RowA (.val (.tup (ni s))) s := .inl rfl
theorem rowa_l (s : List Nat) : RowA (.lock (.lst (ni s))) s := .inr (.inl rfl)
theorem Row.arg {x : D} {s : List Nat} (h : Row x s) : RowA (.val x) s := by
  rcases h with rfl | rfl
  · exact .inr (.inr rfl)
  · exact .inl rfl
theorem Row.ix {x : D} {s : List Nat} (h : Row x s) (k : Nat) : fIx x (.int (k : Int)) = (s[k]?).map fun (n : Nat) => R.val (.int (n : Int)) := by
  rcases h with rfl | rfl <;> simp [Option.map_map, Function.comp_def]
theorem Row.len {x : D} {s : List Nat} (h : Row x s) : fLen [x] = some (.val (.int (s.length : Int))) := by
  rcases h with rfl | rfl <;> simp
theorem getD_of {s : List Nat} {k n d : Nat} (h : s[k]? = some n) : s.getD k d = n := by
  rw [List.getD_eq_getElem?_getD, h]; rfl
theorem get_of {s : List Nat} {k : Nat} (h : k < s.length) : s[k]? = some (s.getD k 0) := by
  rw [List.getD_eq_getElem?_getD, List.getElem?_eq_getElem h]; rfl
/-! ### draws -/
theorem mOk_small {m : Int} (h : 0 < m) (h2 : m < 18446744073709551616) : mOk m = true := by
  unfold mOk
  rw [Bool.and_eq_true]
  exact ⟨decide_eq_true h, decide_eq_true (log_small (by omega))⟩
theorem F_draw_eq {m : Int} (b : BagT) (hb : b.cells ≠ []) (h : 0 < m) (h2 : m < 18446744073709551616) : F_draw [.val .res, .val (.int m)] b = some (.val (.int (draw b m).1), (draw b m).2) := by
  simp only [F_draw]
  rw [mOk_small h h2]
  cases hc : b.cells with
  | nil => exact absurd hc hb
  | cons x r => rfl
/-- a draw below m: a number and a bag -/
theorem draw_nat (b : BagT) (m : Nat) (h : 0 < m) : ∃ (j : Nat) (b' : BagT), draw b (m : Int) = ((j : Int), b') ∧ j < m ∧ b'.cells = b.cells := by
  obtain ⟨h1, h2⟩ := draw_lt b (m := (m : Int)) (by omega)
  refine ⟨(draw b m).1.toNat, (draw b m).2, ?_, by omega, draw_cells b m⟩
  rw [Int.toNat_of_nonneg h1]
theorem F_draw_nat (b : BagT) (hb : b.cells ≠ []) (m : Nat) (h : 0 < m) (h2 : m < 18446744073709551616) : ∃ (j : Nat) (b' : BagT), F_draw [.val .res, .val (.int (m : Int))] b = some (.val (.int (j : Int)), b') ∧ j < m ∧ b'.cells ≠ [] := by
  obtain ⟨j, b', e, hj, hc⟩ := draw_nat b m h
  refine ⟨j, b', ?_, hj, by rw [hc]; exact hb⟩
  rw [F_draw_eq b hb (by omega) (by omega), e]
end M

/-! The defs of the linked text: their meanings, and that the model's run follows them (printed by gen.py). -/
namespace W
open PySem PySem.Spec PyProof.Rows L2 M
abbrev topS (i : Nat) : Stmt := PySem.Challenge.pw_blockedshots_k03_places.main.body.getD i (.Pass ⟨0, 0, 0, 0⟩)
abbrev s_is_number : Stmt := topS 2
abbrev s_is_from_to : Stmt := topS 3
abbrev s_is_row : Stmt := topS 4
abbrev s_is_fraction : Stmt := topS 5
abbrev s_ends_at : Stmt := topS 7
abbrev s_is_corner : Stmt := topS 8
abbrev s_is_place : Stmt := topS 9
abbrev s_law_bag : Stmt := topS 11
abbrev s_law_draw : Stmt := topS 12
abbrev s_law_pick : Stmt := topS 13
abbrev s_law_same : Stmt := topS 14
abbrev s_law_gcd : Stmt := topS 15
abbrev s_law_fr : Stmt := topS 16
abbrev s_law_back : Stmt := topS 17
abbrev s_law_turn_of : Stmt := topS 18
abbrev s_law_ends : Stmt := topS 19
abbrev s_law_group : Stmt := topS 20
abbrev s_law_shuffle : Stmt := topS 21
abbrev s_law_board : Stmt := topS 22
abbrev s_law_is_part : Stmt := topS 23
abbrev s_law_is_place : Stmt := topS 24
abbrev s_law_parts : Stmt := topS 25
abbrev s_law_values : Stmt := topS 26
abbrev s_law : Stmt := topS 27
/-- what the top has left -/
structure Txt (K : PySem.W.Frag) (mg : Str → Option Value) : Prop where
  d_is_number : Dn K mg "is_number" s_is_number
  d_is_from_to : Dn K mg "is_from_to" s_is_from_to
  d_is_row : Dn K mg "is_row" s_is_row
  d_is_fraction : Dn K mg "is_fraction" s_is_fraction
  d_ends_at : Dn K mg "ends_at" s_ends_at
  d_is_corner : Dn K mg "is_corner" s_is_corner
  d_is_place : Dn K mg "is_place" s_is_place
  d_law_bag : Dn K mg "_law_bag" s_law_bag
  d_law_draw : Dn K mg "_law_draw" s_law_draw
  d_law_pick : Dn K mg "_law_pick" s_law_pick
  d_law_same : Dn K mg "_law_same" s_law_same
  d_law_gcd : Dn K mg "_law_gcd" s_law_gcd
  d_law_fr : Dn K mg "_law_fr" s_law_fr
  d_law_back : Dn K mg "_law_back" s_law_back
  d_law_turn_of : Dn K mg "_law_turn_of" s_law_turn_of
  d_law_ends : Dn K mg "_law_ends" s_law_ends
  d_law_group : Dn K mg "_law_group" s_law_group
  d_law_shuffle : Dn K mg "_law_shuffle" s_law_shuffle
  d_law_board : Dn K mg "_law_board" s_law_board
  d_law_is_part : Dn K mg "_law_is_part" s_law_is_part
  d_law_is_place : Dn K mg "_law_is_place" s_law_is_place
  d_law_parts : Dn K mg "_law_parts" s_law_parts
  d_law_values : Dn K mg "_law_values" s_law_values
  d_law : Dn K mg "law" s_law
  i_gcd : mg "gcd" = some (.builtin "math.gcd")
  b_abs : mg "abs" = none
  b_bool : mg "bool" = none
  b_int : mg "int" = none
  b_isinstance : mg "isinstance" = none
  b_len : mg "len" = none
  b_list : mg "list" = none
  b_range : mg "range" = none
  b_str : mg "str" = none
  b_tuple : mg "tuple" = none
/-! is_number -/
theorem S_is_number : FnScope ["value"] ["value"] (defScope s_is_number) := ⟨rfl, rfl, rfl, by decide +kernel, rfl, by decide +kernel, by decide +kernel⟩
noncomputable def F_is_number : Fn BagT := runF 1 1 (mRet (mAndV (mOp1 (fIsi "int") (mV 0)) (mNotV (mOp1 (fIsi "bool") (mV 0)))))
section
variable {P : Program} {w : World} {K : PySem.W.Frag} {mg : Str → Option Value} {base : Heap}
theorem W_is_number (T : Txt K mg)  : M.Ok P w K mg base 1 "is_number" s_is_number ["value"] F_is_number := M.Ok.of T.d_is_number S_is_number fun f fd cdv A outer s H E hr => by
  have S := S_is_number
  exact (ss_one (ss_ret (se_and (se_isi (Ts := "int") (by rfl) T.b_isinstance (by rfl) T.b_int (by decide +kernel) (se_v (pv 0))) (se_one (se_not (se_isi (Ts := "bool") (by rfl) T.b_isinstance (by rfl) T.b_bool (by decide +kernel) (se_v (pv 0))))))))
end
/-! is_from_to -/
theorem S_is_from_to : FnScope ["value", "low", "high"] ["value", "low", "high"] (defScope s_is_from_to) := ⟨rfl, rfl, rfl, by decide +kernel, rfl, by decide +kernel, by decide +kernel⟩
noncomputable def F_is_from_to : Fn BagT := runF 3 3 (mRet (mAndV (mCall F_is_number (mCons (mV 0) (mNil))) (mChain fLe fLe (mV 1) (mV 0) (mV 2))))
section
variable {P : Program} {w : World} {K : PySem.W.Frag} {mg : Str → Option Value} {base : Heap}
theorem W_is_from_to (T : Txt K mg) (D_is_number : M.Ok P w K mg base 1 "is_number" s_is_number ["value"] F_is_number) : M.Ok P w K mg base 2 "is_from_to" s_is_from_to ["value", "low", "high"] F_is_from_to := M.Ok.of T.d_is_from_to S_is_from_to fun f fd cdv A outer s H E hr => by
  have S := S_is_from_to
  obtain ⟨_, _, mg_is_number, fn_is_number, ok_is_number⟩ := D_is_number
  exact (ss_one (ss_ret (se_and (se_call (ok_is_number.mono (by first | omega | (simp only [Nat.add_eq]; omega))) hr rfl mg_is_number fn_is_number.kp (fn_is_number.binds (ps := ["value"]) fun _ _ _ _ _ _ us hl => match us, hl with | [_], _ => rfl) (sr_cons (se_v (pv 0)) sr_nil)) (se_one (se_chain (f := fLe) (g := fLe) op_le ok_CmpI op_le ok_CmpI (se_v (pv 1)) (se_v (pv 0)) (se_v (pv 2)))))))
end
/-! is_row -/
theorem S_is_row : FnScope ["value", "many"] ["value", "many"] (defScope s_is_row) := ⟨rfl, rfl, rfl, by decide +kernel, rfl, by decide +kernel, by decide +kernel⟩
noncomputable def F_is_row : Fn BagT := runF 2 2 (mRet (mAndV (mOp1 (fIsi "tuple") (mV 0)) (mOp2 fEq (mBi fLen (mCons (mV 0) (mNil))) (mV 1))))
section
variable {P : Program} {w : World} {K : PySem.W.Frag} {mg : Str → Option Value} {base : Heap}
theorem W_is_row (T : Txt K mg)  : M.Ok P w K mg base 1 "is_row" s_is_row ["value", "many"] F_is_row := M.Ok.of T.d_is_row S_is_row fun f fd cdv A outer s H E hr => by
  have S := S_is_row
  exact (ss_one (ss_ret (se_and (se_isi (Ts := "tuple") (by rfl) T.b_isinstance (by rfl) T.b_tuple (by decide +kernel) (se_v (pv 0))) (se_one (se_cmp (f := fEq) (op_eqD hr.units) ok_eq (se_bi (f := fLen) call_len ok_len (by rfl) T.b_len (by decide +kernel) (sr_cons (se_v (pv 0)) sr_nil)) (se_v (pv 1)) (nomark _))))))
end
/-! is_fraction -/
theorem S_is_fraction : FnScope ["value"] ["value"] (defScope s_is_fraction) := ⟨rfl, rfl, rfl, by decide +kernel, rfl, by decide +kernel, by decide +kernel⟩
noncomputable def F_is_fraction : Fn BagT := runF 1 1 (mSeq (mIf (mOr (mNot (mTr (mCall F_is_row (mCons (mV 0) (mCons (mC (.int 2)) (mNil)))))) (mOr (mNot (mTr (mCall F_is_number (mCons (mOp2 fIx (mV 0) (mC (.int 0))) (mNil))))) (mOr (mNot (mTr (mCall F_is_number (mCons (mOp2 fIx (mV 0) (mC (.int 1))) (mNil))))) (mBl (mOp2 fLt (mOp2 fIx (mV 0) (mC (.int 1))) (mC (.int 1))))))) (mRet (mC (.bl false))) (mSkip))
    (mRet (mOp2 fEq (mBi fGcd (mCons (mOp2 fIx (mV 0) (mC (.int 0))) (mCons (mOp2 fIx (mV 0) (mC (.int 1))) (mNil)))) (mC (.int 1)))))
section
variable {P : Program} {w : World} {K : PySem.W.Frag} {mg : Str → Option Value} {base : Heap}
theorem W_is_fraction (T : Txt K mg) (D_is_row : M.Ok P w K mg base 1 "is_row" s_is_row ["value", "many"] F_is_row) (D_is_number : M.Ok P w K mg base 1 "is_number" s_is_number ["value"] F_is_number) : M.Ok P w K mg base 2 "is_fraction" s_is_fraction ["value"] F_is_fraction := M.Ok.of T.d_is_fraction S_is_fraction fun f fd cdv A outer s H E hr => by
  have S := S_is_fraction
  obtain ⟨_, _, mg_is_row, fn_is_row, ok_is_row⟩ := D_is_row
  obtain ⟨_, _, mg_is_number, fn_is_number, ok_is_number⟩ := D_is_number
  exact (ss_cons (ss_if (PW.pt (sw_or (st_not (st_tr (se_call (ok_is_row.mono (by first | omega | (simp only [Nat.add_eq]; omega))) hr rfl mg_is_row fn_is_row.kp (fn_is_row.binds (ps := ["value", "many"]) fun _ _ _ _ _ _ us hl => match us, hl with | [_, _], _ => rfl) (sr_cons (se_v (pv 0)) (sr_cons se_int sr_nil))) (by intro _; rfl))) (sw_or (st_not (st_tr (se_call (ok_is_number.mono (by first | omega | (simp only [Nat.add_eq]; omega))) hr rfl mg_is_number fn_is_number.kp (fn_is_number.binds (ps := ["value"]) fun _ _ _ _ _ _ us hl => match us, hl with | [_], _ => rfl) (sr_cons (se_ix (f := fIx) ix_seq ok_ix (se_v (pv 0)) se_int (fun _ _ => rfl)) sr_nil)) (by intro _; rfl))) (sw_or (st_not (st_tr (se_call (ok_is_number.mono (by first | omega | (simp only [Nat.add_eq]; omega))) hr rfl mg_is_number fn_is_number.kp (fn_is_number.binds (ps := ["value"]) fun _ _ _ _ _ _ us hl => match us, hl with | [_], _ => rfl) (sr_cons (se_ix (f := fIx) ix_seq ok_ix (se_v (pv 0)) se_int (fun _ _ => rfl)) sr_nil)) (by intro _; rfl))) (sw_or1 (st_cmp (f := fLt) op_lt ok_CmpI (se_ix (f := fIx) ix_seq ok_ix (se_v (pv 0)) se_int (fun _ _ => rfl)) se_int (nomark _))))))) (ss_one (ss_ret se_bl)) ss_nil)
    (ss_one (ss_ret (se_cmp (f := fEq) (op_eqD hr.units) ok_eq (se_fun cr_gcd ok_gcd (by rfl) T.i_gcd (sr_cons (se_ix (f := fIx) ix_seq ok_ix (se_v (pv 0)) se_int (fun _ _ => rfl)) (sr_cons (se_ix (f := fIx) ix_seq ok_ix (se_v (pv 0)) se_int (fun _ _ => rfl)) sr_nil))) se_int (nomark _)))))
end
/-! ends_at -/
theorem S_ends_at : FnScope ["board", "square"] ["board", "square"] (defScope s_ends_at) := ⟨rfl, rfl, rfl, by decide +kernel, rfl, by decide +kernel, by decide +kernel⟩
noncomputable def F_ends_at : Fn BagT := runF 2 2 (mRet (mOp2 (fInB false) (mV 1) (mOp2 fIx (mV 0) (mC (.int 2)))))
section
variable {P : Program} {w : World} {K : PySem.W.Frag} {mg : Str → Option Value} {base : Heap}
theorem W_ends_at (T : Txt K mg)  : M.Ok P w K mg base 1 "ends_at" s_ends_at ["board", "square"] F_ends_at := M.Ok.of T.d_ends_at S_ends_at fun f fd cdv A outer s H E hr => by
  have S := S_ends_at
  exact (ss_one (ss_ret (se_cmp (f := (fInB false)) (op_inA (hu65 hr)) ok_in (se_v (pv 1)) (se_ix (f := fIx) ix_seq ok_ix (se_v (pv 0)) se_int (fun _ _ => rfl)) (by rfl))))
end
/-! is_corner -/
theorem S_is_corner : FnScope ["place"] ["place"] (defScope s_is_corner) := ⟨rfl, rfl, rfl, by decide +kernel, rfl, by decide +kernel, by decide +kernel⟩
noncomputable def F_is_corner : Fn BagT := runF 1 1 (mRet (mAndV (mOp2 fEq (mOp2 fIx (mOp2 fIx (mV 0) (mC (.int 1))) (mC (.int 0))) (mC (.int 0))) (mOp2 fEq (mOp2 fIx (mOp2 fIx (mV 0) (mC (.int 2))) (mC (.int 0))) (mC (.int 0)))))
section
variable {P : Program} {w : World} {K : PySem.W.Frag} {mg : Str → Option Value} {base : Heap}
theorem W_is_corner (T : Txt K mg)  : M.Ok P w K mg base 1 "is_corner" s_is_corner ["place"] F_is_corner := M.Ok.of T.d_is_corner S_is_corner fun f fd cdv A outer s H E hr => by
  have S := S_is_corner
  exact (ss_one (ss_ret (se_and (se_cmp (f := fEq) (op_eqD hr.units) ok_eq (se_ix (f := fIx) ix_seq ok_ix (se_ix (f := fIx) ix_seq ok_ix (se_v (pv 0)) se_int (fun _ _ => rfl)) se_int (fun _ _ => rfl)) se_int (nomark _)) (se_one (se_cmp (f := fEq) (op_eqD hr.units) ok_eq (se_ix (f := fIx) ix_seq ok_ix (se_ix (f := fIx) ix_seq ok_ix (se_v (pv 0)) se_int (fun _ _ => rfl)) se_int (fun _ _ => rfl)) se_int (nomark _))))))
end
/-! is_place -/
theorem S_is_place : FnScope ["board", "value", "part"] ["board", "value"] (defScope s_is_place) := ⟨rfl, rfl, rfl, by decide +kernel, rfl, by decide +kernel, by decide +kernel⟩
noncomputable def F_is_place : Fn BagT := runF 2 3 (mSeq (mIf (mOr (mNot (mTr (mCall F_is_row (mCons (mV 1) (mCons (mC (.int 3)) (mNil)))))) (mNot (mTr (mCall F_is_from_to (mCons (mOp2 fIx (mV 1) (mC (.int 0))) (mCons (mC (.int 0)) (mCons (mOp2 fSub (mBi fLen (mCons (mOp2 fIx (mV 0) (mC (.int 0))) (mNil))) (mC (.int 1))) (mNil)))))))) (mRet (mC (.bl false))) (mSkip))
    (mSeq (mFor (mIt (mSl fCut (mV 1) (mSo (mC (.int 1))) (mNo))) (tmN 2) (mIf (mOr (mNot (mTr (mCall F_is_fraction (mCons (mV 2) (mNil))))) (mNot (mBl (mChain fLe fLt (mC (.int 0)) (mOp2 fIx (mV 2) (mC (.int 0))) (mOp2 fIx (mV 2) (mC (.int 1))))))) (mRet (mC (.bl false))) (mSkip)))
    (mRet (mNotV (mAndV (mCall F_is_corner (mCons (mV 1) (mNil))) (mCall F_ends_at (mCons (mV 0) (mCons (mOp2 fIx (mV 1) (mC (.int 0))) (mNil)))))))))
section
variable {P : Program} {w : World} {K : PySem.W.Frag} {mg : Str → Option Value} {base : Heap}
theorem W_is_place (T : Txt K mg) (D_is_row : M.Ok P w K mg base 1 "is_row" s_is_row ["value", "many"] F_is_row) (D_is_from_to : M.Ok P w K mg base 2 "is_from_to" s_is_from_to ["value", "low", "high"] F_is_from_to) (D_is_fraction : M.Ok P w K mg base 2 "is_fraction" s_is_fraction ["value"] F_is_fraction) (D_is_corner : M.Ok P w K mg base 1 "is_corner" s_is_corner ["place"] F_is_corner) (D_ends_at : M.Ok P w K mg base 1 "ends_at" s_ends_at ["board", "square"] F_ends_at) : M.Ok P w K mg base 3 "is_place" s_is_place ["board", "value"] F_is_place := M.Ok.of T.d_is_place S_is_place fun f fd cdv A outer s H E hr => by
  have S := S_is_place
  obtain ⟨_, _, mg_is_row, fn_is_row, ok_is_row⟩ := D_is_row
  obtain ⟨_, _, mg_is_from_to, fn_is_from_to, ok_is_from_to⟩ := D_is_from_to
  obtain ⟨_, _, mg_is_fraction, fn_is_fraction, ok_is_fraction⟩ := D_is_fraction
  obtain ⟨_, _, mg_is_corner, fn_is_corner, ok_is_corner⟩ := D_is_corner
  obtain ⟨_, _, mg_ends_at, fn_ends_at, ok_ends_at⟩ := D_ends_at
  exact (ss_cons (ss_if (PW.pt (sw_or (st_not (st_tr (se_call (ok_is_row.mono (by first | omega | (simp only [Nat.add_eq]; omega))) hr rfl mg_is_row fn_is_row.kp (fn_is_row.binds (ps := ["value", "many"]) fun _ _ _ _ _ _ us hl => match us, hl with | [_, _], _ => rfl) (sr_cons (se_v (pv 1)) (sr_cons se_int sr_nil))) (by intro _; rfl))) (sw_or1 (st_not (st_tr (se_call (ok_is_from_to.mono (by first | omega | (simp only [Nat.add_eq]; omega))) hr rfl mg_is_from_to fn_is_from_to.kp (fn_is_from_to.binds (ps := ["value", "low", "high"]) fun _ _ _ _ _ _ us hl => match us, hl with | [_, _, _], _ => rfl) (sr_cons (se_ix (f := fIx) ix_seq ok_ix (se_v (pv 1)) se_int (fun _ _ => rfl)) (sr_cons se_int (sr_cons (se_op2 (f := fSub) op_sub ok_I0 (se_bi (f := fLen) call_len ok_len (by rfl) T.b_len (by decide +kernel) (sr_cons (se_ix (f := fIx) ix_seq ok_ix (se_v (pv 0)) se_int (fun _ _ => rfl)) sr_nil)) se_int) sr_nil)))) (by intro _; rfl)))))) (ss_one (ss_ret se_bl)) ss_nil)
    (ss_cons (ss_for PassesOwn.never rfl (si_seq (se_sl sl_cut ok_cut (se_v (pv 1)) (so_so se_int) so_no)) (sg_n (i := 2) S.nd rfl (by first | exact Or.inl rfl | exact Or.inr rfl)) (ss_one (ss_if (PW.pt (sw_or (st_not (st_tr (se_call (ok_is_fraction.mono (by first | omega | (simp only [Nat.add_eq]; omega))) hr rfl mg_is_fraction fn_is_fraction.kp (fn_is_fraction.binds (ps := ["value"]) fun _ _ _ _ _ _ us hl => match us, hl with | [_], _ => rfl) (sr_cons (se_v (pv 2)) sr_nil)) (by intro _; rfl))) (sw_or1 (st_not (st_chain (f := fLe) (g := fLt) op_le ok_CmpI op_lt ok_CmpI se_int (se_ix (f := fIx) ix_seq ok_ix (se_v (pv 2)) se_int (fun _ _ => rfl)) (se_ix (f := fIx) ix_seq ok_ix (se_v (pv 2)) se_int (fun _ _ => rfl))))))) (ss_one (ss_ret se_bl)) ss_nil)))
    (ss_one (ss_ret (se_not (se_and (se_call (ok_is_corner.mono (by first | omega | (simp only [Nat.add_eq]; omega))) hr rfl mg_is_corner fn_is_corner.kp (fn_is_corner.binds (ps := ["place"]) fun _ _ _ _ _ _ us hl => match us, hl with | [_], _ => rfl) (sr_cons (se_v (pv 1)) sr_nil)) (se_one (se_call (ok_ends_at.mono (by first | omega | (simp only [Nat.add_eq]; omega))) hr rfl mg_ends_at fn_ends_at.kp (fn_ends_at.binds (ps := ["board", "square"]) fun _ _ _ _ _ _ us hl => match us, hl with | [_, _], _ => rfl) (sr_cons (se_v (pv 0)) (sr_cons (se_ix (f := fIx) ix_seq ok_ix (se_v (pv 1)) se_int (fun _ _ => rfl)) sr_nil))))))))))
end
/-! _law_bag -/
theorem S_law_bag : FnScope ["script", "cells", "great", "cell"] ["script"] (defScope s_law_bag) := ⟨rfl, rfl, rfl, by decide +kernel, rfl, by decide +kernel, by decide +kernel⟩
abbrev tail_law_bag : List Stmt := match defBody s_law_bag with
  | _ :: r => r
  | [] => []
noncomputable def F_law_bag : Ms Unit :=
    mSeq (mSet 2 (mLst (mNil)))
    (mSeq (mIf (mBl (mOp2 fEq (mOp2 fMod (mBi fInt (mCons (mOp2 fIx (mV 1) (mC (.int 0))) (mNil))) (mC (.int 2))) (mC (.int 0)))) (mSeq (mSet 2 (mComp [3] (mIt (mV 1)) (tmN 3) (mBl (mOp2 fGe (mV 3) (mOp2 fPow (mC (.int 10)) (mC (.int 18))))) (mD (mOp2 fDiv (mV 3) (mC (.int 2))))))
    (mEx (mOwn 2 fReverse mNil))) (mSkip))
    (mRet (mLst (mCons (mD (mC (.int 0))) (mCons (mD (mC (.int 0))) (mCons (mD (mV 2)) (mCons (mD (mComp [3] (mIt (mV 1)) (tmN 3) (mYes) (mD (mOp2 fMod (mBi fInt (mCons (mV 3) (mNil))) (mC (.int 2147483647)))))) (mNil))))))))
section
variable {P : Program} {w : World} {K : PySem.W.Frag} {mg : Str → Option Value} {base : Heap}
theorem rest_law_bag (T : Txt K mg)  {cdv : Value} {A : Around} {outer : List Env} {s : Shared} {H : Hp} {E : XK} {f : Addr} (hr : Room 0 (A.deeper (envOfC "_law_bag" (defScope s_law_bag) s.heap.objs.size f cdv))) :
    PSs (cxOf CX0 P w K mg base ["script", "cells", "great", "cell"] "_law_bag" (defScope s_law_bag) f cdv A outer s H E).nox tail_law_bag (tSt F_law_bag) := by
  have S := S_law_bag
  exact (ss_cons (ss_set (i := 2) S.nd rfl (by first | exact Or.inl rfl | exact Or.inr rfl) (se_lst sd_nil))
    (ss_cons (ss_if (st_cmp (f := fEq) (op_eqD hr.units) ok_eq (se_op2 (f := fMod) op_mod ok_mod (se_ty (f := fInt) call_int1 ok_int (by rfl) T.b_int (by decide +kernel) (sr_cons (se_ix (f := fIx) ix_seq ok_ix (se_v (pv 1)) se_int (fun _ _ => rfl)) sr_nil)) se_int) se_int (nomark _)) (ss_cons (ss_setLc (i := 2) (own := [("cell", 3)]) rfl S.nd rfl rfl (sw_true rfl rfl rfl (by decide +kernel)) (si_seq (se_v (pv 1))) (blkOk_by (own := [("cell", 3)]) (N := ["script", "cells", "great", "cell"]) (sc := defScope s_law_bag) (by decide +kernel)) (by decide) tgv_n (fun _ _ _ _ _ => (sg_n (i := 3) S.nd rfl (by first | exact Or.inl rfl | exact Or.inr rfl))) (fun _ _ _ _ _ => (sts_one (st_cmp (f := fGe) op_ge ok_CmpI (se_v (pv 3)) (se_op2 (f := fPow) op_pow (ok_I cPow_ok) se_int se_int) (nomark _)))) (fun _ _ _ _ _ => (se_op2 (f := fDiv) op_fdivW (ok_I cDiv_ok) (se_v (pv 3)) se_int)))
    (ss_one (ss_ex (se_m0 (f := fReverse) ok_reverse mt_reverse PySem.F.slot_list_reverse PySem.F.type_list_reverse (pv 2))))) ss_nil)
    (ss_one (ss_ret (se_lst (sd_cons se_int (sd_cons se_int (sd_cons (se_v (pv 2)) (sd_cons (se_comp (own := [("cell", 3)]) rfl S.nd (si_seq (se_v (pv 1))) (blkOk_by (own := [("cell", 3)]) (N := ["script", "cells", "great", "cell"]) (sc := defScope s_law_bag) (by decide +kernel)) (by decide) tgv_n (fun _ _ _ _ _ => (sg_n (i := 3) S.nd rfl (by first | exact Or.inl rfl | exact Or.inr rfl))) (fun _ _ _ _ _ => sts_nil) (fun _ _ _ _ _ => (se_op2 (f := fMod) op_mod ok_mod (se_ty (f := fInt) call_int1 ok_int (by rfl) T.b_int (by decide +kernel) (sr_cons (se_v (pv 3)) sr_nil)) se_int))) sd_nil)))))))))
end
/-! _law_pick -/
theorem S_law_pick : FnScope ["bag", "some"] ["bag", "some"] (defScope s_law_pick) := ⟨rfl, rfl, rfl, by decide +kernel, rfl, by decide +kernel, by decide +kernel⟩
noncomputable def F_law_pick : Fn BagT := runF 2 2 (mRet (mOp2 fIx (mV 1) (mCall F_draw (mCons (mV 0) (mCons (mBi fLen (mCons (mV 1) (mNil))) (mNil))))))
section
variable {P : Program} {w : World} {K : PySem.W.Frag} {mg : Str → Option Value} {base : Heap}
theorem W_law_pick (T : Txt K mg) (D_law_draw : M.Ok P w K mg base 1 "_law_draw" s_law_draw ["bag", "many"] F_draw) : M.Ok P w K mg base 2 "_law_pick" s_law_pick ["bag", "some"] F_law_pick := M.Ok.of T.d_law_pick S_law_pick fun f fd cdv A outer s H E hr => by
  have S := S_law_pick
  obtain ⟨_, _, mg_law_draw, fn_law_draw, ok_law_draw⟩ := D_law_draw
  exact (ss_one (ss_ret (se_ix (f := fIx) ix_seq ok_ix (se_v (pv 1)) (se_call (ok_law_draw.mono (by first | omega | (simp only [Nat.add_eq]; omega))) hr rfl mg_law_draw fn_law_draw.kp (fn_law_draw.binds (ps := ["bag", "many"]) fun _ _ _ _ _ _ us hl => match us, hl with | [_, _], _ => rfl) (sr_cons (se_v (pv 0)) (sr_cons (se_bi (f := fLen) call_len ok_len (by rfl) T.b_len (by decide +kernel) (sr_cons (se_v (pv 1)) sr_nil)) sr_nil))) (fun _ _ => rfl))))
end
/-! _law_same -/
theorem S_law_same : FnScope ["found", "due", "k"] ["found", "due"] (defScope s_law_same) := ⟨rfl, rfl, rfl, by decide +kernel, rfl, by decide +kernel, by decide +kernel⟩
noncomputable def F_law_same : Nat → Fn BagT
  | 0 => fun _ _ => none
  | k + 1 => runF 2 3 (mSeq (mIf (mBl (mOp2 (fIs false) (mV 1) (mC .non))) (mRet (mOp2 (fIs false) (mV 0) (mC .non))) (mSkip))
    (mSeq (mIf (mOr (mTr (mOp1 (fIsi "bool") (mV 1))) (mTr (mOp1 (fIsi "bool") (mV 0)))) (mRet (mAndV (mOp1 (fIsi "bool") (mV 1)) (mAndV (mOp1 (fIsi "bool") (mV 0)) (mOp2 fEq (mV 0) (mV 1))))) (mSkip))
    (mSeq (mIf (mTr (mOp1 (fIsi "int") (mV 1))) (mRet (mAndV (mOp1 (fIsi "int") (mV 0)) (mOp2 fEq (mV 0) (mV 1)))) (mSkip))
    (mSeq (mIf (mTr (mOp1 (fIsi "str") (mV 1))) (mRet (mAndV (mOp1 (fIsi "str") (mV 0)) (mOp2 fEq (mV 0) (mV 1)))) (mSkip))
    (mSeq (mIf (mOr (mNot (mTr (mOp1 (fIsi "tuple") (mV 1)))) (mOr (mNot (mTr (mOp1 (fIsi "tuple") (mV 0)))) (mBl (mOp2 fNe (mBi fLen (mCons (mV 0) (mNil))) (mBi fLen (mCons (mV 1) (mNil))))))) (mRet (mC (.bl false))) (mSkip))
    (mSeq (mFor (mRng fR1 (mCons (mBi fLen (mCons (mV 1) (mNil))) (mNil))) (tmN 2) (mIf (mNot (mTr (mCall (F_law_same k) (mCons (mOp2 fIx (mV 0) (mV 2)) (mCons (mOp2 fIx (mV 1) (mV 2)) (mNil)))))) (mRet (mC (.bl false))) (mSkip)))
    (mRet (mC (.bl true)))))))))
section
variable {P : Program} {w : World} {K : PySem.W.Frag} {mg : Str → Option Value} {base : Heap}
theorem W_law_same (T : Txt K mg)  : ∀ k : Nat, M.Ok P w K mg base (k + 0) "_law_same" s_law_same ["found", "due"] (F_law_same k)
  | 0 => M.Ok.zero T.d_law_same
  | k + 1 => M.Ok.of T.d_law_same S_law_same fun f fd cdv A outer s H E hr => by
    have D_law_same := W_law_same T  k
    have S := S_law_same
    obtain ⟨_, _, mg_law_same, fn_law_same, ok_law_same⟩ := D_law_same
    exact (ss_cons (ss_if (st_cmp (f := (fIs false)) op_isN ok_is (se_v (pv 1)) se_non (nomark _)) (ss_one (ss_ret (se_cmp (f := (fIs false)) op_isN ok_is (se_v (pv 0)) se_non (nomark _)))) ss_nil)
    (ss_cons (ss_if (PW.pt (sw_or (st_tr (se_isi (Ts := "bool") (by rfl) T.b_isinstance (by rfl) T.b_bool (by decide +kernel) (se_v (pv 1))) (by intro _; rfl)) (sw_or1 (st_tr (se_isi (Ts := "bool") (by rfl) T.b_isinstance (by rfl) T.b_bool (by decide +kernel) (se_v (pv 0))) (by intro _; rfl))))) (ss_one (ss_ret (se_and (se_isi (Ts := "bool") (by rfl) T.b_isinstance (by rfl) T.b_bool (by decide +kernel) (se_v (pv 1))) (se_and (se_isi (Ts := "bool") (by rfl) T.b_isinstance (by rfl) T.b_bool (by decide +kernel) (se_v (pv 0))) (se_one (se_cmp (f := fEq) (op_eqD hr.units) ok_eq (se_v (pv 0)) (se_v (pv 1)) (nomark _))))))) ss_nil)
    (ss_cons (ss_if (st_tr (se_isi (Ts := "int") (by rfl) T.b_isinstance (by rfl) T.b_int (by decide +kernel) (se_v (pv 1))) (by intro _; rfl)) (ss_one (ss_ret (se_and (se_isi (Ts := "int") (by rfl) T.b_isinstance (by rfl) T.b_int (by decide +kernel) (se_v (pv 0))) (se_one (se_cmp (f := fEq) (op_eqD hr.units) ok_eq (se_v (pv 0)) (se_v (pv 1)) (nomark _)))))) ss_nil)
    (ss_cons (ss_if (st_tr (se_isi (Ts := "str") (by rfl) T.b_isinstance (by rfl) T.b_str (by decide +kernel) (se_v (pv 1))) (by intro _; rfl)) (ss_one (ss_ret (se_and (se_isi (Ts := "str") (by rfl) T.b_isinstance (by rfl) T.b_str (by decide +kernel) (se_v (pv 0))) (se_one (se_cmp (f := fEq) (op_eqD hr.units) ok_eq (se_v (pv 0)) (se_v (pv 1)) (nomark _)))))) ss_nil)
    (ss_cons (ss_if (PW.pt (sw_or (st_not (st_tr (se_isi (Ts := "tuple") (by rfl) T.b_isinstance (by rfl) T.b_tuple (by decide +kernel) (se_v (pv 1))) (by intro _; rfl))) (sw_or (st_not (st_tr (se_isi (Ts := "tuple") (by rfl) T.b_isinstance (by rfl) T.b_tuple (by decide +kernel) (se_v (pv 0))) (by intro _; rfl))) (sw_or1 (st_cmp (f := fNe) (op_neD hr.units) ok_ne (se_bi (f := fLen) call_len ok_len (by rfl) T.b_len (by decide +kernel) (sr_cons (se_v (pv 0)) sr_nil)) (se_bi (f := fLen) call_len ok_len (by rfl) T.b_len (by decide +kernel) (sr_cons (se_v (pv 1)) sr_nil)) (nomark _)))))) (ss_one (ss_ret se_bl)) ss_nil)
    (ss_cons (ss_for PassesOwn.never rfl (si_rng1 (by rfl) T.b_range (sr_cons (se_bi (f := fLen) call_len ok_len (by rfl) T.b_len (by decide +kernel) (sr_cons (se_v (pv 1)) sr_nil)) sr_nil)) (sg_n (i := 2) S.nd rfl (by first | exact Or.inl rfl | exact Or.inr rfl)) (ss_one (ss_if (st_not (st_tr (se_call (ok_law_same.mono (by first | omega | (simp only [Nat.add_eq]; omega))) hr rfl mg_law_same fn_law_same.kp (fn_law_same.binds (ps := ["found", "due"]) fun _ _ _ _ _ _ us hl => match us, hl with | [_, _], _ => rfl) (sr_cons (se_ix (f := fIx) ix_seq ok_ix (se_v (pv 0)) (se_v (pv 2)) (fun _ _ => rfl)) (sr_cons (se_ix (f := fIx) ix_seq ok_ix (se_v (pv 1)) (se_v (pv 2)) (fun _ _ => rfl)) sr_nil))) (by intro _; rfl))) (ss_one (ss_ret se_bl)) ss_nil)))
    (ss_one (ss_ret se_bl))))))))
end
/-! _law_gcd -/
theorem S_law_gcd : FnScope ["a", "b", "k"] ["a", "b"] (defScope s_law_gcd) := ⟨rfl, rfl, rfl, by decide +kernel, rfl, by decide +kernel, by decide +kernel⟩
noncomputable def F_law_gcd : Fn BagT := runF 2 3 (mSeq (mPars [0, 1] (mCons (mH (mBi fAbs (mCons (mV 0) (mNil)))) (mCons (mH (mBi fAbs (mCons (mV 1) (mNil)))) (mNil))))
    (mSeq (mFor (mRng fR1 (mCons (mC (.int 4000)) (mNil))) (tmN 2) (mSeq (mIf (mBl (mOp2 fEq (mV 1) (mC (.int 0)))) (mRet (mV 0)) (mSkip))
    (mPars [0, 1] (mCons (mH (mV 1)) (mCons (mH (mOp2 fMod (mBi fInt (mCons (mV 0) (mNil))) (mV 1))) (mNil))))))
    (mRet (mV 0))))
section
variable {P : Program} {w : World} {K : PySem.W.Frag} {mg : Str → Option Value} {base : Heap}
theorem W_law_gcd (T : Txt K mg)  : M.Ok P w K mg base 1 "_law_gcd" s_law_gcd ["a", "b"] F_law_gcd := M.Ok.of T.d_law_gcd S_law_gcd fun f fd cdv A outer s H E hr => by
  have S := S_law_gcd
  exact (ss_cons (ss_par2 (i := 0) (j := 1) rfl S.nd rfl rfl (by decide) rfl rfl (sra_cons (se_bi (f := fAbs) call_abs ok_abs (by rfl) T.b_abs (by decide +kernel) (sr_cons (se_v (pv 0)) sr_nil)) (sra_cons (se_bi (f := fAbs) call_abs ok_abs (by rfl) T.b_abs (by decide +kernel) (sr_cons (se_v (pv 1)) sr_nil)) sra_nil)) (by rfl))
    (ss_cons (ss_for PassesOwn.never rfl (si_rng1 (by rfl) T.b_range (sr_cons se_int sr_nil)) (sg_n (i := 2) S.nd rfl (by first | exact Or.inl rfl | exact Or.inr rfl)) (ss_cons (ss_if (st_cmp (f := fEq) (op_eqD hr.units) ok_eq (se_v (pv 1)) se_int (nomark _)) (ss_one (ss_ret (se_v (pv 0)))) ss_nil)
    (ss_one (ss_par2 (i := 0) (j := 1) rfl S.nd rfl rfl (by decide) rfl rfl (sra_cons (se_v (pv 1)) (sra_cons (se_op2 (f := fMod) op_mod ok_mod (se_ty (f := fInt) call_int1 ok_int (by rfl) T.b_int (by decide +kernel) (sr_cons (se_v (pv 0)) sr_nil)) (se_v (pv 1))) sra_nil)) (by rfl)))))
    (ss_one (ss_ret (se_v (pv 0))))))
end
/-! _law_fr -/
theorem S_law_fr : FnScope ["a", "b", "by"] ["a", "b"] (defScope s_law_fr) := ⟨rfl, rfl, rfl, by decide +kernel, rfl, by decide +kernel, by decide +kernel⟩
noncomputable def F_law_fr : Fn BagT := runF 2 3 (mSeq (mSet 2 (mCall F_law_gcd (mCons (mV 0) (mCons (mV 1) (mNil)))))
    (mSeq (mIf (mBl (mOp2 fLt (mV 1) (mC (.int 0)))) (mSet 2 (mOp2 fSub (mC (.int 0)) (mV 2))) (mSkip))
    (mRet (mIfE (mBl (mOp2 fNe (mV 2) (mC (.int 0)))) (mTup (mCons (mD (mOp2 fDiv (mV 0) (mV 2))) (mCons (mD (mOp2 fDiv (mV 1) (mV 2))) (mNil)))) (mTup (mCons (mD (mC (.int 0))) (mCons (mD (mC (.int 1))) (mNil))))))))
section
variable {P : Program} {w : World} {K : PySem.W.Frag} {mg : Str → Option Value} {base : Heap}
theorem W_law_fr (T : Txt K mg) (D_law_gcd : M.Ok P w K mg base 1 "_law_gcd" s_law_gcd ["a", "b"] F_law_gcd) : M.Ok P w K mg base 2 "_law_fr" s_law_fr ["a", "b"] F_law_fr := M.Ok.of T.d_law_fr S_law_fr fun f fd cdv A outer s H E hr => by
  have S := S_law_fr
  obtain ⟨_, _, mg_law_gcd, fn_law_gcd, ok_law_gcd⟩ := D_law_gcd
  exact (ss_cons (ss_set (i := 2) S.nd rfl (by first | exact Or.inl rfl | exact Or.inr rfl) (se_call (ok_law_gcd.mono (by first | omega | (simp only [Nat.add_eq]; omega))) hr rfl mg_law_gcd fn_law_gcd.kp (fn_law_gcd.binds (ps := ["a", "b"]) fun _ _ _ _ _ _ us hl => match us, hl with | [_, _], _ => rfl) (sr_cons (se_v (pv 0)) (sr_cons (se_v (pv 1)) sr_nil))))
    (ss_cons (ss_if (st_cmp (f := fLt) op_lt ok_CmpI (se_v (pv 1)) se_int (nomark _)) (ss_one (ss_set (i := 2) S.nd rfl (by first | exact Or.inl rfl | exact Or.inr rfl) (se_op2 (f := fSub) op_sub ok_I0 se_int (se_v (pv 2))))) ss_nil)
    (ss_one (ss_ret (se_ifE (st_cmp (f := fNe) (op_neD hr.units) ok_ne (se_v (pv 2)) se_int (nomark _)) (se_tup (sd_cons (se_op2 (f := fDiv) op_fdivW (ok_I cDiv_ok) (se_v (pv 0)) (se_v (pv 2))) (sd_cons (se_op2 (f := fDiv) op_fdivW (ok_I cDiv_ok) (se_v (pv 1)) (se_v (pv 2))) sd_nil))) (se_tup (sd_cons se_int (sd_cons se_int sd_nil))))))))
end
/-! _law_back -/
theorem S_law_back : FnScope ["steps", "out", "k"] ["steps"] (defScope s_law_back) := ⟨rfl, rfl, rfl, by decide +kernel, rfl, by decide +kernel, by decide +kernel⟩
noncomputable def F_law_back : Fn BagT := runF 1 3 (mSeq (mSet 1 (mComp [2] (mIt (mV 0)) (tmN 2) (mYes) (mD (mC (.int 0)))))
    (mSeq (mFor (mRng fR1 (mCons (mBi fLen (mCons (mV 0) (mNil))) (mNil))) (tmN 2) (mPut (mV 2) (tmSub 1 (mOp2 fIx (mV 0) (mV 2)))))
    (mRet (mBi fTuple (mCons (mV 1) (mNil))))))
section
variable {P : Program} {w : World} {K : PySem.W.Frag} {mg : Str → Option Value} {base : Heap}
theorem W_law_back (T : Txt K mg)  : M.Ok P w K mg base 1 "_law_back" s_law_back ["steps"] F_law_back := M.Ok.of T.d_law_back S_law_back fun f fd cdv A outer s H E hr => by
  have S := S_law_back
  exact (ss_cons (ss_setLc (i := 1) (own := [("k", 2)]) rfl S.nd rfl rfl (sw_true rfl rfl rfl (by decide +kernel)) (si_seq (se_v (pv 0))) (blkOk_by (own := [("k", 2)]) (N := ["steps", "out", "k"]) (sc := defScope s_law_back) (by decide +kernel)) (by decide) tgv_n (fun _ _ _ _ _ => (sg_n (i := 2) S.nd rfl (by first | exact Or.inl rfl | exact Or.inr rfl))) (fun _ _ _ _ _ => sts_nil) (fun _ _ _ _ _ => se_int))
    (ss_cons (ss_for PassesOwn.never rfl (si_rng1 (by rfl) T.b_range (sr_cons (se_bi (f := fLen) call_len ok_len (by rfl) T.b_len (by decide +kernel) (sr_cons (se_v (pv 0)) sr_nil)) sr_nil)) (sg_n (i := 2) S.nd rfl (by first | exact Or.inl rfl | exact Or.inr rfl)) (ss_one (ss_put (se_v (pv 2)) (sg_sub (i := 1) (pv 1) (se_ix (f := fIx) ix_seq ok_ix (se_v (pv 0)) (se_v (pv 2)) (fun _ _ => rfl))))))
    (ss_one (ss_ret (se_ty (f := fTuple) call_tuple_of ok_tuple (by rfl) T.b_tuple (by decide +kernel) (sr_cons (se_v (pv 1)) sr_nil))))))
end
/-! _law_turn_of -/
theorem S_law_turn_of : FnScope ["board", "square", "right", "above", "left", "below"] ["board", "square"] (defScope s_law_turn_of) := ⟨rfl, rfl, rfl, by decide +kernel, rfl, by decide +kernel, by decide +kernel⟩
noncomputable def F_law_turn_of : Fn BagT := runF 2 6 (mSeq (mPars [2, 3] (mCons (mH (mOp2 fIx (mV 0) (mC (.int 0)))) (mCons (mH (mOp2 fIx (mV 0) (mC (.int 1)))) (mNil))))
    (mSeq (mPars [4, 5] (mCons (mH (mCall F_law_back (mCons (mV 2) (mNil)))) (mCons (mH (mCall F_law_back (mCons (mV 3) (mNil)))) (mNil))))
    (mRet (mOp2 fIx (mV 3) (mOp2 fIx (mV 2) (mOp2 fIx (mV 5) (mOp2 fIx (mV 4) (mV 1))))))))
section
variable {P : Program} {w : World} {K : PySem.W.Frag} {mg : Str → Option Value} {base : Heap}
theorem W_law_turn_of (T : Txt K mg) (D_law_back : M.Ok P w K mg base 1 "_law_back" s_law_back ["steps"] F_law_back) : M.Ok P w K mg base 2 "_law_turn_of" s_law_turn_of ["board", "square"] F_law_turn_of := M.Ok.of T.d_law_turn_of S_law_turn_of fun f fd cdv A outer s H E hr => by
  have S := S_law_turn_of
  obtain ⟨_, _, mg_law_back, fn_law_back, ok_law_back⟩ := D_law_back
  exact (ss_cons (ss_par2 (i := 2) (j := 3) rfl S.nd rfl rfl (by decide) rfl rfl (sra_cons (se_ix (f := fIx) ix_seq ok_ix (se_v (pv 0)) se_int (fun _ _ => rfl)) (sra_cons (se_ix (f := fIx) ix_seq ok_ix (se_v (pv 0)) se_int (fun _ _ => rfl)) sra_nil)) (by rfl))
    (ss_cons (ss_par2 (i := 4) (j := 5) rfl S.nd rfl rfl (by decide) rfl rfl (sra_cons (se_call (ok_law_back.mono (by first | omega | (simp only [Nat.add_eq]; omega))) hr rfl mg_law_back fn_law_back.kp (fn_law_back.binds (ps := ["steps"]) fun _ _ _ _ _ _ us hl => match us, hl with | [_], _ => rfl) (sr_cons (se_v (pv 2)) sr_nil)) (sra_cons (se_call (ok_law_back.mono (by first | omega | (simp only [Nat.add_eq]; omega))) hr rfl mg_law_back fn_law_back.kp (fn_law_back.binds (ps := ["steps"]) fun _ _ _ _ _ _ us hl => match us, hl with | [_], _ => rfl) (sr_cons (se_v (pv 3)) sr_nil)) sra_nil)) (by rfl))
    (ss_one (ss_ret (se_ix (f := fIx) ix_seq ok_ix (se_v (pv 3)) (se_ix (f := fIx) ix_seq ok_ix (se_v (pv 2)) (se_ix (f := fIx) ix_seq ok_ix (se_v (pv 5)) (se_ix (f := fIx) ix_seq ok_ix (se_v (pv 4)) (se_v (pv 1)) (fun _ _ => rfl)) (fun _ _ => rfl)) (fun _ _ => rfl)) (fun _ _ => rfl))))))
end
/-! _law_ends -/
theorem S_law_ends : FnScope ["right", "above", "k"] ["right", "above"] (defScope s_law_ends) := ⟨rfl, rfl, rfl, by decide +kernel, rfl, by decide +kernel, by decide +kernel⟩
noncomputable def F_law_ends : Fn BagT := runF 2 3 (mRet (mBi fTuple (mCons (mComp [2] (mRng fR1 (mCons (mBi fLen (mCons (mV 0) (mNil))) (mNil))) (tmN 2) (mBl (mOp2 fNe (mCall F_law_turn_of (mCons (mTup (mCons (mD (mV 0)) (mCons (mD (mV 1)) (mNil)))) (mCons (mV 2) (mNil)))) (mV 2))) (mD (mV 2))) (mNil))))
section
variable {P : Program} {w : World} {K : PySem.W.Frag} {mg : Str → Option Value} {base : Heap}
theorem W_law_ends (T : Txt K mg) (D_law_turn_of : M.Ok P w K mg base 2 "_law_turn_of" s_law_turn_of ["board", "square"] F_law_turn_of) : M.Ok P w K mg base 3 "_law_ends" s_law_ends ["right", "above"] F_law_ends := M.Ok.of T.d_law_ends S_law_ends fun f fd cdv A outer s H E hr => by
  have S := S_law_ends
  obtain ⟨_, _, mg_law_turn_of, fn_law_turn_of, ok_law_turn_of⟩ := D_law_turn_of
  exact (ss_one (ss_ret (se_ty (f := fTuple) call_tuple_of ok_tuple (by rfl) T.b_tuple (by decide +kernel) (sr_cons (se_comp (own := [("k", 2)]) rfl S.nd (si_rng1 (by rfl) T.b_range (sr_cons (se_bi (f := fLen) call_len ok_len (by rfl) T.b_len (by decide +kernel) (sr_cons (se_v (pv 0)) sr_nil)) sr_nil)) (blkOk_by (own := [("k", 2)]) (N := ["right", "above", "k"]) (sc := defScope s_law_ends) (by decide +kernel)) (by decide) tgv_n (fun _ _ _ _ _ => (sg_n (i := 2) S.nd rfl (by first | exact Or.inl rfl | exact Or.inr rfl))) (fun _ _ _ _ _ => (sts_one (st_cmp (f := fNe) (op_neD hr.units) ok_ne (se_call (ok_law_turn_of.mono (by first | omega | (simp only [Nat.add_eq]; omega))) hr rfl mg_law_turn_of fn_law_turn_of.kp (fn_law_turn_of.binds (ps := ["board", "square"]) fun _ _ _ _ _ _ us hl => match us, hl with | [_, _], _ => rfl) (sr_cons (se_tup (sd_cons (se_v (pv 0)) (sd_cons (se_v (pv 1)) sd_nil))) (sr_cons (se_v (pv 2)) sr_nil))) (se_v (pv 2)) (nomark _)))) (fun _ _ _ _ _ => (se_v (pv 2)))) sr_nil))))
end
/-! _law_group -/
theorem S_law_group : FnScope ["right", "above", "found", "k", "to"] ["right", "above"] (defScope s_law_group) := ⟨rfl, rfl, rfl, by decide +kernel, rfl, by decide +kernel, by decide +kernel⟩
noncomputable def F_law_group : Fn BagT := runF 2 5 (mSeq (mSet 2 (mLst (mCons (mD (mC (.int 0))) (mNil))))
    (mSeq (mFor (mRng fR1 (mCons (mBi fLen (mCons (mV 0) (mNil))) (mNil))) (tmN 3) (mIf (mBl (mOp2 fLt (mV 3) (mBi fLen (mCons (mV 2) (mNil))))) (mFor (mIt (mTup (mCons (mD (mOp2 fIx (mV 0) (mOp2 fIx (mV 2) (mV 3)))) (mCons (mD (mOp2 fIx (mV 1) (mOp2 fIx (mV 2) (mV 3)))) (mCons (mD (mOp2 fIx (mCall F_law_back (mCons (mV 0) (mNil))) (mOp2 fIx (mV 2) (mV 3)))) (mCons (mD (mOp2 fIx (mCall F_law_back (mCons (mV 1) (mNil))) (mOp2 fIx (mV 2) (mV 3)))) (mNil))))))) (tmN 4) (mIf (mBl (mOp2 (fInB true) (mV 4) (mV 2))) (mEx (mOwn 2 fAppend (mCons (mD (mV 4)) (mNil)))) (mSkip))) (mSkip)))
    (mRet (mV 2))))
section
variable {P : Program} {w : World} {K : PySem.W.Frag} {mg : Str → Option Value} {base : Heap}
theorem W_law_group (T : Txt K mg) (D_law_back : M.Ok P w K mg base 1 "_law_back" s_law_back ["steps"] F_law_back) : M.Ok P w K mg base 2 "_law_group" s_law_group ["right", "above"] F_law_group := M.Ok.of T.d_law_group S_law_group fun f fd cdv A outer s H E hr => by
  have S := S_law_group
  obtain ⟨_, _, mg_law_back, fn_law_back, ok_law_back⟩ := D_law_back
  exact (ss_cons (ss_set (i := 2) S.nd rfl (by first | exact Or.inl rfl | exact Or.inr rfl) (se_lst (sd_cons se_int sd_nil)))
    (ss_cons (ss_for PassesOwn.never rfl (si_rng1 (by rfl) T.b_range (sr_cons (se_bi (f := fLen) call_len ok_len (by rfl) T.b_len (by decide +kernel) (sr_cons (se_v (pv 0)) sr_nil)) sr_nil)) (sg_n (i := 3) S.nd rfl (by first | exact Or.inl rfl | exact Or.inr rfl)) (ss_one (ss_if (st_cmp (f := fLt) op_lt ok_CmpI (se_v (pv 3)) (se_bi (f := fLen) call_len ok_len (by rfl) T.b_len (by decide +kernel) (sr_cons (se_v (pv 2)) sr_nil)) (nomark _)) (ss_one (ss_for PassesOwn.never rfl (si_seq (se_tup (sd_cons (se_ix (f := fIx) ix_seq ok_ix (se_v (pv 0)) (se_ix (f := fIx) ix_seq ok_ix (se_v (pv 2)) (se_v (pv 3)) (fun _ _ => rfl)) (fun _ _ => rfl)) (sd_cons (se_ix (f := fIx) ix_seq ok_ix (se_v (pv 1)) (se_ix (f := fIx) ix_seq ok_ix (se_v (pv 2)) (se_v (pv 3)) (fun _ _ => rfl)) (fun _ _ => rfl)) (sd_cons (se_ix (f := fIx) ix_seq ok_ix (se_call (ok_law_back.mono (by first | omega | (simp only [Nat.add_eq]; omega))) hr rfl mg_law_back fn_law_back.kp (fn_law_back.binds (ps := ["steps"]) fun _ _ _ _ _ _ us hl => match us, hl with | [_], _ => rfl) (sr_cons (se_v (pv 0)) sr_nil)) (se_ix (f := fIx) ix_seq ok_ix (se_v (pv 2)) (se_v (pv 3)) (fun _ _ => rfl)) (fun _ _ => rfl)) (sd_cons (se_ix (f := fIx) ix_seq ok_ix (se_call (ok_law_back.mono (by first | omega | (simp only [Nat.add_eq]; omega))) hr rfl mg_law_back fn_law_back.kp (fn_law_back.binds (ps := ["steps"]) fun _ _ _ _ _ _ us hl => match us, hl with | [_], _ => rfl) (sr_cons (se_v (pv 1)) sr_nil)) (se_ix (f := fIx) ix_seq ok_ix (se_v (pv 2)) (se_v (pv 3)) (fun _ _ => rfl)) (fun _ _ => rfl)) sd_nil)))))) (sg_n (i := 4) S.nd rfl (by first | exact Or.inl rfl | exact Or.inr rfl)) (ss_one (ss_if (st_cmp (f := (fInB true)) (op_notInA (hu65 hr)) ok_in (se_v (pv 4)) (se_v (pv 2)) (by rfl)) (ss_one (ss_ex (se_m (f := fAppend) ok_append mt_append PySem.F.slot_list_append PySem.F.type_list_append (pv 2) (sd_cons (se_v (pv 4)) sd_nil)))) ss_nil)))) ss_nil)))
    (ss_one (ss_ret (se_v (pv 2))))))
end
/-! _law_shuffle -/
theorem S_law_shuffle : FnScope ["bag", "many", "out", "k", "j"] ["bag", "many"] (defScope s_law_shuffle) := ⟨rfl, rfl, rfl, by decide +kernel, rfl, by decide +kernel, by decide +kernel⟩
noncomputable def F_law_shuffle : Fn BagT := runF 2 5 (mSeq (mSet 2 (mLR1 (mV 1)))
    (mSeq (mFor (mRng fR3 (mCons (mOp2 fSub (mV 1) (mC (.int 1))) (mCons (mC (.int 0)) (mCons (mOp1 fNeg (mC (.int 1))) (mNil))))) (tmN 3) (mSeq (mSet 4 (mCall F_draw (mCons (mV 0) (mCons (mOp2 fAdd (mV 3) (mC (.int 1))) (mNil)))))
    (mPut (mTup (mCons (mD (mOp2 fIx (mV 2) (mV 4))) (mCons (mD (mOp2 fIx (mV 2) (mV 3))) (mNil)))) (tmT (tmCons (tmSub 2 (mV 3)) (tmCons (tmSub 2 (mV 4)) (tmNil))) 2))))
    (mRet (mV 2))))
section
variable {P : Program} {w : World} {K : PySem.W.Frag} {mg : Str → Option Value} {base : Heap}
theorem W_law_shuffle (T : Txt K mg) (D_law_draw : M.Ok P w K mg base 1 "_law_draw" s_law_draw ["bag", "many"] F_draw) : M.Ok P w K mg base 2 "_law_shuffle" s_law_shuffle ["bag", "many"] F_law_shuffle := M.Ok.of T.d_law_shuffle S_law_shuffle fun f fd cdv A outer s H E hr => by
  have S := S_law_shuffle
  obtain ⟨_, _, mg_law_draw, fn_law_draw, ok_law_draw⟩ := D_law_draw
  exact (ss_cons (ss_set (i := 2) S.nd rfl (by first | exact Or.inl rfl | exact Or.inr rfl) (se_lr1 rfl (by rfl) T.b_list (by rfl) T.b_range (se_v (pv 1))))
    (ss_cons (ss_for PassesOwn.never rfl (si_rng3 (by rfl) T.b_range (sr_cons (se_op2 (f := fSub) op_sub ok_I0 (se_v (pv 1)) se_int) (sr_cons se_int (sr_cons (se_un un_neg ok_neg se_int) sr_nil)))) (sg_n (i := 3) S.nd rfl (by first | exact Or.inl rfl | exact Or.inr rfl)) (ss_cons (ss_set (i := 4) S.nd rfl (by first | exact Or.inl rfl | exact Or.inr rfl) (se_call (ok_law_draw.mono (by first | omega | (simp only [Nat.add_eq]; omega))) hr rfl mg_law_draw fn_law_draw.kp (fn_law_draw.binds (ps := ["bag", "many"]) fun _ _ _ _ _ _ us hl => match us, hl with | [_, _], _ => rfl) (sr_cons (se_v (pv 0)) (sr_cons (se_op2 (f := fAdd) op_addA ok_add (se_v (pv 3)) se_int) sr_nil))))
    (ss_one (ss_put (se_tup (sd_cons (se_ix (f := fIx) ix_seq ok_ix (se_v (pv 2)) (se_v (pv 4)) (fun _ _ => rfl)) (sd_cons (se_ix (f := fIx) ix_seq ok_ix (se_v (pv 2)) (se_v (pv 3)) (fun _ _ => rfl)) sd_nil))) (sgs_tup rfl (sgs_cons (sg_sub (i := 2) (pv 2) (se_v (pv 3))) (sgs_cons (sg_sub (i := 2) (pv 2) (se_v (pv 4))) sgs_nil)))))))
    (ss_one (ss_ret (se_v (pv 2))))))
end
/-! _law_board -/
theorem S_law_board : FnScope ["bag", "most", "many", "right", "above", "lap", "apart", "some", "corners", "k"] ["bag", "most"] (defScope s_law_board) := ⟨rfl, rfl, rfl, by decide +kernel, rfl, by decide +kernel, by decide +kernel⟩
noncomputable def F_law_board : Fn BagT := runF 2 10 (mSeq (mSet 2 (mOp2 fAdd (mC (.int 1)) (mCall F_draw (mCons (mV 0) (mCons (mV 1) (mNil))))))
    (mSeq (mPars [3, 4] (mCons (mH (mCall F_law_shuffle (mCons (mV 0) (mCons (mV 2) (mNil))))) (mCons (mH (mCall F_law_shuffle (mCons (mV 0) (mCons (mV 2) (mNil))))) (mNil))))
    (mSeq (mFor (mRng fR1 (mCons (mV 2) (mNil))) (tmN 5) (mSeq (mSet 6 (mComp [9] (mRng fR1 (mCons (mV 2) (mNil))) (tmN 9) (mBl (mOp2 (fInB true) (mV 9) (mCall F_law_group (mCons (mV 3) (mCons (mV 4) (mNil)))))) (mD (mV 9))))
    (mIf (mBl (mOp2 fNe (mV 6) (mLst (mNil)))) (mPut (mTup (mCons (mD (mOp2 fIx (mV 4) (mC (.int 0)))) (mCons (mD (mOp2 fIx (mV 4) (mOp2 fIx (mV 6) (mC (.int 0))))) (mNil)))) (tmT (tmCons (tmSub 4 (mOp2 fIx (mV 6) (mC (.int 0)))) (tmCons (tmSub 4 (mC (.int 0))) (tmNil))) 2)) (mSkip))))
    (mSeq (mPars [3, 4] (mCons (mH (mBi fTuple (mCons (mV 3) (mNil)))) (mCons (mH (mBi fTuple (mCons (mV 4) (mNil)))) (mNil))))
    (mSeq (mSet 7 (mOp2 fEq (mCall F_draw (mCons (mV 0) (mCons (mC (.int 3)) (mNil)))) (mC (.int 0))))
    (mSeq (mSet 8 (mCall F_law_ends (mCons (mV 3) (mCons (mV 4) (mNil)))))
    (mRet (mTup (mCons (mD (mV 3)) (mCons (mD (mV 4)) (mCons (mD (mBi fTuple (mCons (mComp [9] (mRng fR1 (mCons (mV 2) (mNil))) (tmN 9) (mOr (mBl (mOp2 (fInB false) (mV 9) (mV 8))) (mAnd (mTr (mV 7)) (mBl (mOp2 fEq (mCall F_draw (mCons (mV 0) (mCons (mC (.int 3)) (mNil)))) (mC (.int 0)))))) (mD (mV 9))) (mNil)))) (mNil))))))))))))
section
variable {P : Program} {w : World} {K : PySem.W.Frag} {mg : Str → Option Value} {base : Heap}
theorem W_law_board (T : Txt K mg) (D_law_draw : M.Ok P w K mg base 1 "_law_draw" s_law_draw ["bag", "many"] F_draw) (D_law_shuffle : M.Ok P w K mg base 2 "_law_shuffle" s_law_shuffle ["bag", "many"] F_law_shuffle) (D_law_group : M.Ok P w K mg base 2 "_law_group" s_law_group ["right", "above"] F_law_group) (D_law_ends : M.Ok P w K mg base 3 "_law_ends" s_law_ends ["right", "above"] F_law_ends) : M.Ok P w K mg base 4 "_law_board" s_law_board ["bag", "most"] F_law_board := M.Ok.of T.d_law_board S_law_board fun f fd cdv A outer s H E hr => by
  have S := S_law_board
  obtain ⟨_, _, mg_law_draw, fn_law_draw, ok_law_draw⟩ := D_law_draw
  obtain ⟨_, _, mg_law_shuffle, fn_law_shuffle, ok_law_shuffle⟩ := D_law_shuffle
  obtain ⟨_, _, mg_law_group, fn_law_group, ok_law_group⟩ := D_law_group
  obtain ⟨_, _, mg_law_ends, fn_law_ends, ok_law_ends⟩ := D_law_ends
  exact (ss_cons (ss_set (i := 2) S.nd rfl (by first | exact Or.inl rfl | exact Or.inr rfl) (se_op2 (f := fAdd) op_addA ok_add se_int (se_call (ok_law_draw.mono (by first | omega | (simp only [Nat.add_eq]; omega))) hr rfl mg_law_draw fn_law_draw.kp (fn_law_draw.binds (ps := ["bag", "many"]) fun _ _ _ _ _ _ us hl => match us, hl with | [_, _], _ => rfl) (sr_cons (se_v (pv 0)) (sr_cons (se_v (pv 1)) sr_nil)))))
    (ss_cons (ss_parT (is := [3, 4]) rfl (sra_cons (se_call (ok_law_shuffle.mono (by first | omega | (simp only [Nat.add_eq]; omega))) hr rfl mg_law_shuffle fn_law_shuffle.kp (fn_law_shuffle.binds (ps := ["bag", "many"]) fun _ _ _ _ _ _ us hl => match us, hl with | [_, _], _ => rfl) (sr_cons (se_v (pv 0)) (sr_cons (se_v (pv 2)) sr_nil))) (sra_cons (se_call (ok_law_shuffle.mono (by first | omega | (simp only [Nat.add_eq]; omega))) hr rfl mg_law_shuffle fn_law_shuffle.kp (fn_law_shuffle.binds (ps := ["bag", "many"]) fun _ _ _ _ _ _ us hl => match us, hl with | [_, _], _ => rfl) (sr_cons (se_v (pv 0)) (sr_cons (se_v (pv 2)) sr_nil))) sra_nil)) (pgs_cons (pg_name (i := 3) S.nd rfl (by first | exact Or.inl rfl | exact Or.inr rfl)) (pgs_cons (pg_name (i := 4) S.nd rfl (by first | exact Or.inl rfl | exact Or.inr rfl)) pgs_nil)) (by decide) rfl)
    (ss_cons (ss_for PassesOwn.never rfl (si_rng1 (by rfl) T.b_range (sr_cons (se_v (pv 2)) sr_nil)) (sg_n (i := 5) S.nd rfl (by first | exact Or.inl rfl | exact Or.inr rfl)) (ss_cons (ss_setLc (i := 6) (own := [("k", 9)]) rfl S.nd rfl rfl (sw_true rfl rfl rfl (by decide +kernel)) (si_rng1 (by rfl) T.b_range (sr_cons (se_v (pv 2)) sr_nil)) (blkOk_by (own := [("k", 9)]) (N := ["bag", "most", "many", "right", "above", "lap", "apart", "some", "corners", "k"]) (sc := defScope s_law_board) (by decide +kernel)) (by decide) tgv_n (fun _ _ _ _ _ => (sg_n (i := 9) S.nd rfl (by first | exact Or.inl rfl | exact Or.inr rfl))) (fun _ _ _ _ _ => (sts_one (st_cmp (f := (fInB true)) (op_notInA (hu65 hr)) ok_in (se_v (pv 9)) (se_call (ok_law_group.mono (by first | omega | (simp only [Nat.add_eq]; omega))) hr rfl mg_law_group fn_law_group.kp (fn_law_group.binds (ps := ["right", "above"]) fun _ _ _ _ _ _ us hl => match us, hl with | [_, _], _ => rfl) (sr_cons (se_v (pv 3)) (sr_cons (se_v (pv 4)) sr_nil))) (by rfl)))) (fun _ _ _ _ _ => (se_v (pv 9))))
    (ss_one (ss_if (st_cmp (f := fNe) (op_neD hr.units) ok_ne (se_v (pv 6)) (se_lst sd_nil) (nomark _)) (ss_one (ss_put (se_tup (sd_cons (se_ix (f := fIx) ix_seq ok_ix (se_v (pv 4)) se_int (fun _ _ => rfl)) (sd_cons (se_ix (f := fIx) ix_seq ok_ix (se_v (pv 4)) (se_ix (f := fIx) ix_seq ok_ix (se_v (pv 6)) se_int (fun _ _ => rfl)) (fun _ _ => rfl)) sd_nil))) (sgs_tup rfl (sgs_cons (sg_sub (i := 4) (pv 4) (se_ix (f := fIx) ix_seq ok_ix (se_v (pv 6)) se_int (fun _ _ => rfl))) (sgs_cons (sg_sub (i := 4) (pv 4) se_int) sgs_nil))))) ss_nil))))
    (ss_cons (ss_parT (is := [3, 4]) rfl (sra_cons (se_ty (f := fTuple) call_tuple_of ok_tuple (by rfl) T.b_tuple (by decide +kernel) (sr_cons (se_v (pv 3)) sr_nil)) (sra_cons (se_ty (f := fTuple) call_tuple_of ok_tuple (by rfl) T.b_tuple (by decide +kernel) (sr_cons (se_v (pv 4)) sr_nil)) sra_nil)) (pgs_cons (pg_name (i := 3) S.nd rfl (by first | exact Or.inl rfl | exact Or.inr rfl)) (pgs_cons (pg_name (i := 4) S.nd rfl (by first | exact Or.inl rfl | exact Or.inr rfl)) pgs_nil)) (by decide) rfl)
    (ss_cons (ss_set (i := 7) S.nd rfl (by first | exact Or.inl rfl | exact Or.inr rfl) (se_cmp (f := fEq) (op_eqD hr.units) ok_eq (se_call (ok_law_draw.mono (by first | omega | (simp only [Nat.add_eq]; omega))) hr rfl mg_law_draw fn_law_draw.kp (fn_law_draw.binds (ps := ["bag", "many"]) fun _ _ _ _ _ _ us hl => match us, hl with | [_, _], _ => rfl) (sr_cons (se_v (pv 0)) (sr_cons se_int sr_nil))) se_int (nomark _)))
    (ss_cons (ss_set (i := 8) S.nd rfl (by first | exact Or.inl rfl | exact Or.inr rfl) (se_call (ok_law_ends.mono (by first | omega | (simp only [Nat.add_eq]; omega))) hr rfl mg_law_ends fn_law_ends.kp (fn_law_ends.binds (ps := ["right", "above"]) fun _ _ _ _ _ _ us hl => match us, hl with | [_, _], _ => rfl) (sr_cons (se_v (pv 3)) (sr_cons (se_v (pv 4)) sr_nil))))
    (ss_one (ss_ret (se_tup (sd_cons (se_v (pv 3)) (sd_cons (se_v (pv 4)) (sd_cons (se_ty (f := fTuple) call_tuple_of ok_tuple (by rfl) T.b_tuple (by decide +kernel) (sr_cons (se_comp (own := [("k", 9)]) rfl S.nd (si_rng1 (by rfl) T.b_range (sr_cons (se_v (pv 2)) sr_nil)) (blkOk_by (own := [("k", 9)]) (N := ["bag", "most", "many", "right", "above", "lap", "apart", "some", "corners", "k"]) (sc := defScope s_law_board) (by decide +kernel)) (by decide) tgv_n (fun _ _ _ _ _ => (sg_n (i := 9) S.nd rfl (by first | exact Or.inl rfl | exact Or.inr rfl))) (fun _ _ _ _ _ => (sts_one (PW.pt (sw_or (st_cmp (f := (fInB false)) (op_inA (hu65 hr)) ok_in (se_v (pv 9)) (se_v (pv 8)) (by rfl)) (sw_or1 (PW.pt (sw_and (st_tr (se_v (pv 7)) (by intro _; rfl)) (sw_and1 (st_cmp (f := fEq) (op_eqD hr.units) ok_eq (se_call (ok_law_draw.mono (by first | omega | (simp only [Nat.add_eq]; omega))) hr rfl mg_law_draw fn_law_draw.kp (fn_law_draw.binds (ps := ["bag", "many"]) fun _ _ _ _ _ _ us hl => match us, hl with | [_, _], _ => rfl) (sr_cons (se_v (pv 0)) (sr_cons se_int sr_nil))) se_int (nomark _)))))))))) (fun _ _ _ _ _ => (se_v (pv 9)))) sr_nil)) sd_nil))))))))))))
end
/-! _law_is_part -/
theorem S_law_is_part : FnScope ["value", "n"] ["value"] (defScope s_law_is_part) := ⟨rfl, rfl, rfl, by decide +kernel, rfl, by decide +kernel, by decide +kernel⟩
noncomputable def F_law_is_part : Fn BagT := runF 1 2 (mSeq (mIf (mOr (mNot (mTr (mOp1 (fIsi "tuple") (mV 0)))) (mOr (mBl (mOp2 fNe (mBi fLen (mCons (mV 0) (mNil))) (mC (.int 2)))) (mBl (mOp2 fNe (mComp [1] (mIt (mV 0)) (tmN 1) (mOr (mTr (mOp1 (fIsi "bool") (mV 1))) (mNot (mTr (mOp1 (fIsi "int") (mV 1))))) (mD (mV 1))) (mLst (mNil)))))) (mRet (mC (.bl false))) (mSkip))
    (mRet (mAndV (mOp2 fGe (mOp2 fIx (mV 0) (mC (.int 1))) (mC (.int 1))) (mAndV (mOp2 fGe (mOp2 fIx (mV 0) (mC (.int 0))) (mC (.int 0))) (mAndV (mOp2 fLt (mOp2 fIx (mV 0) (mC (.int 0))) (mOp2 fIx (mV 0) (mC (.int 1)))) (mOp2 fEq (mCall F_law_gcd (mCons (mOp2 fIx (mV 0) (mC (.int 0))) (mCons (mOp2 fIx (mV 0) (mC (.int 1))) (mNil)))) (mC (.int 1))))))))
section
variable {P : Program} {w : World} {K : PySem.W.Frag} {mg : Str → Option Value} {base : Heap}
theorem W_law_is_part (T : Txt K mg) (D_law_gcd : M.Ok P w K mg base 1 "_law_gcd" s_law_gcd ["a", "b"] F_law_gcd) : M.Ok P w K mg base 2 "_law_is_part" s_law_is_part ["value"] F_law_is_part := M.Ok.of T.d_law_is_part S_law_is_part fun f fd cdv A outer s H E hr => by
  have S := S_law_is_part
  obtain ⟨_, _, mg_law_gcd, fn_law_gcd, ok_law_gcd⟩ := D_law_gcd
  exact (ss_cons (ss_if (PW.pt (sw_or (st_not (st_tr (se_isi (Ts := "tuple") (by rfl) T.b_isinstance (by rfl) T.b_tuple (by decide +kernel) (se_v (pv 0))) (by intro _; rfl))) (sw_or (st_cmp (f := fNe) (op_neD hr.units) ok_ne (se_bi (f := fLen) call_len ok_len (by rfl) T.b_len (by decide +kernel) (sr_cons (se_v (pv 0)) sr_nil)) se_int (nomark _)) (sw_or1 (st_cmp (f := fNe) (op_neD hr.units) ok_ne (se_comp (own := [("n", 1)]) rfl S.nd (si_seq (se_v (pv 0))) (blkOk_by (own := [("n", 1)]) (N := ["value", "n"]) (sc := defScope s_law_is_part) (by decide +kernel)) (by decide) tgv_n (fun _ _ _ _ _ => (sg_n (i := 1) S.nd rfl (by first | exact Or.inl rfl | exact Or.inr rfl))) (fun _ _ _ _ _ => (sts_one (PW.pt (sw_or (st_tr (se_isi (Ts := "bool") (by rfl) T.b_isinstance (by rfl) T.b_bool (by decide +kernel) (se_v (pv 1))) (by intro _; rfl)) (sw_or1 (st_not (st_tr (se_isi (Ts := "int") (by rfl) T.b_isinstance (by rfl) T.b_int (by decide +kernel) (se_v (pv 1))) (by intro _; rfl)))))))) (fun _ _ _ _ _ => (se_v (pv 1)))) (se_lst sd_nil) (nomark _)))))) (ss_one (ss_ret se_bl)) ss_nil)
    (ss_one (ss_ret (se_and (se_cmp (f := fGe) op_ge ok_CmpI (se_ix (f := fIx) ix_seq ok_ix (se_v (pv 0)) se_int (fun _ _ => rfl)) se_int (nomark _)) (se_and (se_cmp (f := fGe) op_ge ok_CmpI (se_ix (f := fIx) ix_seq ok_ix (se_v (pv 0)) se_int (fun _ _ => rfl)) se_int (nomark _)) (se_and (se_cmp (f := fLt) op_lt ok_CmpI (se_ix (f := fIx) ix_seq ok_ix (se_v (pv 0)) se_int (fun _ _ => rfl)) (se_ix (f := fIx) ix_seq ok_ix (se_v (pv 0)) se_int (fun _ _ => rfl)) (nomark _)) (se_one (se_cmp (f := fEq) (op_eqD hr.units) ok_eq (se_call (ok_law_gcd.mono (by first | omega | (simp only [Nat.add_eq]; omega))) hr rfl mg_law_gcd fn_law_gcd.kp (fn_law_gcd.binds (ps := ["a", "b"]) fun _ _ _ _ _ _ us hl => match us, hl with | [_, _], _ => rfl) (sr_cons (se_ix (f := fIx) ix_seq ok_ix (se_v (pv 0)) se_int (fun _ _ => rfl)) (sr_cons (se_ix (f := fIx) ix_seq ok_ix (se_v (pv 0)) se_int (fun _ _ => rfl)) sr_nil))) se_int (nomark _)))))))))
end
/-! _law_is_place -/
theorem S_law_is_place : FnScope ["board", "value"] ["board", "value"] (defScope s_law_is_place) := ⟨rfl, rfl, rfl, by decide +kernel, rfl, by decide +kernel, by decide +kernel⟩
noncomputable def F_law_is_place : Fn BagT := runF 2 2 (mSeq (mIf (mOr (mNot (mTr (mOp1 (fIsi "tuple") (mV 1)))) (mOr (mBl (mOp2 fNe (mBi fLen (mCons (mV 1) (mNil))) (mC (.int 3)))) (mOr (mTr (mOp1 (fIsi "bool") (mOp2 fIx (mV 1) (mC (.int 0))))) (mNot (mTr (mOp1 (fIsi "int") (mOp2 fIx (mV 1) (mC (.int 0))))))))) (mRet (mC (.bl false))) (mSkip))
    (mSeq (mIf (mOr (mBl (mOp2 fLt (mOp2 fIx (mV 1) (mC (.int 0))) (mC (.int 0)))) (mOr (mBl (mOp2 fGe (mOp2 fIx (mV 1) (mC (.int 0))) (mBi fLen (mCons (mOp2 fIx (mV 0) (mC (.int 0))) (mNil))))) (mOr (mNot (mTr (mCall F_law_is_part (mCons (mOp2 fIx (mV 1) (mC (.int 1))) (mNil))))) (mNot (mTr (mCall F_law_is_part (mCons (mOp2 fIx (mV 1) (mC (.int 2))) (mNil)))))))) (mRet (mC (.bl false))) (mSkip))
    (mRet (mOrV (mOp2 fNe (mOp2 fIx (mOp2 fIx (mV 1) (mC (.int 1))) (mC (.int 0))) (mC (.int 0))) (mOrV (mOp2 fNe (mOp2 fIx (mOp2 fIx (mV 1) (mC (.int 2))) (mC (.int 0))) (mC (.int 0))) (mOp2 (fInB true) (mOp2 fIx (mV 1) (mC (.int 0))) (mOp2 fIx (mV 0) (mC (.int 2)))))))))
section
variable {P : Program} {w : World} {K : PySem.W.Frag} {mg : Str → Option Value} {base : Heap}
theorem W_law_is_place (T : Txt K mg) (D_law_is_part : M.Ok P w K mg base 2 "_law_is_part" s_law_is_part ["value"] F_law_is_part) : M.Ok P w K mg base 3 "_law_is_place" s_law_is_place ["board", "value"] F_law_is_place := M.Ok.of T.d_law_is_place S_law_is_place fun f fd cdv A outer s H E hr => by
  have S := S_law_is_place
  obtain ⟨_, _, mg_law_is_part, fn_law_is_part, ok_law_is_part⟩ := D_law_is_part
  exact (ss_cons (ss_if (PW.pt (sw_or (st_not (st_tr (se_isi (Ts := "tuple") (by rfl) T.b_isinstance (by rfl) T.b_tuple (by decide +kernel) (se_v (pv 1))) (by intro _; rfl))) (sw_or (st_cmp (f := fNe) (op_neD hr.units) ok_ne (se_bi (f := fLen) call_len ok_len (by rfl) T.b_len (by decide +kernel) (sr_cons (se_v (pv 1)) sr_nil)) se_int (nomark _)) (sw_or (st_tr (se_isi (Ts := "bool") (by rfl) T.b_isinstance (by rfl) T.b_bool (by decide +kernel) (se_ix (f := fIx) ix_seq ok_ix (se_v (pv 1)) se_int (fun _ _ => rfl))) (by intro _; rfl)) (sw_or1 (st_not (st_tr (se_isi (Ts := "int") (by rfl) T.b_isinstance (by rfl) T.b_int (by decide +kernel) (se_ix (f := fIx) ix_seq ok_ix (se_v (pv 1)) se_int (fun _ _ => rfl))) (by intro _; rfl)))))))) (ss_one (ss_ret se_bl)) ss_nil)
    (ss_cons (ss_if (PW.pt (sw_or (st_cmp (f := fLt) op_lt ok_CmpI (se_ix (f := fIx) ix_seq ok_ix (se_v (pv 1)) se_int (fun _ _ => rfl)) se_int (nomark _)) (sw_or (st_cmp (f := fGe) op_ge ok_CmpI (se_ix (f := fIx) ix_seq ok_ix (se_v (pv 1)) se_int (fun _ _ => rfl)) (se_bi (f := fLen) call_len ok_len (by rfl) T.b_len (by decide +kernel) (sr_cons (se_ix (f := fIx) ix_seq ok_ix (se_v (pv 0)) se_int (fun _ _ => rfl)) sr_nil)) (nomark _)) (sw_or (st_not (st_tr (se_call (ok_law_is_part.mono (by first | omega | (simp only [Nat.add_eq]; omega))) hr rfl mg_law_is_part fn_law_is_part.kp (fn_law_is_part.binds (ps := ["value"]) fun _ _ _ _ _ _ us hl => match us, hl with | [_], _ => rfl) (sr_cons (se_ix (f := fIx) ix_seq ok_ix (se_v (pv 1)) se_int (fun _ _ => rfl)) sr_nil)) (by intro _; rfl))) (sw_or1 (st_not (st_tr (se_call (ok_law_is_part.mono (by first | omega | (simp only [Nat.add_eq]; omega))) hr rfl mg_law_is_part fn_law_is_part.kp (fn_law_is_part.binds (ps := ["value"]) fun _ _ _ _ _ _ us hl => match us, hl with | [_], _ => rfl) (sr_cons (se_ix (f := fIx) ix_seq ok_ix (se_v (pv 1)) se_int (fun _ _ => rfl)) sr_nil)) (by intro _; rfl)))))))) (ss_one (ss_ret se_bl)) ss_nil)
    (ss_one (ss_ret (se_or (se_cmp (f := fNe) (op_neD hr.units) ok_ne (se_ix (f := fIx) ix_seq ok_ix (se_ix (f := fIx) ix_seq ok_ix (se_v (pv 1)) se_int (fun _ _ => rfl)) se_int (fun _ _ => rfl)) se_int (nomark _)) (se_or (se_cmp (f := fNe) (op_neD hr.units) ok_ne (se_ix (f := fIx) ix_seq ok_ix (se_ix (f := fIx) ix_seq ok_ix (se_v (pv 1)) se_int (fun _ _ => rfl)) se_int (fun _ _ => rfl)) se_int (nomark _)) (se_one (se_cmp (f := (fInB true)) (op_notInA (hu65 hr)) ok_in (se_ix (f := fIx) ix_seq ok_ix (se_v (pv 1)) se_int (fun _ _ => rfl)) (se_ix (f := fIx) ix_seq ok_ix (se_v (pv 0)) se_int (fun _ _ => rfl)) (by rfl)))))))))
end
/-! _law_parts -/
theorem S_law_parts : FnScope ["bag", "n", "good", "bad"] ["bag"] (defScope s_law_parts) := ⟨rfl, rfl, rfl, by decide +kernel, rfl, by decide +kernel, by decide +kernel⟩
noncomputable def F_law_parts : Fn BagT := runF 1 4 (mSeq (mSet 1 (mOp2 fAdd (mOp2 fPow (mC (.int 10)) (mC (.int 30))) (mCall F_draw (mCons (mV 0) (mCons (mC (.int 9)) (mNil))))))
    (mSeq (mSet 2 (mLst (mCons (mD (mTup (mCons (mD (mC (.int 0))) (mCons (mD (mC (.int 1))) (mNil))))) (mCons (mD (mTup (mCons (mD (mC (.int 1))) (mCons (mD (mC (.int 2))) (mNil))))) (mCons (mD (mTup (mCons (mD (mC (.int 2))) (mCons (mD (mC (.int 3))) (mNil))))) (mCons (mD (mCall F_law_fr (mCons (mCall F_draw (mCons (mV 0) (mCons (mC (.int 60)) (mNil)))) (mCons (mC (.int 60)) (mNil))))) (mCons (mD (mTup (mCons (mD (mV 1)) (mCons (mD (mOp2 fAdd (mV 1) (mC (.int 1)))) (mNil))))) (mCons (mD (mTup (mCons (mD (mC (.int 998))) (mCons (mD (mC (.int 999))) (mNil))))) (mNil)))))))))
    (mSeq (mSet 3 (mLst (mCons (mD (mTup (mCons (mD (mC (.int 1))) (mCons (mD (mC (.int 1))) (mNil))))) (mCons (mD (mTup (mCons (mD (mOp1 fNeg (mC (.int 1)))) (mCons (mD (mC (.int 2))) (mNil))))) (mCons (mD (mTup (mCons (mD (mC (.int 2))) (mCons (mD (mC (.int 4))) (mNil))))) (mCons (mD (mTup (mCons (mD (mC (.int 0))) (mCons (mD (mC (.int 2))) (mNil))))) (mCons (mD (mTup (mCons (mD (mC (.int 3))) (mCons (mD (mC (.int 2))) (mNil))))) (mCons (mD (mTup (mCons (mD (mC (.int 1))) (mCons (mD (mC (.int 0))) (mNil))))) (mCons (mD (mTup (mCons (mD (mC (.int 0))) (mCons (mD (mOp1 fNeg (mC (.int 1)))) (mNil))))) (mCons (mD (mTup (mCons (mD (mC (.int 1))) (mCons (mD (mOp1 fNeg (mC (.int 2)))) (mNil))))) (mCons (mD (mTup (mCons (mD (mC (.bl true))) (mCons (mD (mC (.int 2))) (mNil))))) (mCons (mD (mTup (mCons (mD (mC (.int 1))) (mCons (mD (mC (.bl true))) (mNil))))) (mCons (mD (mTup (mCons (mD (mC (.bl false))) (mCons (mD (mC (.int 1))) (mNil))))) (mNil))))))))))))))
    (mSeq (mSet 3 (mOp2 fAdd (mV 3) (mLst (mCons (mD (mTup (mCons (mD (mC (.int 3))) (mCons (mD (mC (.int 6))) (mNil))))) (mCons (mD (mTup (mCons (mD (mC (.int 6))) (mCons (mD (mC (.int 9))) (mNil))))) (mCons (mD (mTup (mCons (mD (mOp2 fMul (mC (.int 2)) (mV 1))) (mCons (mD (mOp2 fAdd (mOp2 fMul (mC (.int 2)) (mV 1)) (mC (.int 2)))) (mNil))))) (mCons (mD (mTup (mCons (mD (mC (.int 0))) (mCons (mD (mC (.int 5))) (mNil))))) (mCons (mD (mC (.int 0))) (mCons (mD (mC .non)) (mCons (mD (mC (.str "1"))) (mCons (mD (mTup (mCons (mD (mC (.int 1))) (mNil)))) (mCons (mD (mTup (mCons (mD (mC (.int 1))) (mCons (mD (mC (.int 2))) (mCons (mD (mC (.int 3))) (mNil)))))) (mCons (mD (mTup (mCons (mD (mOp2 fAdd (mV 1) (mC (.int 1)))) (mCons (mD (mV 1)) (mNil))))) (mCons (mD (mTup (mCons (mD (mTup (mCons (mD (mC (.int 1))) (mCons (mD (mC (.int 2))) (mNil))))) (mCons (mD (mC (.int 1))) (mNil))))) (mCons (mD (mTup (mNil))) (mNil))))))))))))))))
    (mRet (mCall F_law_pick (mCons (mV 0) (mCons (mLst (mCons (mD (mV 2)) (mCons (mD (mV 2)) (mCons (mD (mV 3)) (mNil))))) (mNil)))))))))
section
variable {P : Program} {w : World} {K : PySem.W.Frag} {mg : Str → Option Value} {base : Heap}
theorem W_law_parts (T : Txt K mg) (D_law_draw : M.Ok P w K mg base 1 "_law_draw" s_law_draw ["bag", "many"] F_draw) (D_law_fr : M.Ok P w K mg base 2 "_law_fr" s_law_fr ["a", "b"] F_law_fr) (D_law_pick : M.Ok P w K mg base 2 "_law_pick" s_law_pick ["bag", "some"] F_law_pick) : M.Ok P w K mg base 3 "_law_parts" s_law_parts ["bag"] F_law_parts := M.Ok.of T.d_law_parts S_law_parts fun f fd cdv A outer s H E hr => by
  have S := S_law_parts
  obtain ⟨_, _, mg_law_draw, fn_law_draw, ok_law_draw⟩ := D_law_draw
  obtain ⟨_, _, mg_law_fr, fn_law_fr, ok_law_fr⟩ := D_law_fr
  obtain ⟨_, _, mg_law_pick, fn_law_pick, ok_law_pick⟩ := D_law_pick
  exact (ss_cons (ss_set (i := 1) S.nd rfl (by first | exact Or.inl rfl | exact Or.inr rfl) (se_op2 (f := fAdd) op_addA ok_add (se_op2 (f := fPow) op_pow (ok_I cPow_ok) se_int se_int) (se_call (ok_law_draw.mono (by first | omega | (simp only [Nat.add_eq]; omega))) hr rfl mg_law_draw fn_law_draw.kp (fn_law_draw.binds (ps := ["bag", "many"]) fun _ _ _ _ _ _ us hl => match us, hl with | [_, _], _ => rfl) (sr_cons (se_v (pv 0)) (sr_cons se_int sr_nil)))))
    (ss_cons (ss_set (i := 2) S.nd rfl (by first | exact Or.inl rfl | exact Or.inr rfl) (se_lst (sd_cons (se_tup (sd_cons se_int (sd_cons se_int sd_nil))) (sd_cons (se_tup (sd_cons se_int (sd_cons se_int sd_nil))) (sd_cons (se_tup (sd_cons se_int (sd_cons se_int sd_nil))) (sd_cons (se_call (ok_law_fr.mono (by first | omega | (simp only [Nat.add_eq]; omega))) hr rfl mg_law_fr fn_law_fr.kp (fn_law_fr.binds (ps := ["a", "b"]) fun _ _ _ _ _ _ us hl => match us, hl with | [_, _], _ => rfl) (sr_cons (se_call (ok_law_draw.mono (by first | omega | (simp only [Nat.add_eq]; omega))) hr rfl mg_law_draw fn_law_draw.kp (fn_law_draw.binds (ps := ["bag", "many"]) fun _ _ _ _ _ _ us hl => match us, hl with | [_, _], _ => rfl) (sr_cons (se_v (pv 0)) (sr_cons se_int sr_nil))) (sr_cons se_int sr_nil))) (sd_cons (se_tup (sd_cons (se_v (pv 1)) (sd_cons (se_op2 (f := fAdd) op_addA ok_add (se_v (pv 1)) se_int) sd_nil))) (sd_cons (se_tup (sd_cons se_int (sd_cons se_int sd_nil))) sd_nil))))))))
    (ss_cons (ss_set (i := 3) S.nd rfl (by first | exact Or.inl rfl | exact Or.inr rfl) (se_lst (sd_cons (se_tup (sd_cons se_int (sd_cons se_int sd_nil))) (sd_cons (se_tup (sd_cons (se_un un_neg ok_neg se_int) (sd_cons se_int sd_nil))) (sd_cons (se_tup (sd_cons se_int (sd_cons se_int sd_nil))) (sd_cons (se_tup (sd_cons se_int (sd_cons se_int sd_nil))) (sd_cons (se_tup (sd_cons se_int (sd_cons se_int sd_nil))) (sd_cons (se_tup (sd_cons se_int (sd_cons se_int sd_nil))) (sd_cons (se_tup (sd_cons se_int (sd_cons (se_un un_neg ok_neg se_int) sd_nil))) (sd_cons (se_tup (sd_cons se_int (sd_cons (se_un un_neg ok_neg se_int) sd_nil))) (sd_cons (se_tup (sd_cons se_bl (sd_cons se_int sd_nil))) (sd_cons (se_tup (sd_cons se_int (sd_cons se_bl sd_nil))) (sd_cons (se_tup (sd_cons se_bl (sd_cons se_int sd_nil))) sd_nil)))))))))))))
    (ss_cons (ss_set (i := 3) S.nd rfl (by first | exact Or.inl rfl | exact Or.inr rfl) (se_op2 (f := fAdd) op_addA ok_add (se_v (pv 3)) (se_lst (sd_cons (se_tup (sd_cons se_int (sd_cons se_int sd_nil))) (sd_cons (se_tup (sd_cons se_int (sd_cons se_int sd_nil))) (sd_cons (se_tup (sd_cons (se_op2 (f := fMul) op_mul (ok_I cMul_ok) se_int (se_v (pv 1))) (sd_cons (se_op2 (f := fAdd) op_addA ok_add (se_op2 (f := fMul) op_mul (ok_I cMul_ok) se_int (se_v (pv 1))) se_int) sd_nil))) (sd_cons (se_tup (sd_cons se_int (sd_cons se_int sd_nil))) (sd_cons se_int (sd_cons se_non (sd_cons se_str (sd_cons (se_tup (sd_cons se_int sd_nil)) (sd_cons (se_tup (sd_cons se_int (sd_cons se_int (sd_cons se_int sd_nil)))) (sd_cons (se_tup (sd_cons (se_op2 (f := fAdd) op_addA ok_add (se_v (pv 1)) se_int) (sd_cons (se_v (pv 1)) sd_nil))) (sd_cons (se_tup (sd_cons (se_tup (sd_cons se_int (sd_cons se_int sd_nil))) (sd_cons se_int sd_nil))) (sd_cons (se_tup sd_nil) sd_nil)))))))))))))))
    (ss_one (ss_ret (se_call (ok_law_pick.mono (by first | omega | (simp only [Nat.add_eq]; omega))) hr rfl mg_law_pick fn_law_pick.kp (fn_law_pick.binds (ps := ["bag", "some"]) fun _ _ _ _ _ _ us hl => match us, hl with | [_, _], _ => rfl) (sr_cons (se_v (pv 0)) (sr_cons (se_lst (sd_cons (se_v (pv 2)) (sd_cons (se_v (pv 2)) (sd_cons (se_v (pv 3)) sd_nil)))) sr_nil)))))))))
end
/-! _law_values -/
theorem S_law_values : FnScope ["bag", "board", "many", "out", "square", "turn", "half"] ["bag", "board"] (defScope s_law_values) := ⟨rfl, rfl, rfl, by decide +kernel, rfl, by decide +kernel, by decide +kernel⟩
noncomputable def F_law_values : Fn BagT := runF 2 7 (mSeq (mPars [2, 3] (mCons (mH (mBi fLen (mCons (mOp2 fIx (mV 1) (mC (.int 0))) (mNil)))) (mCons (mH (mLst (mNil))) (mNil))))
    (mSeq (mFor (mRng fR1 (mCons (mV 2) (mNil))) (tmN 4) (mSet 3 (mOp2 fAdd (mV 3) (mLst (mCons (mD (mTup (mCons (mD (mV 4)) (mCons (mD (mTup (mCons (mD (mC (.int 0))) (mCons (mD (mC (.int 1))) (mNil))))) (mCons (mD (mTup (mCons (mD (mC (.int 0))) (mCons (mD (mC (.int 1))) (mNil))))) (mNil)))))) (mCons (mD (mTup (mCons (mD (mV 4)) (mCons (mD (mTup (mCons (mD (mC (.int 1))) (mCons (mD (mC (.int 2))) (mNil))))) (mCons (mD (mTup (mCons (mD (mC (.int 0))) (mCons (mD (mC (.int 1))) (mNil))))) (mNil)))))) (mCons (mD (mTup (mCons (mD (mV 4)) (mCons (mD (mTup (mCons (mD (mC (.int 0))) (mCons (mD (mC (.int 1))) (mNil))))) (mCons (mD (mTup (mCons (mD (mC (.int 1))) (mCons (mD (mC (.int 3))) (mNil))))) (mNil)))))) (mNil))))))))
    (mSeq (mFor (mRng fR1 (mCons (mC (.int 10)) (mNil))) (tmN 5) (mSeq (mSet 4 (mCall F_law_pick (mCons (mV 0) (mCons (mLst (mCons (mD (mCall F_draw (mCons (mV 0) (mCons (mV 2) (mNil))))) (mCons (mD (mCall F_draw (mCons (mV 0) (mCons (mV 2) (mNil))))) (mCons (mD (mV 2)) (mCons (mD (mOp1 fNeg (mC (.int 1)))) (mCons (mD (mC (.bl true))) (mCons (mD (mC .non)) (mCons (mD (mC (.str "0"))) (mCons (mD (mTup (mCons (mD (mC (.int 0))) (mNil)))) (mNil)))))))))) (mNil)))))
    (mEx (mOwn 3 fAppend (mCons (mD (mTup (mCons (mD (mV 4)) (mCons (mD (mCall F_law_pick (mCons (mV 0) (mCons (mCall F_law_parts (mCons (mV 0) (mNil))) (mNil))))) (mCons (mD (mCall F_law_pick (mCons (mV 0) (mCons (mCall F_law_parts (mCons (mV 0) (mNil))) (mNil))))) (mNil)))))) (mNil))))))
    (mSeq (mSet 6 (mTup (mCons (mD (mC (.int 1))) (mCons (mD (mC (.int 2))) (mNil)))))
    (mSeq (mSet 3 (mOp2 fAdd (mV 3) (mLst (mCons (mD (mC .non)) (mCons (mD (mC (.int 0))) (mCons (mD (mC (.bl true))) (mCons (mD (mC (.str ""))) (mCons (mD (mTup (mNil))) (mCons (mD (mTup (mCons (mD (mC (.int 0))) (mNil)))) (mCons (mD (mTup (mCons (mD (mC (.int 0))) (mCons (mD (mV 6)) (mNil))))) (mCons (mD (mTup (mCons (mD (mC (.int 0))) (mCons (mD (mV 6)) (mCons (mD (mV 6)) (mCons (mD (mV 6)) (mNil))))))) (mCons (mD (mTup (mCons (mD (mV 6)) (mCons (mD (mV 6)) (mCons (mD (mC (.int 0))) (mNil)))))) (mCons (mD (mTup (mCons (mD (mTup (mCons (mD (mC (.int 0))) (mCons (mD (mV 6)) (mCons (mD (mV 6)) (mNil)))))) (mNil)))) (mCons (mD (mTup (mCons (mD (mC (.bl false))) (mCons (mD (mV 6)) (mCons (mD (mV 6)) (mNil)))))) (mNil)))))))))))))))
    (mRet (mOp2 fAdd (mV 3) (mLst (mCons (mD (mTup (mCons (mD (mC (.int 0))) (mCons (mD (mV 6)) (mCons (mD (mV 6)) (mNil)))))) (mCons (mD (mTup (mCons (mD (mC (.int 0))) (mCons (mD (mTup (mCons (mD (mC (.int 0))) (mCons (mD (mC (.int 1))) (mNil))))) (mCons (mD (mTup (mCons (mD (mC (.int 0))) (mCons (mD (mC (.bl true))) (mNil))))) (mNil)))))) (mCons (mD (mTup (mCons (mD (mC (.int 0))) (mCons (mD (mTup (mCons (mD (mC (.bl false))) (mCons (mD (mC (.int 1))) (mNil))))) (mCons (mD (mTup (mCons (mD (mC (.int 0))) (mCons (mD (mC (.int 1))) (mNil))))) (mNil)))))) (mNil))))))))))))
section
variable {P : Program} {w : World} {K : PySem.W.Frag} {mg : Str → Option Value} {base : Heap}
theorem W_law_values (T : Txt K mg) (D_law_pick : M.Ok P w K mg base 2 "_law_pick" s_law_pick ["bag", "some"] F_law_pick) (D_law_draw : M.Ok P w K mg base 1 "_law_draw" s_law_draw ["bag", "many"] F_draw) (D_law_parts : M.Ok P w K mg base 3 "_law_parts" s_law_parts ["bag"] F_law_parts) : M.Ok P w K mg base 4 "_law_values" s_law_values ["bag", "board"] F_law_values := M.Ok.of T.d_law_values S_law_values fun f fd cdv A outer s H E hr => by
  have S := S_law_values
  obtain ⟨_, _, mg_law_pick, fn_law_pick, ok_law_pick⟩ := D_law_pick
  obtain ⟨_, _, mg_law_draw, fn_law_draw, ok_law_draw⟩ := D_law_draw
  obtain ⟨_, _, mg_law_parts, fn_law_parts, ok_law_parts⟩ := D_law_parts
  exact (ss_cons (ss_par2 (i := 2) (j := 3) rfl S.nd rfl rfl (by decide) rfl rfl (sra_cons (se_bi (f := fLen) call_len ok_len (by rfl) T.b_len (by decide +kernel) (sr_cons (se_ix (f := fIx) ix_seq ok_ix (se_v (pv 1)) se_int (fun _ _ => rfl)) sr_nil)) (sra_cons (se_lst sd_nil) sra_nil)) (by rfl))
    (ss_cons (ss_for PassesOwn.never rfl (si_rng1 (by rfl) T.b_range (sr_cons (se_v (pv 2)) sr_nil)) (sg_n (i := 4) S.nd rfl (by first | exact Or.inl rfl | exact Or.inr rfl)) (ss_one (ss_set (i := 3) S.nd rfl (by first | exact Or.inl rfl | exact Or.inr rfl) (se_op2 (f := fAdd) op_addA ok_add (se_v (pv 3)) (se_lst (sd_cons (se_tup (sd_cons (se_v (pv 4)) (sd_cons (se_tup (sd_cons se_int (sd_cons se_int sd_nil))) (sd_cons (se_tup (sd_cons se_int (sd_cons se_int sd_nil))) sd_nil)))) (sd_cons (se_tup (sd_cons (se_v (pv 4)) (sd_cons (se_tup (sd_cons se_int (sd_cons se_int sd_nil))) (sd_cons (se_tup (sd_cons se_int (sd_cons se_int sd_nil))) sd_nil)))) (sd_cons (se_tup (sd_cons (se_v (pv 4)) (sd_cons (se_tup (sd_cons se_int (sd_cons se_int sd_nil))) (sd_cons (se_tup (sd_cons se_int (sd_cons se_int sd_nil))) sd_nil)))) sd_nil))))))))
    (ss_cons (ss_for PassesOwn.never rfl (si_rng1 (by rfl) T.b_range (sr_cons se_int sr_nil)) (sg_n (i := 5) S.nd rfl (by first | exact Or.inl rfl | exact Or.inr rfl)) (ss_cons (ss_set (i := 4) S.nd rfl (by first | exact Or.inl rfl | exact Or.inr rfl) (se_call (ok_law_pick.mono (by first | omega | (simp only [Nat.add_eq]; omega))) hr rfl mg_law_pick fn_law_pick.kp (fn_law_pick.binds (ps := ["bag", "some"]) fun _ _ _ _ _ _ us hl => match us, hl with | [_, _], _ => rfl) (sr_cons (se_v (pv 0)) (sr_cons (se_lst (sd_cons (se_call (ok_law_draw.mono (by first | omega | (simp only [Nat.add_eq]; omega))) hr rfl mg_law_draw fn_law_draw.kp (fn_law_draw.binds (ps := ["bag", "many"]) fun _ _ _ _ _ _ us hl => match us, hl with | [_, _], _ => rfl) (sr_cons (se_v (pv 0)) (sr_cons (se_v (pv 2)) sr_nil))) (sd_cons (se_call (ok_law_draw.mono (by first | omega | (simp only [Nat.add_eq]; omega))) hr rfl mg_law_draw fn_law_draw.kp (fn_law_draw.binds (ps := ["bag", "many"]) fun _ _ _ _ _ _ us hl => match us, hl with | [_, _], _ => rfl) (sr_cons (se_v (pv 0)) (sr_cons (se_v (pv 2)) sr_nil))) (sd_cons (se_v (pv 2)) (sd_cons (se_un un_neg ok_neg se_int) (sd_cons se_bl (sd_cons se_non (sd_cons se_str (sd_cons (se_tup (sd_cons se_int sd_nil)) sd_nil))))))))) sr_nil))))
    (ss_one (ss_ex (se_m (f := fAppend) ok_append mt_append PySem.F.slot_list_append PySem.F.type_list_append (pv 3) (sd_cons (se_tup (sd_cons (se_v (pv 4)) (sd_cons (se_call (ok_law_pick.mono (by first | omega | (simp only [Nat.add_eq]; omega))) hr rfl mg_law_pick fn_law_pick.kp (fn_law_pick.binds (ps := ["bag", "some"]) fun _ _ _ _ _ _ us hl => match us, hl with | [_, _], _ => rfl) (sr_cons (se_v (pv 0)) (sr_cons (se_call (ok_law_parts.mono (by first | omega | (simp only [Nat.add_eq]; omega))) hr rfl mg_law_parts fn_law_parts.kp (fn_law_parts.binds (ps := ["bag"]) fun _ _ _ _ _ _ us hl => match us, hl with | [_], _ => rfl) (sr_cons (se_v (pv 0)) sr_nil)) sr_nil))) (sd_cons (se_call (ok_law_pick.mono (by first | omega | (simp only [Nat.add_eq]; omega))) hr rfl mg_law_pick fn_law_pick.kp (fn_law_pick.binds (ps := ["bag", "some"]) fun _ _ _ _ _ _ us hl => match us, hl with | [_, _], _ => rfl) (sr_cons (se_v (pv 0)) (sr_cons (se_call (ok_law_parts.mono (by first | omega | (simp only [Nat.add_eq]; omega))) hr rfl mg_law_parts fn_law_parts.kp (fn_law_parts.binds (ps := ["bag"]) fun _ _ _ _ _ _ us hl => match us, hl with | [_], _ => rfl) (sr_cons (se_v (pv 0)) sr_nil)) sr_nil))) sd_nil)))) sd_nil))))))
    (ss_cons (ss_set (i := 6) S.nd rfl (by first | exact Or.inl rfl | exact Or.inr rfl) (se_tup (sd_cons se_int (sd_cons se_int sd_nil))))
    (ss_cons (ss_set (i := 3) S.nd rfl (by first | exact Or.inl rfl | exact Or.inr rfl) (se_op2 (f := fAdd) op_addA ok_add (se_v (pv 3)) (se_lst (sd_cons se_non (sd_cons se_int (sd_cons se_bl (sd_cons se_str (sd_cons (se_tup sd_nil) (sd_cons (se_tup (sd_cons se_int sd_nil)) (sd_cons (se_tup (sd_cons se_int (sd_cons (se_v (pv 6)) sd_nil))) (sd_cons (se_tup (sd_cons se_int (sd_cons (se_v (pv 6)) (sd_cons (se_v (pv 6)) (sd_cons (se_v (pv 6)) sd_nil))))) (sd_cons (se_tup (sd_cons (se_v (pv 6)) (sd_cons (se_v (pv 6)) (sd_cons se_int sd_nil)))) (sd_cons (se_tup (sd_cons (se_tup (sd_cons se_int (sd_cons (se_v (pv 6)) (sd_cons (se_v (pv 6)) sd_nil)))) sd_nil)) (sd_cons (se_tup (sd_cons se_bl (sd_cons (se_v (pv 6)) (sd_cons (se_v (pv 6)) sd_nil)))) sd_nil))))))))))))))
    (ss_one (ss_ret (se_op2 (f := fAdd) op_addA ok_add (se_v (pv 3)) (se_lst (sd_cons (se_tup (sd_cons se_int (sd_cons (se_v (pv 6)) (sd_cons (se_v (pv 6)) sd_nil)))) (sd_cons (se_tup (sd_cons se_int (sd_cons (se_tup (sd_cons se_int (sd_cons se_int sd_nil))) (sd_cons (se_tup (sd_cons se_int (sd_cons se_bl sd_nil))) sd_nil)))) (sd_cons (se_tup (sd_cons se_int (sd_cons (se_tup (sd_cons se_bl (sd_cons se_int sd_nil))) (sd_cons (se_tup (sd_cons se_int (sd_cons se_int sd_nil))) sd_nil)))) sd_nil))))))))))))
end
/-! law -/
theorem S_law : FnScope ["script", "bag", "turn", "board", "value", "seen"] ["script"] (defScope s_law) := ⟨rfl, rfl, rfl, by decide +kernel, rfl, by decide +kernel, by decide +kernel⟩
abbrev tail_law : List Stmt := match defBody s_law with
  | _ :: r => r
  | [] => []
noncomputable def F_law : Ms BagT :=
    mSeq (mFor (mRng fR1 (mCons (mC (.int 5)) (mNil))) (tmN 2) (mSeq (mSet 3 (mCall F_law_board (mCons (mV 1) (mCons (mC (.int 6)) (mNil)))))
    (mFor (mIt (mCall F_law_values (mCons (mV 1) (mCons (mV 3) (mNil))))) (tmN 4) (mSeq (mSet 5 (mIfE (mBl (mOp2 fEq (mV 2) (mC (.int 2)))) (mCallK F_is_place [1, 0] 0 2 mNil (mCons (mV 4) (mCons (mV 3) (mNil)))) (mCall F_is_place (mCons (mV 3) (mCons (mV 4) (mNil))))))
    (mIf (mNot (mTr (mCall (F_law_same 12) (mCons (mV 5) (mCons (mCall F_law_is_place (mCons (mV 3) (mCons (mV 4) (mNil)))) (mNil)))))) (mRet (mC (.bl false))) (mSkip))))))
    (mRet (mC (.bl true)))
section
variable {P : Program} {w : World} {K : PySem.W.Frag} {mg : Str → Option Value} {base : Heap}
theorem rest_law (T : Txt K mg) (D_law_board : M.Ok P w K mg base 4 "_law_board" s_law_board ["bag", "most"] F_law_board) (D_law_values : M.Ok P w K mg base 4 "_law_values" s_law_values ["bag", "board"] F_law_values) (D_is_place : M.Ok P w K mg base 3 "is_place" s_is_place ["board", "value"] F_is_place) (D_law_same : M.Ok P w K mg base 12 "_law_same" s_law_same ["found", "due"] (F_law_same 12)) (D_law_is_place : M.Ok P w K mg base 3 "_law_is_place" s_law_is_place ["board", "value"] F_law_is_place) {cdv : Value} {A : Around} {outer : List Env} {s : Shared} {H : Hp} {E : XK} {f : Addr} (hr : Room 12 (A.deeper (envOfC "law" (defScope s_law) s.heap.objs.size f cdv))) :
    PSs (cxOf CX0 P w K mg base ["script", "bag", "turn", "board", "value", "seen"] "law" (defScope s_law) f cdv A outer s H E).nox tail_law (tSt F_law) := by
  have S := S_law
  obtain ⟨_, _, mg_law_board, fn_law_board, ok_law_board⟩ := D_law_board
  obtain ⟨_, _, mg_law_values, fn_law_values, ok_law_values⟩ := D_law_values
  obtain ⟨_, _, mg_is_place, fn_is_place, ok_is_place⟩ := D_is_place
  obtain ⟨_, _, mg_law_same, fn_law_same, ok_law_same⟩ := D_law_same
  obtain ⟨_, _, mg_law_is_place, fn_law_is_place, ok_law_is_place⟩ := D_law_is_place
  exact (ss_cons (ss_for PassesOwn.never rfl (si_rng1 (by rfl) T.b_range (sr_cons se_int sr_nil)) (sg_n (i := 2) S.nd rfl (by first | exact Or.inl rfl | exact Or.inr rfl)) (ss_cons (ss_set (i := 3) S.nd rfl (by first | exact Or.inl rfl | exact Or.inr rfl) (se_call (ok_law_board.mono (by first | omega | (simp only [Nat.add_eq]; omega))) hr rfl mg_law_board fn_law_board.kp (fn_law_board.binds (ps := ["bag", "most"]) fun _ _ _ _ _ _ us hl => match us, hl with | [_, _], _ => rfl) (sr_cons (se_v (pv 1)) (sr_cons se_int sr_nil))))
    (ss_one (ss_for PassesOwn.never rfl (si_seq (se_call (ok_law_values.mono (by first | omega | (simp only [Nat.add_eq]; omega))) hr rfl mg_law_values fn_law_values.kp (fn_law_values.binds (ps := ["bag", "board"]) fun _ _ _ _ _ _ us hl => match us, hl with | [_, _], _ => rfl) (sr_cons (se_v (pv 1)) (sr_cons (se_v (pv 3)) sr_nil)))) (sg_n (i := 4) S.nd rfl (by first | exact Or.inl rfl | exact Or.inr rfl)) (ss_cons (ss_set (i := 5) S.nd rfl (by first | exact Or.inl rfl | exact Or.inr rfl) (se_ifE (st_cmp (f := fEq) (op_eqD hr.units) ok_eq (se_v (pv 2)) se_int (nomark _)) (se_callK0 (ok_is_place.mono (by first | omega | (simp only [Nat.add_eq]; omega))) hr rfl mg_is_place fn_is_place.kp (kbn_of (ps := ["board", "value"]) (ks := ["value", "board"]) (n := 0) fn_is_place [1, 0] fun _ _ _ _ _ _ us ws hl hm => match us, ws, hl, hm with | [], [_, _], _, _ => rfl) (sk_cons (se_v (pv 4)) (sk_cons (se_v (pv 3)) sk_nil))) (se_call (ok_is_place.mono (by first | omega | (simp only [Nat.add_eq]; omega))) hr rfl mg_is_place fn_is_place.kp (fn_is_place.binds (ps := ["board", "value"]) fun _ _ _ _ _ _ us hl => match us, hl with | [_, _], _ => rfl) (sr_cons (se_v (pv 3)) (sr_cons (se_v (pv 4)) sr_nil)))))
    (ss_one (ss_if (st_not (st_tr (se_call (ok_law_same.mono (by first | omega | (simp only [Nat.add_eq]; omega))) hr rfl mg_law_same fn_law_same.kp (fn_law_same.binds (ps := ["found", "due"]) fun _ _ _ _ _ _ us hl => match us, hl with | [_, _], _ => rfl) (sr_cons (se_v (pv 5)) (sr_cons (se_call (ok_law_is_place.mono (by first | omega | (simp only [Nat.add_eq]; omega))) hr rfl mg_law_is_place fn_law_is_place.kp (fn_law_is_place.binds (ps := ["board", "value"]) fun _ _ _ _ _ _ us hl => match us, hl with | [_, _], _ => rfl) (sr_cons (se_v (pv 3)) (sr_cons (se_v (pv 4)) sr_nil))) sr_nil))) (by intro _; rfl))) (ss_one (ss_ret se_bl)) ss_nil)))))))
    (ss_one (ss_ret se_bl)))
end
end W

namespace W
open PySem PySem.Spec PyProof.Rows L2 M
section
variable {P : Program} {w : World} {K : PySem.W.Frag} {mg : Str → Option Value} {base : Heap}
theorem S_law_draw : FnScope ["bag", "many", "digit", "cell", "mixed"] ["bag", "many"] (defScope s_law_draw) := ⟨rfl, rfl, rfl, by decide +kernel, rfl, by decide +kernel, by decide +kernel⟩
abbrev gb {X : Cx} (i : Nat) {x : Str} {pos pos2 : Pos} {n : Int} {j : Nat} (hN : X.N[0]? = some x := by rfl) (hv : Vis X.env.scope x := by first | exact Or.inl rfl | exact Or.inr (Or.inl rfl)) (hd : (x == ("__debug__" : Str)) = false := by decide) (hcd : (x == ("__classdict__" : Str)) = false := by decide) {pos3 : Pos} :
    PE X (.Subscript (.Name x pos) (.Constant (.int n) j pos2) pos3) (tOp (rIxL X.K) (tVar 0) (tC (.int n))) := pe_ix ix_list (pv 0 hN hv hd hcd) pe_int (fun _ _ => rfl)
/-- bag[n] read -/
theorem rd_b {K : PySem.W.Frag} {σ : L2.St} {H : Hp} {Q : VK} {ab : Addr} {xs : List V} {n : Nat} {v : V} (hσ : σ[0]? = some (some (.ref ab))) (hb : H ab = some (.lst xs)) (hx : xs[n]? = some v) (q : Q v H) : tOp (rIxL K) (tVar 0) (tC (.int (n : Int))) σ H Q :=
  ⟨.ref ab, hσ, ab, xs, n, v, rfl, rfl, SqL.of hb, atI_nat hx, q⟩
/-- if bag[0] == 0 and len(bag[2]) > 0: bag[0] = bag[2].pop() -/
def t2nd (K : PySem.W.Frag) : TS := tIfS (tAnd (tTest (tOp rEq (tOp (rIxL K) (tVar 0) (tC (.int 0))) (tC (.int 0)))) (tTest (tOp (rI0 fun i j => .bl (decide (j < i))) (tCB (fun xs H Q => ∃ x n, xs = [x] ∧ LenV K x H n ∧ Q (.int n) H) (tCons (tOp (rIxL K) (tVar 0) (tC (.int 2))) tNil)) (tC (.int 0)))))
  (tAsg (tBM0 K "list" rPop (tOp (rIxL K) (tVar 0) (tC (.int 2)))) (gSub (tVar 0) (tC (.int 0)) rSetL)) tNext
theorem second {K : PySem.W.Frag} {σ : L2.St} {H1 : Hp} {ab ag ac : Addr} {c0 c1 : Int} {great cells : List Int} (hσ : σ[0]? = some (some (.ref ab))) (n1 : ab ≠ ag) (n2 : ag ≠ ac) (n3 : ab ≠ ac)
    (a1 : H1 ab = some (.lst [.int c0, .int c1, .ref ag, .ref ac])) (a2 : H1 ag = some (.lst (great.map V.int))) (a3 : H1 ac = some (.lst (cells.map V.int))) (b1 : Int) :
    ∃ (c0' : Int) (great' : List Int) (H2 : Hp), drawA ⟨c0, b1, great, cells⟩ = (c0', great') ∧ H2 ab = some (.lst [.int c0', .int c1, .ref ag, .ref ac]) ∧ H2 ag = some (.lst (great'.map V.int)) ∧ H2 ac = some (.lst (cells.map V.int)) ∧
      (∀ a o, H1 a = some o → ¬ (a = ab ∨ a = ag ∨ a = ac) → H2 a = some o) ∧ ∀ D : Ends, D.nx σ H2 → t2nd K D σ H1 := by
  by_cases h0 : c0 = 0
  · by_cases hg : 0 < great.length
    · -- a great cell is taken
      have hlast : great[great.length - 1]? = some (great.getD (great.length - 1) 0) := by
        rw [List.getD_eq_getElem?_getD, List.getElem?_eq_getElem (by omega)]
        rfl
      generalize great.getD (great.length - 1) 0 = z at hlast
      refine ⟨z, great.dropLast, upd (upd H1 ag (.lst (great.map V.int).dropLast)) ab (.lst [.int z, .int c1, .ref ag, .ref ac]), ?_, upd_same, ?_, ?_, fun a o h n => ?_, fun D hD => ?_⟩
      · unfold drawA
        rw [if_pos ⟨h0, hg⟩, List.getD_eq_getElem?_getD, hlast]
        rfl
      · rw [upd_ne (Ne.symm n1), upd_same, List.map_dropLast]
      · rw [upd_ne (Ne.symm n3), upd_ne (Ne.symm n2)]; exact a3
      · rw [upd_ne (fun z => n (.inl z)), upd_ne (fun z => n (.inr (.inl z)))]; exact h
      · refine rd_b (n := 0) hσ a1 rfl ⟨rfl, true, ?_, iteT ?_⟩
        · rw [h0]; rfl
        refine rd_b (n := 2) hσ a1 rfl ⟨.ref ag, great.length, rfl, .inl ⟨_, SqL.of a2, by rw [List.length_map]⟩, (great.length : Int), 0, rfl, rfl, true, ?_, iteT ?_⟩
        · exact congrArg V.bl (decide_eq_true (by omega))
        refine rd_b (n := 2) hσ a1 rfl ⟨.inl ⟨rfl, _, SqL.of a2⟩, ag, great.map V.int, .int z, rfl, rfl, a2, ?_, ?_⟩
        · rw [List.length_map, List.getElem?_map, hlast]; rfl
        have hz : (upd H1 ag (.lst (great.map V.int).dropLast)) ab = some (.lst [.int c0, .int c1, .ref ag, .ref ac]) := by rw [upd_ne n1]; exact a1
        refine ⟨.ref ab, hσ, ab, _, 0, 0, rfl, rfl, hz, rfl, ?_⟩
        exact hD
    · refine ⟨c0, great, H1, ?_, a1, a2, a3, fun a o h _ => h, fun D hD => ?_⟩
      · unfold drawA
        rw [if_neg (fun z => hg z.2)]
      · refine rd_b (n := 0) hσ a1 rfl ⟨rfl, true, ?_, iteT ?_⟩
        · rw [h0]; rfl
        refine rd_b (n := 2) hσ a1 rfl ⟨.ref ag, great.length, rfl, .inl ⟨_, SqL.of a2, by rw [List.length_map]⟩, (great.length : Int), 0, rfl, rfl, false, ?_, iteF ?_⟩
        · exact congrArg V.bl (decide_eq_false (by omega))
        exact hD
  · refine ⟨c0, great, H1, ?_, a1, a2, a3, fun a o h _ => h, fun D hD => ?_⟩
    · unfold drawA
      rw [if_neg (fun z => h0 z.1)]
    · refine rd_b (n := 0) hσ a1 rfl ⟨rfl, false, ?_, iteF (iteF ?_)⟩
      · rw [decide_eq_false (fun z => h0 (by cases z; rfl))]
      exact hD
theorem W_law_draw (T : Txt K mg) : M.Ok P w K mg base 1 "_law_draw" s_law_draw ["bag", "many"] F_draw := by
  obtain ⟨f, fd, g, F⟩ := T.d_law_draw
  refine ⟨f, fd, g, F, ?_⟩
  refine F.ok S_law_draw (fun vs H Q E h => ?_) (fun cdv A outer s H vs Q E hr h => ⟨_, pss_cons (ps_asg (pe_op op_add (gb 1) pe_int) (pg_sub (pv 0) pe_int set_list))
    (pss_cons (ps_if (PW.pt (pw_and (pt_cmpR op_eq (gb 0) pe_int (nomark _)) (pw_and1 (pt_cmpR op_gt (pe_callB call_len (by rfl) T.b_len PySem.boot_len (pa_cons (gb 2) pa_nil)) pe_int (nomark _)))))
      (pss_one (ps_asg (pe_bm0 PySem.F.plainAttrs_list PySem.F.slot_list_pop PySem.F.type_list_pop mt_pop (gb 2)) (pg_sub (pv 0) pe_int set_list))) pss_nil)
    (pss_cons (ps_if (pt_cmpR op_gt (gb 0) pe_int (nomark _))
      (pss_cons (ps_set (i := 2) S_law_draw.nd rfl (Or.inl rfl) (pe_op op_mod (pe_callTy call_int1 (by rfl) T.b_int (by decide +kernel) (pa_cons (gb 0) pa_nil)) (pv 1)))
      (pss_cons (ps_asg (pe_op op_fdivW (gb 0) (pv 1)) (pg_sub (pv 0) pe_int set_list))
      (pss_one (ps_ret (pv 2))))) pss_nil)
    (pss_cons (ps_set (i := 3) S_law_draw.nd rfl (Or.inl rfl) (pe_ix ix_list (gb 3) (pe_op op_mod (pe_callTy call_int1 (by rfl) T.b_int (by decide +kernel) (pa_cons (gb 1) pa_nil)) (pe_callB call_len (by rfl) T.b_len PySem.boot_len (pa_cons (gb 3) pa_nil))) (fun _ _ => rfl)))
    (pss_cons (ps_set (i := 4) S_law_draw.nd rfl (Or.inl rfl) (pe_op op_mod (pe_callTy call_int1 (by rfl) T.b_int (by decide +kernel) (pa_cons (pe_op op_add (pe_op op_add (pe_op op_mul (pv 3) pe_int) (pe_op op_mul (gb 1) pe_int)) pe_int) pa_nil)) pe_int))
    (pss_one (ps_ret (pe_op op_mod (pe_op op_fdivW (pe_op op_mod (pe_callTy call_int1 (by rfl) T.b_int (by decide +kernel) (pa_cons (pe_op op_add (pe_op op_add (pe_op op_mul (pv 4) (pv 4)) (pe_op op_mul (pv 4) pe_int)) (pe_op op_mul (gb 1) pe_int)) pa_nil)) pe_int) pe_int) (pv 1)))))))), ?_⟩)
  · obtain ⟨S, F, args, b, r, b', _, _, _, _, ha, e, _⟩ := h
    have hl := ha.length
    unfold F_draw at e
    split at e
    · exact hl
    · cases e
  · obtain ⟨S, F, args, b, r, b', ⟨ab, ag, ac, rfl⟩, hfs, hft, hb, ha, e, q⟩ := h
    unfold F_draw at e
    split at e
    · rename_i m
      split at e
      · rename_i hok
        rw [Bool.and_eq_true, mOk, Bool.and_eq_true] at hok
        obtain ⟨⟨hm0, hm9⟩, hcells⟩ := hok
        have hm0 := of_decide_eq_true hm0
        have hm9 := of_decide_eq_true hm9
        obtain ⟨v0, r0, rfl, e0, v1, r1, rfl, e1, rfl⟩ := ha
        have e0' : v0 = .ref ab := by simpa [ArgR, Rep, bagRes] using e0
        have e1' : v1 = .int m := by simpa [ArgR, Rep] using e1
        subst e0' e1'
        obtain ⟨c0, c1, great, cells⟩ := b
        obtain ⟨hb1, hb2, hb3, n1, n2, n3⟩ := hb
        simp only [Option.some.injEq, Prod.mk.injEq] at e
        obtain ⟨rfl, rfl⟩ := e
        -- bag[1] = bag[1] + 1
        refine rd_b (n := 1) rfl hb1 rfl ⟨c1, 1, rfl, rfl, .ref ab, rfl, ab, _, 1, 1, rfl, rfl, hb1, rfl, ?_⟩
        have hL : (bagL ⟨c0, c1, great, cells⟩ ag ac).set 1 (.int (c1 + 1)) = [.int c0, .int (c1 + 1), .ref ag, .ref ac] := rfl
        rw [hL]
        generalize hH1 : upd H ab (.lst [.int c0, .int (c1 + 1), .ref ag, .ref ac]) = H1
        have a1 : H1 ab = some (.lst [.int c0, .int (c1 + 1), .ref ag, .ref ac]) := by rw [← hH1, upd_same]
        have a2 : H1 ag = some (.lst (great.map V.int)) := by rw [← hH1, upd_ne (Ne.symm n1)]; exact hb2
        have a3 : H1 ac = some (.lst (cells.map V.int)) := by rw [← hH1, upd_ne (Ne.symm n3)]; exact hb3
        have k1 : ∀ a o, H a = some o → ¬ (a = ab ∨ a = ag ∨ a = ac) → H1 a = some o := fun a o h n => by rw [← hH1, upd_ne (fun z => n (.inl z))]; exact h
        obtain ⟨c0', great', H2, dA, b1, b2, b3, k2, two⟩ := second (K := K) (σ := start ["bag", "many", "digit", "cell", "mixed"] [.ref ab, .int m]) rfl n1 n2 n3 a1 a2 a3 c1
        refine two _ ?_
        have kk : ∀ a o, H a = some o → ¬ (a = ab ∨ a = ag ∨ a = ac) → H2 a = some o := fun a o h n => k2 a o (k1 a o h n) n
        clear two k1 k2 a1 a2 a3 hH1 hL H1
        have hdr : M.draw ⟨c0, c1, great, cells⟩ m = if 0 < c0' then (c0' % m, ⟨c0' / m, c1 + 1, great', cells⟩) else (drawN ⟨c0, c1, great, cells⟩ m, ⟨c0', c1 + 1, great', cells⟩) := by
          unfold M.draw
          rw [dA]
        by_cases hp : 0 < c0'
        · rw [if_pos hp] at hdr
          rw [hdr] at q
          refine rd_b (n := 0) rfl b1 rfl ⟨c0', 0, rfl, rfl, true, congrArg V.bl (decide_eq_true hp), iteT ?_⟩
          refine rd_b (n := 0) rfl b1 rfl (.inl ⟨c0', rfl, .int m, rfl, c0', m, rfl, rfl, hm0, ?_⟩)
          refine rd_b (n := 0) rfl b1 rfl ⟨.int m, rfl, c0', m, rfl, rfl, ⟨hm0, hm9⟩, .ref ab, rfl, ab, _, 0, 0, rfl, rfl, b1, rfl, ?_⟩
          refine ⟨.int (c0' % m), rfl, q _ _ (fun a o h n => ?_) ⟨upd_same, ?_, ?_, n1, n2, n3⟩ (by simp [ResR, Rep])⟩
          · rw [upd_ne (fun z => n (.inl z))]; exact kk a o h n
          · rw [upd_ne (Ne.symm n1)]; exact b2
          · rw [upd_ne (Ne.symm n3)]; exact b3
        · rw [if_neg hp] at hdr
          rw [hdr] at q
          refine rd_b (n := 0) rfl b1 rfl ⟨c0', 0, rfl, rfl, false, congrArg V.bl (decide_eq_false hp), iteF ?_⟩
          -- cell = bag[3][..]
          have hcl : 0 < (cells.length : Int) := by
            cases cells with
            | nil => simp at hcells
            | cons x r => simp only [List.length_cons]; omega
          have hmod := Int.emod_lt_of_pos (c1 + 1) hcl
          have hmod0 := Int.emod_nonneg (c1 + 1) (Int.ne_of_gt hcl)
          have hget : cells[((c1 + 1) % (cells.length : Int)).toNat]? = some (cells.getD ((c1 + 1) % (cells.length : Int)).toNat 0) := by
            rw [List.getD_eq_getElem?_getD, List.getElem?_eq_getElem (by omega)]
            rfl
          have hN : drawN ⟨c0, c1, great, cells⟩ m = (mixed (cells.getD ((c1 + 1) % (cells.length : Int)).toNat 0) (c1 + 1) * mixed (cells.getD ((c1 + 1) % (cells.length : Int)).toNat 0) (c1 + 1) + mixed (cells.getD ((c1 + 1) % (cells.length : Int)).toNat 0) (c1 + 1) * 16807 + (c1 + 1) * 40014) % 2147483629 / 32 % m := rfl
          rw [hN] at q
          clear hN
          generalize cells.getD ((c1 + 1) % (cells.length : Int)).toNat 0 = x at hget q
          refine rd_b (n := 3) rfl b1 rfl (rd_b (n := 1) rfl b1 rfl (.inl ⟨c1 + 1, rfl, rd_b (n := 3) rfl b1 rfl ⟨.ref ac, cells.length, rfl, .inl ⟨_, SqL.of b3, by rw [List.length_map]⟩, c1 + 1, (cells.length : Int), rfl, rfl, hcl, ?_⟩⟩))
          refine ⟨ac, _, _, .int x, rfl, rfl, SqL.of b3, ?_, ?_⟩
          · rw [show (c1 + 1) % (cells.length : Int) = ((((c1 + 1) % (cells.length : Int)).toNat : Nat) : Int) by omega]
            exact atI_nat (by rw [List.getElem?_map, hget]; rfl)
          -- mixed = ..
          refine ⟨.int x, rfl, x, 48271, rfl, rfl, .inr (by decide), rd_b (n := 1) rfl b1 rfl ⟨c1 + 1, 69621, rfl, rfl, .inr (by decide), ?_⟩⟩
          refine ⟨_, _, rfl, rfl, _, 1, rfl, rfl, .inl ⟨_, rfl, _, 2147483647, rfl, rfl, (show (0 : Int) < 2147483647 by decide), ?_⟩⟩
          have hmx0 : 0 ≤ mixed x (c1 + 1) ∧ mixed x (c1 + 1) < 2147483647 := ⟨Int.emod_nonneg _ (by decide), Int.emod_lt_of_pos _ (by decide)⟩
          refine ⟨.int (mixed x (c1 + 1)), rfl, .int (mixed x (c1 + 1)), rfl, mixed x (c1 + 1), mixed x (c1 + 1), rfl, rfl, .inl ⟨by omega, by omega⟩, .int (mixed x (c1 + 1)), rfl, mixed x (c1 + 1), 16807, rfl, rfl, .inr (by decide), _, _, rfl, rfl, rd_b (n := 1) rfl b1 rfl ⟨c1 + 1, 40014, rfl, rfl, .inr (by decide), _, _, rfl, rfl, .inl ⟨_, rfl, _, 2147483629, rfl, rfl, (show (0 : Int) < 2147483629 by decide), ?_⟩⟩⟩
          refine ⟨_, 32, rfl, rfl, ⟨by decide, by decide⟩, .int m, rfl, _, m, rfl, rfl, hm0, ?_⟩
          exact q _ _ kk ⟨b1, b2, b3, n1, n2, n3⟩ (by simp [ResR, Rep])
      · cases e
    · cases e
end
end W

/-! P1: the helpers that nearly every law has: draws, the greatest common divisor, boards. -/
namespace W
open PySem L2 M
theorem foldl_range_succ {α : Type} (f : α → Nat → α) (a : α) (n : Nat) : (List.range (n + 1)).foldl f a = f ((List.range n).foldl f a) n := by
  rw [List.range_succ, List.foldl_append]
  rfl
theorem set_fold_len {f : List Nat → Nat → List Nat} (hf : ∀ l k, (f l k).length = l.length) (l : List Nat) : ∀ n, ((List.range n).foldl f l).length = l.length
  | 0 => rfl
  | n + 1 => by rw [foldl_range_succ, hf, set_fold_len hf l n]
theorem map_const_rep {α β : Type} (c : β) : ∀ l : List α, (l.map fun _ => c) = List.replicate l.length c
  | [] => rfl
  | a :: l => by rw [List.map_cons, map_const_rep c l, List.length_cons, List.replicate_succ]
theorem rgOk_nat {n : Nat} (h : n ≤ 1000000) : rgOk (n : Int) = true := rgOk_small (by omega) (by omega)
/-! ### back -/
def back (s : List Nat) : List Nat := (List.range s.length).foldl (fun out k => out.set (s.getD k 0) k) (List.replicate s.length 0)
theorem back_length (s : List Nat) : (back s).length = s.length := by
  unfold back
  rw [set_fold_len (fun l k => List.length_set ..)]
  simp
theorem lb1 (x : Sl) (s : List Nat) (b : BagT) (hx : RowA x s) (hs : ∀ e ∈ s, e < s.length) (hl : s.length ≤ 1000) : mSet 1 (mComp [2] (mIt (mV 0)) (tmN 2) (mYes) (mD (mC (.int 0)))) (⟨[x, .no, .no], b⟩ : Sta BagT) = some (.nx, ⟨[x, .own (.lst (ni (List.replicate s.length 0))), .no], b⟩) := by
    have hm : mIt (mV 0) (⟨[x, .no, .no], b⟩ : Sta BagT) = some (ni s, ⟨[x, .no, .no], b⟩) := by
      rcases hx with rfl | rfl | rfl <;> simp
    rw [mSet_ap, mComp_pure (fun _ => true) (fun _ => .int 0) hm (by rcases hx with rfl | rfl | rfl <;> rfl) (by rw [ni_length]; unfold line; omega)]
    · have e : ((ni s).filter fun _ => true).map (fun _ => D.int 0) = ni (List.replicate s.length 0) := by
        rw [List.filter_eq_self.mpr (fun _ _ => rfl), map_const_rep, ni_length]
        simp [ni]
      rw [e]
      simp
    · intro d _
      refine ⟨_, _, rfl, rfl, fun _ => ⟨_, rfl, rfl, rfl⟩, fun h => by cases h⟩
theorem lb2 (x : Sl) (s : List Nat) (b : BagT) (hx : RowA x s) (hs : ∀ e ∈ s, e < s.length) (hl : s.length ≤ 1000) : mRng fR1 (mCons (mBi fLen (mCons (mV 0) (mNil))) (mNil)) (⟨[x, .own (.lst (ni (List.replicate s.length 0))), .no], b⟩ : Sta BagT) = some (ni (List.range s.length), ⟨[x, .own (.lst (ni (List.replicate s.length 0))), .no], b⟩) := by
    rcases hx with rfl | rfl | rfl <;> simp [rgOk_nat (show s.length ≤ 1000000 by omega), rgL_ni]
theorem law_back_eq (x : Sl) (s : List Nat) (b : BagT) (hx : RowA x s) (hs : ∀ e ∈ s, e < s.length) (hl : s.length ≤ 1000) : F_law_back [x] b = some (.val (.tup (ni (back s))), b) := by
  have c1 := lb1 x s b hx hs hl
  have c2 := lb2 x s b hx hs hl
  obtain ⟨st', e3, hb3, z, he3⟩ := forL_inv (tg := tmN 2) (body := mPut (mV 2) (tmSub 1 (mOp2 fIx (mV 0) (mV 2)))) (fun i (st : Sta BagT) => st.bag = b ∧ ∃ z, st.env = [x, .own (.lst (ni ((List.range i).foldl (fun out k => out.set (s.getD k 0) k) (List.replicate s.length 0)))), z])
    (ni (List.range s.length)) 0 ⟨[x, .own (.lst (ni (List.replicate s.length 0))), .no], b⟩ ⟨rfl, .no, rfl⟩ (fun i d st hd ⟨hb, z, he⟩ => by
      have hi : i < s.length := by
        have := (List.getElem?_eq_some_iff.mp hd).1
        simpa using this
      rw [ni_get, List.getElem?_range hi] at hd
      cases hd
      obtain ⟨env, bag⟩ := st
      simp only at hb he
      subst hb he
      rw [Nat.zero_add] at *
      have hg := get_of hi
      have hlt : s.getD i 0 < s.length := hs _ (List.mem_of_getElem? hg)
      have hlen := set_fold_len (f := fun out k => out.set (s.getD k 0) k) (fun l k => List.length_set ..) (List.replicate s.length 0) i
      rw [List.length_replicate] at hlen
      refine ⟨_, .nx, ⟨[x, .own (.lst (ni ((List.range (i + 1)).foldl (fun out k => out.set (s.getD k 0) k) (List.replicate s.length 0)))), .val (.int (i : Int))], bag⟩, rfl, ?_, .inl rfl, rfl, _, rfl⟩
      rw [foldl_range_succ]
      generalize (List.range i).foldl (fun out k => out.set (s.getD k 0) k) (List.replicate s.length 0) = out at hlen ⊢
      generalize s.getD i 0 = v at hg hlt ⊢
      have hix : ixN out.length (v : Int) = some v := ixN_nc (by omega)
      rcases hx with rfl | rfl | rfl <;> simp [hg, hix, ni_set])
  rw [Nat.zero_add, ni_length, List.length_range] at he3
  obtain ⟨env, bag⟩ := st'
  simp only at hb3 he3
  rw [hb3, he3] at e3
  rw [F_law_back, runF_eq, if_pos (by rfl)]
  show outF (mSeq _ _ (⟨[x, .no, .no], b⟩ : Sta BagT)) = _
  rw [mSeq_ap, c1, Option.bind_some, M.thn_nx, mSeq_ap, mFor_ap, c2, Option.bind_some]
  simp only
  rw [e3, Option.bind_some, M.thn_nx]
  simp [back]
end W

namespace W
open PySem L2 M
/-! ### corners -/
def turnOf (r a : List Nat) (s : Nat) : Nat := a.getD (r.getD ((back a).getD ((back r).getD s 0) 0) 0) 0
/-- every number of s is below n -/
def Lt (n : Nat) (s : List Nat) : Prop := s.length = n ∧ ∀ e ∈ s, e < n
theorem Lt.get {n : Nat} {s : List Nat} (h : Lt n s) {k : Nat} (hk : k < n) : s[k]? = some (s.getD k 0) ∧ s.getD k 0 < n := by
  have hg := get_of (s := s) (k := k) (by rw [h.1]; exact hk)
  exact ⟨hg, h.2 _ (List.mem_of_getElem? hg)⟩
theorem Lt.set {n : Nat} {s : List Nat} (h : Lt n s) {k v : Nat} (hv : v < n) : Lt n (s.set k v) := by
  refine ⟨by rw [List.length_set]; exact h.1, fun e he => ?_⟩
  rcases List.mem_or_eq_of_mem_set he with h1 | h1
  · exact h.2 e h1
  · rw [h1]; exact hv
theorem back_lt {n : Nat} {s : List Nat} (h : Lt n s) : Lt n (back s) := by
  have gen : ∀ (m : Nat) (l : List Nat), m ≤ n → Lt n l → Lt n ((List.range m).foldl (fun out k => out.set (s.getD k 0) k) l) := by
    intro m
    induction m with
    | zero => intro l _ hl; exact hl
    | succ m ih =>
      intro l hm hl
      rw [foldl_range_succ]
      exact (ih l (by omega) hl).set (by omega)
  unfold back
  rw [h.1]
  by_cases h0 : n = 0
  · subst h0
    exact ⟨by simp, by simp⟩
  · refine gen n _ (Nat.le_refl _) ⟨by simp, fun e he => ?_⟩
    rw [List.eq_of_mem_replicate he]
    omega
theorem turnOf_lt {n : Nat} {r a : List Nat} (hr : Lt n r) (ha : Lt n a) {s : Nat} (hs : s < n) : turnOf r a s < n := by
  have h1 := ((back_lt hr).get hs).2
  have h2 := ((back_lt ha).get h1).2
  have h3 := (hr.get h2).2
  exact (ha.get h3).2
theorem law_turn_of_eq {n : Nat} (x y : D) (rest : List D) (r a : List Nat) (s : Nat) (b : BagT) (hx : Row x r) (hy : Row y a) (hr : Lt n r) (ha : Lt n a) (hn : n ≤ 1000) (hs : s < n) :
    F_law_turn_of [.val (.tup (x :: y :: rest)), .val (.int (s : Int))] b = some (.val (.int (turnOf r a s : Int)), b) := by
  have b1 := law_back_eq (.val x) r b hx.arg (by rw [hr.1]; exact hr.2) (by rw [hr.1]; exact hn)
  have b2 := law_back_eq (.val y) a b hy.arg (by rw [ha.1]; exact ha.2) (by rw [ha.1]; exact hn)
  have ht : turnOf r a s = a.getD (r.getD ((back a).getD ((back r).getD s 0) 0) 0) 0 := rfl
  obtain ⟨g1, l1⟩ := (back_lt hr).get hs
  generalize (back r).getD s 0 = v1 at *
  obtain ⟨g2, l2⟩ := (back_lt ha).get l1
  generalize (back a).getD v1 0 = v2 at *
  obtain ⟨g3, l3⟩ := hr.get l2
  generalize r.getD v2 0 = v3 at *
  obtain ⟨g4, l4⟩ := ha.get l3
  generalize a.getD v3 0 = v4 at *
  rw [ht]
  generalize back r = br at *
  generalize back a = ba at *
  clear ht hr ha
  simp [F_law_turn_of, b1, b2, g1, g2, hx.ix, hy.ix, g3, g4]
def endsN (r a : List Nat) : List Nat := (List.range r.length).filter fun k => !decide (turnOf r a k = k)
/-- a test of numbers as one of data -/
def pN (p : Nat → Bool) (d : D) : Bool := match d with
  | .int i => p i.toNat
  | _ => false
theorem filter_ni (p : Nat → Bool) (s : List Nat) : (ni s).filter (pN p) = ni (s.filter p) := by
  unfold ni
  rw [List.filter_map]
  congr 1
theorem map_id_ni (s : List Nat) : (ni s).map id = ni s := List.map_id _
theorem law_ends_eq {n : Nat} (x y : D) (r a : List Nat) (b : BagT) (hx : Row x r) (hy : Row y a) (hr : Lt n r) (ha : Lt n a) (hn : n ≤ 1000) : F_law_ends [.val x, .val y] b = some (.val (.tup (ni (endsN r a))), b) := by
  have c1 : mRng fR1 (mCons (mBi fLen (mCons (mV 0) (mNil))) (mNil)) (⟨[.val x, .val y, .no], b⟩ : Sta BagT) = some (ni (List.range n), ⟨[.val x, .val y, .no], b⟩) := by
    simp [hx.len, hr.1, rgOk_nat (show n ≤ 1000000 by omega), rgL_ni]
  have c2 := mComp_pure (vs := [2]) (tg := tmN 2) (tt := mBl (mOp2 fNe (mCall F_law_turn_of (mCons (mTup (mCons (mD (mV 0)) (mCons (mD (mV 1)) (mNil)))) (mCons (mV 2) (mNil)))) (mV 2))) (te := mD (mV 2)) (pN fun k => !decide (turnOf r a k = k)) id c1 rfl (by rw [ni_length, List.length_range]; unfold line; omega) (fun d hd => by
    obtain ⟨k, hk, rfl⟩ : ∃ k, k < n ∧ d = .int (k : Int) := by
      unfold ni at hd
      obtain ⟨k, hk, rfl⟩ := List.mem_map.mp hd
      exact ⟨k, List.mem_range.mp hk, rfl⟩
    have t := law_turn_of_eq x y [] r a k b hx hy hr ha hn hk
    refine ⟨⟨[.val x, .val y, .val (.int (k : Int))], b⟩, ⟨[.val x, .val y, .val (.int (k : Int))], b⟩, rfl, ?_, fun _ => ⟨⟨[.val x, .val y, .val (.int (k : Int))], b⟩, rfl, rfl, rfl⟩, fun _ => ⟨rfl, rfl⟩⟩
    have e : ((turnOf r a k : Int) == (k : Int)) = decide (turnOf r a k = k) := by
      by_cases h : turnOf r a k = k
      · simp [h]
      · have h2 : ¬ (turnOf r a k : Int) = (k : Int) := by omega
        simp [h, h2]
    simp [t, line, pN, bne, e])
  rw [F_law_ends, runF_eq, if_pos (by rfl)]
  show outF (mRet _ (⟨[.val x, .val y, .no], b⟩ : Sta BagT)) = _
  rw [mRet_ap, mBi_ap, mCons_ap, c2]
  rw [filter_ni, map_id_ni]
  simp [endsN, hr.1]
end W

namespace W
open PySem L2 M
/-! ### squares held together -/
def addNew (g : List Nat) (t : Nat) : List Nat := if t ∈ g then g else g ++ [t]
def nbrs (r a : List Nat) (s : Nat) : List Nat := [r.getD s 0, a.getD s 0, (back r).getD s 0, (back a).getD s 0]
def stepG (r a g : List Nat) (k : Nat) : List Nat := if k < g.length then (nbrs r a (g.getD k 0)).foldl addNew g else g
def groupN (r a : List Nat) : List Nat := (List.range r.length).foldl (stepG r a) [0]
theorem addNew_lt {n : Nat} {g : List Nat} {t : Nat} (h : ∀ e ∈ g, e < n) (ht : t < n) : ∀ e ∈ addNew g t, e < n := by
  intro e he
  unfold addNew at he
  split at he
  · exact h e he
  · rcases List.mem_append.mp he with h1 | h1
    · exact h e h1
    · rw [List.mem_singleton.mp h1]; exact ht
theorem addNew_len (g : List Nat) (t : Nat) : (addNew g t).length ≤ g.length + 1 := by
  unfold addNew
  split
  · omega
  · simp
theorem addAll {n : Nat} : ∀ (l g : List Nat), (∀ e ∈ g, e < n) → (∀ e ∈ l, e < n) → (∀ e ∈ l.foldl addNew g, e < n) ∧ (l.foldl addNew g).length ≤ g.length + l.length
  | [], g, h, _ => ⟨h, Nat.le_refl _⟩
  | t :: l, g, h, hl => by
    have h1 := addAll l (addNew g t) (addNew_lt h (hl t List.mem_cons_self)) fun e he => hl e (List.mem_cons_of_mem _ he)
    refine ⟨h1.1, ?_⟩
    have := addNew_len g t
    have h2 := h1.2
    rw [List.foldl_cons, List.length_cons]
    omega
theorem nbrs_lt {n : Nat} {r a : List Nat} (hr : Lt n r) (ha : Lt n a) {s : Nat} (hs : s < n) : ∀ e ∈ nbrs r a s, e < n := by
  intro e he
  simp only [nbrs, List.mem_cons, List.mem_nil_iff, or_false] at he
  rcases he with rfl | rfl | rfl | rfl
  · exact (hr.get hs).2
  · exact (ha.get hs).2
  · exact ((back_lt hr).get hs).2
  · exact ((back_lt ha).get hs).2
theorem group_inv {n : Nat} {r a : List Nat} (hr : Lt n r) (ha : Lt n a) (h0 : 0 < n) : ∀ i, (∀ e ∈ (List.range i).foldl (stepG r a) [0], e < n) ∧ ((List.range i).foldl (stepG r a) [0]).length ≤ 1 + 4 * i
  | 0 => ⟨by simpa using h0, by simp⟩
  | i + 1 => by
    have h := group_inv hr ha h0 i
    rw [foldl_range_succ]
    generalize (List.range i).foldl (stepG r a) [0] = g at h ⊢
    unfold stepG
    split
    · rename_i hk
      have h1 := addAll (nbrs r a (g.getD i 0)) g h.1 (nbrs_lt hr ha (h.1 _ (List.mem_of_getElem? (get_of hk))))
      have hl : (nbrs r a (g.getD i 0)).length = 4 := rfl
      refine ⟨h1.1, ?_⟩
      have h2 := h1.2
      omega
    · exact ⟨h.1, by omega⟩
theorem group_lt {n : Nat} {r a : List Nat} (hr : Lt n r) (ha : Lt n a) (h0 : 0 < n) : ∀ e ∈ groupN r a, e < n := by
  unfold groupN
  rw [hr.1]
  exact (group_inv hr ha h0 n).1
theorem ni_snoc (g : List Nat) (t : Nat) : ni g ++ [.int (t : Int)] = ni (g ++ [t]) := ni_append g [t]
theorem lg1 (x y k : Sl) (b : BagT) : ∀ (l g : List Nat) (z : Sl), g.length + l.length ≤ line → ∃ z', forL (tmN 4) (mIf (mBl (mOp2 (fInB true) (mV 4) (mV 2))) (mEx (mOwn 2 fAppend (mCons (mD (mV 4)) (mNil)))) (mSkip)) (ni l) (⟨[x, y, .own (.lst (ni g)), k, z], b⟩ : Sta BagT) = some (.nx, ⟨[x, y, .own (.lst (ni (l.foldl addNew g))), k, z'], b⟩)
  | [], g, z, _ => ⟨z, rfl⟩
  | t :: l, g, z, hl => by
    rw [List.length_cons] at hl
    obtain ⟨z', e⟩ := lg1 x y k b l (addNew g t) (.val (.int (t : Int))) (by have := addNew_len g t; omega)
    refine ⟨z', ?_⟩
    rw [List.foldl_cons, ← e]
    show forL _ _ (.int (t : Int) :: ni l) _ = _
    rw [forL_cons]
    have hlt : g.length < line := by omega
    by_cases h : t ∈ g
    · simp [dIn_ni, h, addNew]
    · simp [dIn_ni, h, addNew, hlt, ni_snoc]
theorem lg2 {n : Nat} (x y : Sl) (r a : List Nat) (b : BagT) (hx : RowA x r) (hy : RowA y a) (hr : Lt n r) (ha : Lt n a) (hn : n ≤ 1000) (g : List Nat) (i : Nat) (z : Sl) (hi : i < g.length) (hg : ∀ e ∈ g, e < n) :
    mIt (mTup (mCons (mD (mOp2 fIx (mV 0) (mOp2 fIx (mV 2) (mV 3)))) (mCons (mD (mOp2 fIx (mV 1) (mOp2 fIx (mV 2) (mV 3)))) (mCons (mD (mOp2 fIx (mCall F_law_back (mCons (mV 0) (mNil))) (mOp2 fIx (mV 2) (mV 3)))) (mCons (mD (mOp2 fIx (mCall F_law_back (mCons (mV 1) (mNil))) (mOp2 fIx (mV 2) (mV 3)))) (mNil)))))) (⟨[x, y, .own (.lst (ni g)), .val (.int (i : Int)), z], b⟩ : Sta BagT) = some (ni (nbrs r a (g.getD i 0)), ⟨[x, y, .own (.lst (ni g)), .val (.int (i : Int)), z], b⟩) := by
  have b1 := law_back_eq x r b hx (by rw [hr.1]; exact hr.2) (by rw [hr.1]; exact hn)
  have b2 := law_back_eq y a b hy (by rw [ha.1]; exact ha.2) (by rw [ha.1]; exact hn)
  have e0 := get_of hi
  have l0 : g.getD i 0 < n := hg _ (List.mem_of_getElem? e0)
  unfold nbrs
  generalize g.getD i 0 = v at e0 l0 ⊢
  have e1 := (hr.get l0).1
  have e2 := (ha.get l0).1
  have e3 := ((back_lt hr).get l0).1
  have e4 := ((back_lt ha).get l0).1
  generalize back r = br at *
  generalize back a = ba at *
  generalize r.getD v 0 = v1 at *
  generalize a.getD v 0 = v2 at *
  generalize br.getD v 0 = v3 at *
  generalize ba.getD v 0 = v4 at *
  have hl : 4 ≤ line := by decide
  rcases hx with rfl | rfl | rfl <;> rcases hy with rfl | rfl | rfl <;> (simp [e0, e1, e2, e3, e4, b1, b2, hl]; rfl)
theorem law_group_eq {n : Nat} (x y : Sl) (r a : List Nat) (b : BagT) (hx : RowA x r) (hy : RowA y a) (hr : Lt n r) (ha : Lt n a) (h0 : 0 < n) (hn : n ≤ 1000) :
    F_law_group [x, y] b = some (.new (.lst (ni (groupN r a))), b) := by
  have c2 : mRng fR1 (mCons (mBi fLen (mCons (mV 0) (mNil))) (mNil)) (⟨[x, y, .own (.lst (ni [0])), .no, .no], b⟩ : Sta BagT) = some (ni (List.range n), ⟨[x, y, .own (.lst (ni [0])), .no, .no], b⟩) := by
    rcases hx with rfl | rfl | rfl <;> simp [rgOk_nat (show n ≤ 1000000 by omega), rgL_ni, hr.1]
  have c1 : mSet 2 (mLst (mCons (mD (mC (.int 0))) (mNil))) (⟨[x, y, .no, .no, .no], b⟩ : Sta BagT) = some (.nx, ⟨[x, y, .own (.lst (ni [0])), .no, .no], b⟩) := by
    simp [line]
    rfl
  have key := forL_inv (tg := tmN 3) (body := mIf (mBl (mOp2 fLt (mV 3) (mBi fLen (mCons (mV 2) (mNil))))) (mFor (mIt (mTup (mCons (mD (mOp2 fIx (mV 0) (mOp2 fIx (mV 2) (mV 3)))) (mCons (mD (mOp2 fIx (mV 1) (mOp2 fIx (mV 2) (mV 3)))) (mCons (mD (mOp2 fIx (mCall F_law_back (mCons (mV 0) (mNil))) (mOp2 fIx (mV 2) (mV 3)))) (mCons (mD (mOp2 fIx (mCall F_law_back (mCons (mV 1) (mNil))) (mOp2 fIx (mV 2) (mV 3)))) (mNil))))))) (tmN 4) (mIf (mBl (mOp2 (fInB true) (mV 4) (mV 2))) (mEx (mOwn 2 fAppend (mCons (mD (mV 4)) (mNil)))) (mSkip))) (mSkip))
    (fun i (st : Sta BagT) => st.bag = b ∧ ∃ z1 z2, st.env = [x, y, .own (.lst (ni ((List.range i).foldl (stepG r a) [0]))), z1, z2]) (ni (List.range n)) 0 ⟨[x, y, .own (.lst (ni [0])), .no, .no], b⟩ ⟨rfl, .no, .no, rfl⟩ (fun i d st hd ⟨hb, z1, z2, he⟩ => by
      have hi : i < n := by
        have := (List.getElem?_eq_some_iff.mp hd).1
        simpa using this
      rw [ni_get, List.getElem?_range hi] at hd
      cases hd
      obtain ⟨env, bag⟩ := st
      simp only at hb he
      subst hb he
      rw [Nat.zero_add] at *
      have hg := group_inv hr ha h0 i
      rw [foldl_range_succ]
      generalize (List.range i).foldl (stepG r a) [0] = g at hg ⊢
      by_cases hk : i < g.length
      · have e1 := lg2 x y r a bag hx hy hr ha hn g i z2 hk hg.1
        obtain ⟨z', e2⟩ := lg1 x y (.val (.int (i : Int))) bag (nbrs r a (g.getD i 0)) g z2 (by
          have hl : (nbrs r a (g.getD i 0)).length = 4 := rfl
          unfold line
          have := hg.2
          omega)
        refine ⟨_, .nx, ⟨[x, y, .own (.lst (ni (stepG r a g i))), .val (.int (i : Int)), z'], bag⟩, rfl, ?_, .inl rfl, rfl, _, _, rfl⟩
        have hs : stepG r a g i = (nbrs r a (g.getD i 0)).foldl addNew g := if_pos hk
        rw [hs, mIf_ap]
        have ht : mBl (mOp2 fLt (mV 3) (mBi fLen (mCons (mV 2) (mNil)))) (⟨[x, y, .own (.lst (ni g)), .val (.int (i : Int)), z2], bag⟩ : Sta BagT) = some (true, ⟨[x, y, .own (.lst (ni g)), .val (.int (i : Int)), z2], bag⟩) := by
          simp [hk]
        show (mBl _ (⟨[x, y, .own (.lst (ni g)), .val (.int (i : Int)), z2], bag⟩ : Sta BagT)).bind _ = _
        rw [ht, Option.bind_some, if_pos rfl, mFor_ap, e1, Option.bind_some]
        exact e2
      · have hs : stepG r a g i = g := if_neg hk
        refine ⟨_, .nx, ⟨[x, y, .own (.lst (ni (stepG r a g i))), .val (.int (i : Int)), z2], bag⟩, rfl, ?_, .inl rfl, rfl, _, _, rfl⟩
        rw [hs]
        have hk2 : ¬ ((i : Int) < (g.length : Int)) := by omega
        simp [hk])
  obtain ⟨st', e3, hb3, z1, z2, he3⟩ := key
  rw [Nat.zero_add, ni_length, List.length_range] at he3
  obtain ⟨env, bag⟩ := st'
  simp only at hb3 he3
  rw [hb3, he3] at e3
  rw [F_law_group, runF_eq, if_pos (by rfl)]
  show outF (mSeq _ _ (⟨[x, y, .no, .no, .no], b⟩ : Sta BagT)) = _
  rw [mSeq_ap, c1, Option.bind_some, M.thn_nx, mSeq_ap, mFor_ap, c2, Option.bind_some]
  simp only
  rw [e3, Option.bind_some, M.thn_nx]
  simp [groupN, hr.1]
end W

namespace W
open PySem L2 M
/-! ### boards -/
theorem range_lt (n : Nat) : Lt n (List.range n) := ⟨List.length_range, fun e he => List.mem_range.mp he⟩
/-- the bag can be drawn from -/
def Bg (b : BagT) : Prop := b.cells ≠ []
theorem law_shuffle_eq (n : Nat) (h0 : 0 < n) (hn : n ≤ 1000) (b : BagT) (hb : Bg b) : ∃ p b', F_law_shuffle [.val .res, .val (.int (n : Int))] b = some (.new (.lst (ni p)), b') ∧ Lt n p ∧ Bg b' := by
  have c1 : mSet 2 (mLR1 (mV 1)) (⟨[.val .res, .val (.int (n : Int)), .no, .no, .no], b⟩ : Sta BagT) = some (.nx, ⟨[.val .res, .val (.int (n : Int)), .own (.lst (ni (List.range n))), .no, .no], b⟩) := by
    have h1 : lrOk 0 (n : Int) = true := by
      unfold lrOk
      rw [rgOk_nat (show n ≤ 1000000 by omega), rgOk_small (i := 0) (by omega) (by omega)]
      rw [Bool.true_and, Bool.true_and]
      exact decide_eq_true (by omega)
    simp [h1, rgL_ni]
  have c2 : mRng fR3 (mCons (mOp2 fSub (mV 1) (mC (.int 1))) (mCons (mC (.int 0)) (mCons (mOp1 fNeg (mC (.int 1))) (mNil)))) (⟨[.val .res, .val (.int (n : Int)), .own (.lst (ni (List.range n))), .no, .no], b⟩ : Sta BagT) = some (rgLC ((n : Int) - 1) (-1) (n - 1), ⟨[.val .res, .val (.int (n : Int)), .own (.lst (ni (List.range n))), .no, .no], b⟩) := by
    have h1 : rgOk ((n : Int) - 1) = true := rgOk_small (by omega) (by omega)
    have h2 : rgOk 0 = true := rgOk_small (by omega) (by omega)
    have h3 : ((n : Int) - 1).toNat = n - 1 := by omega
    simp [h1, h2, h3]
  obtain ⟨st', e3, p, z1, z2, he3, hp, hb3⟩ := forL_inv (tg := tmN 3) (body := mSeq (mSet 4 (mCall F_draw (mCons (mV 0) (mCons (mOp2 fAdd (mV 3) (mC (.int 1))) (mNil)))))
    (mPut (mTup (mCons (mD (mOp2 fIx (mV 2) (mV 4))) (mCons (mD (mOp2 fIx (mV 2) (mV 3))) (mNil)))) (tmT (tmCons (tmSub 2 (mV 3)) (tmCons (tmSub 2 (mV 4)) (tmNil))) 2)))
    (fun _ (st : Sta BagT) => ∃ p z1 z2, st.env = [.val .res, .val (.int (n : Int)), .own (.lst (ni p)), z1, z2] ∧ Lt n p ∧ Bg st.bag) (rgLC ((n : Int) - 1) (-1) (n - 1)) 0 ⟨[.val .res, .val (.int (n : Int)), .own (.lst (ni (List.range n))), .no, .no], b⟩ ⟨_, _, _, rfl, range_lt n, hb⟩ (fun i d st hd ⟨p, z1, z2, he, hp, hbg⟩ => by
      have hi : i < n - 1 := by
        have := (List.getElem?_eq_some_iff.mp hd).1
        simpa [rgLC] using this
      obtain ⟨k, rfl, hk, hk0⟩ : ∃ k : Nat, d = .int (k : Int) ∧ k < n ∧ 0 < k := by
        unfold rgLC at hd
        rw [List.getElem?_map, List.getElem?_range hi] at hd
        cases hd
        exact ⟨n - 1 - i, congrArg D.int (by omega), by omega, by omega⟩
      obtain ⟨env, bag⟩ := st
      simp only at he hbg
      subst he
      obtain ⟨j, b', ed, hj, hb'⟩ := F_draw_nat bag hbg (k + 1) (by omega) (by omega)
      have g1 := (hp.get (show j < n by omega))
      have g2 := (hp.get hk)
      refine ⟨_, .nx, ⟨[.val .res, .val (.int (n : Int)), .own (.lst (ni ((p.set k (p.getD j 0)).set j (p.getD k 0)))), .val (.int (k : Int)), .val (.int (j : Int))], b'⟩, rfl, ?_, .inl rfl, _, _, _, rfl, (hp.set g1.2).set g2.2, hb'⟩
      generalize p.getD j 0 = u at g1 ⊢
      generalize p.getD k 0 = v at g2 ⊢
      have hl : 2 ≤ line := by decide
      have h1 : ixN p.length (k : Int) = some k := ixN_nc (by rw [hp.1]; omega)
      have h2 : ixN p.length (j : Int) = some j := ixN_nc (by rw [hp.1]; omega)
      have ek : ((k + 1 : Nat) : Int) = (k : Int) + 1 := by omega
      rw [ek] at ed
      simp [ed, g1.1, g2.1, h1, h2, hl, ni_set])
  obtain ⟨env, bag⟩ := st'
  simp only at hb3 he3
  subst he3
  refine ⟨p, bag, ?_, hp, hb3⟩
  rw [F_law_shuffle, runF_eq, if_pos (by rfl)]
  show outF (mSeq _ _ (⟨[.val .res, .val (.int (n : Int)), .no, .no, .no], b⟩ : Sta BagT)) = _
  rw [mSeq_ap, c1, Option.bind_some, M.thn_nx, mSeq_ap, mFor_ap, c2, Option.bind_some]
  simp only
  rw [e3, Option.bind_some, M.thn_nx]
  simp
end W

namespace W
open PySem L2 M
/-- board data -/
def bdD (r a e : List Nat) : D := .tup [.tup (ni r), .tup (ni a), .tup (ni e)]
theorem mem_ni {s : List Nat} {d : D} (h : d ∈ ni s) : ∃ k, k ∈ s ∧ d = .int (k : Int) := by
  unfold ni at h
  obtain ⟨k, hk, rfl⟩ := List.mem_map.mp h
  exact ⟨k, hk, rfl⟩
theorem lb_apart {n : Nat} (r a : List Nat) (z5 z6 z7 z8 : Sl) (v1 : Sl) (b : BagT) (hr : Lt n r) (ha : Lt n a) (h0 : 0 < n) (hn : n ≤ 1000) :
    mSet 6 (mComp [9] (mRng fR1 (mCons (mV 2) (mNil))) (tmN 9) (mBl (mOp2 (fInB true) (mV 9) (mCall F_law_group (mCons (mV 3) (mCons (mV 4) (mNil)))))) (mD (mV 9))) (⟨[.val .res, v1, .val (.int (n : Int)), .own (.lst (ni r)), .own (.lst (ni a)), z5, z6, z7, z8, .no], b⟩ : Sta BagT) = some (.nx, ⟨[.val .res, v1, .val (.int (n : Int)), .own (.lst (ni r)), .own (.lst (ni a)), z5, .own (.lst (ni ((List.range n).filter fun k => !decide (k ∈ groupN r a)))), z7, z8, .no], b⟩) := by
  have c1 : mRng fR1 (mCons (mV 2) (mNil)) (⟨[.val .res, v1, .val (.int (n : Int)), .own (.lst (ni r)), .own (.lst (ni a)), z5, z6, z7, z8, .no], b⟩ : Sta BagT) = some (ni (List.range n), ⟨[.val .res, v1, .val (.int (n : Int)), .own (.lst (ni r)), .own (.lst (ni a)), z5, z6, z7, z8, .no], b⟩) := by
    simp [rgOk_nat (show n ≤ 1000000 by omega), rgL_ni]
  have g := law_group_eq (.lock (.lst (ni r))) (.lock (.lst (ni a))) r a b (rowa_l r) (rowa_l a) hr ha h0 hn
  have c2 := mComp_pure (vs := [9]) (tg := tmN 9) (tt := mBl (mOp2 (fInB true) (mV 9) (mCall F_law_group (mCons (mV 3) (mCons (mV 4) (mNil)))))) (te := mD (mV 9)) (pN fun k => !decide (k ∈ groupN r a)) id c1 rfl (by rw [ni_length, List.length_range]; unfold line; omega) (fun d hd => by
    obtain ⟨k, hk, rfl⟩ := mem_ni hd
    refine ⟨⟨[.val .res, v1, .val (.int (n : Int)), .own (.lst (ni r)), .own (.lst (ni a)), z5, z6, z7, z8, .val (.int (k : Int))], b⟩, ⟨[.val .res, v1, .val (.int (n : Int)), .own (.lst (ni r)), .own (.lst (ni a)), z5, z6, z7, z8, .val (.int (k : Int))], b⟩, rfl, ?_, fun _ => ⟨⟨[.val .res, v1, .val (.int (n : Int)), .own (.lst (ni r)), .own (.lst (ni a)), z5, z6, z7, z8, .val (.int (k : Int))], b⟩, rfl, rfl, rfl⟩, fun _ => ⟨rfl, rfl⟩⟩
    generalize groupN r a = gg at *
    simp [g, pN, dIn_ni])
  rw [mSet_ap, c2, filter_ni, map_id_ni]
  rfl
theorem lb_body {n : Nat} (r a : List Nat) (z5 z6 z7 z8 : Sl) (v1 : Sl) (b : BagT) (hr : Lt n r) (ha : Lt n a) (h0 : 0 < n) (hn : n ≤ 1000) : ∃ a' z6', Lt n a' ∧
    mSeq (mSet 6 (mComp [9] (mRng fR1 (mCons (mV 2) (mNil))) (tmN 9) (mBl (mOp2 (fInB true) (mV 9) (mCall F_law_group (mCons (mV 3) (mCons (mV 4) (mNil)))))) (mD (mV 9)))) (mIf (mBl (mOp2 fNe (mV 6) (mLst (mNil)))) (mPut (mTup (mCons (mD (mOp2 fIx (mV 4) (mC (.int 0)))) (mCons (mD (mOp2 fIx (mV 4) (mOp2 fIx (mV 6) (mC (.int 0))))) (mNil)))) (tmT (tmCons (tmSub 4 (mOp2 fIx (mV 6) (mC (.int 0)))) (tmCons (tmSub 4 (mC (.int 0))) (tmNil))) 2)) (mSkip)) (⟨[.val .res, v1, .val (.int (n : Int)), .own (.lst (ni r)), .own (.lst (ni a)), z5, z6, z7, z8, .no], b⟩ : Sta BagT) = some (.nx, ⟨[.val .res, v1, .val (.int (n : Int)), .own (.lst (ni r)), .own (.lst (ni a')), z5, z6', z7, z8, .no], b⟩) := by
  have hs := lb_apart r a z5 z6 z7 z8 v1 b hr ha h0 hn
  have hlt : ∀ k ∈ (List.range n).filter fun k => !decide (k ∈ groupN r a), k < n := fun k hk => List.mem_range.mp (List.mem_filter.mp hk).1
  generalize ((List.range n).filter fun k => !decide (k ∈ groupN r a)) = ap at hs hlt
  cases ap with
  | nil =>
    refine ⟨a, .own (.lst (ni [])), ha, ?_⟩
    rw [mSeq_ap, hs, Option.bind_some, M.thn_nx]
    simp [fNe, ni, deqL, deq]
  | cons k0 ap =>
    have hk := hlt k0 List.mem_cons_self
    refine ⟨(a.set k0 (a.getD 0 0)).set 0 (a.getD k0 0), .own (.lst (ni (k0 :: ap))), (ha.set (ha.get h0).2).set (ha.get hk).2, ?_⟩
    rw [mSeq_ap, hs, Option.bind_some, M.thn_nx]
    have g1 := (ha.get h0).1
    have g2 := (ha.get hk).1
    generalize a.getD 0 0 = u at g1 ⊢
    generalize a.getD k0 0 = v at g2 ⊢
    have hl : 2 ≤ line := by decide
    have h1 : ixN a.length (k0 : Int) = some k0 := ixN_nc (by rw [ha.1]; omega)
    have h2 : ixN a.length 0 = some 0 := ixN_nc (k := 0) (by rw [ha.1]; omega)
    have e1 : atI (ni (k0 :: ap)) 0 = some (.int (k0 : Int)) := by simp [atI, ixN, ni]; first | done | omega
    have e2 : fNe (.lst (ni (k0 :: ap))) (.lst []) = some (.val (.bl true)) := by
      simp only [fNe, okq_lni, okq_lnil]
      rfl
    have e3 : atI (ni a) 0 = some (.int (u : Int)) := by
      unfold atI
      rw [ni_length, h2]
      simp [g1]
    simp [e1, e2, e3, g2, h1, h2, hl, ni_set]
theorem law_board_eq (m : Nat) (hm : 0 < m) (hm2 : m ≤ 1000) (b : BagT) (hb : Bg b) : ∃ n r a e b', F_law_board [.val .res, .val (.int (m : Int))] b = some (.val (bdD r a e), b') ∧ 0 < n ∧ n ≤ m ∧ Lt n r ∧ Lt n a ∧ Bg b' := by
  obtain ⟨j, b1, ed, hj, hb1⟩ := F_draw_nat b hb m hm (by omega)
  obtain ⟨n, hn⟩ : ∃ n, n = 1 + j := ⟨_, rfl⟩
  have h0 : 0 < n := by omega
  have hn2 : n ≤ 1000 := by omega
  obtain ⟨r, b2, er, hr, hb2⟩ := law_shuffle_eq n h0 hn2 b1 hb1
  obtain ⟨a, b3, ea, ha, hb3⟩ := law_shuffle_eq n h0 hn2 b2 hb2
  have en : (1 : Int) + (j : Int) = (n : Int) := by omega
  have c1 : mSet 2 (mOp2 fAdd (mC (.int 1)) (mCall F_draw (mCons (mV 0) (mCons (mV 1) (mNil))))) (⟨[.val .res, .val (.int (m : Int)), .no, .no, .no, .no, .no, .no, .no, .no], b⟩ : Sta BagT) = some (.nx, ⟨[.val .res, .val (.int (m : Int)), .val (.int (n : Int)), .no, .no, .no, .no, .no, .no, .no], b1⟩) := by
    simp [ed, en]
  have c2 : mPars [3, 4] (mCons (mH (mCall F_law_shuffle (mCons (mV 0) (mCons (mV 2) (mNil))))) (mCons (mH (mCall F_law_shuffle (mCons (mV 0) (mCons (mV 2) (mNil))))) (mNil))) (⟨[.val .res, .val (.int (m : Int)), .val (.int (n : Int)), .no, .no, .no, .no, .no, .no, .no], b1⟩ : Sta BagT) = some (.nx, ⟨[.val .res, .val (.int (m : Int)), .val (.int (n : Int)), .own (.lst (ni r)), .own (.lst (ni a)), .no, .no, .no, .no, .no], b3⟩) := by
    simp [er, ea]
  have c3 : mRng fR1 (mCons (mV 2) (mNil)) (⟨[.val .res, .val (.int (m : Int)), .val (.int (n : Int)), .own (.lst (ni r)), .own (.lst (ni a)), .no, .no, .no, .no, .no], b3⟩ : Sta BagT) = some (ni (List.range n), ⟨[.val .res, .val (.int (m : Int)), .val (.int (n : Int)), .own (.lst (ni r)), .own (.lst (ni a)), .no, .no, .no, .no, .no], b3⟩) := by
    simp [rgOk_nat (show n ≤ 1000000 by omega), rgL_ni]
  obtain ⟨st4, e4, a4, z5, z6, he4, ha4, hb4⟩ := forL_inv (tg := tmN 5) (body := mSeq (mSet 6 (mComp [9] (mRng fR1 (mCons (mV 2) (mNil))) (tmN 9) (mBl (mOp2 (fInB true) (mV 9) (mCall F_law_group (mCons (mV 3) (mCons (mV 4) (mNil)))))) (mD (mV 9)))) (mIf (mBl (mOp2 fNe (mV 6) (mLst (mNil)))) (mPut (mTup (mCons (mD (mOp2 fIx (mV 4) (mC (.int 0)))) (mCons (mD (mOp2 fIx (mV 4) (mOp2 fIx (mV 6) (mC (.int 0))))) (mNil)))) (tmT (tmCons (tmSub 4 (mOp2 fIx (mV 6) (mC (.int 0)))) (tmCons (tmSub 4 (mC (.int 0))) (tmNil))) 2)) (mSkip)))
    (fun _ (st : Sta BagT) => ∃ a z5 z6, st.env = [.val .res, .val (.int (m : Int)), .val (.int (n : Int)), .own (.lst (ni r)), .own (.lst (ni a)), z5, z6, .no, .no, .no] ∧ Lt n a ∧ st.bag = b3) (ni (List.range n)) 0 ⟨[.val .res, .val (.int (m : Int)), .val (.int (n : Int)), .own (.lst (ni r)), .own (.lst (ni a)), .no, .no, .no, .no, .no], b3⟩ ⟨a, .no, .no, rfl, ha, rfl⟩ (fun i d st hd ⟨a, z5, z6, he, ha, hbg⟩ => by
      obtain ⟨env, bag⟩ := st
      simp only at he hbg
      subst he hbg
      obtain ⟨a', z6', ha', e⟩ := lb_body r a (.val d) z6 .no .no (.val (.int (m : Int))) bag hr ha h0 hn2
      exact ⟨_, .nx, _, rfl, e, .inl rfl, a', _, z6', rfl, ha', rfl⟩)
  obtain ⟨env, bag⟩ := st4
  simp only at hb4 he4
  subst he4 hb4
  have c5 : mPars [3, 4] (mCons (mH (mBi fTuple (mCons (mV 3) (mNil)))) (mCons (mH (mBi fTuple (mCons (mV 4) (mNil)))) (mNil))) (⟨[.val .res, .val (.int (m : Int)), .val (.int (n : Int)), .own (.lst (ni r)), .own (.lst (ni a4)), z5, z6, .no, .no, .no], bag⟩ : Sta BagT) = some (.nx, ⟨[.val .res, .val (.int (m : Int)), .val (.int (n : Int)), .val (.tup (ni r)), .val (.tup (ni a4)), z5, z6, .no, .no, .no], bag⟩) := by
    simp
  obtain ⟨j6, b6, e6, hj6, hb6⟩ := F_draw_nat bag hb3 3 (by omega) (by omega)
  obtain ⟨s7, hs7⟩ : ∃ s7 : Bool, s7 = ((j6 : Int) == 0) := ⟨_, rfl⟩
  have c6 : mSet 7 (mOp2 fEq (mCall F_draw (mCons (mV 0) (mCons (mC (.int 3)) (mNil)))) (mC (.int 0))) (⟨[.val .res, .val (.int (m : Int)), .val (.int (n : Int)), .val (.tup (ni r)), .val (.tup (ni a4)), z5, z6, .no, .no, .no], bag⟩ : Sta BagT) = some (.nx, ⟨[.val .res, .val (.int (m : Int)), .val (.int (n : Int)), .val (.tup (ni r)), .val (.tup (ni a4)), z5, z6, .val (.bl s7), .no, .no], b6⟩) := by
    have e6' : F_draw [.val .res, .val (.int 3)] bag = some (.val (.int (j6 : Int)), b6) := e6
    simp [e6', hs7]
  have eE := law_ends_eq (.tup (ni r)) (.tup (ni a4)) r a4 b6 (row_t r) (row_t a4) hr ha4 hn2
  have c7 : mSet 8 (mCall F_law_ends (mCons (mV 3) (mCons (mV 4) (mNil)))) (⟨[.val .res, .val (.int (m : Int)), .val (.int (n : Int)), .val (.tup (ni r)), .val (.tup (ni a4)), z5, z6, .val (.bl s7), .no, .no], b6⟩ : Sta BagT) = some (.nx, ⟨[.val .res, .val (.int (m : Int)), .val (.int (n : Int)), .val (.tup (ni r)), .val (.tup (ni a4)), z5, z6, .val (.bl s7), .val (.tup (ni (endsN r a4))), .no], b6⟩) := by
    simp [eE]
  generalize endsN r a4 = ee at c7
  have c8 : mRng fR1 (mCons (mV 2) (mNil)) (⟨[.val .res, .val (.int (m : Int)), .val (.int (n : Int)), .val (.tup (ni r)), .val (.tup (ni a4)), z5, z6, .val (.bl s7), .val (.tup (ni ee)), .no], b6⟩ : Sta BagT) = some (ni (List.range n), ⟨[.val .res, .val (.int (m : Int)), .val (.int (n : Int)), .val (.tup (ni r)), .val (.tup (ni a4)), z5, z6, .val (.bl s7), .val (.tup (ni ee)), .no], b6⟩) := by
    simp [rgOk_nat (show n ≤ 1000000 by omega), rgL_ni]
  obtain ⟨acc, st9, e9, e, rfl, he9, hb9, hl9⟩ := compL_inv (vs := [9]) (e0 := [.val .res, .val (.int (m : Int)), .val (.int (n : Int)), .val (.tup (ni r)), .val (.tup (ni a4)), z5, z6, .val (.bl s7), .val (.tup (ni ee)), .no]) (tg := tmN 9) (tt := mOr (mBl (mOp2 (fInB false) (mV 9) (mV 8))) (mAnd (mTr (mV 7)) (mBl (mOp2 fEq (mCall F_draw (mCons (mV 0) (mCons (mC (.int 3)) (mNil)))) (mC (.int 0)))))) (te := mD (mV 9))
    (fun i acc (st : Sta BagT) => ∃ e : List Nat, acc = ni e ∧ st.env = [.val .res, .val (.int (m : Int)), .val (.int (n : Int)), .val (.tup (ni r)), .val (.tup (ni a4)), z5, z6, .val (.bl s7), .val (.tup (ni ee)), .no] ∧ Bg st.bag ∧ acc.length ≤ i) (ni (List.range n)) 0 [] ⟨[.val .res, .val (.int (m : Int)), .val (.int (n : Int)), .val (.tup (ni r)), .val (.tup (ni a4)), z5, z6, .val (.bl s7), .val (.tup (ni ee)), .no], b6⟩ ⟨[], rfl, rfl, hb6, Nat.le_refl _⟩ (fun i d acc st hd ⟨e, hacc, he, hbg, hl⟩ => by
      have hi : i < n := by
        have := (List.getElem?_eq_some_iff.mp hd).1
        simpa using this
      rw [ni_get, List.getElem?_range hi] at hd
      cases hd
      obtain ⟨env, bg⟩ := st
      simp only at he hbg
      subst he
      rw [hacc] at hl ⊢
      have hln : (ni e).length < line := by unfold line; omega
      obtain ⟨j8, b8, e8, hj8, hb8⟩ := F_draw_nat bg hbg 3 (by omega) (by omega)
      have e8' : F_draw [.val .res, .val (.int 3)] bg = some (.val (.int (j8 : Int)), b8) := e8
      have hd := dIn_ni i ee
      have fin : ∀ bb : BagT, Bg bb → ∃ e' : List Nat, ni e ++ [.int (i : Int)] = ni e' ∧ [Sl.val .res, .val (.int (m : Int)), .val (.int (n : Int)), .val (.tup (ni r)), .val (.tup (ni a4)), z5, z6, .val (.bl s7), .val (.tup (ni ee)), .no] = [.val .res, .val (.int (m : Int)), .val (.int (n : Int)), .val (.tup (ni r)), .val (.tup (ni a4)), z5, z6, .val (.bl s7), .val (.tup (ni ee)), .no] ∧ Bg bb ∧ (ni e ++ [D.int (i : Int)]).length ≤ 0 + i + 1 := fun bb hbb => ⟨e ++ [i], ni_snoc e i, rfl, hbb, by rw [List.length_append, List.length_singleton]; omega⟩
      by_cases hin : i ∈ ee
      · refine ⟨⟨[.val .res, .val (.int (m : Int)), .val (.int (n : Int)), .val (.tup (ni r)), .val (.tup (ni a4)), z5, z6, .val (.bl s7), .val (.tup (ni ee)), .val (.int (i : Int))], bg⟩, true, ⟨[.val .res, .val (.int (m : Int)), .val (.int (n : Int)), .val (.tup (ni r)), .val (.tup (ni a4)), z5, z6, .val (.bl s7), .val (.tup (ni ee)), .val (.int (i : Int))], bg⟩, rfl, ?_, fun _ => ⟨_, _, rfl, hln, fin bg hbg⟩, (fun h => by cases h)⟩
        simp [hd, hin]
      · cases hs : s7 with
        | false =>
          subst hs
          refine ⟨⟨[.val .res, .val (.int (m : Int)), .val (.int (n : Int)), .val (.tup (ni r)), .val (.tup (ni a4)), z5, z6, .val (.bl false), .val (.tup (ni ee)), .val (.int (i : Int))], bg⟩, false, ⟨[.val .res, .val (.int (m : Int)), .val (.int (n : Int)), .val (.tup (ni r)), .val (.tup (ni a4)), z5, z6, .val (.bl false), .val (.tup (ni ee)), .val (.int (i : Int))], bg⟩, rfl, ?_, (fun h => by cases h), fun _ => ⟨e, rfl, rfl, hbg, by omega⟩⟩
          simp [hd, hin]
        | true =>
          subst hs
          refine ⟨⟨[.val .res, .val (.int (m : Int)), .val (.int (n : Int)), .val (.tup (ni r)), .val (.tup (ni a4)), z5, z6, .val (.bl true), .val (.tup (ni ee)), .val (.int (i : Int))], bg⟩, ((j8 : Int) == 0), ⟨[.val .res, .val (.int (m : Int)), .val (.int (n : Int)), .val (.tup (ni r)), .val (.tup (ni a4)), z5, z6, .val (.bl true), .val (.tup (ni ee)), .val (.int (i : Int))], b8⟩, rfl, ?_, fun _ => ⟨_, _, rfl, hln, fin b8 hb8⟩, fun _ => ⟨e, rfl, rfl, hb8, by omega⟩⟩
          simp [hd, hin, e8'])
  obtain ⟨env, b9⟩ := st9
  simp only at he9 hb9
  subst he9
  refine ⟨n, r, a4, e, b9, ?_, h0, by omega, hr, ha4, hb9⟩
  have c9 : mComp [9] (mRng fR1 (mCons (mV 2) (mNil))) (tmN 9) (mOr (mBl (mOp2 (fInB false) (mV 9) (mV 8))) (mAnd (mTr (mV 7)) (mBl (mOp2 fEq (mCall F_draw (mCons (mV 0) (mCons (mC (.int 3)) (mNil)))) (mC (.int 0)))))) (mD (mV 9)) (⟨[.val .res, .val (.int (m : Int)), .val (.int (n : Int)), .val (.tup (ni r)), .val (.tup (ni a4)), z5, z6, .val (.bl s7), .val (.tup (ni ee)), .no], b6⟩ : Sta BagT) = some (.new (.lst (ni e)), ⟨[.val .res, .val (.int (m : Int)), .val (.int (n : Int)), .val (.tup (ni r)), .val (.tup (ni a4)), z5, z6, .val (.bl s7), .val (.tup (ni ee)), .no], b9⟩) := by
    rw [mComp_ap, c8, Option.bind_some]
    simp only
    rw [if_pos (by rfl), e9]
    rfl
  rw [F_law_board, runF_eq, if_pos (by rfl)]
  show outF (mSeq _ _ (⟨[.val .res, .val (.int (m : Int)), .no, .no, .no, .no, .no, .no, .no, .no], b⟩ : Sta BagT)) = _
  rw [mSeq_ap, c1, Option.bind_some, M.thn_nx, mSeq_ap, c2, Option.bind_some, M.thn_nx, mSeq_ap, mFor_ap, c3, Option.bind_some]
  simp only
  rw [e4, Option.bind_some, M.thn_nx, mSeq_ap, c5, Option.bind_some, M.thn_nx, mSeq_ap, c6, Option.bind_some, M.thn_nx, mSeq_ap, c7, Option.bind_some, M.thn_nx]
  have hl : 3 ≤ line := by decide
  simp [c9, hl, bdD]
end W

namespace W
open PySem L2 M
/-! ### the greatest common divisor -/
theorem gcd_st (a b : Nat) : Nat.gcd a b = Nat.gcd b (a % b) := by
  rw [Nat.gcd_comm a b, Nat.gcd_rec b a, Nat.gcd_comm]
theorem gcd_loop (bag : BagT) : ∀ (m : Nat) (ds : List D) (a b : Nat) (z : Sl), 2 * m + 1 ≤ ds.length → b < 2 ^ m → ∃ st' : Sta BagT, forL (tmN 2) (mSeq (mIf (mBl (mOp2 fEq (mV 1) (mC (.int 0)))) (mRet (mV 0)) (mSkip))
    (mPars [0, 1] (mCons (mH (mV 1)) (mCons (mH (mOp2 fMod (mBi fInt (mCons (mV 0) (mNil))) (mV 1))) (mNil))))) ds ⟨[.val (.int (a : Int)), .val (.int (b : Int)), z], bag⟩ = some (.rt (.val (.int (Nat.gcd a b : Nat))), st') ∧ st'.bag = bag := by
  have stop : ∀ (d : D) (ds : List D) (a : Nat) (z : Sl), ∃ st' : Sta BagT, forL (tmN 2) (mSeq (mIf (mBl (mOp2 fEq (mV 1) (mC (.int 0)))) (mRet (mV 0)) (mSkip))
    (mPars [0, 1] (mCons (mH (mV 1)) (mCons (mH (mOp2 fMod (mBi fInt (mCons (mV 0) (mNil))) (mV 1))) (mNil))))) (d :: ds) ⟨[.val (.int (a : Int)), .val (.int ((0 : Nat) : Int)), z], bag⟩ = some (.rt (.val (.int (Nat.gcd a 0 : Nat))), st') ∧ st'.bag = bag := fun d ds a z => ⟨⟨[.val (.int (a : Int)), .val (.int ((0 : Nat) : Int)), .val d], bag⟩, by rw [forL_cons]; simp, rfl⟩
  have step : ∀ (d : D) (ds : List D) (a b : Nat) (z : Sl), 0 < b → forL (tmN 2) (mSeq (mIf (mBl (mOp2 fEq (mV 1) (mC (.int 0)))) (mRet (mV 0)) (mSkip))
    (mPars [0, 1] (mCons (mH (mV 1)) (mCons (mH (mOp2 fMod (mBi fInt (mCons (mV 0) (mNil))) (mV 1))) (mNil))))) (d :: ds) (⟨[.val (.int (a : Int)), .val (.int (b : Int)), z], bag⟩ : Sta BagT) = forL (tmN 2) (mSeq (mIf (mBl (mOp2 fEq (mV 1) (mC (.int 0)))) (mRet (mV 0)) (mSkip))
    (mPars [0, 1] (mCons (mH (mV 1)) (mCons (mH (mOp2 fMod (mBi fInt (mCons (mV 0) (mNil))) (mV 1))) (mNil))))) ds ⟨[.val (.int (b : Int)), .val (.int ((a % b : Nat) : Int)), .val d], bag⟩ := fun d ds a b z h => by
    rw [forL_cons]
    have h1 : ((b : Int) == 0) = false := by
      rw [beq_eq_false_iff_ne]
      omega
    have h2 : cMod (a : Int) (b : Int) = true := cMod_pos (by omega)
    simp [h1, h2]
  intro m
  induction m with
  | zero =>
    intro ds a b z hl hb
    have h0 : b = 0 := by omega
    subst h0
    cases ds with
    | nil => simp at hl
    | cons d ds => exact stop d ds a z
  | succ m ih =>
    intro ds a b z hl hb
    cases ds with
    | nil => simp at hl
    | cons d ds =>
      cases ds with
      | nil => simp at hl
      | cons d2 ds =>
        by_cases h0 : b = 0
        · subst h0
          exact stop d _ a z
        · rw [step d _ a b z (by omega)]
          have hlt : a % b < b := Nat.mod_lt _ (by omega)
          by_cases h1 : a % b = 0
          · obtain ⟨st', e, hb'⟩ := stop d2 ds b (.val d)
            refine ⟨st', ?_, hb'⟩
            rw [gcd_st a b, h1, e]
          · rw [step d2 ds b (a % b) _ (by omega)]
            have hm : b % (a % b) < 2 ^ m := by
              have e1 : b % (a % b) < a % b := Nat.mod_lt _ (by omega)
              have e2 : b % (a % b) ≤ b - a % b := by
                rw [Nat.mod_eq_sub_mod (by omega)]
                exact Nat.mod_le _ _
              have e3 : 2 ^ (m + 1) = 2 * 2 ^ m := by rw [Nat.pow_succ, Nat.mul_comm]
              omega
            obtain ⟨st', e, hb'⟩ := ih ds (a % b) (b % (a % b)) (.val d2) (by simp only [List.length_cons] at hl; omega) hm
            refine ⟨st', ?_, hb'⟩
            rw [gcd_st a b, gcd_st b (a % b), e]
theorem law_gcd_eq (x y : Int) (h : y.natAbs < 2 ^ 1000) (bag : BagT) : F_law_gcd [.val (.int x), .val (.int y)] bag = some (.val (.int (Nat.gcd x.natAbs y.natAbs : Nat)), bag) := by
  have ha : ∀ i : Int, (if i < 0 then -i else i) = (i.natAbs : Int) := fun i => by split <;> omega
  have c1 : mPars [0, 1] (mCons (mH (mBi fAbs (mCons (mV 0) (mNil)))) (mCons (mH (mBi fAbs (mCons (mV 1) (mNil)))) (mNil))) (⟨[.val (.int x), .val (.int y), .no], bag⟩ : Sta BagT) = some (.nx, ⟨[.val (.int (x.natAbs : Int)), .val (.int (y.natAbs : Int)), .no], bag⟩) := by
    simp [ha]
  have hr : rgOk 4000 = true := rgOk_small (by omega) (by omega)
  have hl : (rgL 0 4000).length = 4000 := by rw [rgL_ni, ni_length, List.length_range]
  have ht : (4000 : Int).toNat = 4000 := rfl
  generalize hq : rgL 0 4000 = q at hl
  have c2 : mRng fR1 (mCons (mC (.int 4000)) (mNil)) (⟨[.val (.int (x.natAbs : Int)), .val (.int (y.natAbs : Int)), .no], bag⟩ : Sta BagT) = some (q, ⟨[.val (.int (x.natAbs : Int)), .val (.int (y.natAbs : Int)), .no], bag⟩) := by
    simp [hr, ht, hq]
  obtain ⟨st', e, hb⟩ := gcd_loop bag 1000 q x.natAbs y.natAbs .no (by omega) h
  rw [F_law_gcd, runF_eq, if_pos (by rfl)]
  show outF (mSeq _ _ (⟨[.val (.int x), .val (.int y), .no], bag⟩ : Sta BagT)) = _
  rw [mSeq_ap, c1, Option.bind_some, M.thn_nx, mSeq_ap, mFor_ap, c2, Option.bind_some]
  simp only
  rw [e, Option.bind_some, M.thn_rt, outF_rt, hb]
/-! ### plain values -/
noncomputable def smallI (i : Int) : Bool := @decide (i.natAbs < 2 ^ 1000) (Classical.propDecidable _)
mutual
/-- no list within, the numbers below a bound -/
noncomputable def okv : D → Bool
  | .int i => smallI i
  | .str x => PyData.strOk x
  | .res => false
  | .lst _ => false
  | .tup ds => okvL ds
  | _ => true
noncomputable def okvL : List D → Bool
  | [] => true
  | d :: ds => okv d && okvL ds
end
mutual
theorem okv_fine : ∀ d : D, okv d = true → fine d = true
  | .int i, _ => rfl
  | .str x, h => h
  | .res, h => by simp [okv] at h
  | .lst _, h => by simp [okv] at h
  | .tup ds, h => by
    simp only [okv] at h
    simp only [fine]
    exact okvL_fine ds h
  | .non, _ => rfl
  | .bl _, _ => rfl
theorem okvL_fine : ∀ ds : List D, okvL ds = true → fineL ds = true
  | [], _ => rfl
  | d :: ds, h => by
    simp only [okvL, Bool.and_eq_true] at h
    simp only [fineL, Bool.and_eq_true]
    exact ⟨okv_fine d h.1, okvL_fine ds h.2⟩
end
theorem okvL_iff : ∀ ds : List D, okvL ds = true ↔ ∀ d ∈ ds, okv d = true
  | [] => by simp [okvL]
  | d :: ds => by simp [okvL, okvL_iff ds]
theorem deepL_mem : ∀ {ds : List D} {d : D}, d ∈ ds → deep d ≤ deepL ds
  | e :: ds, d, h => by
    simp only [deepL]
    rcases List.mem_cons.mp h with rfl | h
    · omega
    · have := deepL_mem h
      omega
def isInt : D → Bool
  | .int _ => true
  | _ => false
def isRow (k : Nat) : D → Bool
  | .tup ds => decide (ds.length = k)
  | _ => false
theorem isInt_elim {d : D} (h : isInt d = true) : ∃ i, d = .int i := by
  cases d <;> simp [isInt] at h
  exact ⟨_, rfl⟩
theorem number_eq (d : D) (h : okv d = true) (b : BagT) : F_is_number [.val d] b = some (.val (.bl (isInt d)), b) := by
  cases d <;> simp [okv] at h <;> simp [F_is_number, fIsi_eq, isInt]
theorem row_eq (d : D) (h : okv d = true) (k : Nat) (b : BagT) : F_is_row [.val d, .val (.int (k : Int))] b = some (.val (.bl (isRow k d)), b) := by
  cases d <;> simp [okv] at h <;> simp [F_is_row, fIsi_eq, isRow]
  rename_i ds
  by_cases h1 : ds.length = k
  · simp [h1]
  · have h2 : ¬ (ds.length : Int) = (k : Int) := by omega
    simp [h1, h2]
theorem isRow_2 {d : D} (h : isRow 2 d = true) : ∃ x y, d = .tup [x, y] := by
  cases d with
  | tup ds =>
    simp only [isRow, decide_eq_true_eq] at h
    match ds, h with
    | [x, y], _ => exact ⟨x, y, rfl⟩
  | _ => simp [isRow] at h
theorem isRow_3 {d : D} (h : isRow 3 d = true) : ∃ x y z, d = .tup [x, y, z] := by
  cases d with
  | tup ds =>
    simp only [isRow, decide_eq_true_eq] at h
    match ds, h with
    | [x, y, z], _ => exact ⟨x, y, z, rfl⟩
  | _ => simp [isRow] at h
/-- a fraction in lowest terms -/
def frB : D → Bool
  | .tup [.int x, .int y] => decide (1 ≤ y) && decide (Nat.gcd x.natAbs y.natAbs = 1)
  | _ => false
def ptB : D → Bool
  | .tup [.int x, .int y] => decide (1 ≤ y) && decide (Nat.gcd x.natAbs y.natAbs = 1) && decide (0 ≤ x) && decide (x < y)
  | _ => false
theorem frB_row {d : D} (h : isRow 2 d = false) : frB d = false := by
  unfold frB
  split
  · simp [isRow] at h
  · rfl
theorem ptB_row {d : D} (h : isRow 2 d = false) : ptB d = false := by
  unfold ptB
  split
  · simp [isRow] at h
  · rfl
theorem frB_x {x y : D} (h : isInt x = false) : frB (.tup [x, y]) = false := by
  cases x <;> first | rfl | simp [isInt] at h
theorem ptB_x {x y : D} (h : isInt x = false) : ptB (.tup [x, y]) = false := by
  cases x <;> first | rfl | simp [isInt] at h
theorem frB_y {x y : D} (h : isInt y = false) : frB (.tup [x, y]) = false := by
  cases x <;> first | rfl | skip
  cases y <;> first | rfl | simp [isInt] at h
theorem ptB_y {x y : D} (h : isInt y = false) : ptB (.tup [x, y]) = false := by
  cases x <;> first | rfl | skip
  cases y <;> first | rfl | simp [isInt] at h
theorem fraction_eq (d : D) (h : okv d = true) (b : BagT) : F_is_fraction [.val d] b = some (.val (.bl (frB d)), b) := by
  have r := row_eq d h 2 b
  have r' : F_is_row [.val d, .val (.int 2)] b = some (.val (.bl (isRow 2 d)), b) := r
  clear r
  cases hr : isRow 2 d with
  | false =>
    rw [hr] at r'
    simp [F_is_fraction, r', frB_row hr]
  | true =>
    rw [hr] at r'
    obtain ⟨x, y, rfl⟩ := isRow_2 hr
    simp only [okv, okvL, Bool.and_eq_true] at h
    have nx := number_eq x h.1 b
    have ny := number_eq y h.2.1 b
    cases hx : isInt x with
    | false =>
      rw [hx] at nx
      simp [F_is_fraction, r', nx, frB_x hx]
    | true =>
      rw [hx] at nx
      cases hy : isInt y with
      | false =>
        rw [hy] at ny
        simp [F_is_fraction, r', nx, ny, frB_y hy]
      | true =>
        rw [hy] at ny
        obtain ⟨i, rfl⟩ := isInt_elim hx
        obtain ⟨j, rfl⟩ := isInt_elim hy
        by_cases hj : j < 1
        · have hj2 : ¬ 1 ≤ j := by omega
          simp [F_is_fraction, r', nx, ny, hj, frB, hj2]
        · have hj2 : 1 ≤ j := by omega
          have e : (((Nat.gcd i.natAbs j.natAbs : Nat) : Int) == 1) = decide (Nat.gcd i.natAbs j.natAbs = 1) := by
            by_cases hg : Nat.gcd i.natAbs j.natAbs = 1
            · simp [hg]
            · have : ¬ ((Nat.gcd i.natAbs j.natAbs : Nat) : Int) = 1 := by omega
              simp [hg, this]
          simp only [frB, decide_eq_true hj2, Bool.true_and]
          rw [← e]
          simp [F_is_fraction, r', nx, ny, hj]
end W

namespace W
open PySem L2 M
/-! ### places -/
/-- the first number is 0 -/
def c0 : D → Bool
  | .tup (.int x :: _) => x == 0
  | _ => false
def placeB (n : Nat) (e : List Nat) : D → Bool
  | .tup [.int s, p, q] => decide (0 ≤ s) && decide (s < n) && ptB p && ptB q && !(c0 p && c0 q && dIn (.int s) (ni e))
  | _ => false
theorem placeB_row {n : Nat} {e : List Nat} {d : D} (h : isRow 3 d = false) : placeB n e d = false := by
  unfold placeB
  split
  · simp [isRow] at h
  · rfl
theorem placeB_x {n : Nat} {e : List Nat} {x p q : D} (h : isInt x = false) : placeB n e (.tup [x, p, q]) = false := by
  cases x <;> first | rfl | simp [isInt] at h
theorem ptB_elim {d : D} (h : ptB d = true) : ∃ x y, d = .tup [.int x, .int y] ∧ 1 ≤ y ∧ 0 ≤ x ∧ x < y ∧ Nat.gcd x.natAbs y.natAbs = 1 := by
  unfold ptB at h
  split at h
  · rename_i x y
    simp only [Bool.and_eq_true, decide_eq_true_eq] at h
    exact ⟨x, y, rfl, h.1.1.1, h.1.2, h.2, h.1.1.2⟩
  · cases h
theorem frB_elim {d : D} (h : frB d = true) : ∃ x y, d = .tup [.int x, .int y] ∧ 1 ≤ y ∧ Nat.gcd x.natAbs y.natAbs = 1 := by
  unfold frB at h
  split at h
  · rename_i x y
    simp only [Bool.and_eq_true, decide_eq_true_eq] at h
    exact ⟨x, y, rfl, h.1, h.2⟩
  · cases h
/-- one turn of the walk over the parts -/
theorem part_turn (p : D) (h : okv p = true) (x1 x2 z : Sl) (b : BagT) : ∃ o, ((tmN 2 p (⟨[x1, x2, z], b⟩ : Sta BagT)).bind (mIf (mOr (mNot (mTr (mCall F_is_fraction (mCons (mV 2) (mNil))))) (mNot (mBl (mChain fLe fLt (mC (.int 0)) (mOp2 fIx (mV 2) (mC (.int 0))) (mOp2 fIx (mV 2) (mC (.int 1))))))) (mRet (mC (.bl false))) (mSkip))) = some (o, ⟨[x1, x2, .val p], b⟩) ∧ o = if ptB p = true then .nx else .rt (.val (.bl false)) := by
  have f := fraction_eq p h b
  cases hf : frB p with
  | false =>
    rw [hf] at f
    have hp : ptB p = false := by
      cases hp : ptB p with
      | false => rfl
      | true =>
        obtain ⟨x, y, rfl, h1, h2, h3, h4⟩ := ptB_elim hp
        simp [frB, h1, h4] at hf
    refine ⟨_, ?_, rfl⟩
    simp [f, hp]
  | true =>
    rw [hf] at f
    obtain ⟨x, y, rfl, h1, h4⟩ := frB_elim hf
    refine ⟨_, ?_, rfl⟩
    by_cases h2 : 0 ≤ x
    · by_cases h3 : x < y
      · simp [f, ptB, h1, h2, h3, h4]
      · simp [f, ptB, h1, h2, h3, h4]
    · simp [f, ptB, h1, h2, h4]
theorem cut1 (x y z : D) : cutD [x, y, z] (some 1) none = [y, z] := cut_from [x, y, z] 1
theorem from_to_eq (d : D) (h : okv d = true) (lo hi : Int) (b : BagT) : F_is_from_to [.val d, .val (.int lo), .val (.int hi)] b = some (.val (.bl (match d with | .int i => decide (lo ≤ i) && decide (i ≤ hi) | _ => false)), b) := by
  have nu := number_eq d h b
  cases d <;> simp [okv] at h <;> simp only [isInt] at nu <;> simp [F_is_from_to, nu]
  rename_i i
  by_cases h1 : lo ≤ i
  · simp [h1]
  · simp [h1]
theorem place_eq {n : Nat} (r a e : List Nat) (hr : r.length = n) (d : D) (h : okv d = true) (b : BagT) : F_is_place [.val (bdD r a e), .val d] b = some (.val (.bl (placeB n e d)), b) := by
  have rw3 : F_is_row [.val d, .val (.int 3)] b = some (.val (.bl (isRow 3 d)), b) := row_eq d h 3 b
  rw [F_is_place, runF_eq, if_pos (by rfl)]
  show outF (mSeq _ _ (⟨[.val (bdD r a e), .val d, .no], b⟩ : Sta BagT)) = _
  cases h3 : isRow 3 d with
  | false =>
    rw [h3] at rw3
    rw [placeB_row h3]
    simp [rw3]
  | true =>
    rw [h3] at rw3
    obtain ⟨x, p, q, rfl⟩ := isRow_3 h3
    simp only [okv, okvL, Bool.and_eq_true] at h
    have ft := from_to_eq x h.1 0 ((n : Int) - 1) b
    cases hx : isInt x with
    | false =>
      have ft' : F_is_from_to [.val x, .val (.int 0), .val (.int ((n : Int) - 1))] b = some (.val (.bl false), b) := by
        rw [ft]
        cases x <;> first | rfl | simp [isInt] at hx
      rw [placeB_x hx]
      simp [rw3, bdD, ft', hr]
    | true =>
      obtain ⟨s, rfl⟩ := isInt_elim hx
      simp only at ft
      by_cases hs : 0 ≤ s ∧ s < n
      · have ft' : F_is_from_to [.val (.int s), .val (.int 0), .val (.int ((n : Int) - 1))] b = some (.val (.bl true), b) := by
          rw [ft]
          have h1 : s ≤ (n : Int) - 1 := by omega
          simp [hs.1, h1]
        have c1 : mIf (mOr (mNot (mTr (mCall F_is_row (mCons (mV 1) (mCons (mC (.int 3)) (mNil)))))) (mNot (mTr (mCall F_is_from_to (mCons (mOp2 fIx (mV 1) (mC (.int 0))) (mCons (mC (.int 0)) (mCons (mOp2 fSub (mBi fLen (mCons (mOp2 fIx (mV 0) (mC (.int 0))) (mNil))) (mC (.int 1))) (mNil)))))))) (mRet (mC (.bl false))) (mSkip) (⟨[.val (bdD r a e), .val (.tup [.int s, p, q]), .no], b⟩ : Sta BagT) = some (.nx, ⟨[.val (bdD r a e), .val (.tup [.int s, p, q]), .no], b⟩) := by
          simp [rw3, bdD, ft', hr]
        have c2 : mIt (mSl fCut (mV 1) (mSo (mC (.int 1))) (mNo)) (⟨[.val (bdD r a e), .val (.tup [.int s, p, q]), .no], b⟩ : Sta BagT) = some ([p, q], ⟨[.val (bdD r a e), .val (.tup [.int s, p, q]), .no], b⟩) := by
          simp [cut1]
        obtain ⟨o1, t1, ho1⟩ := part_turn p h.2.1 (.val (bdD r a e)) (.val (.tup [.int s, p, q])) .no b
        obtain ⟨o2, t2, ho2⟩ := part_turn q h.2.2.1 (.val (bdD r a e)) (.val (.tup [.int s, p, q])) (.val p) b
        rw [mSeq_ap, c1, Option.bind_some, M.thn_nx, mSeq_ap, mFor_ap, c2, Option.bind_some]
        simp only
        rw [forL_cons, t1, Option.bind_some]
        cases hp : ptB p with
        | false =>
          rw [hp] at ho1
          subst ho1
          simp [placeB, hp]
        | true =>
          rw [hp] at ho1
          subst ho1
          rw [if_pos rfl, nxt_nx, forL_cons, t2, Option.bind_some]
          cases hq : ptB q with
          | false =>
            rw [hq] at ho2
            subst ho2
            simp [placeB, hq]
          | true =>
            rw [hq] at ho2
            subst ho2
            rw [if_pos rfl, nxt_nx, forL_nil, Option.bind_some, M.thn_nx]
            obtain ⟨x1, y1, rfl, _⟩ := ptB_elim hp
            obtain ⟨x2, y2, rfl, _⟩ := ptB_elim hq
            have hc : ∀ bb : BagT, F_is_corner [.val (.tup [.int s, .tup [.int x1, .int y1], .tup [.int x2, .int y2]])] bb = some (.val (.bl (x1 == 0 && x2 == 0)), bb) := fun bb => by
              by_cases h1 : x1 = 0
              · simp [F_is_corner, h1]
              · simp [F_is_corner, h1]
            have he : ∀ bb : BagT, F_ends_at [.val (bdD r a e), .val (.int s)] bb = some (.val (.bl (dIn (.int s) (ni e))), bb) := fun bb => by
              simp [F_ends_at, bdD]
            simp only [placeB, hp, hq, decide_eq_true hs.1, decide_eq_true hs.2, c0, Bool.and_true, Bool.true_and]
            generalize hB : bdD r a e = B at *
            cases hcc : (x1 == 0 && x2 == 0) with
            | false => simp [hc, hcc]
            | true => simp [hc, hcc, he]
      · have ft' : F_is_from_to [.val (.int s), .val (.int 0), .val (.int ((n : Int) - 1))] b = some (.val (.bl false), b) := by
          rw [ft]
          by_cases h0 : 0 ≤ s
          · have h1 : ¬ s ≤ (n : Int) - 1 := by omega
            simp [h1]
          · simp [h0]
        have hpl : placeB n e (.tup [.int s, p, q]) = false := by
          by_cases h0 : 0 ≤ s
          · have h1 : ¬ s < (n : Int) := by omega
            simp [placeB, h1]
          · simp [placeB, h0]
        rw [hpl]
        simp [rw3, bdD, ft', hr]
end W

namespace W
open PySem L2 M
theorem fNe_nil : fNe (.lst []) (.lst []) = some (.val (.bl false)) := by
  simp only [fNe, okq_lnil]
  rfl
theorem fNe_cons {z : D} {zs : List D} (h : okvL (z :: zs) = true) (h2 : deepL (z :: zs) ≤ 60) : fNe (.lst (z :: zs)) (.lst []) = some (.val (.bl true)) := by
  have h3 : okq (.lst (z :: zs)) = true := by
    unfold okq
    rw [Bool.and_eq_true]
    refine ⟨by simp only [fine]; exact okvL_fine _ h, decide_eq_true ?_⟩
    simp only [deep]
    omega
  simp only [fNe, h3, okq_lnil]
  rfl
theorem gcd_one (x y : Int) (h : okv (.int y) = true) (b : BagT) : F_law_gcd [.val (.int x), .val (.int y)] b = some (.val (.int ((Nat.gcd x.natAbs y.natAbs : Nat) : Int)), b) := by
  simp only [okv, smallI, decide_eq_true_eq] at h
  exact law_gcd_eq x y h b
theorem law_is_part_eq (d : D) (h : okv d = true) (hd : deep d ≤ 40) (b : BagT) : F_law_is_part [.val d] b = some (.val (.bl (ptB d)), b) := by
  rw [F_law_is_part, runF_eq, if_pos (by rfl)]
  show outF (mSeq _ _ (⟨[.val d, .no], b⟩ : Sta BagT)) = _
  cases hr : isRow 2 d with
  | false =>
    rw [ptB_row hr]
    cases d <;> simp [okv] at h <;> simp [fIsi_eq]
    rename_i ds
    have h1 : ¬ ds.length = 2 := by simpa [isRow] using hr
    have h2 : ¬ (ds.length : Int) = 2 := by omega
    simp [h2, bne]
  | true =>
    obtain ⟨x, y, rfl⟩ := isRow_2 hr
    simp only [okv, okvL, Bool.and_eq_true] at h
    simp only [deep, deepL] at hd
    have c2 := mComp_pure (vs := [1]) (it := mIt (mV 0)) (tg := tmN 1) (tt := mOr (mTr (mOp1 (fIsi "bool") (mV 1))) (mNot (mTr (mOp1 (fIsi "int") (mV 1))))) (te := mD (mV 1)) (st := (⟨[.val (.tup [x, y]), .no], b⟩ : Sta BagT)) (st1 := ⟨[.val (.tup [x, y]), .no], b⟩) (ds := [x, y]) (fun d => !isInt d) id (by simp) rfl (by unfold line; simp) (fun d hd => by
      have hok : okv d = true := by
        rcases List.mem_cons.mp hd with rfl | hd
        · exact h.1
        · rw [List.mem_singleton.mp hd]; exact h.2.1
      refine ⟨⟨[.val (.tup [x, y]), .val d], b⟩, ⟨[.val (.tup [x, y]), .val d], b⟩, rfl, ?_, fun _ => ⟨⟨[.val (.tup [x, y]), .val d], b⟩, rfl, rfl, rfl⟩, fun _ => ⟨rfl, rfl⟩⟩
      cases d <;> simp [okv] at hok <;> simp [fIsi_eq, isInt])
    cases hx : isInt x with
    | false =>
      rw [ptB_x hx]
      cases hy : isInt y with
      | false =>
        have e : List.map id ([x, y].filter fun d => !isInt d) = [x, y] := by simp [hx, hy]
        rw [e] at c2
        have ne := fNe_cons (z := x) (zs := [y]) (by simp [okvL, h.1, h.2.1]) (by simp only [deepL]; omega)
        simp [fIsi_eq, c2, ne]
      | true =>
        have e : List.map id ([x, y].filter fun d => !isInt d) = [x] := by simp [hx, hy]
        rw [e] at c2
        have ne := fNe_cons (z := x) (zs := []) (by simp [okvL, h.1]) (by simp only [deepL]; omega)
        simp [fIsi_eq, c2, ne]
    | true =>
      cases hy : isInt y with
      | false =>
        rw [ptB_y hy]
        have e : List.map id ([x, y].filter fun d => !isInt d) = [y] := by simp [hx, hy]
        rw [e] at c2
        have ne := fNe_cons (z := y) (zs := []) (by simp [okvL, h.2.1]) (by simp only [deepL]; omega)
        simp [fIsi_eq, c2, ne]
      | true =>
        have e : List.map id ([x, y].filter fun d => !isInt d) = [] := by simp [hx, hy]
        rw [e] at c2
        obtain ⟨i, rfl⟩ := isInt_elim hx
        obtain ⟨j, rfl⟩ := isInt_elim hy
        have g := gcd_one i j h.2.1 b
        have e : (((Nat.gcd i.natAbs j.natAbs : Nat) : Int) == 1) = decide (Nat.gcd i.natAbs j.natAbs = 1) := by
          by_cases hg : Nat.gcd i.natAbs j.natAbs = 1
          · simp [hg]
          · have : ¬ ((Nat.gcd i.natAbs j.natAbs : Nat) : Int) = 1 := by omega
            simp [hg, this]
        by_cases h1 : 1 ≤ j
        · by_cases h2 : 0 ≤ i
          · by_cases h3 : i < j
            · simp [fIsi_eq, c2, fNe_nil, g, ptB, h1, h2, h3, e]
            · simp [fIsi_eq, c2, fNe_nil, g, ptB, h1, h2, h3]
          · simp [fIsi_eq, c2, fNe_nil, g, ptB, h1, h2]
        · simp [fIsi_eq, c2, fNe_nil, g, ptB, h1]
theorem law_is_place_eq {n : Nat} (r a e : List Nat) (hr : r.length = n) (d : D) (h : okv d = true) (hd : deep d ≤ 40) (b : BagT) : F_law_is_place [.val (bdD r a e), .val d] b = some (.val (.bl (placeB n e d)), b) := by
  rw [F_law_is_place, runF_eq, if_pos (by rfl)]
  show outF (mSeq _ _ (⟨[.val (bdD r a e), .val d], b⟩ : Sta BagT)) = _
  cases h3 : isRow 3 d with
  | false =>
    rw [placeB_row h3]
    cases d <;> simp [okv] at h <;> simp [fIsi_eq]
    rename_i ds
    have h1 : ¬ ds.length = 3 := by simpa [isRow] using h3
    have h2 : ¬ (ds.length : Int) = 3 := by omega
    simp [h2, bne]
  | true =>
    obtain ⟨x, p, q, rfl⟩ := isRow_3 h3
    simp only [okv, okvL, Bool.and_eq_true] at h
    simp only [deep, deepL] at hd
    cases hx : isInt x with
    | false =>
      rw [placeB_x hx]
      have hxo := h.1
      clear h hd
      cases x <;> simp [okv] at hxo <;> simp [isInt] at hx <;> simp [fIsi_eq, bdD]
    | true =>
      obtain ⟨s, rfl⟩ := isInt_elim hx
      have t1 := law_is_part_eq p h.2.1 (by omega) b
      have t2 := law_is_part_eq q h.2.2.1 (by omega) b
      by_cases h0 : s < 0
      · have h1 : ¬ 0 ≤ s := by omega
        simp [fIsi_eq, bdD, h0, placeB, h1]
      · by_cases h1 : (n : Int) ≤ s
        · have h2 : ¬ s < (n : Int) := by omega
          simp [fIsi_eq, bdD, h0, placeB, h1, h2, hr]
        · have h2 : s < (n : Int) := by omega
          have hs0 : 0 ≤ s := by omega
          cases hp : ptB p with
          | false =>
            rw [hp] at t1
            simp [fIsi_eq, bdD, h0, placeB, h1, hr, t1, hp]
          | true =>
            rw [hp] at t1
            cases hq : ptB q with
            | false =>
              rw [hq] at t2
              simp [fIsi_eq, bdD, h0, placeB, h1, hr, t1, t2, hp, hq]
            | true =>
              rw [hq] at t2
              obtain ⟨x1, y1, rfl, _⟩ := ptB_elim hp
              obtain ⟨x2, y2, rfl, _⟩ := ptB_elim hq
              by_cases e1 : x1 = 0
              · subst e1
                by_cases e2 : x2 = 0
                · subst e2
                  simp [fIsi_eq, bdD, h0, placeB, h1, h2, hs0, hr, t1, t2, hp, hq, c0]
                · simp [fIsi_eq, bdD, h0, placeB, h1, h2, hs0, hr, t1, t2, hp, hq, e2, c0]
              · simp [fIsi_eq, bdD, h0, placeB, h1, h2, hs0, hr, t1, t2, hp, hq, e1, c0]
theorem law_same_bl (k : Nat) (x : Bool) (b : BagT) : F_law_same (k + 1) [.val (.bl x), .val (.bl x)] b = some (.val (.bl true), b) := by
  rw [F_law_same]
  generalize F_law_same k = g
  simp [fIsi_eq, isNon]
/-! ### picks -/
theorem law_pick_eq (x : Sl) (ds : List D) (hx : x = .val (.lst ds) ∨ x = .lock (.lst ds) ∨ x = .val (.tup ds)) (h0 : 0 < ds.length) (hl : ds.length ≤ 1000000) (b : BagT) (hb : Bg b) : ∃ d b', F_law_pick [.val .res, x] b = some (.val d, b') ∧ d ∈ ds ∧ Bg b' := by
  obtain ⟨j, b', e, hj, hb'⟩ := F_draw_nat b hb ds.length h0 (by omega)
  have hg : ds[j]? = some ds[j] := List.getElem?_eq_getElem hj
  refine ⟨ds[j], b', ?_, List.getElem_mem hj, hb'⟩
  rcases hx with rfl | rfl | rfl <;> simp [F_law_pick, e, hg]
end W

namespace W
open PySem L2 M
@[simp] theorem small_of (i : Int) (h : i.natAbs < 10000000000000000000000000000000) : smallI i = true := by
  simp only [smallI, decide_eq_true_eq]
  exact Nat.lt_of_lt_of_le h (Nat.le_of_ble_eq_true rfl)
@[simp] theorem fAdd_ll (xs ys : List D) : fAdd (.lst xs) (.lst ys) = if xs.length + ys.length ≤ line then some (.new (.lst (xs ++ ys))) else none := rfl
@[simp] theorem fAdd_tt (xs ys : List D) : fAdd (.tup xs) (.tup ys) = if xs.length + ys.length ≤ line then some (.val (.tup (xs ++ ys))) else none := rfl
theorem okvL_append (xs ys : List D) : okvL (xs ++ ys) = (okvL xs && okvL ys) := by
  induction xs with
  | nil => simp [okvL]
  | cons x xs ih => simp [okvL, ih, Bool.and_assoc]
theorem deepL_append (xs ys : List D) : deepL (xs ++ ys) = max (deepL xs) (deepL ys) := by
  induction xs with
  | nil => simp [deepL]
  | cons x xs ih => simp [deepL, ih, Nat.max_assoc]
/-- a list of plain values -/
def Vs (k : Nat) (ds : List D) : Prop := okvL ds = true ∧ deepL ds ≤ k
theorem Vs.mem {k : Nat} {ds : List D} (h : Vs k ds) {d : D} (hd : d ∈ ds) : okv d = true ∧ deep d ≤ k := ⟨(okvL_iff ds).mp h.1 d hd, Nat.le_trans (deepL_mem hd) h.2⟩
theorem Vs.append {k : Nat} {xs ys : List D} (h : Vs k xs) (h2 : Vs k ys) : Vs k (xs ++ ys) := by
  refine ⟨by rw [okvL_append, h.1, h2.1]; rfl, ?_⟩
  rw [deepL_append]
  exact Nat.max_le.mpr ⟨h.2, h2.2⟩
theorem law_fr_eq (a : Nat) (ha : a < 1000) (b : BagT) : ∃ x y : Int, F_law_fr [.val (.int (a : Int)), .val (.int 60)] b = some (.val (.tup [.int x, .int y]), b) ∧ smallI x = true ∧ smallI y = true := by
  have g : F_law_gcd [.val (.int (a : Int)), .val (.int 60)] b = _ := law_gcd_eq (a : Int) 60 (Nat.lt_of_lt_of_le (show (60 : Int).natAbs < 64 by decide) (Nat.le_of_ble_eq_true rfl)) b
  have hg1 : 0 < Nat.gcd (a : Int).natAbs (60 : Int).natAbs := Nat.gcd_pos_of_pos_right _ (by decide)
  have hg2 : Nat.gcd (a : Int).natAbs (60 : Int).natAbs ≤ 60 := Nat.le_of_dvd (by decide) (Nat.gcd_dvd_right _ _)
  generalize Nat.gcd (a : Int).natAbs (60 : Int).natAbs = gg at g hg1 hg2
  have hn : ¬ ((gg : Int) = 0) := by omega
  have hn' : ¬ gg = 0 := by omega
  have hd1 : cDiv (a : Int) (gg : Int) = true := cDiv_pos (by omega) (by omega)
  have hd2 : cDiv 60 (gg : Int) = true := cDiv_pos (by omega) (by omega)
  have q1 : (a : Int) / (gg : Int) ≤ (a : Int) := Int.ediv_le_self _ (by omega)
  have q2 : (60 : Int) / (gg : Int) ≤ 60 := Int.ediv_le_self _ (by omega)
  have q3 : 0 ≤ (a : Int) / (gg : Int) := Int.ediv_nonneg (by omega) (by omega)
  have q4 : 0 ≤ (60 : Int) / (gg : Int) := Int.ediv_nonneg (by omega) (by omega)
  have hl : 2 ≤ line := by decide
  refine ⟨(a : Int) / (gg : Int), 60 / (gg : Int), ?_, small_of _ (by omega), small_of _ (by omega)⟩
  simp [F_law_fr, g, bne, hn, hn', hd1, hd2, hl]
theorem pow30 : fPow (.int 10) (.int 30) = some (.val (.int 1000000000000000000000000000000)) := by rfl
def bad1 : List D := [.tup [.int 1, .int 1], .tup [.int (-1), .int 2], .tup [.int 2, .int 4], .tup [.int 0, .int 2], .tup [.int 3, .int 2], .tup [.int 1, .int 0], .tup [.int 0, .int (-1)], .tup [.int 1, .int (-2)], .tup [.bl true, .int 2], .tup [.int 1, .bl true], .tup [.bl false, .int 1]]
def bad2 (N : Int) : List D := [.tup [.int 3, .int 6], .tup [.int 6, .int 9], .tup [.int (2 * N), .int (2 * N + 2)], .tup [.int 0, .int 5], .int 0, .non, .str "1", .tup [.int 1], .tup [.int 1, .int 2, .int 3], .tup [.int (N + 1), .int N], .tup [.tup [.int 1, .int 2], .int 1], .tup []]
theorem law_parts_eq (b : BagT) (hb : Bg b) : ∃ ds b', F_law_parts [.val .res] b = some (.val (.lst ds), b') ∧ Vs 5 ds ∧ 0 < ds.length ∧ ds.length ≤ 1000 ∧ Bg b' := by
  obtain ⟨j, b1, e1, hj, hb1⟩ := F_draw_nat b hb 9 (by omega) (by omega)
  obtain ⟨k, b2, e2, hk, hb2⟩ := F_draw_nat b1 hb1 60 (by omega) (by omega)
  obtain ⟨x, y, e3, hx, hy⟩ := law_fr_eq k (by omega) b2
  obtain ⟨N, hN⟩ : ∃ N : Int, N = 1000000000000000000000000000000 + (j : Int) := ⟨_, rfl⟩
  have e1' : F_draw [.val .res, .val (.int 9)] b = some (.val (.int (j : Int)), b1) := e1
  have e2' : F_draw [.val .res, .val (.int 60)] b1 = some (.val (.int (k : Int)), b2) := e2
  have c1 : mSet 1 (mOp2 fAdd (mOp2 fPow (mC (.int 10)) (mC (.int 30))) (mCall F_draw (mCons (mV 0) (mCons (mC (.int 9)) (mNil))))) (⟨[.val .res, .no, .no, .no], b⟩ : Sta BagT) = some (.nx, ⟨[.val .res, .val (.int N), .no, .no], b1⟩) := by
    simp [pow30, e1', hN]
  have hN1 : smallI N = true := small_of _ (by omega)
  have hN2 : smallI (N + 1) = true := small_of _ (by omega)
  have hN3 : smallI (2 * N) = true := small_of _ (by omega)
  have hN4 : smallI (2 * N + 2) = true := small_of _ (by omega)
  have hm : cMul 2 N = true := cMul_l (by decide)
  clear hN
  have hl : ∀ k, k ≤ 30 → k ≤ line := fun k h => by unfold line; omega
  obtain ⟨good, c2, hgood, hg1, hg2⟩ : ∃ good, mSet 2 (mLst (mCons (mD (mTup (mCons (mD (mC (.int 0))) (mCons (mD (mC (.int 1))) (mNil))))) (mCons (mD (mTup (mCons (mD (mC (.int 1))) (mCons (mD (mC (.int 2))) (mNil))))) (mCons (mD (mTup (mCons (mD (mC (.int 2))) (mCons (mD (mC (.int 3))) (mNil))))) (mCons (mD (mCall F_law_fr (mCons (mCall F_draw (mCons (mV 0) (mCons (mC (.int 60)) (mNil)))) (mCons (mC (.int 60)) (mNil))))) (mCons (mD (mTup (mCons (mD (mV 1)) (mCons (mD (mOp2 fAdd (mV 1) (mC (.int 1)))) (mNil))))) (mCons (mD (mTup (mCons (mD (mC (.int 998))) (mCons (mD (mC (.int 999))) (mNil))))) (mNil)))))))) (⟨[.val .res, .val (.int N), .no, .no], b1⟩ : Sta BagT) = some (.nx, ⟨[.val .res, .val (.int N), .own (.lst good), .no], b2⟩) ∧ Vs 5 good ∧ 0 < good.length ∧ good.length ≤ 1000 := by
    refine ⟨[.tup [.int 0, .int 1], .tup [.int 1, .int 2], .tup [.int 2, .int 3], .tup [.int x, .int y], .tup [.int N, .int (N + 1)], .tup [.int 998, .int 999]], ?_, ⟨?_, ?_⟩, by simp, by simp⟩
    · simp [hl, e2', e3]
    · simp [okvL, okv, hx, hy, hN1, hN2]
    · simp [deepL, deep]
  have c3 : mSet 3 (mLst (mCons (mD (mTup (mCons (mD (mC (.int 1))) (mCons (mD (mC (.int 1))) (mNil))))) (mCons (mD (mTup (mCons (mD (mOp1 fNeg (mC (.int 1)))) (mCons (mD (mC (.int 2))) (mNil))))) (mCons (mD (mTup (mCons (mD (mC (.int 2))) (mCons (mD (mC (.int 4))) (mNil))))) (mCons (mD (mTup (mCons (mD (mC (.int 0))) (mCons (mD (mC (.int 2))) (mNil))))) (mCons (mD (mTup (mCons (mD (mC (.int 3))) (mCons (mD (mC (.int 2))) (mNil))))) (mCons (mD (mTup (mCons (mD (mC (.int 1))) (mCons (mD (mC (.int 0))) (mNil))))) (mCons (mD (mTup (mCons (mD (mC (.int 0))) (mCons (mD (mOp1 fNeg (mC (.int 1)))) (mNil))))) (mCons (mD (mTup (mCons (mD (mC (.int 1))) (mCons (mD (mOp1 fNeg (mC (.int 2)))) (mNil))))) (mCons (mD (mTup (mCons (mD (mC (.bl true))) (mCons (mD (mC (.int 2))) (mNil))))) (mCons (mD (mTup (mCons (mD (mC (.int 1))) (mCons (mD (mC (.bl true))) (mNil))))) (mCons (mD (mTup (mCons (mD (mC (.bl false))) (mCons (mD (mC (.int 1))) (mNil))))) (mNil))))))))))))) (⟨[.val .res, .val (.int N), .own (.lst good), .no], b2⟩ : Sta BagT) = some (.nx, ⟨[.val .res, .val (.int N), .own (.lst good), .own (.lst bad1)], b2⟩) := by
    simp [hl, bad1]
  have c4 : mSet 3 (mOp2 fAdd (mV 3) (mLst (mCons (mD (mTup (mCons (mD (mC (.int 3))) (mCons (mD (mC (.int 6))) (mNil))))) (mCons (mD (mTup (mCons (mD (mC (.int 6))) (mCons (mD (mC (.int 9))) (mNil))))) (mCons (mD (mTup (mCons (mD (mOp2 fMul (mC (.int 2)) (mV 1))) (mCons (mD (mOp2 fAdd (mOp2 fMul (mC (.int 2)) (mV 1)) (mC (.int 2)))) (mNil))))) (mCons (mD (mTup (mCons (mD (mC (.int 0))) (mCons (mD (mC (.int 5))) (mNil))))) (mCons (mD (mC (.int 0))) (mCons (mD (mC .non)) (mCons (mD (mC (.str "1"))) (mCons (mD (mTup (mCons (mD (mC (.int 1))) (mNil)))) (mCons (mD (mTup (mCons (mD (mC (.int 1))) (mCons (mD (mC (.int 2))) (mCons (mD (mC (.int 3))) (mNil)))))) (mCons (mD (mTup (mCons (mD (mOp2 fAdd (mV 1) (mC (.int 1)))) (mCons (mD (mV 1)) (mNil))))) (mCons (mD (mTup (mCons (mD (mTup (mCons (mD (mC (.int 1))) (mCons (mD (mC (.int 2))) (mNil))))) (mCons (mD (mC (.int 1))) (mNil))))) (mCons (mD (mTup (mNil))) (mNil))))))))))))))) (⟨[.val .res, .val (.int N), .own (.lst good), .own (.lst bad1)], b2⟩ : Sta BagT) = some (.nx, ⟨[.val .res, .val (.int N), .own (.lst good), .own (.lst (bad1 ++ bad2 N))], b2⟩) := by
    have hlen : bad1.length + 12 ≤ line := hl _ (by decide)
    simp [hl, bad2, hm, hlen]
  have hbad : Vs 5 (bad1 ++ bad2 N) := by
    refine Vs.append ⟨?_, ?_⟩ ⟨?_, ?_⟩
    · simp [bad1, okvL, okv]
    · simp [bad1, deepL, deep]
    · have hs : PyData.strOk "1" = true := by decide +kernel
      simp [bad2, okvL, okv, hN1, hN2, hN3, hN4, hs]
    · simp [bad2, deepL, deep]
  have hbl : (bad1 ++ bad2 N).length = 23 := rfl
  generalize bad1 ++ bad2 N = bad at c4 hbad hbl
  obtain ⟨d, b', e5, hd, hb'⟩ := law_pick_eq (.lock (.lst [.lst good, .lst good, .lst bad])) _ (.inr (.inl rfl)) (by simp) (by simp) b2 hb2
  have c5 : ∃ ds, d = .lst ds ∧ Vs 5 ds ∧ 0 < ds.length ∧ ds.length ≤ 1000 := by
    simp only [List.mem_cons, List.mem_nil_iff, or_false] at hd
    rcases hd with rfl | rfl | rfl
    · exact ⟨_, rfl, hgood, hg1, hg2⟩
    · exact ⟨_, rfl, hgood, hg1, hg2⟩
    · exact ⟨_, rfl, hbad, by omega, by omega⟩
  obtain ⟨ds, rfl, hv, h0, h1⟩ := c5
  refine ⟨ds, b', ?_, hv, h0, h1, hb'⟩
  rw [F_law_parts, runF_eq, if_pos (by rfl)]
  show outF (mSeq _ _ (⟨[.val .res, .no, .no, .no], b⟩ : Sta BagT)) = _
  rw [mSeq_ap, c1, Option.bind_some, M.thn_nx, mSeq_ap, c2, Option.bind_some, M.thn_nx, mSeq_ap, c3, Option.bind_some, M.thn_nx, mSeq_ap, c4, Option.bind_some, M.thn_nx]
  simp [e5, hl]
end W

namespace W
open PySem L2 M
theorem le_line {k : Nat} (h : k ≤ 100000) : k ≤ line := by unfold line; omega
theorem str0_ok : PyData.strOk "0" = true := by decide +kernel
theorem strE_ok : PyData.strOk "" = true := by decide +kernel
theorem law_values_eq {n : Nat} (r a e : List Nat) (hr : r.length = n) (h0 : 0 < n) (hn : n ≤ 1000) (b : BagT) (hb : Bg b) : ∃ ds b', F_law_values [.val .res, .val (bdD r a e)] b = some (.new (.lst ds), b') ∧ Vs 20 ds ∧ Bg b' := by
  have hl : ∀ k, k ≤ 30 → k ≤ line := fun k h => by unfold line; omega
  have c1 : mPars [2, 3] (mCons (mH (mBi fLen (mCons (mOp2 fIx (mV 1) (mC (.int 0))) (mNil)))) (mCons (mH (mLst (mNil))) (mNil))) (⟨[.val .res, .val (bdD r a e), .no, .no, .no, .no, .no], b⟩ : Sta BagT) = some (.nx, ⟨[.val .res, .val (bdD r a e), .val (.int (n : Int)), .own (.lst []), .no, .no, .no], b⟩) := by
    simp [bdD, hl, hr]
  have c2 : mRng fR1 (mCons (mV 2) (mNil)) (⟨[.val .res, .val (bdD r a e), .val (.int (n : Int)), .own (.lst []), .no, .no, .no], b⟩ : Sta BagT) = some (ni (List.range n), ⟨[.val .res, .val (bdD r a e), .val (.int (n : Int)), .own (.lst []), .no, .no, .no], b⟩) := by
    simp [rgOk_nat (show n ≤ 1000000 by omega), rgL_ni]
  generalize bdD r a e = B at *
  obtain ⟨st3, e3, o3, z4, he3, hv3, hl3, hb3⟩ := forL_inv (tg := tmN 4) (body := mSet 3 (mOp2 fAdd (mV 3) (mLst (mCons (mD (mTup (mCons (mD (mV 4)) (mCons (mD (mTup (mCons (mD (mC (.int 0))) (mCons (mD (mC (.int 1))) (mNil))))) (mCons (mD (mTup (mCons (mD (mC (.int 0))) (mCons (mD (mC (.int 1))) (mNil))))) (mNil)))))) (mCons (mD (mTup (mCons (mD (mV 4)) (mCons (mD (mTup (mCons (mD (mC (.int 1))) (mCons (mD (mC (.int 2))) (mNil))))) (mCons (mD (mTup (mCons (mD (mC (.int 0))) (mCons (mD (mC (.int 1))) (mNil))))) (mNil)))))) (mCons (mD (mTup (mCons (mD (mV 4)) (mCons (mD (mTup (mCons (mD (mC (.int 0))) (mCons (mD (mC (.int 1))) (mNil))))) (mCons (mD (mTup (mCons (mD (mC (.int 1))) (mCons (mD (mC (.int 3))) (mNil))))) (mNil)))))) (mNil)))))))
    (fun i (st : Sta BagT) => ∃ out z, st.env = [.val .res, .val B, .val (.int (n : Int)), .own (.lst out), z, .no, .no] ∧ Vs 20 out ∧ out.length ≤ 3 * i ∧ st.bag = b) (ni (List.range n)) 0 ⟨[.val .res, .val B, .val (.int (n : Int)), .own (.lst []), .no, .no, .no], b⟩ ⟨[], .no, rfl, ⟨rfl, by simp [deepL]⟩, by simp, rfl⟩ (fun i d st hd ⟨out, z, he, hv, hlen, hbg⟩ => by
      have hi : i < n := by
        have := (List.getElem?_eq_some_iff.mp hd).1
        simpa using this
      rw [ni_get, List.getElem?_range hi] at hd
      cases hd
      obtain ⟨env, bg⟩ := st
      simp only at he hbg
      subst he hbg
      have hs : smallI (i : Int) = true := small_of _ (by omega)
      refine ⟨⟨[.val .res, .val B, .val (.int (n : Int)), .own (.lst out), .val (.int (i : Int)), .no, .no], bg⟩, .nx, ⟨[.val .res, .val B, .val (.int (n : Int)), .own (.lst (out ++ [.tup [.int (i : Int), .tup [.int 0, .int 1], .tup [.int 0, .int 1]], .tup [.int (i : Int), .tup [.int 1, .int 2], .tup [.int 0, .int 1]], .tup [.int (i : Int), .tup [.int 0, .int 1], .tup [.int 1, .int 3]]])), .val (.int (i : Int)), .no, .no], bg⟩, rfl, ?_, .inl rfl, _, _, rfl, Vs.append hv ⟨?_, ?_⟩, ?_, rfl⟩
      · have hle : out.length + 3 ≤ line := le_line (by omega)
        simp [hl, hle]
      · simp [okvL, okv, hs]
      · simp [deepL, deep]
      · rw [List.length_append]
        simp only [List.length_cons, List.length_nil]
        omega)
  rw [Nat.zero_add, ni_length, List.length_range] at hl3
  obtain ⟨env, bg⟩ := st3
  simp only at he3 hb3
  subst he3 hb3
  have c4 : mRng fR1 (mCons (mC (.int 10)) (mNil)) (⟨[.val .res, .val B, .val (.int (n : Int)), .own (.lst o3), z4, .no, .no], bg⟩ : Sta BagT) = some (ni (List.range 10), ⟨[.val .res, .val B, .val (.int (n : Int)), .own (.lst o3), z4, .no, .no], bg⟩) := by
    have h1 : rgOk 10 = true := rgOk_small (by omega) (by omega)
    have h2 : (10 : Int).toNat = 10 := rfl
    rw [← rgL_ni]
    generalize hq : rgL 0 10 = q
    simp [h1, h2, hq]
  obtain ⟨st5, e5, o5, z4', z5, he5, hv5, hl5, hb5⟩ := forL_inv (tg := tmN 5) (body := mSeq (mSet 4 (mCall F_law_pick (mCons (mV 0) (mCons (mLst (mCons (mD (mCall F_draw (mCons (mV 0) (mCons (mV 2) (mNil))))) (mCons (mD (mCall F_draw (mCons (mV 0) (mCons (mV 2) (mNil))))) (mCons (mD (mV 2)) (mCons (mD (mOp1 fNeg (mC (.int 1)))) (mCons (mD (mC (.bl true))) (mCons (mD (mC .non)) (mCons (mD (mC (.str "0"))) (mCons (mD (mTup (mCons (mD (mC (.int 0))) (mNil)))) (mNil)))))))))) (mNil)))))
    (mEx (mOwn 3 fAppend (mCons (mD (mTup (mCons (mD (mV 4)) (mCons (mD (mCall F_law_pick (mCons (mV 0) (mCons (mCall F_law_parts (mCons (mV 0) (mNil))) (mNil))))) (mCons (mD (mCall F_law_pick (mCons (mV 0) (mCons (mCall F_law_parts (mCons (mV 0) (mNil))) (mNil))))) (mNil)))))) (mNil)))))
    (fun i (st : Sta BagT) => ∃ out z z', st.env = [.val .res, .val B, .val (.int (n : Int)), .own (.lst out), z, z', .no] ∧ Vs 20 out ∧ out.length ≤ 3 * n + i ∧ Bg st.bag) (ni (List.range 10)) 0 ⟨[.val .res, .val B, .val (.int (n : Int)), .own (.lst o3), z4, .no, .no], bg⟩ ⟨o3, z4, .no, rfl, hv3, by omega, hb⟩ (fun i d st hd ⟨out, z, z', he, hv, hlen, hbg⟩ => by
      have hi : i < 10 := by
        have := (List.getElem?_eq_some_iff.mp hd).1
        simpa using this
      clear hd c1 c2 c4 e3
      obtain ⟨env, bg⟩ := st
      simp only at he hbg
      subst he
      obtain ⟨j1, b1, d1, hj1, hb1⟩ := F_draw_nat bg hbg n h0 (by omega)
      obtain ⟨j2, b2, d2, hj2, hb2⟩ := F_draw_nat b1 hb1 n h0 (by omega)
      obtain ⟨L, hL⟩ : ∃ L : List D, L = [.int (j1 : Int), .int (j2 : Int), .int (n : Int), .int (-1), .bl true, .non, .str "0", .tup [.int 0]] := ⟨_, rfl⟩
      have hLv : Vs 5 L := by
        have s1 : smallI (j1 : Int) = true := small_of _ (by omega)
        have s2 : smallI (j2 : Int) = true := small_of _ (by omega)
        have s3 : smallI (n : Int) = true := small_of _ (by omega)
        rw [hL]
        exact ⟨by simp [okvL, okv, s1, s2, s3, str0_ok], by simp [deepL, deep]⟩
      obtain ⟨sq, b3, d3, hsq, hb3⟩ := law_pick_eq (.lock (.lst L)) L (.inr (.inl rfl)) (by rw [hL]; simp) (by rw [hL]; simp) b2 hb2
      obtain ⟨P1, b4, d4, hP1, hP1a, hP1b, hb4⟩ := law_parts_eq b3 hb3
      obtain ⟨p1, b5, d5, hp1, hb5⟩ := law_pick_eq (.val (.lst P1)) P1 (.inl rfl) hP1a (by omega) b4 hb4
      obtain ⟨P2, b6, d6, hP2, hP2a, hP2b, hb6⟩ := law_parts_eq b5 hb5
      obtain ⟨p2, b7, d7, hp2, hb7⟩ := law_pick_eq (.val (.lst P2)) P2 (.inl rfl) hP2a (by omega) b6 hb6
      have m1 := hLv.mem hsq
      have m2 := hP1.mem hp1
      have m3 := hP2.mem hp2
      refine ⟨⟨[.val .res, .val B, .val (.int (n : Int)), .own (.lst out), z, .val d, .no], bg⟩, .nx, ⟨[.val .res, .val B, .val (.int (n : Int)), .own (.lst (out ++ [.tup [sq, p1, p2]])), .val sq, .val d, .no], b7⟩, rfl, ?_, .inl rfl, _, _, _, rfl, Vs.append hv ⟨?_, ?_⟩, ?_, hb7⟩
      · have hle : out.length < line := le_line (by omega)
        have e4 : mSet 4 (mCall F_law_pick (mCons (mV 0) (mCons (mLst (mCons (mD (mCall F_draw (mCons (mV 0) (mCons (mV 2) (mNil))))) (mCons (mD (mCall F_draw (mCons (mV 0) (mCons (mV 2) (mNil))))) (mCons (mD (mV 2)) (mCons (mD (mOp1 fNeg (mC (.int 1)))) (mCons (mD (mC (.bl true))) (mCons (mD (mC .non)) (mCons (mD (mC (.str "0"))) (mCons (mD (mTup (mCons (mD (mC (.int 0))) (mNil)))) (mNil)))))))))) (mNil)))) (⟨[.val .res, .val B, .val (.int (n : Int)), .own (.lst out), z, .val d, .no], bg⟩ : Sta BagT) = some (.nx, ⟨[.val .res, .val B, .val (.int (n : Int)), .own (.lst out), .val sq, .val d, .no], b3⟩) := by
          rw [hL] at d3
          simp [d1, d2, d3, hl]
        rw [mSeq_ap, e4, Option.bind_some, M.thn_nx]
        simp [d4, d5, d6, d7, hl, hle]
      · simp [okvL, okv, m1.1, m2.1, m3.1]
      · simp only [deepL, deep]
        omega
      · rw [List.length_append]
        simp only [List.length_cons, List.length_nil]
        omega)
  rw [Nat.zero_add, ni_length, List.length_range] at hl5
  obtain ⟨env, bg2⟩ := st5
  simp only at he5 hb5
  subst he5
  have key : mSeq (mSet 6 (mTup (mCons (mD (mC (.int 1))) (mCons (mD (mC (.int 2))) (mNil)))))
    (mSeq (mSet 3 (mOp2 fAdd (mV 3) (mLst (mCons (mD (mC .non)) (mCons (mD (mC (.int 0))) (mCons (mD (mC (.bl true))) (mCons (mD (mC (.str ""))) (mCons (mD (mTup (mNil))) (mCons (mD (mTup (mCons (mD (mC (.int 0))) (mNil)))) (mCons (mD (mTup (mCons (mD (mC (.int 0))) (mCons (mD (mV 6)) (mNil))))) (mCons (mD (mTup (mCons (mD (mC (.int 0))) (mCons (mD (mV 6)) (mCons (mD (mV 6)) (mCons (mD (mV 6)) (mNil))))))) (mCons (mD (mTup (mCons (mD (mV 6)) (mCons (mD (mV 6)) (mCons (mD (mC (.int 0))) (mNil)))))) (mCons (mD (mTup (mCons (mD (mTup (mCons (mD (mC (.int 0))) (mCons (mD (mV 6)) (mCons (mD (mV 6)) (mNil)))))) (mNil)))) (mCons (mD (mTup (mCons (mD (mC (.bl false))) (mCons (mD (mV 6)) (mCons (mD (mV 6)) (mNil)))))) (mNil)))))))))))))))
    (mRet (mOp2 fAdd (mV 3) (mLst (mCons (mD (mTup (mCons (mD (mC (.int 0))) (mCons (mD (mV 6)) (mCons (mD (mV 6)) (mNil)))))) (mCons (mD (mTup (mCons (mD (mC (.int 0))) (mCons (mD (mTup (mCons (mD (mC (.int 0))) (mCons (mD (mC (.int 1))) (mNil))))) (mCons (mD (mTup (mCons (mD (mC (.int 0))) (mCons (mD (mC (.bl true))) (mNil))))) (mNil)))))) (mCons (mD (mTup (mCons (mD (mC (.int 0))) (mCons (mD (mTup (mCons (mD (mC (.bl false))) (mCons (mD (mC (.int 1))) (mNil))))) (mCons (mD (mTup (mCons (mD (mC (.int 0))) (mCons (mD (mC (.int 1))) (mNil))))) (mNil)))))) (mNil))))))))
    (⟨[.val .res, .val B, .val (.int (n : Int)), .own (.lst o5), z4', z5, .no], bg2⟩ : Sta BagT) = some (.rt (.new (.lst ((o5 ++ [.non, .int 0, .bl true, .str "", .tup [], .tup [.int 0], .tup [.int 0, .tup [.int 1, .int 2]], .tup [.int 0, .tup [.int 1, .int 2], .tup [.int 1, .int 2], .tup [.int 1, .int 2]], .tup [.tup [.int 1, .int 2], .tup [.int 1, .int 2], .int 0], .tup [.tup [.int 0, .tup [.int 1, .int 2], .tup [.int 1, .int 2]]], .tup [.bl false, .tup [.int 1, .int 2], .tup [.int 1, .int 2]]]) ++ [.tup [.int 0, .tup [.int 1, .int 2], .tup [.int 1, .int 2]], .tup [.int 0, .tup [.int 0, .int 1], .tup [.int 0, .bl true]], .tup [.int 0, .tup [.bl false, .int 1], .tup [.int 0, .int 1]]]))), ⟨[.val .res, .val B, .val (.int (n : Int)), .own (.lst (o5 ++ [.non, .int 0, .bl true, .str "", .tup [], .tup [.int 0], .tup [.int 0, .tup [.int 1, .int 2]], .tup [.int 0, .tup [.int 1, .int 2], .tup [.int 1, .int 2], .tup [.int 1, .int 2]], .tup [.tup [.int 1, .int 2], .tup [.int 1, .int 2], .int 0], .tup [.tup [.int 0, .tup [.int 1, .int 2], .tup [.int 1, .int 2]]], .tup [.bl false, .tup [.int 1, .int 2], .tup [.int 1, .int 2]]])), z4', z5, .val (.tup [.int 1, .int 2])], bg2⟩) := by
    have l1 : o5.length + 11 ≤ line := le_line (by omega)
    have l2 : o5.length + 11 + 3 ≤ line := le_line (by omega)
    simp [hl, l1, l2]
  refine ⟨?zw, bg2, ?za, ?zb, hb5⟩
  case za =>
    rw [F_law_values, runF_eq, if_pos (by rfl)]
    show outF (mSeq _ _ (⟨[.val .res, .val B, .no, .no, .no, .no, .no], bg⟩ : Sta BagT)) = _
    rw [mSeq_ap, c1, Option.bind_some, M.thn_nx, mSeq_ap, mFor_ap, c2, Option.bind_some]
    simp only
    rw [e3, Option.bind_some, M.thn_nx, mSeq_ap, mFor_ap, c4, Option.bind_some]
    simp only
    rw [e5, Option.bind_some, M.thn_nx, key, outF_rt]
  case zb =>
    refine Vs.append (Vs.append hv5 ⟨?_, ?_⟩) ⟨?_, ?_⟩
    · simp [okvL, okv, strE_ok]
    · simp [deepL, deep]
    · simp [okvL, okv]
    · simp [deepL, deep]
end W

namespace W
open PySem L2 M
theorem pickL_10 (x y : Sl) : pickL [1, 0] [x, y] = [y, x] := rfl
theorem law_true (b : BagT) (hb : Bg b) : ∃ st', F_law (⟨[.no, .val .res, .no, .no, .no, .no], b⟩ : Sta BagT) = some (.rt (.val (.bl true)), st') := by
  have c1 : mRng fR1 (mCons (mC (.int 5)) (mNil)) (⟨[.no, .val .res, .no, .no, .no, .no], b⟩ : Sta BagT) = some (ni (List.range 5), ⟨[.no, .val .res, .no, .no, .no, .no], b⟩) := by
    have h1 : rgOk 5 = true := rgOk_small (by omega) (by omega)
    have h2 : (5 : Int).toNat = 5 := rfl
    rw [← rgL_ni]
    generalize hq : rgL 0 5 = q
    simp [h1, h2, hq]
  obtain ⟨st2, e2, z2, z3, z4, z5, he2, hb2⟩ := forL_inv (tg := tmN 2) (body := mSeq (mSet 3 (mCall F_law_board (mCons (mV 1) (mCons (mC (.int 6)) (mNil)))))
    (mFor (mIt (mCall F_law_values (mCons (mV 1) (mCons (mV 3) (mNil))))) (tmN 4) (mSeq (mSet 5 (mIfE (mBl (mOp2 fEq (mV 2) (mC (.int 2)))) (mCallK F_is_place [1, 0] 0 2 mNil (mCons (mV 4) (mCons (mV 3) (mNil)))) (mCall F_is_place (mCons (mV 3) (mCons (mV 4) (mNil))))))
    (mIf (mNot (mTr (mCall (F_law_same 12) (mCons (mV 5) (mCons (mCall F_law_is_place (mCons (mV 3) (mCons (mV 4) (mNil)))) (mNil)))))) (mRet (mC (.bl false))) (mSkip)))))
    (fun _ (st : Sta BagT) => ∃ z2 z3 z4 z5, st.env = [.no, .val .res, z2, z3, z4, z5] ∧ Bg st.bag) (ni (List.range 5)) 0 ⟨[.no, .val .res, .no, .no, .no, .no], b⟩ ⟨.no, .no, .no, .no, rfl, hb⟩ (fun i d st hd ⟨z2, z3, z4, z5, he, hbg⟩ => by
      have hi : i < 5 := by
        have := (List.getElem?_eq_some_iff.mp hd).1
        simpa using this
      rw [ni_get, List.getElem?_range hi] at hd
      cases hd
      obtain ⟨env, bg⟩ := st
      simp only at he hbg
      subst he
      obtain ⟨n, r, a, e, b1, d1, h0, hn, hr, ha, hb1⟩ := law_board_eq 6 (by omega) (by omega) bg hbg
      obtain ⟨vs, b2, d2, hv, hb2⟩ := law_values_eq (n := n) r a e hr.1 h0 (by omega) b1 hb1
      have d1' : F_law_board [.val .res, .val (.int 6)] bg = some (.val (bdD r a e), b1) := d1
      have e3 : mSet 3 (mCall F_law_board (mCons (mV 1) (mCons (mC (.int 6)) (mNil)))) (⟨[.no, .val .res, .val (.int (i : Int)), z3, z4, z5], bg⟩ : Sta BagT) = some (.nx, ⟨[.no, .val .res, .val (.int (i : Int)), .val (bdD r a e), z4, z5], b1⟩) := by
        simp [d1']
      have pl : ∀ v : D, v ∈ vs → ∀ bb : BagT, F_is_place [.val (bdD r a e), .val v] bb = some (.val (.bl (placeB n e v)), bb) := fun v hvm bb => place_eq r a e hr.1 v (hv.mem hvm).1 bb
      have pl2 : ∀ v : D, v ∈ vs → ∀ bb : BagT, F_law_is_place [.val (bdD r a e), .val v] bb = some (.val (.bl (placeB n e v)), bb) := fun v hvm bb => law_is_place_eq r a e hr.1 v (hv.mem hvm).1 (Nat.le_trans (hv.mem hvm).2 (by omega)) bb
      generalize bdD r a e = B at *
      have e4 : mIt (mCall F_law_values (mCons (mV 1) (mCons (mV 3) (mNil)))) (⟨[.no, .val .res, .val (.int (i : Int)), .val B, z4, z5], b1⟩ : Sta BagT) = some (vs, ⟨[.no, .val .res, .val (.int (i : Int)), .val B, z4, z5], b2⟩) := by
        simp [d2]
      obtain ⟨st5, e5, y4, y5, he5, hb5⟩ := forL_inv (tg := tmN 4) (body := mSeq (mSet 5 (mIfE (mBl (mOp2 fEq (mV 2) (mC (.int 2)))) (mCallK F_is_place [1, 0] 0 2 mNil (mCons (mV 4) (mCons (mV 3) (mNil)))) (mCall F_is_place (mCons (mV 3) (mCons (mV 4) (mNil))))))
    (mIf (mNot (mTr (mCall (F_law_same 12) (mCons (mV 5) (mCons (mCall F_law_is_place (mCons (mV 3) (mCons (mV 4) (mNil)))) (mNil)))))) (mRet (mC (.bl false))) (mSkip)))
        (fun _ (st : Sta BagT) => ∃ y4 y5, st.env = [.no, .val .res, .val (.int (i : Int)), .val B, y4, y5] ∧ st.bag = b2) vs 0 ⟨[.no, .val .res, .val (.int (i : Int)), .val B, z4, z5], b2⟩ ⟨z4, z5, rfl, rfl⟩ (fun k v st hd ⟨y4, y5, he, hbg⟩ => by
          have hvm : v ∈ vs := List.mem_of_getElem? hd
          obtain ⟨env, bb⟩ := st
          simp only at he hbg
          subst he hbg
          have q1 := pl v hvm bb
          have q2 := pl2 v hvm bb
          generalize placeB n e v = q at q1 q2
          have q3 := law_same_bl 11 q bb
          refine ⟨⟨[.no, .val .res, .val (.int (i : Int)), .val B, .val v, y5], bb⟩, .nx, ⟨[.no, .val .res, .val (.int (i : Int)), .val B, .val v, .val (.bl q)], bb⟩, rfl, ?_, .inl rfl, _, _, rfl, rfl⟩
          have w1 : mSet 5 (mIfE (mBl (mOp2 fEq (mV 2) (mC (.int 2)))) (mCallK F_is_place [1, 0] 0 2 mNil (mCons (mV 4) (mCons (mV 3) (mNil)))) (mCall F_is_place (mCons (mV 3) (mCons (mV 4) (mNil))))) (⟨[.no, .val .res, .val (.int (i : Int)), .val B, .val v, y5], bb⟩ : Sta BagT) = some (.nx, ⟨[.no, .val .res, .val (.int (i : Int)), .val B, .val v, .val (.bl q)], bb⟩) := by
            by_cases hi2 : (i : Int) = 2
            · rw [hi2]
              simp [pickL_10, q1]
            · simp [hi2, q1]
          rw [mSeq_ap, w1, Option.bind_some, M.thn_nx]
          generalize F_law_same (11 + 1) = g at q3 ⊢
          simp [q2, q3])
      obtain ⟨env, bb⟩ := st5
      simp only at he5 hb5
      subst he5 hb5
      refine ⟨⟨[.no, .val .res, .val (.int (i : Int)), z3, z4, z5], bg⟩, .nx, ⟨[.no, .val .res, .val (.int (i : Int)), .val B, y4, y5], bb⟩, rfl, ?_, .inl rfl, _, _, _, _, rfl, hb2⟩
      rw [mSeq_ap, e3, Option.bind_some, M.thn_nx, mFor_ap, e4, Option.bind_some]
      exact e5)
  obtain ⟨env, bb⟩ := st2
  simp only at he2 hb2
  subst he2
  refine ⟨⟨[.no, .val .res, z2, z3, z4, z5], bb⟩, ?_⟩
  rw [F_law, mSeq_ap, mFor_ap, c1, Option.bind_some]
  simp only
  rw [e2, Option.bind_some, M.thn_nx]
  simp
end W

namespace W
open PySem PySem.Spec PyProof.Rows L2 M
/-! ### the bag made -/
def onI (g : Int → Int) : D → D
  | .int i => .int (g i)
  | d => d
def ifI (p : Int → Bool) : D → Bool
  | .int i => p i
  | _ => false
theorem filter_ints (p : Int → Bool) (g : Int → Int) : ∀ l : List Int, ((l.map D.int).filter (ifI p)).map (onI g) = ((l.filter p).map g).map D.int
  | [] => rfl
  | x :: l => by
    have ih := filter_ints p g l
    cases h : p x with
    | true =>
      have h2 : ifI p (.int x) = true := h
      rw [List.map_cons, List.filter_cons_of_pos h2, List.map_cons, ih, List.filter_cons_of_pos h]
      rfl
    | false =>
      have h2 : ¬ ifI p (.int x) = true := by show ¬ p x = true; rw [h]; decide
      rw [List.map_cons, List.filter_cons_of_neg h2, ih, List.filter_cons_of_neg (by rw [h]; decide)]
theorem pow18 : fPow (.int 10) (.int 18) = some (.val (.int 1000000000000000000)) := by rfl
theorem bag_tail (c : Int) (cs : List Int) (hl : (c :: cs).length ≤ 1000) (x1 : Sl) (hx : x1 = .own (.lst ((c :: cs).map D.int)) ∨ x1 = .val (.lst ((c :: cs).map D.int))) (great : List Int) (hg : ∀ g ∈ great, 500000000000000000 ≤ g) :
    ∃ (cells : List Int) (st' : Sta Unit), mRet (mLst (mCons (mD (mC (.int 0))) (mCons (mD (mC (.int 0))) (mCons (mD (mV 2)) (mCons (mD (mComp [3] (mIt (mV 1)) (tmN 3) (mYes) (mD (mOp2 fMod (mBi fInt (mCons (mV 3) (mNil))) (mC (.int 2147483647)))))) (mNil)))))) ⟨[.no, x1, .own (.lst (great.map D.int)), .no], ()⟩ = some (.rt (.new (.lst [.int 0, .int 0, .lst (great.map D.int), .lst (cells.map D.int)])), st') ∧ cells ≠ [] ∧ great ≠ cells := by
  have k4 : 4 ≤ line := by unfold line; omega
  refine ⟨(c :: cs).map (· % 2147483647), ⟨[.no, .val (.lst ((c :: cs).map D.int)), .val (.lst (great.map D.int)), .no], ()⟩, ?_, by simp, fun e => ?_⟩
  · have c1 := mComp_pure (vs := [3]) (it := mIt (mV 1)) (tg := tmN 3) (tt := mYes) (te := mD (mOp2 fMod (mBi fInt (mCons (mV 3) (mNil))) (mC (.int 2147483647)))) (st := (⟨[.no, x1, .val (.lst (great.map D.int)), .no], ()⟩ : Sta Unit)) (st1 := ⟨[.no, .val (.lst ((c :: cs).map D.int)), .val (.lst (great.map D.int)), .no], ()⟩) (ds := (c :: cs).map D.int) (ifI fun _ => true) (onI (· % 2147483647)) (by rcases hx with rfl | rfl <;> simp) rfl (by rw [List.length_map]; unfold line; omega) (fun d hd => by
      obtain ⟨i, _, rfl⟩ := List.mem_map.mp hd
      refine ⟨⟨[.no, .val (.lst ((c :: cs).map D.int)), .val (.lst (great.map D.int)), .val (.int i)], ()⟩, ⟨[.no, .val (.lst ((c :: cs).map D.int)), .val (.lst (great.map D.int)), .val (.int i)], ()⟩, rfl, rfl, fun _ => ⟨⟨[.no, .val (.lst ((c :: cs).map D.int)), .val (.lst (great.map D.int)), .val (.int i)], ()⟩, ?_, rfl, rfl⟩, fun _ => ⟨rfl, rfl⟩⟩
      have hm : cMod i 2147483647 = true := cMod_pos (by decide)
      simp [hm, onI])
    rw [filter_ints, List.filter_eq_self.mpr (fun _ _ => rfl)] at c1
    generalize (c :: cs).map D.int = L at c1 hx ⊢
    generalize ((c :: cs).map (· % 2147483647)).map D.int = L2 at c1 ⊢
    generalize great.map D.int = G at c1 ⊢
    simp [c1, k4]
  · rw [List.map_cons] at e
    have h1 := hg (c % 2147483647) (by rw [e]; exact List.mem_cons_self)
    have h2 := Int.emod_lt_of_pos c (show (0 : Int) < 2147483647 by decide)
    omega
theorem bag_pure (c : Int) (cs : List Int) (hl : (c :: cs).length ≤ 1000) : ∃ (great cells : List Int) (st' : Sta Unit), F_law_bag ⟨[.no, .own (.lst ((c :: cs).map D.int)), .no, .no], ()⟩ = some (.rt (.new (.lst [.int 0, .int 0, .lst (great.map D.int), .lst (cells.map D.int)])), st') ∧ cells ≠ [] ∧ great ≠ cells := by
  have k0 : 0 ≤ line := by unfold line; omega
  have c0 : mSet 2 (mLst (mNil)) (⟨[.no, .own (.lst ((c :: cs).map D.int)), .no, .no], ()⟩ : Sta Unit) = some (.nx, ⟨[.no, .own (.lst ((c :: cs).map D.int)), .own (.lst []), .no], ()⟩) := by simp [k0]
  have hm : cMod c 2 = true := cMod_pos (by decide)
  rw [F_law_bag, mSeq_ap, c0, Option.bind_some, M.thn_nx, mSeq_ap, mIf_ap]
  have c1 : mBl (mOp2 fEq (mOp2 fMod (mBi fInt (mCons (mOp2 fIx (mV 1) (mC (.int 0))) (mNil))) (mC (.int 2))) (mC (.int 0))) (⟨[.no, .own (.lst ((c :: cs).map D.int)), .own (.lst []), .no], ()⟩ : Sta Unit) = some (c % 2 == 0, ⟨[.no, .own (.lst ((c :: cs).map D.int)), .own (.lst []), .no], ()⟩) := by
    simp [hm]
  rw [c1, Option.bind_some]
  cases hb : (c % 2 == 0) with
  | false =>
    simp only [Bool.false_eq_true, if_false, mSkip_ap, Option.bind_some, M.thn_nx]
    obtain ⟨cells, st', e, h1, h2⟩ := bag_tail c cs hl _ (.inl rfl) [] (fun g hg => by simp at hg)
    exact ⟨[], cells, st', e, h1, h2⟩
  | true =>
    simp only [if_true]
    have c2 := mComp_pure (vs := [3]) (it := mIt (mV 1)) (tg := tmN 3) (tt := mBl (mOp2 fGe (mV 3) (mOp2 fPow (mC (.int 10)) (mC (.int 18))))) (te := mD (mOp2 fDiv (mV 3) (mC (.int 2)))) (st := (⟨[.no, .own (.lst ((c :: cs).map D.int)), .own (.lst []), .no], ()⟩ : Sta Unit)) (st1 := ⟨[.no, .val (.lst ((c :: cs).map D.int)), .own (.lst []), .no], ()⟩) (ds := (c :: cs).map D.int) (ifI fun i => decide (1000000000000000000 ≤ i)) (onI (· / 2)) (by simp) rfl (by rw [List.length_map]; unfold line; omega) (fun d hd => by
      obtain ⟨i, _, rfl⟩ := List.mem_map.mp hd
      refine ⟨⟨[.no, .val (.lst ((c :: cs).map D.int)), .own (.lst []), .val (.int i)], ()⟩, ⟨[.no, .val (.lst ((c :: cs).map D.int)), .own (.lst []), .val (.int i)], ()⟩, rfl, ?_, fun _ => ⟨⟨[.no, .val (.lst ((c :: cs).map D.int)), .own (.lst []), .val (.int i)], ()⟩, ?_, rfl, rfl⟩, fun _ => ⟨rfl, rfl⟩⟩
      · simp [pow18, ifI]
      · have hm : cDiv i 2 = true := cDiv_pos (by decide) (by decide)
        simp [hm, onI])
    rw [filter_ints] at c2
    have c3 : mSeq (mSet 2 (mComp [3] (mIt (mV 1)) (tmN 3) (mBl (mOp2 fGe (mV 3) (mOp2 fPow (mC (.int 10)) (mC (.int 18))))) (mD (mOp2 fDiv (mV 3) (mC (.int 2)))))) (mEx (mOwn 2 fReverse mNil)) (⟨[.no, .own (.lst ((c :: cs).map D.int)), .own (.lst []), .no], ()⟩ : Sta Unit) = some (.nx, ⟨[.no, .val (.lst ((c :: cs).map D.int)), .own (.lst (((((c :: cs).filter fun i => decide (1000000000000000000 ≤ i)).map (· / 2)).reverse).map D.int)), .no], ()⟩) := by
      rw [List.map_reverse]
      generalize (((c :: cs).filter fun i => decide (1000000000000000000 ≤ i)).map (· / 2)).map D.int = G at c2 ⊢
      rw [mSeq_ap, mSet_ap, c2]
      simp
    rw [c3, Option.bind_some, M.thn_nx]
    obtain ⟨cells, st', e, h1, h2⟩ := bag_tail c cs hl _ (.inr rfl) ((((c :: cs).filter fun i => decide (1000000000000000000 ≤ i)).map (· / 2)).reverse) (fun g hg => by
      rw [List.mem_reverse] at hg
      obtain ⟨i, hi, rfl⟩ := List.mem_map.mp hg
      have := of_decide_eq_true (List.mem_filter.mp hi).2
      show 500000000000000000 ≤ i / 2
      omega)
    exact ⟨_, cells, st', e, h1, h2⟩
end W

namespace W
open PySem PySem.Spec PyProof.Rows L2 M
section
variable {P : Program} {w : World} {K : PySem.W.Frag} {mg : Str → Option Value} {base : Heap}
def absI (i : Int) : Int := if i < 0 then -i else i
/-- what the making of a bag promises -/
def spBag (K : PySem.W.Frag) : Sp := fun vs H Q _ => ∃ (a : Addr) (ns : List Int), vs = [.ref a] ∧ SqL K H a (ns.map V.int) ∧ ns.length ≤ 63 ∧ ∀ (ab ag ac : Addr) (b : BagT) (H' : Hp), Bg b → (bagRes ab ag ac).rel b H' → Q (.ref ab) H'
theorem bag_rel {H' : Hp} {F : Addr → Prop} {ab : Addr} {great cells : List Int} (h : RepO H' F V.non (.lst [.int 0, .int 0, .lst (great.map D.int), .lst (cells.map D.int)]) ab) (hne : great ≠ cells) : ∃ ag ac, (bagRes ab ag ac).rel ⟨0, 0, great, cells⟩ H' := by
  have allI : ∀ (l : List Int) (xs : List V), RepL H' F V.non (l.map D.int) xs → xs = l.map V.int := by
    intro l
    induction l with
    | nil =>
      intro xs h
      simpa [RepL] using h
    | cons i l ih =>
      intro xs h
      simp only [List.map_cons, RepL] at h
      obtain ⟨v, r, rfl, hv, hr⟩ := h
      simp only [Rep] at hv
      rw [hv, ih r hr, List.map_cons]
  obtain ⟨xs, hab, hl⟩ := h
  simp only [RepL, Rep] at hl
  obtain ⟨v0, r0, rfl, rfl, v1, r1, rfl, rfl, v2, r2, rfl, ⟨ag, gs, rfl, hag, _, hg⟩, v3, r3, rfl, ⟨ac, cs, rfl, hac, _, hc⟩, rfl⟩ := hl
  rw [allI _ _ hg] at hag
  rw [allI _ _ hc] at hac
  have inj : ∀ l l2 : List Int, l.map V.int = l2.map V.int → l = l2 := by
    intro l
    induction l with
    | nil =>
      intro l2 h
      cases l2 with
      | nil => rfl
      | cons x l2 => simp at h
    | cons x l ih =>
      intro l2 h
      cases l2 with
      | nil => simp at h
      | cons y l2 =>
        simp only [List.map_cons, List.cons.injEq, V.int.injEq] at h
        rw [h.1, ih l2 h.2]
  have two : ∀ l : List Int, l.map V.int ≠ [V.int 0, V.int 0, V.ref ag, V.ref ac] := by
    intro l h
    match l, h with
    | [_, _, _, _], h => simp at h
  refine ⟨ag, ac, hab, hag, hac, fun e => ?_, fun e => ?_, fun e => ?_⟩
  · rw [e, hag] at hab
    exact two _ (HO.lst.inj (Option.some.inj hab))
  · rw [e, hac] at hag
    exact hne (inj _ _ (HO.lst.inj (Option.some.inj hag))).symm
  · rw [e, hac] at hab
    exact two _ (HO.lst.inj (Option.some.inj hab))
theorem W_law_bag (T : Txt K mg) : ∃ f fd, mg "_law_bag" = some (.ref f) ∧ Fun K "_law_bag" "_law_bag" s_law_bag f fd ∧ FnOk P w K mg base CX0 1 f fd ["script"] (spBag K) := by
  obtain ⟨f, fd, g, F⟩ := T.d_law_bag
  refine ⟨f, fd, g, F, ?_⟩
  have S := S_law_bag
  refine F.ok S_law_bag (fun vs H Q E h => ?_) (fun cdv A outer s H vs Q E hr h => ⟨_, pss_cons (ps_set (i := 1) S.nd rfl (Or.inl rfl) (pe_op op_cat (pe_lc (own := [("cell", 3)]) rfl S.nd (pi_list (pv 0)) (blkOk_by (own := [("cell", 3)]) (N := ["script", "cells", "great", "cell"]) (sc := defScope s_law_bag) (by decide +kernel)) (fun _ _ _ _ _ => pg_name (i := 3) S.nd rfl (by first | exact Or.inl rfl | exact Or.inr rfl)) (fun _ _ _ _ _ => pts_nil) (fun _ _ _ _ _ => pe_callB call_abs (by rfl) T.b_abs (by decide +kernel) (pa_cons (pe_callTy call_int1 (by rfl) T.b_int (by decide +kernel) (pa_cons (pv 3) pa_nil)) pa_nil)))
      (pe_lst (pa_cons pe_int pa_nil)))) (rest_law_bag T hr), ?_⟩)
  · obtain ⟨a, ns, rfl, _⟩ := h
    rfl
  · obtain ⟨a, ns, rfl, hS, hlen, q⟩ := h
    refine ⟨.ref a, rfl, a, rfl, ⟨_, hS⟩, fun D hD => ?_⟩
    refine lc_list (xs := ns.map V.int) (fun i H' => H' = upd H D (.lst ((ns.take i).map fun z => V.int (absI z)))) ?_ ?_ ?_ ?_
    · rfl
    · rintro i H' _ rfl
      exact Evl.ex_l (Evl.Ex.new hD) hS
    · rintro i x H' hx rfl
      rw [List.getElem?_map] at hx
      obtain ⟨z, hz, rfl⟩ := Option.map_eq_some_iff.mp hx
      have hi : i < ns.length := (List.getElem?_eq_some_iff.mp hz).1
      refine ⟨rfl, ?_⟩
      refine ⟨.int z, rfl, .inl ⟨z, rfl, z, rfl, _, upd_same, ?_, ?_⟩⟩
      · rw [List.length_map, List.length_take]
        exact Nat.lt_of_le_of_lt (Nat.min_le_left _ _) (Evl.sz_lt (by omega))
      · rw [L2.upd_upd, List.take_add_one, hz, List.map_append]
        rfl
    · rintro H' rfl
      rw [List.length_map, List.take_length]
      generalize hH1 : upd H D (.lst (ns.map fun z => V.int (absI z))) = H1
      have h1 : H1 D = some (.lst (ns.map fun z => V.int (absI z))) := by rw [← hH1, upd_same]
      refine ⟨(show 1 ≤ sizeLine by decide), fun b hb => ?_⟩
      have hbD : D ≠ b := fun e => by rw [← e, h1] at hb; cases hb
      refine ⟨D, b, _, _, rfl, rfl, by rw [upd_ne hbD]; exact h1, upd_same, ?_, fun p hp => ?_⟩
      · rw [List.length_map]
        exact Nat.le_trans (show ns.length + 1 ≤ 64 by omega) (by decide)
      · generalize upd H1 b (.lst [V.int 7]) = H2 at hp
        have hcells : (ns.map fun z => V.int (absI z)) ++ [V.int 7] = (ns.map absI ++ [7]).map V.int := by simp [List.map_append, List.map_map, Function.comp_def]
        rw [hcells]
        obtain ⟨c, cs, hc⟩ : ∃ c cs, ns.map absI ++ [7] = c :: cs := by
          cases ns with
          | nil => exact ⟨_, _, rfl⟩
          | cons x r => exact ⟨_, _, rfl⟩
        have hcl : (c :: cs).length ≤ 1000 := by
          rw [← hc, List.length_append, List.length_map]
          simp only [List.length_cons, List.length_nil]
          omega
        rw [hc]
        obtain ⟨great, cells, st', e, hne, hgc⟩ := bag_pure c cs hcl
        refine ⟨⟨noRes, trivial, H2, fun _ => False, fun _ h => h.elim, fun _ h => h.elim⟩, fun x => x = p, ⟨[.no, .own (.lst ((c :: cs).map M.D.int)), .no, .no], ()⟩, _, st', ⟨rfl, fun i s hi => ?_, fun i j d e hi hj _ => ?_, fun a o ha _ => ?_, trivial, fun _ h => h.elim, fun x hx => ?_⟩, e, ?_⟩
        · match i, hi with
          | 0, hi => cases hi; trivial
          | 1, hi =>
            cases hi
            exact ⟨p, rfl, ⟨_, upd_same, RepL.ints⟩, rfl, hp⟩
          | 2, hi => cases hi; trivial
          | 3, hi => cases hi; trivial
          | i + 4, hi => simp at hi
        · match i, j, hi, hj with
          | 1, 1, _, _ => rfl
          | 0, _, hi, _ => simp at hi
          | 2, _, hi, _ => simp at hi
          | 3, _, hi, _ => simp at hi
          | i + 4, _, hi, _ => simp at hi
          | _, 0, _, hj => simp at hj
          | _, 2, _, hj => simp at hj
          | _, 3, _, hj => simp at hj
          | _, j + 4, _, hj => simp at hj
        · have ha : H2 a = some o := ha
          rw [upd_ne (fun z => by rw [z, hp] at ha; cases ha)]
          exact ha
        · rw [hx]
          exact ⟨_, upd_same⟩
        · intro v H' ⟨_, _, hv⟩
          obtain ⟨ab, rfl, _, hr⟩ := hv
          obtain ⟨ag, ac, hrel⟩ := bag_rel hr hgc
          exact q ab ag ac ⟨0, 0, great, cells⟩ H' hne hrel
end
end W

namespace W
open PySem PySem.Spec PyProof.Rows L2 M
section
variable {P : Program} {w : World} {K : PySem.W.Frag} {mg : Str → Option Value} {base : Heap}
def spLaw (K : PySem.W.Frag) : Sp := fun vs H Q _ => ∃ (a : Addr) (ns : List Int), vs = [.ref a] ∧ SqL K H a (ns.map V.int) ∧ ns.length ≤ 63 ∧ ∀ H', Q (.bl true) H'
theorem W_law (T : Txt K mg) {f : Addr} {fd : FuncData} (F : Fun K "law" "law" s_law f fd) : FnOk P w K mg base CX0 13 f fd ["script"] (spLaw K) := by
  obtain ⟨fb, fdb, gb, FB, ok_bag⟩ := W_law_bag (P := P) (w := w) (base := base) T
  have D_law_draw := W_law_draw (P := P) (w := w) (base := base) T
  have D_is_number := W_is_number (P := P) (w := w) (base := base) T
  have D_is_from_to := W_is_from_to (P := P) (w := w) (base := base) T D_is_number
  have D_is_row := W_is_row (P := P) (w := w) (base := base) T
  have D_is_fraction := W_is_fraction (P := P) (w := w) (base := base) T D_is_row D_is_number
  have D_ends_at := W_ends_at (P := P) (w := w) (base := base) T
  have D_is_corner := W_is_corner (P := P) (w := w) (base := base) T
  have D_is_place := W_is_place (P := P) (w := w) (base := base) T D_is_row D_is_from_to D_is_fraction D_is_corner D_ends_at
  have D_law_pick := W_law_pick (P := P) (w := w) (base := base) T D_law_draw
  have D_law_same := W_law_same (P := P) (w := w) (base := base) T 12
  have D_law_gcd := W_law_gcd (P := P) (w := w) (base := base) T
  have D_law_fr := W_law_fr (P := P) (w := w) (base := base) T D_law_gcd
  have D_law_back := W_law_back (P := P) (w := w) (base := base) T
  have D_law_turn_of := W_law_turn_of (P := P) (w := w) (base := base) T D_law_back
  have D_law_ends := W_law_ends (P := P) (w := w) (base := base) T D_law_turn_of
  have D_law_group := W_law_group (P := P) (w := w) (base := base) T D_law_back
  have D_law_shuffle := W_law_shuffle (P := P) (w := w) (base := base) T D_law_draw
  have D_law_board := W_law_board (P := P) (w := w) (base := base) T D_law_draw D_law_shuffle D_law_group D_law_ends
  have D_law_is_part := W_law_is_part (P := P) (w := w) (base := base) T D_law_gcd
  have D_law_is_place := W_law_is_place (P := P) (w := w) (base := base) T D_law_is_part
  have D_law_parts := W_law_parts (P := P) (w := w) (base := base) T D_law_draw D_law_fr D_law_pick
  have D_law_values := W_law_values (P := P) (w := w) (base := base) T D_law_pick D_law_draw D_law_parts
  have S := S_law
  refine F.ok S_law (fun vs H Q E h => ?_) (fun cdv A outer s H vs Q E hr h => ⟨_, pss_cons (ps_set (i := 1) S.nd rfl (Or.inl rfl) (pe_call (ok_bag.mono (show 1 ≤ 12 by decide)) hr (by rfl) gb FB.kp (FB.binds (ps := ["script"]) fun _ _ _ _ _ _ us hl => match us, hl with | [_], _ => rfl) .nil pass0 (pa_cons (pv 0) pa_nil))) (rest_law T D_law_board D_law_values D_is_place D_law_same D_law_is_place hr), ?_⟩)
  · obtain ⟨a, ns, rfl, _⟩ := h
    rfl
  · obtain ⟨a, ns, rfl, hS, hlen, q⟩ := h
    refine ⟨.ref a, rfl, a, ns, rfl, hS, hlen, fun ab ag ac b H' hb hrel => ?_⟩
    obtain ⟨st', e⟩ := law_true b hb
    refine ⟨⟨bagRes ab ag ac, ⟨ab, ag, ac, rfl⟩, H', (bagRes ab ag ac).foot, fun x hx => (bagRes ab ag ac).there b H' x hrel hx, fun _ h => h⟩, (bagRes ab ag ac).foot, ⟨[.no, .val .res, .no, .no, .no, .no], b⟩, _, st', ⟨rfl, fun i s hi => ?_, fun i j d e hi hj _ => ?_, fun a o ha _ => ha, hrel, fun _ h => h, fun x hx => (bagRes ab ag ac).there b H' x hrel hx⟩, e, ?_⟩
    · match i, hi with
      | 0, hi => cases hi; trivial
      | 1, hi =>
        cases hi
        exact ⟨.ref ab, rfl, by simp [Rep, bagRes]⟩
      | 2, hi => cases hi; trivial
      | 3, hi => cases hi; trivial
      | 4, hi => cases hi; trivial
      | 5, hi => cases hi; trivial
      | i + 6, hi => simp at hi
    · match i, hi with
      | 0, hi => simp at hi
      | 1, hi => simp at hi
      | 2, hi => simp at hi
      | 3, hi => simp at hi
      | 4, hi => simp at hi
      | 5, hi => simp at hi
      | i + 6, hi => simp at hi
    · intro v H2 ⟨_, _, hv⟩
      have hv2 : v = .bl true := by simpa [ResR, Rep] using hv
      rw [hv2]
      exact q H2
end
end W

namespace W
open PySem PySem.Spec PyProof.Rows L2 M
/-- a def of the top, as it stands in the heap -/
theorem dn_mk {K : PySem.W.Frag} {h : Heap} {mg : Str → Option Value} {x : Str} {st : Stmt} {f : Addr} (X : K.In h) (G : h.Ns mainGlobals mg) {od an : Option Addr} {sl : Array (Option Value)} {oc kV dc pm cd ct : Value}
    (a : PySem.W.nsIn K mainGlobals x = some (some (.ref f))) (l : K.lookup f = some ⟨oc, od, .func (PySem.W.fnOf x x (defArgs st) (defBody st) (defScope st) .none kV dc pm an cd ct), sl⟩) (c : PySem.W.codeIn K cd x = true) (k : PySem.W.keepIn K (.ref f) = true) : Dn K mg x st :=
  ⟨f, _, PySem.W.mg_of X G a, fun_mk (st := st) l c k⟩
theorem all_mk {l : PySem.W.OpenLaw} {w : World} {K : PySem.W.Frag} {h : Heap} {mg : Str → Option Value} {fa f2 : Addr} (X : K.In h) (G : h.Ns mainGlobals mg) (hfa : mg "law" = some (.ref fa)) (T : Txt K mg)
    {od2 an2 : Option Addr} {sl2 : Array (Option Value)} {oc2 kV2 dc2 pm2 cd2 ct2 : Value}
    (a2 : PySem.W.nsIn K mainGlobals "law" = some (some (.ref f2))) (l2 : K.lookup f2 = some ⟨oc2, od2, .func (PySem.W.fnOf "law" "law" (defArgs s_law) (defBody s_law) (defScope s_law) .none kV2 dc2 pm2 an2 cd2 ct2), sl2⟩) (c2 : PySem.W.codeIn K cd2 "law" = true) (k2 : PySem.W.keepIn K (.ref f2) = true) :
    ∃ fd : FuncData, (∀ (s : Shared) (v : Value), BindsTo s fd ⟨[v], []⟩ [("script", v)]) ∧ ∀ base : Heap, K.In base → base.Ns mainGlobals mg → FnOk l.prog w K mg base CX0 13 fa fd ["script"] (spLaw K) := by
  have e := hfa.symm.trans (PySem.W.mg_of X G a2)
  cases e
  have F2 := fun_mk (st := s_law) l2 c2 k2
  exact ⟨PySem.W.fnOf "law" "law" (defArgs s_law) (defBody s_law) (defScope s_law) .none kV2 dc2 pm2 an2 cd2 ct2, fun s v => .of_eq rfl, fun base _ _ => W_law T F2⟩
end W
open PySem PySem.W PyProof.Rows
set_option maxHeartbeats 0 in
theorem PySem.Challenge.cw_blockedshots_k03_places_holds : PySem.Challenge.rw_blockedshots_k03_places.Holds := by
  w_on; o_law; k_head; (case hw => w_witness2)
  k_fill
  refine L2.walk_of (l := PySem.Challenge.rw_blockedshots_k03_places) (n := 63) (k := 13) (x := "script") (CX := fun _ => L2.CX0) (sp := fun w => W.spLaw _) rfl (by decide) rfl ⟨rfl, by decide, by decide⟩ (fun w h Y => PySem.W.kIn_of Y) ?F (fun _ _ a ns hl _ hS => ⟨a, ns, rfl, hS, hl, fun _ => rfl⟩) (fun _ _ _ _ _ h => h)
  case F =>
    intro w mg fa h KX G hmg
    refine' W.all_mk KX G hmg ?T ?a2 ?l2 ?c2 ?k2
    (case T =>
      constructor
      · refine' W.dn_mk KX G ?a ?l ?c ?k
        (case a => k_is); (case l => k_is); (case c => k_is); (case k => k_is)
      · refine' W.dn_mk KX G ?a ?l ?c ?k
        (case a => k_is); (case l => k_is); (case c => k_is); (case k => k_is)
      · refine' W.dn_mk KX G ?a ?l ?c ?k
        (case a => k_is); (case l => k_is); (case c => k_is); (case k => k_is)
      · refine' W.dn_mk KX G ?a ?l ?c ?k
        (case a => k_is); (case l => k_is); (case c => k_is); (case k => k_is)
      · refine' W.dn_mk KX G ?a ?l ?c ?k
        (case a => k_is); (case l => k_is); (case c => k_is); (case k => k_is)
      · refine' W.dn_mk KX G ?a ?l ?c ?k
        (case a => k_is); (case l => k_is); (case c => k_is); (case k => k_is)
      · refine' W.dn_mk KX G ?a ?l ?c ?k
        (case a => k_is); (case l => k_is); (case c => k_is); (case k => k_is)
      · refine' W.dn_mk KX G ?a ?l ?c ?k
        (case a => k_is); (case l => k_is); (case c => k_is); (case k => k_is)
      · refine' W.dn_mk KX G ?a ?l ?c ?k
        (case a => k_is); (case l => k_is); (case c => k_is); (case k => k_is)
      · refine' W.dn_mk KX G ?a ?l ?c ?k
        (case a => k_is); (case l => k_is); (case c => k_is); (case k => k_is)
      · refine' W.dn_mk KX G ?a ?l ?c ?k
        (case a => k_is); (case l => k_is); (case c => k_is); (case k => k_is)
      · refine' W.dn_mk KX G ?a ?l ?c ?k
        (case a => k_is); (case l => k_is); (case c => k_is); (case k => k_is)
      · refine' W.dn_mk KX G ?a ?l ?c ?k
        (case a => k_is); (case l => k_is); (case c => k_is); (case k => k_is)
      · refine' W.dn_mk KX G ?a ?l ?c ?k
        (case a => k_is); (case l => k_is); (case c => k_is); (case k => k_is)
      · refine' W.dn_mk KX G ?a ?l ?c ?k
        (case a => k_is); (case l => k_is); (case c => k_is); (case k => k_is)
      · refine' W.dn_mk KX G ?a ?l ?c ?k
        (case a => k_is); (case l => k_is); (case c => k_is); (case k => k_is)
      · refine' W.dn_mk KX G ?a ?l ?c ?k
        (case a => k_is); (case l => k_is); (case c => k_is); (case k => k_is)
      · refine' W.dn_mk KX G ?a ?l ?c ?k
        (case a => k_is); (case l => k_is); (case c => k_is); (case k => k_is)
      · refine' W.dn_mk KX G ?a ?l ?c ?k
        (case a => k_is); (case l => k_is); (case c => k_is); (case k => k_is)
      · refine' W.dn_mk KX G ?a ?l ?c ?k
        (case a => k_is); (case l => k_is); (case c => k_is); (case k => k_is)
      · refine' W.dn_mk KX G ?a ?l ?c ?k
        (case a => k_is); (case l => k_is); (case c => k_is); (case k => k_is)
      · refine' W.dn_mk KX G ?a ?l ?c ?k
        (case a => k_is); (case l => k_is); (case c => k_is); (case k => k_is)
      · refine' W.dn_mk KX G ?a ?l ?c ?k
        (case a => k_is); (case l => k_is); (case c => k_is); (case k => k_is)
      · refine' W.dn_mk KX G ?a ?l ?c ?k
        (case a => k_is); (case l => k_is); (case c => k_is); (case k => k_is)
      · refine' PySem.W.mg_of KX G ?z
        (case z => k_is)
      · refine' PySem.W.mg_none_of KX G ?z
        (case z => k_is)
      · refine' PySem.W.mg_none_of KX G ?z
        (case z => k_is)
      · refine' PySem.W.mg_none_of KX G ?z
        (case z => k_is)
      · refine' PySem.W.mg_none_of KX G ?z
        (case z => k_is)
      · refine' PySem.W.mg_none_of KX G ?z
        (case z => k_is)
      · refine' PySem.W.mg_none_of KX G ?z
        (case z => k_is)
      · refine' PySem.W.mg_none_of KX G ?z
        (case z => k_is)
      · refine' PySem.W.mg_none_of KX G ?z
        (case z => k_is)
      · refine' PySem.W.mg_none_of KX G ?z
        (case z => k_is)
    )
    (case a2 => k_is); (case l2 => k_is); (case c2 => k_is); (case k2 => k_is)

