import PyProof.Rows.All
import Wide.All
import OpenK.AllK
import Wide.FinOn
import HandS.ForMost
import HandS.IsInst
import HandS.Gcd
import HandS.Wide
import HandS.Deep
import HandS.TupAny
import HandS.Flow
import KE.KeyNested
import HandS.Iter
import HandS.Zip
import KE.GoesEnum
import HandS.AnyAll
import HandS.GenList
import HandS.GenOver
import HandS.SortInts
import HandS.TupSets
import HandS.Conv
import HandS.Defaults
import HandS.WordsDict
import HandS.Style
import HandS.TupLe
import HandS.DictComp
import HandS.Dict
import PyProof.DictFindH
import KE.KDictCopyH
import KE.KDictSum
import HandS.SetKeys
import PyProof.DictRoadsH
import PyProof.DictMoreH
import HandS.More
import KE.GoesMore
import HandS.Ends
import PySem.Challenge.RW_blockedshots_k49_whole_same_squares
import HandS.Evl
import HandS.EndOwn
set_option Elab.async false
set_option linter.all false
set_option maxRecDepth 100000
/-! MCore: values without the heap (D), states of a body (slots and a resource), what stands for them in the abstract heap, meanings of expressions and statements as plain functions, and that the layer's judgements follow. -/
namespace M
open PySem PySem.Spec PyProof.Rows L2

/-- data -/
inductive D where
  | non | bl (b : Bool) | int (i : Int) | str (x : Str) | res
  /-- the n-th of the objects that are changed in place -/
  | loc (n : Nat)
  /-- an instance that nothing changes any more: its class, its attributes -/
  | ins (C : Addr) (ns : List Str) (xs : List D)
  | tup (xs : List D) | lst (xs : List D)
  /-- a dict: its keys, its values -/
  | dic (ks : List Key) (xs : List D)
  /-- a dict whose keys are tuples: its keys, its values -/
  | dit (ks : List D) (xs : List D)

/-- the written part of the program: its top's constants -/
class Wrt where
  K : PySem.W.Frag
  w : World
/-- a tuple of the written part -/
def Wr [Wrt] (a : Addr) (xs : List V) : Prop := ∃ (o : Obj) (its : Array Value) (n : Nat), Wrt.K.lookup a = some o ∧ o.cls = .type "tuple" ∧ o.data = .seq its n ∧ its.size ≤ sizeLine ∧ Vals xs its.toList
variable [Wrt]
/-- what is told apart besides: F the objects that are not handed on as data, mu where the objects stand that are changed in place -/
structure Gh where
  F : Addr → Prop
  mu : Nat → Option Addr
instance : CoeFun Gh (fun _ => Addr → Prop) := ⟨Gh.F⟩
def Gh.add (G : Gh) (p : Addr) : Gh := ⟨fun b => G.F b ∨ b = p, G.mu⟩
def Gh.del (G : Gh) (p : Addr) : Gh := ⟨fun b => G.F b ∧ b ≠ p, G.mu⟩
/-- an object that is changed in place stands there -/
def Lcd (G : Gh) (a : Addr) : Prop := (∃ n, G.mu n = some a) ∧ G a
structure Kp (H : Hp) (F : Gh) (H' : Hp) (F' : Gh) : Prop where
  k : ∀ a o, H a = some o → ¬ F a → H' a = some o ∧ ¬ F' a
  m : ∀ n a, F.mu n = some a → F'.mu n = some a
/-- a tuple, its own or written -/
def TupAt (H : Hp) (F : Gh) (a : Addr) (xs : List V) : Prop := (H a = some (.tup xs) ∧ ¬ F a) ∨ Wr a xs
theorem TupAt.sq {H : Hp} {F : Gh} {a : Addr} {xs : List V} (h : TupAt H F a xs) : SqT Wrt.K H a xs := h.elim (fun h => SqT.of h.1) .inr
theorem TupAt.mono {H H' : Hp} {F F' : Gh} (k : Kp H F H' F') {a : Addr} {xs : List V} (h : TupAt H F a xs) : TupAt H' F' a xs := h.elim (fun h => .inl (k.k a _ h.1 h.2)) .inr
theorem TupAt.of {H : Hp} {F : Gh} {a : Addr} {xs : List V} (h : H a = some (.tup xs)) (f : ¬ F a) : TupAt H F a xs := .inl ⟨h, f⟩
mutual
/-- data as a key of a dict -/
def nk : D → Option NestedKey
  | .non => some .none
  | .bl b => some (.num (if b = true then 1 else 0))
  | .int i => some (.num i)
  | .str x => some (.text x)
  | .tup ds => (nks ds).map .tup
  | .res => none
  | .loc _ => none
  | .ins _ _ _ => none
  | .lst _ => none
  | .dic _ _ => none
  | .dit _ _ => none
def nks : List D → Option (List NestedKey)
  | [] => some []
  | d :: ds => match nk d, nks ds with
    | some k, some ks => some (k :: ks)
    | _, _ => none
end
/-- the dict at a: its keys with their places, its values -/
def DitAt (a : Addr) (kas : List (NestedKey × Addr)) (xs : List V) (h : Heap) : Prop := ∃ (vs : List Value) (o : Obj) (es : Array DictEntry) (ep : Nat), Vals xs vs ∧ vs.length = kas.length ∧ h.get? a = some o ∧ o.ExactDict ∧ o.data = .dict es ep ∧
  es.toList = List.zipWith (fun (p : NestedKey × Addr) v => ⟨p.1.hash Wrt.w, .ref p.2, v⟩) kas vs ∧ (a == sysModules) = false
def ditO (a : Addr) (kas : List (NestedKey × Addr)) (xs : List V) : HO := .ext (DitAt a kas xs)
/-- what keys the places stand for -/
structure DitK (ks : List D) (kas : List (NestedKey × Addr)) : Prop where
  ks : ks.map nk = kas.map fun p => some p.1
  nd : (kas.map (·.1)).Nodup
  deep : ∀ p ∈ kas, p.1.depth ≤ 8
  len : kas.length ≤ sizeLine
mutual
/-- d is v, nothing of it among F -/
def Rep (H : Hp) (F : Gh) (rv : V) : D → V → Prop
  | .non, v => v = .non
  | .bl b, v => v = .bl b
  | .int i, v => v = .int i
  | .str x, v => v = .str x
  | .res, v => v = rv
  | .loc n, v => ∃ a, v = .ref a ∧ F.mu n = some a
  | .ins C ns ds, v => ∃ a dx xs, v = .ref a ∧ H a = some (.ins C dx (ns.zip xs)) ∧ ¬ F a ∧ ns.length = ds.length ∧ RepL H F rv ds xs
  | .tup ds, v => ∃ a xs, v = .ref a ∧ TupAt H F a xs ∧ RepL H F rv ds xs
  | .lst ds, v => ∃ a xs, v = .ref a ∧ H a = some (.lst xs) ∧ ¬ F a ∧ RepL H F rv ds xs
  | .dic ks ds, v => ∃ a xs, v = .ref a ∧ H a = some (.dK (ks.zip xs)) ∧ ¬ F a ∧ ks.length = ds.length ∧ RepL H F rv ds xs
  | .dit ks ds, v => ∃ a kas xs, v = .ref a ∧ H a = some (ditO a kas xs) ∧ ¬ F a ∧ DitK ks kas ∧ ks.length = ds.length ∧ RepL H F rv ks (kas.map fun p => V.ref p.2) ∧ RepL H F rv ds xs
def RepL (H : Hp) (F : Gh) (rv : V) : List D → List V → Prop
  | [], vs => vs = []
  | d :: ds, vs => ∃ v r, vs = v :: r ∧ Rep H F rv d v ∧ RepL H F rv ds r
end
/-- the object at a is d (itself among F or not) -/
def RepO (H : Hp) (F : Gh) (rv : V) (d : D) (a : Addr) : Prop :=
  match d with
  | .lst ds => ∃ xs, H a = some (.lst xs) ∧ RepL H F rv ds xs
  | .dic ks ds => ∃ xs, H a = some (.dK (ks.zip xs)) ∧ ks.length = ds.length ∧ RepL H F rv ds xs
  | .dit ks ds => ∃ kas xs, H a = some (ditO a kas xs) ∧ DitK ks kas ∧ ks.length = ds.length ∧ RepL H F rv ks (kas.map fun p => V.ref p.2) ∧ RepL H F rv ds xs
  | _ => False
/-- d is v to be read: a changing object too -/
def Pk (H : Hp) (F : Gh) (rv : V) (d : D) (v : V) : Prop :=
  match d with
  | .lst ds => ∃ a xs, v = .ref a ∧ H a = some (.lst xs) ∧ RepL H F rv ds xs
  | .dic ks ds => ∃ a xs, v = .ref a ∧ H a = some (.dK (ks.zip xs)) ∧ ks.length = ds.length ∧ RepL H F rv ds xs
  | .dit ks ds => ∃ a kas xs, v = .ref a ∧ H a = some (ditO a kas xs) ∧ DitK ks kas ∧ ks.length = ds.length ∧ RepL H F rv ks (kas.map fun p => V.ref p.2) ∧ RepL H F rv ds xs
  | d => Rep H F rv d v

section
variable {H H' : Hp} {F F' : Gh} {rv : V}
mutual
theorem Rep.mono (h : Kp H F H' F') : ∀ {d : D} {v : V}, Rep H F rv d v → Rep H' F' rv d v
  | .non, _, r => by simpa only [Rep] using r
  | .bl _, _, r => by simpa only [Rep] using r
  | .int _, _, r => by simpa only [Rep] using r
  | .str _, _, r => by simpa only [Rep] using r
  | .res, _, r => by simpa only [Rep] using r
  | .loc n, _, r => by
    simp only [Rep] at r ⊢
    obtain ⟨a, e, h1⟩ := r
    exact ⟨a, e, h.m n a h1⟩
  | .ins C ns ds, _, r => by
    simp only [Rep] at r ⊢
    obtain ⟨a, dx, xs, e, ha, hf, hk, hl⟩ := r
    exact ⟨a, dx, xs, e, (h.k a _ ha hf).1, (h.k a _ ha hf).2, hk, RepL.mono h hl⟩
  | .tup ds, _, r => by
    simp only [Rep] at r ⊢
    obtain ⟨a, xs, e, ha, hl⟩ := r
    exact ⟨a, xs, e, ha.mono h, RepL.mono h hl⟩
  | .lst ds, _, r => by
    simp only [Rep] at r ⊢
    obtain ⟨a, xs, e, ha, hf, hl⟩ := r
    exact ⟨a, xs, e, (h.k a _ ha hf).1, (h.k a _ ha hf).2, RepL.mono h hl⟩
  | .dic ks ds, _, r => by
    simp only [Rep] at r ⊢
    obtain ⟨a, xs, e, ha, hf, hk, hl⟩ := r
    exact ⟨a, xs, e, (h.k a _ ha hf).1, (h.k a _ ha hf).2, hk, RepL.mono h hl⟩
  | .dit ks ds, _, r => by
    simp only [Rep] at r ⊢
    obtain ⟨a, kas, xs, e, ha, hf, hk, hn, hl, hm⟩ := r
    exact ⟨a, kas, xs, e, (h.k a _ ha hf).1, (h.k a _ ha hf).2, hk, hn, RepL.mono h hl, RepL.mono h hm⟩
theorem RepL.mono (h : Kp H F H' F') : ∀ {ds : List D} {vs : List V}, RepL H F rv ds vs → RepL H' F' rv ds vs
  | [], _, r => by simpa only [RepL] using r
  | d :: ds, _, r => by
    simp only [RepL] at r ⊢
    obtain ⟨v, t, e, hd, hl⟩ := r
    exact ⟨v, t, e, Rep.mono h hd, RepL.mono h hl⟩
end
theorem RepL.length : ∀ {ds : List D} {vs : List V}, RepL H F rv ds vs → vs.length = ds.length
  | [], _, r => by simp only [RepL] at r; subst r; rfl
  | d :: ds, _, r => by
    simp only [RepL] at r
    obtain ⟨v, t, e, hd, hl⟩ := r
    subst e
    simp only [List.length_cons, RepL.length hl]
theorem RepL.get : ∀ {ds : List D} {vs : List V} {i : Nat} {d : D}, RepL H F rv ds vs → ds[i]? = some d → ∃ v, vs[i]? = some v ∧ Rep H F rv d v
  | [], _, _, _, _, e => by simp at e
  | d :: ds, _, i, d', r, e => by
    simp only [RepL] at r
    obtain ⟨v, t, ev, hd, hl⟩ := r
    subst ev
    cases i with
    | zero =>
      have e2 : d = d' := Option.some.inj e
      subst e2
      exact ⟨v, rfl, hd⟩
    | succ i => exact RepL.get (i := i) hl e
theorem RepL.get' {ds : List D} {vs : List V} {i : Nat} {v : V} (r : RepL H F rv ds vs) (e : vs[i]? = some v) : ∃ d, ds[i]? = some d ∧ Rep H F rv d v := by
  have hi : i < ds.length := by
    rw [← r.length]
    exact (List.getElem?_eq_some_iff.mp e).1
  obtain ⟨v', e', h⟩ := r.get (List.getElem?_eq_getElem hi)
  rw [e] at e'
  cases e'
  exact ⟨_, List.getElem?_eq_getElem hi, h⟩
theorem RepL.append : ∀ {ds es : List D} {vs ws : List V}, RepL H F rv ds vs → RepL H F rv es ws → RepL H F rv (ds ++ es) (vs ++ ws)
  | [], _, _, _, r, q => by
    simp only [RepL] at r; subst r; exact q
  | d :: ds, es, _, ws, r, q => by
    simp only [RepL] at r
    obtain ⟨v, t, ev, hd, hl⟩ := r
    subst ev
    show RepL H F rv (d :: (ds ++ es)) (v :: (t ++ ws))
    simp only [RepL]
    exact ⟨v, _, rfl, hd, RepL.append hl q⟩
theorem RepL.take : ∀ {ds : List D} {vs : List V} (n : Nat), RepL H F rv ds vs → RepL H F rv (ds.take n) (vs.take n)
  | [], _, n, r => by simp only [RepL] at r; subst r; simp [RepL]
  | d :: ds, _, 0, r => by simp [RepL]
  | d :: ds, _, n + 1, r => by
    simp only [RepL] at r
    obtain ⟨v, t, ev, hd, hl⟩ := r
    subst ev
    simp only [List.take_succ_cons, RepL]
    exact ⟨v, _, rfl, hd, RepL.take n hl⟩
theorem RepL.drop : ∀ {ds : List D} {vs : List V} (n : Nat), RepL H F rv ds vs → RepL H F rv (ds.drop n) (vs.drop n)
  | [], _, n, r => by simp only [RepL] at r; subst r; simp [RepL]
  | d :: ds, _, 0, r => by simpa using r
  | d :: ds, _, n + 1, r => by
    simp only [RepL] at r
    obtain ⟨v, t, ev, hd, hl⟩ := r
    subst ev
    simpa using RepL.drop n hl
theorem RepL.set : ∀ {ds : List D} {vs : List V} {d : D} {v : V} (n : Nat), Rep H F rv d v → RepL H F rv ds vs → RepL H F rv (ds.set n d) (vs.set n v)
  | [], _, _, _, n, _, r => by simp only [RepL] at r; subst r; simp [RepL]
  | d :: ds, _, _, _, 0, q, r => by
    simp only [RepL] at r
    obtain ⟨v, t, ev, hd, hl⟩ := r
    subst ev
    simp only [List.set_cons_zero, RepL]
    exact ⟨_, _, rfl, q, hl⟩
  | d :: ds, _, _, _, n + 1, q, r => by
    simp only [RepL] at r
    obtain ⟨v, t, ev, hd, hl⟩ := r
    subst ev
    simp only [List.set_cons_succ, RepL]
    exact ⟨_, _, rfl, hd, RepL.set n q hl⟩
theorem RepL.reverse : ∀ {ds : List D} {vs : List V}, RepL H F rv ds vs → RepL H F rv ds.reverse vs.reverse
  | [], _, r => by simp only [RepL] at r; subst r; simp [RepL]
  | d :: ds, _, r => by
    simp only [RepL] at r
    obtain ⟨v, t, ev, hd, hl⟩ := r
    subst ev
    simp only [List.reverse_cons]
    refine RepL.append (RepL.reverse hl) ?_
    simp only [RepL]
    exact ⟨v, [], rfl, hd, rfl⟩
theorem RepL.ints : ∀ {ns : List Int}, RepL H F rv (ns.map D.int) (ns.map V.int)
  | [] => by simp [RepL]
  | n :: ns => by
    simp only [List.map_cons, RepL]
    exact ⟨_, _, rfl, by simp [Rep], RepL.ints⟩
theorem RepL.nil : RepL H F rv [] [] := by simp [RepL]
theorem RepL.cons {d : D} {ds : List D} {v : V} {vs : List V} (h : Rep H F rv d v) (t : RepL H F rv ds vs) : RepL H F rv (d :: ds) (v :: vs) := by
  simp only [RepL]; exact ⟨v, vs, rfl, h, t⟩
theorem Rep.pk {d : D} {v : V} (r : Rep H F rv d v) : Pk H F rv d v := by
  cases d with
  | lst ds =>
    simp only [Rep] at r
    obtain ⟨a, xs, e, h, _, l⟩ := r
    exact ⟨a, xs, e, h, l⟩
  | dic ks ds =>
    simp only [Rep] at r
    obtain ⟨a, xs, e, h, _, hk, l⟩ := r
    exact ⟨a, xs, e, h, hk, l⟩
  | dit ks ds =>
    simp only [Rep] at r
    obtain ⟨a, kas, xs, e, h, _, l⟩ := r
    exact ⟨a, kas, xs, e, h, l⟩
  | _ => exact r
theorem RepO.pk {d : D} {a : Addr} (r : RepO H F rv d a) : Pk H F rv d (.ref a) := by
  cases d with
  | lst ds =>
    obtain ⟨xs, h, l⟩ := r
    exact ⟨a, xs, rfl, h, l⟩
  | dic ks ds =>
    obtain ⟨xs, h, hk, l⟩ := r
    exact ⟨a, xs, rfl, h, hk, l⟩
  | dit ks ds =>
    obtain ⟨kas, xs, h, l⟩ := r
    exact ⟨a, kas, xs, rfl, h, l⟩
  | _ => exact r.elim
theorem RepO.rep {d : D} {a : Addr} (r : RepO H F rv d a) (hf : ¬ F a) : Rep H F rv d (.ref a) := by
  cases d with
  | lst ds =>
    obtain ⟨xs, h, l⟩ := r
    simp only [Rep]
    exact ⟨a, xs, rfl, h, hf, l⟩
  | dic ks ds =>
    obtain ⟨xs, h, hk, l⟩ := r
    simp only [Rep]
    exact ⟨a, xs, rfl, h, hf, hk, l⟩
  | dit ks ds =>
    obtain ⟨kas, xs, h, l⟩ := r
    simp only [Rep]
    exact ⟨a, kas, xs, rfl, h, hf, l⟩
  | _ => exact r.elim
theorem RepO.there {d : D} {a : Addr} (r : RepO H F rv d a) : ∃ o, H a = some o := by
  cases d with
  | lst ds =>
    obtain ⟨xs, h, _⟩ := r
    exact ⟨_, h⟩
  | dic ks ds =>
    obtain ⟨xs, h, _⟩ := r
    exact ⟨_, h⟩
  | dit ks ds =>
    obtain ⟨kas, xs, h, _⟩ := r
    exact ⟨_, h⟩
  | _ => exact r.elim
theorem RepO.mono {d : D} {a : Addr} (h : Kp H F H' F') (e : ∀ o, H a = some o → H' a = some o) (r : RepO H F rv d a) : RepO H' F' rv d a := by
  cases d with
  | lst ds =>
    obtain ⟨xs, q, l⟩ := r
    exact ⟨xs, e _ q, l.mono h⟩
  | dic ks ds =>
    obtain ⟨xs, q, hk, l⟩ := r
    exact ⟨xs, e _ q, hk, l.mono h⟩
  | dit ks ds =>
    obtain ⟨kas, xs, q, hk, hn, l, m⟩ := r
    exact ⟨kas, xs, e _ q, hk, hn, l.mono h, m.mono h⟩
  | _ => exact r.elim
end

/-! ### a resource: an object whose state is told apart -/
structure Res (β : Type) where
  val : V
  foot : Addr → Prop
  rel : β → Hp → Prop
  keep : ∀ b H H', rel b H → (∀ a o, foot a → H a = some o → H' a = some o) → rel b H'
  there : ∀ b H a, rel b H → foot a → ∃ o, H a = some o

/-- an object that is changed in place: a list, a dict; an instance of the class at C with its attributes -/
inductive Ob where
  | dat (d : D) | ins (C : Addr) (ns : List Str) (xs : List D)
  /-- handed on as data since -/
  | gone
/-- the objects in a state that are changed in place -/
class Sto (β : Type) where
  sto : β → List Ob
/-- .. that can be written -/
class SPut (β : Type) [Sto β] where
  put : β → List Ob → β
  sto_put : ∀ (b : β) (s : List Ob), Sto.sto (put b s) = s
/-- which resources go with a state -/
class Kind (β : Type) [Sto β] where
  kd : Res β → Prop
def ObR (rv : V) (F : Gh) (H : Hp) : Ob → Addr → Prop
  | .dat d, a => RepO H F rv d a
  | .ins C ns ds, a => ∃ dx xs, H a = some (.ins C dx (ns.zip xs)) ∧ ns.length = ds.length ∧ RepL H F rv ds xs
  | .gone, _ => True
structure StoR {β : Type} (S : Res β) (F : Gh) (H : Hp) (s : List Ob) : Prop where
  at_ : ∀ n o, s[n]? = some o → ∃ a, F.mu n = some a ∧ ObR S.val F H o a ∧ (o ≠ .gone → F a)
  out : ∀ n, s.length ≤ n → F.mu n = none
  inj : ∀ n m a, F.mu n = some a → F.mu m = some a → n = m
  f : ∀ n a, F.mu n = some a → ¬ S.foot a
  th : ∀ n a, F.mu n = some a → ∃ o, H a = some o
theorem ObR.mono {rv : V} {H H' : Hp} {F F' : Gh} (h : Kp H F H' F') {o : Ob} {a : Addr} (e : o ≠ .gone → ∀ u, H a = some u → H' a = some u) (r : ObR rv F H o a) : ObR rv F' H' o a := by
  cases o with
  | dat d => exact RepO.mono h (e (fun z => nomatch z)) r
  | ins C ns fs =>
    obtain ⟨dx, xs, h1, hk, h2⟩ := r
    exact ⟨dx, xs, e (fun z => nomatch z) _ h1, hk, h2.mono h⟩
  | gone => trivial
/-- the objects changed in place stand as they stood -/
theorem StoR.mono {β : Type} {S : Res β} {F F' : Gh} {H H' : Hp} {s : List Ob} (r : StoR S F H s) (h : Kp H F H' F') (hm : F'.mu = F.mu) (hf : ∀ a, Lcd F a → F' a) (d : ∀ a o, H a = some o → ∃ o', H' a = some o') (k : ∀ a o, Lcd F a → H a = some o → H' a = some o) : StoR S F' H' s :=
  ⟨fun n o e => let ⟨a, e1, e2, e3⟩ := r.at_ n o e
    ⟨a, by rw [hm]; exact e1, e2.mono h fun hg u hu => k a u ⟨⟨n, e1⟩, e3 hg⟩ hu, fun hg => hf a ⟨⟨n, e1⟩, e3 hg⟩⟩, fun n hn => by rw [hm]; exact r.out n hn, fun n m a => by rw [hm]; exact r.inj n m a, fun n a e => by
    rw [hm] at e
    exact r.f n a e, fun n a e => by
    rw [hm] at e
    obtain ⟨o, h⟩ := r.th n a e
    exact d a o h⟩

/-- a slot -/
inductive Sl where
  | no | val (d : D) | own (d : D) | lock (d : D)
structure Sta (β : Type) where
  env : List Sl
  bag : β
/-- an expression's result: data, a new object that changes, the slot i -/
inductive R where
  | val (d : D) | new (d : D) | at (i : Nat)
  /-- the n-th of the objects that are changed in place, to be looked into -/
  | loc (n : Nat)

/-- what is fixed in a body: the entry's heap, what may not be handed on -/
structure C (β : Type) [Sto β] [Kind β] where
  R : Res β
  kd : Kind.kd R
  H0 : Hp
  F0 : Gh
  fs : ∀ a, F0 a → ∃ o, H0 a = some o
  foot : ∀ a, R.foot a → F0 a
  loc : ∀ a, Lcd F0 a → F0 a

variable {β : Type} [Sto β] [Kind β]
/-- what may have changed since the entry, of what stood then -/
def C.ft (c : C β) (a : Addr) : Prop := c.R.foot a ∨ Lcd c.F0 a
def RelSl (c : C β) (F : Gh) (H : Hp) : Sl → Option (Option V) → Prop
  | .no, _ => True
  | .val d, o => ∃ v, o = some (some v) ∧ Rep H F c.R.val d v
  | .own d, o => ∃ a, o = some (some (.ref a)) ∧ RepO H F c.R.val d a ∧ F a ∧ c.H0 a = none
  | .lock d, o => ∃ a, o = some (some (.ref a)) ∧ RepO H F c.R.val d a ∧ ¬ c.ft a ∧ ∃ o, c.H0 a = some o
def Own (st : Sta β) (σ : L2.St) (a : Addr) : Prop := ∃ (i : Nat) (d : D), st.env[i]? = some (Sl.own d) ∧ σ[i]? = some (some (.ref a))
/-- owned by a slot, or changed in place -/
def Bsy (st : Sta β) (σ : L2.St) (F : Gh) (a : Addr) : Prop := Own st σ a ∨ Lcd F a
structure Rel (c : C β) (F : Gh) (st : Sta β) (σ : L2.St) (H : Hp) : Prop where
  len : st.env.length = σ.length
  slot : ∀ (i : Nat) (s : Sl), st.env[i]? = some s → RelSl c F H s σ[i]?
  uniq : ∀ (i j : Nat) (d e : D), st.env[i]? = some (Sl.own d) → st.env[j]? = some (Sl.own e) → σ[i]? = σ[j]? → i = j
  base : ∀ a o, c.H0 a = some o → ¬ c.ft a → H a = some o
  bag : c.R.rel st.bag H
  f0 : ∀ a, c.F0 a → F a
  fs : ∀ a, F a → ∃ o, H a = some o
  nl : ∀ a, Own st σ a → ¬ Lcd F a
  mu0 : ∀ n a, c.F0.mu n = some a → F.mu n = some a
  ln : ∀ a, Lcd F a → Lcd c.F0 a ∨ c.H0 a = none
  sto : StoR c.R F H (Sto.sto st.bag)
structure Stp (c : C β) (σ : L2.St) (F : Gh) (st : Sta β) (H : Hp) (F' : Gh) (st' : Sta β) (H' : Hp) : Prop where
  rel : Rel c F' st' σ H'
  fr : ∀ a o, H a = some o → ¬ c.R.foot a → ¬ Bsy st σ F a → H' a = some o ∧ (F' a ↔ F a)
  own : ∀ a, Own st' σ a → Own st σ a
  dom : ∀ a o, H a = some o → ∃ o', H' a = some o'
  mus : ∀ n a, F.mu n = some a → F'.mu n = some a
  lo : ∀ a, Lcd F' a → Lcd F a ∨ Own st σ a ∨ H a = none
/-- Hs: the heap ahead -/
def RepR (c : C β) (σ : L2.St) (Hs : Hp) (F : Gh) (H : Hp) (st : Sta β) : R → V → Prop
  | .val d, v => Rep H F c.R.val d v
  | .new d, v => ∃ a, v = .ref a ∧ RepO H F c.R.val d a ∧ F a ∧ Hs a = none ∧ ¬ Bsy st σ F a
  | .at i, v => σ[i]? = some (some v)
  | .loc n, v => Rep H F c.R.val (.loc n) v

section
variable {c : C β} {F F1 F2 F' : Gh} {st st1 st2 st' : Sta β} {σ : L2.St} {H H1 H2 H' Hs : Hp}
theorem Rel.own_f (r : Rel c F st σ H) {a : Addr} (h : Own st σ a) : F a ∧ c.H0 a = none ∧ ∃ o, H a = some o := by
  obtain ⟨i, d, e, q⟩ := h
  have := r.slot i _ e
  simp only [RelSl] at this
  obtain ⟨b, e2, h1, h2, h3⟩ := this
  rw [q] at e2
  cases e2
  exact ⟨h2, h3, h1.there⟩
theorem Rel.own_foot (r : Rel c F st σ H) {a : Addr} (h : Own st σ a) : ¬ c.R.foot a := fun hf => by
  obtain ⟨o, e⟩ := c.fs a (c.foot a hf)
  rw [(r.own_f h).2.1] at e
  cases e
theorem Rel.loc_f (r : Rel c F st σ H) {a : Addr} (h : Lcd F a) : F a ∧ ¬ c.R.foot a ∧ ∃ o, H a = some o := by
  obtain ⟨⟨n, e⟩, hf⟩ := h
  exact ⟨hf, r.sto.f n a e, r.fs a hf⟩
theorem Rel.bsy_f (r : Rel c F st σ H) {a : Addr} (h : Bsy st σ F a) : F a ∧ ¬ c.R.foot a ∧ ∃ o, H a = some o := by
  rcases h with h | h
  · exact ⟨(r.own_f h).1, r.own_foot h, (r.own_f h).2.2⟩
  · exact r.loc_f h
theorem Stp.refl (r : Rel c F st σ H) : Stp c σ F st H F st H := ⟨r, fun _ _ h _ _ => ⟨h, Iff.rfl⟩, fun _ h => h, fun _ o h => ⟨o, h⟩, fun _ _ h => h, fun _ h => .inl h⟩
theorem Stp.bsy (s : Stp c σ F st H F' st' H') {a : Addr} {o : HO} (h : H a = some o) (z : Bsy st' σ F' a) : Bsy st σ F a := by
  rcases z with z | z
  · exact .inl (s.own a z)
  · rcases s.lo a z with z | z | z
    · exact .inr z
    · exact .inl z
    · rw [h] at z; cases z
theorem Stp.gone (a : Stp c σ F st H F' st' H') {x : Addr} (h : H' x = none) : H x = none := by
  cases q : H x with
  | none => rfl
  | some o =>
    obtain ⟨o', e⟩ := a.dom x o q
    rw [h] at e
    cases e
theorem Stp.trans (a : Stp c σ F st H F1 st1 H1) (b : Stp c σ F1 st1 H1 F2 st2 H2) : Stp c σ F st H F2 st2 H2 :=
  ⟨b.rel, fun x o h hf ho => by
    obtain ⟨h1, i1⟩ := a.fr x o h hf ho
    obtain ⟨h2, i2⟩ := b.fr x o h1 hf fun z => ho (a.bsy h z)
    exact ⟨h2, i2.trans i1⟩, fun x z => a.own x (b.own x z), fun x o h => by
    obtain ⟨o', h'⟩ := a.dom x o h
    exact b.dom x o' h', fun n x h => b.mus n x (a.mus n x h), fun x h => by
    rcases b.lo x h with h | h | h
    · exact a.lo x h
    · exact .inr (.inl (a.own x h))
    · exact .inr (.inr (a.gone h))⟩
theorem Stp.pers (r : Rel c F st σ H) (a : Stp c σ F st H F' st' H') : Kp H F H' F' := ⟨fun x o h hf => by
  obtain ⟨h1, i⟩ := a.fr x o h (fun z => hf (r.f0 x (c.foot x z))) fun z => hf (r.bsy_f z).1
  exact ⟨h1, fun z => hf (i.mp z)⟩, a.mus⟩
theorem Stp.rep (r : Rel c F st σ H) (a : Stp c σ F st H F' st' H') {rv : V} {d : D} {v : V} (h : Rep H F rv d v) : Rep H' F' rv d v := h.mono (a.pers r)
/-- an earlier result behind a further step -/
theorem RepR.stp (rl : Rel c F st σ H) (a : Stp c σ F st H F' st' H') {r : R} {v : V} (h : RepR c σ Hs F H st r v) (hs : ∀ x, Hs x = none → ¬ c.R.foot x := by exact fun _ _ => by assumption) : RepR c σ Hs F' H' st' r v := by
  cases r with
  | val d => exact a.rep rl h
  | new d =>
    obtain ⟨x, e, ho, hf, hn, hw⟩ := h
    obtain ⟨o, q⟩ := ho.there
    obtain ⟨h1, i⟩ := a.fr x o q (hs x hn) hw
    refine ⟨x, e, ho.mono (a.pers rl) (fun o' q' => ?_), i.mpr hf, hn, fun z => hw (a.bsy q z)⟩
    rw [q] at q'
    cases q'
    exact h1
  | «at» i => exact h
  | loc n => exact Rep.mono (a.pers rl) h
theorem Rel.nofoot (r : Rel c F st σ H) {x : Addr} (h : H x = none) : ¬ c.R.foot x := fun z => by
  obtain ⟨o, e⟩ := c.R.there _ _ _ r.bag z
  rw [h] at e
  cases e
theorem Rel.noloc (r : Rel c F st σ H) {x : Addr} (h : H x = none) : ¬ Lcd F x := fun z => by
  obtain ⟨o, e⟩ := (r.loc_f z).2.2
  rw [h] at e
  cases e
theorem Rel.nobsy (r : Rel c F st σ H) {x : Addr} (h : H x = none) : ¬ Bsy st σ F x := fun z => by
  obtain ⟨o, e⟩ := (r.bsy_f z).2.2
  rw [h] at e
  cases e
theorem Rel.nomu (r : Rel c F st σ H) {x : Addr} (h : H x = none) : ∀ n, F.mu n ≠ some x := fun n z => by
  obtain ⟨o, e⟩ := r.sto.th n x z
  rw [h] at e
  cases e
theorem Rel.nobsyA (r : Rel c F st σ H) {x : Addr} (h : H x = none) : ¬ Bsy st σ (F.add x) x := fun z => by
  rcases z with z | ⟨⟨n, z⟩, _⟩
  · exact r.nobsy h (.inl z)
  · exact r.nomu h n z
theorem Rel.noft (r : Rel c F st σ H) {x : Addr} (h : H x = none) : ¬ c.ft x := fun z => by
  rcases z with z | ⟨⟨n, z⟩, hf⟩
  · exact r.nofoot h z
  · exact r.noloc h ⟨⟨n, r.mu0 n x z⟩, r.f0 x hf⟩
theorem Rel.h0 (r : Rel c F st σ H) {x : Addr} (h : H x = none) : c.H0 x = none := by
  cases q : c.H0 x with
  | none => rfl
  | some o =>
    have := r.base x o q (r.noft h)
    rw [h] at this
    cases this
/-- the caller's list is not changed in place -/
theorem Rel.lock_loc (r : Rel c F st σ H) {a : Addr} (h : ¬ c.ft a) (h0 : ∃ o, c.H0 a = some o) : ¬ Lcd F a := fun z => by
  rcases r.ln a z with z | z
  · exact h (.inr z)
  · obtain ⟨o, e⟩ := h0
    rw [z] at e
    cases e
theorem RepR.hs {Hs' : Hp} (h : ∀ x, Hs x = none → Hs' x = none) {r : R} {v : V} (q : RepR c σ Hs F H st r v) : RepR c σ Hs' F H st r v := by
  cases r with
  | val d => exact q
  | new d =>
    obtain ⟨x, e, ho, hf, hn, hw⟩ := q
    exact ⟨x, e, ho, hf, h x hn, hw⟩
  | «at» i => exact q
  | loc n => exact q
end
end M

/-! MRule: the readings that the meanings give, and one rule for each construct of expressions. -/
namespace M
open PySem PySem.Spec PyProof.Rows L2
variable [Wrt]
variable {β : Type} [Sto β] [Kind β]

/-! ### consequence -/
section
variable {X : Cx}
theorem peI {e : Expr} {t t' : TE} (h : PE X e t) (hi : ∀ σ H Q, t' σ H Q → t σ H Q) : PE X e t' := ⟨fun pins s σ H Q I q => h.run pins s σ H Q I (hi σ H Q q)⟩
theorem ptI {e : Expr} {t t' : TT} (h : PT X e t) (hi : ∀ σ H Q, t' σ H Q → t σ H Q) : PT X e t' := ⟨fun pins s σ H Q I q => h.run pins s σ H Q I (hi σ H Q q)⟩
theorem pwI {e : Expr} {t t' : TT} (h : PW X e t) (hi : ∀ σ H Q, t' σ H Q → t σ H Q) : PW X e t' := ⟨fun wh pins s σ H Q I q => h.run wh pins s σ H Q I (hi σ H Q q)⟩
theorem paI {es : List Expr} {t t' : TA} (h : PA X es t) (hi : ∀ σ H Q, t' σ H Q → t σ H Q) : PA X es t' := ⟨fun pos pins s σ H Q I q => h.run pos pins s σ H Q I (hi σ H Q q)⟩
theorem pkI {es : List Keyword} {t t' : TA} (h : PK X es t) (hi : ∀ σ H Q, t' σ H Q → t σ H Q) : PK X es t' := ⟨fun pos pins s σ H Q I q => h.run pos pins s σ H Q I (hi σ H Q q)⟩
theorem psI {e : Stmt} {t t' : TS} (h : PS X e t) (hi : ∀ D σ H, t' D σ H → t D σ H) : PS X e t' := ⟨fun pins s σ H D I q => h.run pins s σ H D I (hi D σ H q)⟩
theorem pssI {e : List Stmt} {t t' : TS} (h : PSs X e t) (hi : ∀ D σ H, t' D σ H → t D σ H) : PSs X e t' := ⟨fun pins s σ H D I q => h.run pins s σ H D I (hi D σ H q)⟩
theorem poI {e : Option Expr} {t t' : TO} (h : PO X e t) (hi : ∀ σ H Q, t' σ H Q → t σ H Q) : PO X e t' := ⟨fun pins s σ H Q I q => h.run pins s σ H Q I (hi σ H Q q)⟩
end

/-! ### results read, results handed on -/
abbrev Mn (β α : Type) := Sta β → Option (α × Sta β)
def pk (r : R) (st : Sta β) : Option D := match r with
  | .val d => some d
  | .new d => some d
  | .at i => match st.env[i]? with
    | some (.val d) => some d
    | some (.own d) => some d
    | some (.lock d) => some d
    | _ => none
  | .loc n => match (Sto.sto st.bag)[n]? with
    | some (.dat d) => some d
    | _ => none
def pkL : List R → Sta β → Option (List D)
  | [], _ => some []
  | r :: rs, st => match pk r st with
    | none => none
    | some d => match pkL rs st with
      | none => none
      | some ds => some (d :: ds)
/-- as data that nothing changes any more -/
def toD (r : R) (st : Sta β) : Option (D × Sta β) := match r with
  | .val d => some (d, st)
  | .new d => some (d, st)
  | .at i => match st.env[i]? with
    | some (.val d) => some (d, st)
    | some (.own d) => some (d, { st with env := st.env.set i (.val d) })
    | _ => none
  | .loc n => some (.loc n, st)
/-- as an argument -/
def toSl (r : R) (st : Sta β) : Option Sl := match r with
  | .val d => some (.val d)
  | .new d => some (.lock d)
  | .at i => match st.env[i]? with
    | some (.val d) => some (.val d)
    | some (.own d) => some (.lock d)
    | some (.lock d) => some (.lock d)
    | _ => none
  | .loc n => some (.val (.loc n))
def toSlL : List R → Sta β → Option (List Sl)
  | [], _ => some []
  | r :: rs, st => match toSl r st with
    | none => none
    | some d => match toSlL rs st with
      | none => none
      | some ds => some (d :: ds)
def PkL (H : Hp) (F : Gh) (rv : V) : List D → List V → Prop
  | [], vs => vs = []
  | d :: ds, vs => ∃ v r, vs = v :: r ∧ Pk H F rv d v ∧ PkL H F rv ds r
def RepRs (c : C β) (σ : L2.St) (Hs : Hp) (F : Gh) (H : Hp) (st : Sta β) : List R → List V → Prop
  | [], vs => vs = []
  | d :: ds, vs => ∃ v r, vs = v :: r ∧ RepR c σ Hs F H st d v ∧ RepRs c σ Hs F H st ds r
/-- what a def may change -/
def Ft {β : Type} (S : Res β) (F : Gh) (a : Addr) : Prop := S.foot a ∨ Lcd F a
/-- an argument as it comes to a def -/
def ArgR (foot : Addr → Prop) (rv : V) (H : Hp) (F : Gh) : Sl → V → Prop
  | .val d, v => Rep H F rv d v
  | .lock d, v => ∃ a, v = .ref a ∧ RepO H F rv d a ∧ ¬ foot a
  | _, _ => False
def ArgRs (foot : Addr → Prop) (rv : V) (H : Hp) (F : Gh) : List Sl → List V → Prop
  | [], vs => vs = []
  | d :: ds, vs => ∃ v r, vs = v :: r ∧ ArgR foot rv H F d v ∧ ArgRs foot rv H F ds r

section
variable {c : C β} {F F' : Gh} {st st' : Sta β} {σ : L2.St} {H H' Hs : Hp}
theorem pk_ok (rl : Rel c F st σ H) {r : R} {v : V} {d : D} (h : RepR c σ Hs F H st r v) (e : pk r st = some d) : Pk H F c.R.val d v := by
  cases r with
  | val d' => simp only [pk, Option.some.injEq] at e; subst e; exact Rep.pk h
  | new d' =>
    simp only [pk, Option.some.injEq] at e
    subst e
    obtain ⟨a, e, ho, _⟩ := h
    subst e
    exact ho.pk
  | «at» i =>
    simp only [pk] at e
    have h' : σ[i]? = some (some v) := h
    cases q : st.env[i]? with
    | none => rw [q] at e; cases e
    | some s =>
      have hs := rl.slot i s q
      rw [h'] at hs
      rw [q] at e
      cases s with
      | no => cases e
      | val d' =>
        simp only [Option.some.injEq] at e
        subst e
        obtain ⟨v', e', hr⟩ := hs
        cases e'
        exact hr.pk
      | own d' =>
        simp only [Option.some.injEq] at e
        subst e
        obtain ⟨v', e', hr, _⟩ := hs
        cases e'
        exact hr.pk
      | lock d' =>
        simp only [Option.some.injEq] at e
        subst e
        obtain ⟨v', e', hr, _⟩ := hs
        cases e'
        exact hr.pk
  | loc n =>
    simp only [pk] at e
    split at e
    · rename_i d' q
      simp only [Option.some.injEq] at e
      subst e
      have h' : Rep H F c.R.val (.loc n) v := h
      simp only [Rep] at h'
      obtain ⟨a, rfl, hm⟩ := h'
      obtain ⟨b, e1, e2, _⟩ := rl.sto.at_ n _ q
      rw [hm] at e1
      cases e1
      exact RepO.pk e2
    · cases e
theorem pkL_ok (rl : Rel c F st σ H) : ∀ {rs : List R} {vs : List V} {ds : List D}, RepRs c σ Hs F H st rs vs → pkL rs st = some ds → PkL H F c.R.val ds vs
  | [], _, _, h, e => by
    simp only [pkL, Option.some.injEq] at e
    subst e
    exact h
  | r :: rs, _, _, h, e => by
    obtain ⟨v, t, ev, h1, h2⟩ := h
    simp only [pkL] at e
    cases q : pk r st with
    | none => rw [q] at e; cases e
    | some d =>
      rw [q] at e
      cases q2 : pkL rs st with
      | none => rw [q2] at e; cases e
      | some ds =>
        rw [q2] at e
        simp only [Option.some.injEq] at e
        subst e
        exact ⟨v, t, ev, pk_ok rl h1 q, pkL_ok rl h2 q2⟩
theorem toSl_ok (rl : Rel c F st σ H) {r : R} {v : V} {d : Sl} (hs : ∀ x, Hs x = none → ¬ c.R.foot x) (h : RepR c σ Hs F H st r v) (e : toSl r st = some d) : ArgR (Ft c.R F) c.R.val H F d v := by
  cases r with
  | val d' => simp only [toSl, Option.some.injEq] at e; subst e; exact h
  | new d' =>
    simp only [toSl, Option.some.injEq] at e
    subst e
    obtain ⟨a, e, ho, _, hn, hw⟩ := h
    exact ⟨a, e, ho, fun z => z.elim (hs a hn) fun z => hw (.inr z)⟩
  | «at» i =>
    simp only [toSl] at e
    have h' : σ[i]? = some (some v) := h
    cases q : st.env[i]? with
    | none => rw [q] at e; cases e
    | some s =>
      have hsl := rl.slot i s q
      have hw : ∀ a d, s = .own d → σ[i]? = some (some (.ref a)) → Own st σ a := fun a d e1 e2 => ⟨i, d, by rw [q, e1], e2⟩
      rw [h'] at hsl
      rw [q] at e
      cases s with
      | no => cases e
      | val d' =>
        simp only [Option.some.injEq] at e
        subst e
        obtain ⟨v', e', hr⟩ := hsl
        cases e'
        exact hr
      | own d' =>
        simp only [Option.some.injEq] at e
        subst e
        obtain ⟨a, e', hr, _, _⟩ := hsl
        cases e'
        exact ⟨a, rfl, hr, fun z => z.elim (rl.own_foot (hw a d' rfl h')) (rl.nl a (hw a d' rfl h'))⟩
      | lock d' =>
        simp only [Option.some.injEq] at e
        subst e
        obtain ⟨a, e', hr, hf, h0⟩ := hsl
        cases e'
        exact ⟨a, rfl, hr, fun z => z.elim (fun z => hf (.inl z)) (rl.lock_loc hf h0)⟩
  | loc n =>
    simp only [toSl, Option.some.injEq] at e
    subst e
    exact h
theorem toSlL_ok (rl : Rel c F st σ H) (hs : ∀ x, Hs x = none → ¬ c.R.foot x) : ∀ {rs : List R} {vs : List V} {ds : List Sl}, RepRs c σ Hs F H st rs vs → toSlL rs st = some ds → ArgRs (Ft c.R F) c.R.val H F ds vs
  | [], _, _, h, e => by
    simp only [toSlL, Option.some.injEq] at e
    subst e
    exact h
  | r :: rs, _, _, h, e => by
    obtain ⟨v, t, ev, h1, h2⟩ := h
    simp only [toSlL] at e
    cases q : toSl r st with
    | none => rw [q] at e; cases e
    | some d =>
      rw [q] at e
      cases q2 : toSlL rs st with
      | none => rw [q2] at e; cases e
      | some ds =>
        rw [q2] at e
        simp only [Option.some.injEq] at e
        subst e
        exact ⟨v, t, ev, toSl_ok rl hs h1 q, toSlL_ok rl hs h2 q2⟩
theorem set_own {i j : Nat} {s : Sl} {d : D} (h : (st.env.set i s)[j]? = some (.own d)) (hs : ∀ d, s ≠ .own d) : i ≠ j ∧ st.env[j]? = some (.own d) := by
  by_cases e : i = j
  · subst e
    by_cases hi : i < st.env.length
    · rw [List.getElem?_set_self hi] at h
      cases h
      exact absurd rfl (hs d)
    · rw [List.getElem?_eq_none (by simpa using hi)] at h
      cases h
  · rw [List.getElem?_set_ne e] at h
    exact ⟨e, h⟩
/-- a result handed on as data -/
theorem toD_ok {F1 : Gh} {st1 st2 : Sta β} {H1 : Hp} (r0 : Rel c F st σ H) (s : Stp c σ F st H F1 st1 H1) {r : R} {v : V} {d : D} (h : RepR c σ H F1 H1 st1 r v) (e : toD r st1 = some (d, st2)) :
    ∃ F2, Stp c σ F st H F2 st2 H1 ∧ Rep H1 F2 c.R.val d v := by
  cases r with
  | val d' =>
    simp only [toD, Option.some.injEq, Prod.mk.injEq] at e
    obtain ⟨rfl, rfl⟩ := e
    exact ⟨F1, s, h⟩
  | new d' =>
    simp only [toD, Option.some.injEq, Prod.mk.injEq] at e
    obtain ⟨rfl, rfl⟩ := e
    obtain ⟨a, rfl, ho, hf, hn, hw⟩ := h
    have wk : Kp H1 F1 H1 (F1.del a) := ⟨fun b o q q2 => ⟨q, fun z => q2 z.1⟩, fun _ _ h => h⟩
    refine ⟨F1.del a, ⟨⟨s.rel.len, fun i sl hi => ?_, s.rel.uniq, s.rel.base, s.rel.bag, fun b hb => ⟨s.rel.f0 b hb, ?_⟩, fun b hb => s.rel.fs b hb.1, (fun b hb z => s.rel.nl b hb ⟨z.1, z.2.1⟩), s.rel.mu0, (fun b z => s.rel.ln b ⟨z.1, z.2.1⟩), s.rel.sto.mono wk rfl (fun b hb => ⟨(s.rel.loc_f hb).1, fun z => hw (.inr (z ▸ hb))⟩) (fun _ o h => ⟨o, h⟩) (fun _ _ _ h => h)⟩, fun b o q q1 q2 => ?_, s.own, s.dom, s.mus, (fun b z => s.lo b ⟨z.1, z.2.1⟩)⟩, RepO.rep (ho.mono wk fun _ z => z) fun z => z.2 rfl⟩
    · have q := s.rel.slot i sl hi
      cases sl with
      | no => trivial
      | val d => obtain ⟨v, e, hr⟩ := q; exact ⟨v, e, hr.mono wk⟩
      | own d =>
        obtain ⟨x, e, hr, hx, h0⟩ := q
        exact ⟨x, e, hr.mono wk fun _ z => z, ⟨hx, fun z => hw (.inl ⟨i, d, hi, by rw [e, z]⟩)⟩, h0⟩
      | lock d => obtain ⟨x, e, hr, hx⟩ := q; exact ⟨x, e, hr.mono wk (fun _ z => z), hx⟩
    · intro z
      subst z
      obtain ⟨o, q⟩ := c.fs b hb
      rw [r0.h0 hn] at q
      cases q
    · obtain ⟨h1, i1⟩ := s.fr b o q q1 q2
      refine ⟨h1, ⟨fun z => i1.mp z.1, fun z => ⟨i1.mpr z, fun z2 => ?_⟩⟩⟩
      subst z2
      rw [hn] at q
      cases q
  | «at» i =>
    simp only [toD] at e
    have h' : σ[i]? = some (some v) := h
    cases q : st1.env[i]? with
    | none => rw [q] at e; cases e
    | some sl =>
      have hsl := s.rel.slot i sl q
      rw [h'] at hsl
      rw [q] at e
      cases sl with
      | no => cases e
      | lock d' => cases e
      | val d' =>
        simp only [Option.some.injEq, Prod.mk.injEq] at e
        obtain ⟨rfl, rfl⟩ := e
        obtain ⟨v', e', hr⟩ := hsl
        cases e'
        exact ⟨F1, s, hr⟩
      | own d' =>
        simp only [Option.some.injEq, Prod.mk.injEq] at e
        obtain ⟨rfl, rfl⟩ := e
        obtain ⟨a, e', ho, hf, h0⟩ := hsl
        cases e'
        have wk : Kp H1 F1 H1 (F1.del a) := ⟨fun b o q q2 => ⟨q, fun z => q2 z.1⟩, fun _ _ h => h⟩
        have hrep : Rep H1 (F1.del a) c.R.val d' (.ref a) := RepO.rep (ho.mono wk fun _ z => z) fun z => z.2 rfl
        have hl : i < st1.env.length := (List.getElem?_eq_some_iff.mp q).1
        have ow : Own st σ a := s.own a ⟨i, d', q, h'⟩
        refine ⟨F1.del a, ⟨⟨by simpa using s.rel.len, fun j sl hj => ?_, fun j k dj dk hj hk => ?_, s.rel.base, s.rel.bag, fun b hb => ⟨s.rel.f0 b hb, ?_⟩, fun b hb => s.rel.fs b hb.1, fun b ⟨j, dj, hj, hσ⟩ z => s.rel.nl b ⟨j, dj, (set_own hj (fun _ z => nomatch z)).2, hσ⟩ ⟨z.1, z.2.1⟩, s.rel.mu0, (fun b z => s.rel.ln b ⟨z.1, z.2.1⟩), s.rel.sto.mono wk rfl (fun b hb => ⟨(s.rel.loc_f hb).1, fun z => s.rel.nl a ⟨i, d', q, h'⟩ (z ▸ hb)⟩) (fun _ o h => ⟨o, h⟩) (fun _ _ _ h => h)⟩, fun b o q q1 q2 => ?_, fun b hb => ?_, s.dom, s.mus, (fun b z => s.lo b ⟨z.1, z.2.1⟩)⟩, hrep⟩
        · by_cases e : i = j
          · subst e
            rw [List.getElem?_set_self hl] at hj
            cases hj
            exact ⟨_, h', hrep⟩
          · rw [List.getElem?_set_ne e] at hj
            have q' := s.rel.slot j sl hj
            cases sl with
            | no => trivial
            | val d => obtain ⟨v, e, hr⟩ := q'; exact ⟨v, e, hr.mono wk⟩
            | own d =>
              obtain ⟨x, e2, hr, hx, h0⟩ := q'
              refine ⟨x, e2, hr.mono wk fun _ z => z, ⟨hx, fun z => ?_⟩, h0⟩
              subst z
              exact e (s.rel.uniq i j _ _ q hj (by rw [h', e2]))
            | lock d => obtain ⟨x, e, hr, hx⟩ := q'; exact ⟨x, e, hr.mono wk (fun _ z => z), hx⟩
        · have hj' := (set_own hj (fun _ z => nomatch z)).2
          have hk' := (set_own hk (fun _ z => nomatch z)).2
          exact s.rel.uniq j k _ _ hj' hk'
        · intro z
          subst z
          obtain ⟨o, q⟩ := c.fs b hb
          rw [h0] at q
          cases q
        · obtain ⟨h1, i1⟩ := s.fr b o q q1 q2
          exact ⟨h1, ⟨fun z => i1.mp z.1, fun z => ⟨i1.mpr z, fun z2 => q2 (.inl (by rw [z2]; exact ow))⟩⟩⟩
        · obtain ⟨j, dj, hj, hσ⟩ := hb
          exact s.own b ⟨j, dj, (set_own hj (fun _ z => nomatch z)).2, hσ⟩
  | loc n =>
    simp only [toD, Option.some.injEq, Prod.mk.injEq] at e
    obtain ⟨rfl, rfl⟩ := e
    exact ⟨F1, s, h⟩
theorem RepRs.stp (rl : Rel c F st σ H) (a : Stp c σ F st H F' st' H') (hs : ∀ x, Hs x = none → ¬ c.R.foot x) : ∀ {rs : List R} {vs : List V}, RepRs c σ Hs F H st rs vs → RepRs c σ Hs F' H' st' rs vs
  | [], _, h => h
  | _ :: _, _, h => by
    obtain ⟨v, t, e, h1, h2⟩ := h
    exact ⟨v, t, e, h1.stp rl a hs, RepRs.stp rl a hs h2⟩
theorem RepRs.hs {Hs' : Hp} (h : ∀ x, Hs x = none → Hs' x = none) : ∀ {rs : List R} {vs : List V}, RepRs c σ Hs F H st rs vs → RepRs c σ Hs' F H st rs vs
  | [], _, h => h
  | _ :: _, _, q => by
    obtain ⟨v, t, e, h1, h2⟩ := q
    exact ⟨v, t, e, h1.hs h, RepRs.hs h h2⟩
end

/-! ### what an operation leaves -/
inductive Out (H : Hp) (F : Gh) (rv : V) : R → V → Hp → Prop
  | same {d : D} {v : V} (h : Rep H F rv d v) : Out H F rv (.val d) v H
  | tup {p : Addr} {ds : List D} {xs : List V} (hp : H p = none) (h : RepL H F rv ds xs) : Out H F rv (.val (.tup ds)) (.ref p) (upd H p (.tup xs))
  | lst {p : Addr} {ds : List D} {xs : List V} (hp : H p = none) (h : RepL H F rv ds xs) : Out H F rv (.new (.lst ds)) (.ref p) (upd H p (.lst xs))
  | dic {p : Addr} {ks : List Key} {ds : List D} {xs : List V} (hp : H p = none) (hk : ks.length = ds.length) (h : RepL H F rv ds xs) : Out H F rv (.new (.dic ks ds)) (.ref p) (upd H p (.dK (ks.zip xs)))
section
variable {c : C β} {F F' : Gh} {st st' : Sta β} {σ : L2.St} {H H' Hs : Hp}
theorem upd_dom {p : Addr} {o : HO} {b : Addr} {u : HO} (e : H b = some u) : ∃ u', upd H p o b = some u' := by
  by_cases z : b = p
  · rw [z]; exact ⟨_, upd_same⟩
  · exact ⟨u, by rw [upd_ne z]; exact e⟩
theorem upd_keep {p : Addr} {o : HO} (hp : H p = none) : ∀ a u, H a = some u → upd H p o a = some u := fun a u e => by
  rw [upd_ne (ne_of_none e hp)]
  exact e
/-- nothing that stood has changed; what is forbidden now besides is new -/
theorem Rel.grow (r : Rel c F st σ H) (k : ∀ a o, H a = some o → H' a = some o) (hF : ∀ a, F a → F' a) (hn : ∀ a, F' a → F a ∨ (H a = none ∧ ∃ o, H' a = some o)) (hm : F'.mu = F.mu := by rfl) : Rel c F' st σ H' := by
  have wk : Kp H F H' F' := ⟨fun a o e hf => ⟨k a o e, fun z => by
    rcases hn a z with z | ⟨z, _⟩
    · exact hf z
    · rw [e] at z; cases z⟩, fun n a h => by rw [hm]; exact h⟩
  have lo : ∀ a, Lcd F' a → Lcd F a ∨ H a = none := fun a ⟨⟨n, e⟩, hf⟩ => by
    rcases hn a hf with z | ⟨z, _⟩
    · exact .inl ⟨⟨n, by rw [← hm]; exact e⟩, z⟩
    · exact .inr z
  refine ⟨r.len, fun i sl hi => ?_, r.uniq, fun a o e hf => k a o (r.base a o e hf), c.R.keep _ _ _ r.bag fun a o _ e => k a o e, fun a h => hF a (r.f0 a h), fun a h => ?_, fun a h z => ?_, fun n a h => by rw [hm]; exact r.mu0 n a h, fun a z => (lo a z).elim (r.ln a) fun z => .inr (r.h0 z), r.sto.mono wk hm (fun a z => hF a (r.loc_f z).1) (fun a o e => ⟨o, k a o e⟩) fun a o _ e => k a o e⟩
  · have q := r.slot i sl hi
    cases sl with
    | no => trivial
    | val d => obtain ⟨v, e, hr⟩ := q; exact ⟨v, e, hr.mono wk⟩
    | own d => obtain ⟨x, e, hr, hx, h0⟩ := q; exact ⟨x, e, hr.mono wk (fun o z => k _ o z), hF x hx, h0⟩
    | lock d => obtain ⟨x, e, hr, hx⟩ := q; exact ⟨x, e, hr.mono wk (fun o z => k _ o z), hx⟩
  · rcases hn a h with z | ⟨_, z⟩
    · obtain ⟨o, e⟩ := r.fs a z
      exact ⟨o, k a o e⟩
    · exact z
  · rcases lo a z with z | z
    · exact r.nl a h z
    · obtain ⟨o, e⟩ := (r.own_f h).2.2
      rw [z] at e; cases e
theorem Stp.grow (r : Rel c F st σ H) (k : ∀ a o, H a = some o → H' a = some o) (hF : ∀ a, F a → F' a) (hn : ∀ a, F' a → F a ∨ (H a = none ∧ ∃ o, H' a = some o)) (hm : F'.mu = F.mu := by rfl) : Stp c σ F st H F' st H' := by
  refine ⟨r.grow k hF hn hm, fun a o e _ _ => ⟨k a o e, Iff.intro (fun z => ?_) (hF a)⟩, fun _ h => h, fun a o e => ⟨o, k a o e⟩, fun n a h => by rw [hm]; exact h, fun a ⟨⟨n, z⟩, hf⟩ => (hn a hf).elim (fun hf => .inl ⟨⟨n, by rw [← hm]; exact z⟩, hf⟩) fun z => .inr (.inr z.1)⟩
  rcases hn a z with z | ⟨z, _⟩
  · exact z
  · rw [e] at z; cases z
theorem out_ok (rl : Rel c F st σ H) {r : R} {v : V} (o : Out H F c.R.val r v H') : ∃ F', Stp c σ F st H F' st H' ∧ RepR c σ H F' H' st r v := by
  cases o with
  | same h => exact ⟨F, .refl rl, h⟩
  | @tup p ds xs hp h =>
    have wk : Kp H F (upd H p (.tup xs)) F := ⟨fun a o e hf => ⟨upd_keep hp a o e, hf⟩, fun _ _ h => h⟩
    refine ⟨F, .grow rl (upd_keep hp) (fun _ h => h) (fun _ h => .inl h), ?_⟩
    show Rep _ _ _ (.tup ds) (.ref p)
    simp only [Rep]
    refine ⟨p, xs, rfl, .of upd_same fun z => ?_, h.mono wk⟩
    obtain ⟨o, e⟩ := rl.fs p z
    rw [hp] at e
    cases e
  | @lst p ds xs hp h =>
    have wk : Kp H F (upd H p (.lst xs)) (F.add p) := ⟨fun a o e hf => ⟨upd_keep hp a o e, fun z => by
      rcases z with z | z
      · exact hf z
      · subst z; rw [hp] at e; cases e⟩, fun _ _ h => h⟩
    refine ⟨F.add p, .grow rl (upd_keep hp) (fun _ h => .inl h) (fun a h => ?_), p, rfl, ⟨xs, upd_same, h.mono wk⟩, .inr rfl, hp, rl.nobsyA hp⟩
    · rcases h with h | h
      · exact .inl h
      · subst h; exact .inr ⟨hp, _, upd_same⟩
  | @dic p ks ds xs hp hk h =>
    have wk : Kp H F (upd H p (.dK (ks.zip xs))) (F.add p) := ⟨fun a o e hf => ⟨upd_keep hp a o e, fun z => by
      rcases z with z | z
      · exact hf z
      · subst z; rw [hp] at e; cases e⟩, fun _ _ h => h⟩
    refine ⟨F.add p, .grow rl (upd_keep hp) (fun _ h => .inl h) (fun a h => ?_), p, rfl, ⟨xs, upd_same, hk, h.mono wk⟩, .inr rfl, hp, rl.nobsyA hp⟩
    · rcases h with h | h
      · exact .inl h
      · subst h; exact .inr ⟨hp, _, upd_same⟩
end

/-! ### the readings -/
def tE (m : Mn β R) : TE := fun σ H Q => ∃ (c : C β) (F : Gh) (st : Sta β) (r : R) (st' : Sta β), Rel c F st σ H ∧ m st = some (r, st') ∧
  ∀ v H' F', Stp c σ F st H F' st' H' → RepR c σ H F' H' st' r v → Q v H'
def tDt (m : Mn β D) : TE := fun σ H Q => ∃ (c : C β) (F : Gh) (st : Sta β) (d : D) (st' : Sta β), Rel c F st σ H ∧ m st = some (d, st') ∧
  ∀ v H' F', Stp c σ F st H F' st' H' → Rep H' F' c.R.val d v → Q v H'
def tTs (m : Mn β Bool) : TT := fun σ H Q => ∃ (c : C β) (F : Gh) (st : Sta β) (b : Bool) (st' : Sta β), Rel c F st σ H ∧ m st = some (b, st') ∧
  ∀ H' F', Stp c σ F st H F' st' H' → Q b H'
/-- data, one after another -/
def tDs (m : Mn β (List D)) : TA := fun σ H Q => ∃ (c : C β) (F : Gh) (st : Sta β) (ds : List D) (st' : Sta β), Rel c F st σ H ∧ m st = some (ds, st') ∧
  ∀ vs H' F', Stp c σ F st H F' st' H' → RepL H' F' c.R.val ds vs → Q vs H'
/-- results, one after another -/
def tRs (m : Mn β (List R)) : TA := fun σ H Q => ∃ (c : C β) (F : Gh) (st : Sta β) (rs : List R) (st' : Sta β), Rel c F st σ H ∧ m st = some (rs, st') ∧
  ∀ vs H' F', Stp c σ F st H F' st' H' → RepRs c σ H F' H' st' rs vs → Q vs H'

/-! ### the meanings -/
def mBind {α γ : Type} (m : Mn β α) (k : α → Mn β γ) : Mn β γ := fun st => match m st with
  | some (a, st') => k a st'
  | none => none
theorem mBind_some {α γ : Type} {m : Mn β α} {k : α → Mn β γ} {st st2 : Sta β} {x : γ} (h : mBind m k st = some (x, st2)) : ∃ a st1, m st = some (a, st1) ∧ k a st1 = some (x, st2) := by
  unfold mBind at h
  cases e : m st with
  | none => rw [e] at h; cases h
  | some p => rw [e] at h; exact ⟨p.1, p.2, rfl, h⟩
def mC (d : D) : Mn β R := fun st => some (.val d, st)
def mV (i : Nat) : Mn β R := fun st => match st.env[i]? with
  | some (.val d) => some (.val d, st)
  | some (.own _) => some (.at i, st)
  | some (.lock _) => some (.at i, st)
  | _ => none
def mD (m : Mn β R) : Mn β D := mBind m toD
def mPk (m : Mn β R) (k : D → Mn β R) : Mn β R := mBind m fun r st => match pk r st with
  | some d => k d st
  | none => none
def mOp2 (f : D → D → Option R) (a b : Mn β R) : Mn β R := mBind a fun r1 => mBind b fun r2 st => match pk r1 st with
  | none => none
  | some d1 => match pk r2 st with
    | none => none
    | some d2 => match f d1 d2 with
      | none => none
      | some r => some (r, st)
def mOp1 (f : D → Option R) (a : Mn β R) : Mn β R := mBind a fun r1 st => match pk r1 st with
  | none => none
  | some d1 => match f d1 with
    | none => none
    | some r => some (r, st)
def mNil {α : Type} : Mn β (List α) := fun st => some ([], st)
def mCons {α : Type} (a : Mn β α) (b : Mn β (List α)) : Mn β (List α) := mBind a fun x => mBind b fun xs st => some (x :: xs, st)
def mBi (f : List D → Option R) (a : Mn β (List R)) : Mn β R := mBind a fun rs st => match pkL rs st with
  | none => none
  | some ds => match f ds with
    | none => none
    | some r => some (r, st)
def line : Nat := 16777216
def mTup (a : Mn β (List D)) : Mn β R := mBind a fun ds st => if ds.length ≤ line then some (.val (.tup ds), st) else none
def mLst (a : Mn β (List D)) : Mn β R := mBind a fun ds st => if ds.length ≤ line then some (.new (.lst ds), st) else none
def truth : D → Option Bool
  | .non => some false
  | .bl b => some b
  | .int i => some (i != 0)
  | .str x => if x.length ≤ line then some ((x.length : Int) != 0) else none
  | .tup ds => some (!ds.isEmpty)
  | .lst ds => some (!ds.isEmpty)
  | .dic ks _ => some (!ks.isEmpty)
  | .dit _ _ => none
  | .res => none
  | .loc _ => none
  | .ins _ _ _ => none
def mTr (a : Mn β R) : Mn β Bool := mBind a fun r st => match pk r st with
  | none => none
  | some d => match truth d with
    | none => none
    | some b => some (b, st)
/-- a result that is True or False -/
def mBl (a : Mn β R) : Mn β Bool := mBind a fun r st => match r with
  | .val (.bl b) => some (b, st)
  | _ => none
def mAnd (a b : Mn β Bool) : Mn β Bool := mBind a fun x => if x = true then b else fun st => some (false, st)
def mOr (a b : Mn β Bool) : Mn β Bool := mBind a fun x => if x = true then fun st => some (true, st) else b
def mNot (a : Mn β Bool) : Mn β Bool := mBind a fun x st => some (!x, st)
def mOfB (a : Mn β Bool) : Mn β R := mBind a fun x st => some (.val (.bl x), st)
def mIfE (t : Mn β Bool) (a b : Mn β R) : Mn β R := mBind t fun x => if x = true then a else b
/-- results joined: of a conditional expression no slot -/
def mChain (f g : D → D → Option R) (a b d : Mn β R) : Mn β R := mBind a fun r1 => mBind b fun r2 st => match pk r1 st with
  | none => none
  | some d1 => match pk r2 st with
    | none => none
    | some d2 => match f d1 d2 with
      | some (.val (.bl true)) => (mBind d fun r3 st3 => match pk r2 st3 with
        | none => none
        | some d2' => match pk r3 st3 with
          | none => none
          | some d3 => match g d2' d3 with
            | none => none
            | some r => some (r, st3)) st
      | some (.val (.bl false)) => some (.val (.bl false), st)
      | _ => none

/-! ### rules -/
section
variable {X : Cx}
theorem se_c {e : Expr} {d : D} {v : V} (h : PE X e (tC v)) (hr : ∀ (c : C β) (H : Hp) (F : Gh), Rep H F c.R.val d v) : PE X e (tE (mC (β := β) d)) := by
  refine peI h fun σ H Q q => ?_
  obtain ⟨c, F, st, r, st', rl, e, k⟩ := q
  simp only [mC, Option.some.injEq, Prod.mk.injEq] at e
  obtain ⟨rfl, rfl⟩ := e
  exact k v H F (.refl rl) (hr c H F)
theorem se_int {i : Int} {j : Nat} {pos : Pos} : PE X (.Constant (.int i) j pos) (tE (mC (β := β) (.int i))) := se_c pe_int fun _ _ _ => by simp [Rep]
theorem se_bl {i : Bool} {j : Nat} {pos : Pos} : PE X (.Constant (.bool i) j pos) (tE (mC (β := β) (.bl i))) := se_c pe_bl fun _ _ _ => by simp [Rep]
theorem se_non {j : Nat} {pos : Pos} : PE X (.Constant .none j pos) (tE (mC (β := β) .non)) := se_c pe_non fun _ _ _ => by simp [Rep]
theorem se_str {x : Str} {j : Nat} {pos : Pos} : PE X (.Constant (.str x) j pos) (tE (mC (β := β) (.str x))) := se_c pe_str fun _ _ _ => by simp [Rep]
/-- a module's whole number -/
theorem se_glob {x : Str} {i : Int} {t : Tok} {pos : Pos} (hg : Gl X x) (hm : X.mg x = some (.int i t)) (hd : (x == ("__debug__" : Str)) = false := by decide) : PE X (.Name x pos) (tE (mC (β := β) (.int i))) :=
  se_c (pe_glob (v := .int i) hg hm ⟨_, rfl⟩ hd) fun _ _ _ => by simp [Rep]
theorem se_v {e : Expr} {i : Nat} (h : PE X e (tVar i)) : PE X e (tE (mV (β := β) i)) := by
  refine peI h fun σ H Q q => ?_
  obtain ⟨c, F, st, r, st', rl, e, k⟩ := q
  simp only [mV] at e
  cases q : st.env[i]? with
  | none => rw [q] at e; cases e
  | some s =>
    have hs := rl.slot i s q
    rw [q] at e
    cases s with
    | no => cases e
    | val d =>
      simp only [Option.some.injEq, Prod.mk.injEq] at e
      obtain ⟨rfl, rfl⟩ := e
      obtain ⟨v, e, hr⟩ := hs
      exact ⟨v, e, k v H F (.refl rl) hr⟩
    | own d =>
      simp only [Option.some.injEq, Prod.mk.injEq] at e
      obtain ⟨rfl, rfl⟩ := e
      obtain ⟨a, e, hr⟩ := hs
      exact ⟨.ref a, e, k (.ref a) H F (.refl rl) e⟩
    | lock d =>
      simp only [Option.some.injEq, Prod.mk.injEq] at e
      obtain ⟨rfl, rfl⟩ := e
      obtain ⟨a, e, hr⟩ := hs
      exact ⟨.ref a, e, k (.ref a) H F (.refl rl) e⟩
theorem se_d {e : Expr} {m : Mn β R} (h : PE X e (tE m)) : PE X e (tDt (mD m)) := by
  refine peI h fun σ H Q q => ?_
  obtain ⟨c, F, st, d, st', rl, e, k⟩ := q
  obtain ⟨r, s1, e1, e2⟩ := mBind_some e
  refine ⟨c, F, st, r, s1, rl, e1, fun v H' F' s hr => ?_⟩
  obtain ⟨F2, s2, hd⟩ := toD_ok rl s hr e2
  exact k v H' F2 s2 hd

/-- an operation on two things read -/
def Ok2 (r : R2) (f : D → D → Option R) : Prop := ∀ (H : Hp) (F : Gh) (rv : V) (x y : V) (d e : D) (res : R) (Q : VK), Pk H F rv d x → Pk H F rv e y → f d e = some res → (∀ v H', Out H F rv res v H' → Q v H') → r x y H Q
def Ok1 (r : V → Hp → VK → Prop) (f : D → Option R) : Prop := ∀ (H : Hp) (F : Gh) (rv : V) (x : V) (d : D) (res : R) (Q : VK), Pk H F rv d x → f d = some res → (∀ v H', Out H F rv res v H' → Q v H') → r x H Q
def OkC (r : List V → Hp → VK → Prop) (f : List D → Option R) : Prop := ∀ (H : Hp) (F : Gh) (rv : V) (xs : List V) (ds : List D) (res : R) (Q : VK), PkL H F rv ds xs → f ds = some res → (∀ v H', Out H F rv res v H' → Q v H') → r xs H Q

theorem op2_reads {r : R2} {f : D → D → Option R} (ho : Ok2 r f) {ta tb : TE} {a b : Mn β R} (ha : ∀ σ H Q, tE a σ H Q → ta σ H Q) (hb : ∀ σ H Q, tE b σ H Q → tb σ H Q) : ∀ σ H Q, tE (mOp2 f a b) σ H Q → tOp r ta tb σ H Q := fun σ H Q q => by
  obtain ⟨c, F, st, res, st', rl, e, k⟩ := q
  obtain ⟨r1, s1, e1, e⟩ := mBind_some e
  obtain ⟨r2, s2, e2, e⟩ := mBind_some e
  refine ha _ _ _ ⟨c, F, st, r1, s1, rl, e1, fun x H1 F1 t1 h1 => ?_⟩
  refine hb _ _ _ ⟨c, F1, s1, r2, s2, t1.rel, e2, fun y H2 F2 t2 h2 => ?_⟩
  cases p1 : pk r1 s2 with
  | none => rw [p1] at e; cases e
  | some d1 =>
    rw [p1] at e
    cases p2 : pk r2 s2 with
    | none => rw [p2] at e; cases e
    | some d2 =>
      rw [p2] at e
      simp only at e
      cases p3 : f d1 d2 with
      | none => rw [p3] at e; cases e
      | some r3 =>
        rw [p3] at e
        simp only [Option.some.injEq, Prod.mk.injEq] at e
        obtain ⟨rfl, rfl⟩ := e
        have hnf : ∀ x, H x = none → ¬ c.R.foot x := fun x => rl.nofoot
        have h1' := h1.stp t1.rel t2 hnf
        refine ho H2 F2 c.R.val x y d1 d2 r3 Q (pk_ok t2.rel h1' p1) (pk_ok t2.rel h2 p2) p3 fun v H3 o => ?_
        obtain ⟨F3, t3, h3⟩ := out_ok t2.rel o
        exact k v H3 F3 ((t1.trans t2).trans t3) (h3.hs fun x hx => (t1.trans t2).gone hx)
theorem se_op2 {op : Operator} {r : R2} {f : D → D → Option R} {a b : Expr} {ma mb : Mn β R} {pos : Pos} (ho : OpR X (binaryOp op) r) (hk : Ok2 r f) (ha : PE X a (tE ma)) (hb : PE X b (tE mb)) : PE X (.BinOp a op b pos) (tE (mOp2 f ma mb)) :=
  peI (pe_op ho ha hb) (op2_reads hk (fun _ _ _ h => h) fun _ _ _ h => h)
theorem se_cmp {op : CmpOp} {r : R2} {f : D → D → Option R} {a b : Expr} {ma mb : Mn β R} {pos : Pos} (ho : OpR X (compareOp op) r) (hk : Ok2 r f) (ha : PE X a (tE ma)) (hb : PE X b (tE mb)) (hm : behindInMarks op b = false) : PE X (.Compare a [op] [b] pos) (tE (mOp2 f ma mb)) :=
  peI (pe_cmpR ho ha hb hm) (op2_reads hk (fun _ _ _ h => h) fun _ _ _ h => h)
/-- from a value True or False to a test -/
theorem bl_reads {t : TE} {m : Mn β R} (h : ∀ σ H Q, tE m σ H Q → t σ H Q) : ∀ σ H Q, tTs (mBl m) σ H Q → t σ H (fun x H' => ∃ k, x = .bl k ∧ Q k H') := fun σ H Q q => by
  obtain ⟨c, F, st, b, st', rl, e, k⟩ := q
  obtain ⟨r, s1, e1, e⟩ := mBind_some e
  refine h _ _ _ ⟨c, F, st, r, s1, rl, e1, fun x H1 F1 t1 h1 => ?_⟩
  split at e
  · simp only [Option.some.injEq, Prod.mk.injEq] at e
    obtain ⟨rfl, rfl⟩ := e
    have h1' : Rep H1 F1 c.R.val (.bl _) x := h1
    simp only [Rep] at h1'
    exact ⟨_, h1', k H1 F1 t1⟩
  · cases e
theorem st_cmp {op : CmpOp} {r : R2} {f : D → D → Option R} {a b : Expr} {ma mb : Mn β R} {pos : Pos} (ho : OpR X (compareOp op) r) (hk : Ok2 r f) (ha : PE X a (tE ma)) (hb : PE X b (tE mb)) (hm : behindInMarks op b = false) : PT X (.Compare a [op] [b] pos) (tTs (mBl (mOp2 f ma mb))) :=
  ptI (pt_cmpR ho ha hb hm) (bl_reads (op2_reads hk (fun _ _ _ h => h) fun _ _ _ h => h))
theorem chain_reads {r r' : R2} {f g : D → D → Option R} (ho : Ok2 r f) (ho' : Ok2 r' g) {ta tb tc : TE} {a b d : Mn β R} (ha : ∀ σ H Q, tE a σ H Q → ta σ H Q) (hb : ∀ σ H Q, tE b σ H Q → tb σ H Q) (hc : ∀ σ H Q, tE d σ H Q → tc σ H Q) :
    ∀ σ H Q, tE (mChain f g a b d) σ H Q → tChain r r' ta tb tc σ H Q := fun σ H Q q => by
  obtain ⟨c, F, st, res, st', rl, e, k⟩ := q
  obtain ⟨r1, s1, e1, e⟩ := mBind_some e
  obtain ⟨r2, s2, e2, e⟩ := mBind_some e
  refine ha _ _ _ ⟨c, F, st, r1, s1, rl, e1, fun x H1 F1 t1 h1 => ?_⟩
  refine hb _ _ _ ⟨c, F1, s1, r2, s2, t1.rel, e2, fun y H2 F2 t2 h2 => ?_⟩
  have hnf : ∀ x, H x = none → ¬ c.R.foot x := fun x => rl.nofoot
  cases p1 : pk r1 s2 with
  | none => rw [p1] at e; cases e
  | some d1 =>
    rw [p1] at e
    cases p2 : pk r2 s2 with
    | none => rw [p2] at e; cases e
    | some d2 =>
      rw [p2] at e
      simp only at e
      have h1' := h1.stp t1.rel t2 hnf
      split at e
      · rename_i p3
        refine ho H2 F2 c.R.val x y d1 d2 _ _ (pk_ok t2.rel h1' p1) (pk_ok t2.rel h2 p2) p3 fun v H3 o => ?_
        cases o with
        | same hb3 =>
          simp only [Rep] at hb3
          refine ⟨true, hb3, ?_⟩
          rw [if_pos rfl]
          obtain ⟨r3, s3, e3, e⟩ := mBind_some e
          refine hc _ _ _ ⟨c, F2, s2, r3, s3, t2.rel, e3, fun z H3 F3 t3 h3 => ?_⟩
          cases q2 : pk r2 s3 with
          | none => rw [q2] at e; cases e
          | some d2' =>
            rw [q2] at e
            cases q3 : pk r3 s3 with
            | none => rw [q3] at e; cases e
            | some d3 =>
              rw [q3] at e
              simp only at e
              cases q4 : g d2' d3 with
              | none => rw [q4] at e; cases e
              | some r4 =>
                rw [q4] at e
                simp only [Option.some.injEq, Prod.mk.injEq] at e
                obtain ⟨rfl, rfl⟩ := e
                have h2' := h2.stp t2.rel t3 (fun x => t1.rel.nofoot)
                refine ho' H3 F3 c.R.val y z d2' d3 r4 Q (pk_ok t3.rel h2' q2) (pk_ok t3.rel h3 q3) q4 fun v H4 o => ?_
                obtain ⟨F4, t4, h4⟩ := out_ok t3.rel o
                have tt := (t1.trans t2).trans t3
                exact k v H4 F4 (tt.trans t4) (h4.hs fun x hx => tt.gone hx)
      · rename_i p3
        refine ho H2 F2 c.R.val x y d1 d2 _ _ (pk_ok t2.rel h1' p1) (pk_ok t2.rel h2 p2) p3 fun v H3 o => ?_
        cases o with
        | same hb3 =>
          simp only [Rep] at hb3
          refine ⟨false, hb3, ?_⟩
          rw [if_neg (by decide)]
          simp only [Option.some.injEq, Prod.mk.injEq] at e
          obtain ⟨rfl, rfl⟩ := e
          exact k _ H2 F2 (t1.trans t2) (show Rep H2 F2 c.R.val (.bl false) (.bl false) by simp [Rep])
      · cases e
theorem se_chain {op op' : CmpOp} {r r' : R2} {f g : D → D → Option R} {a b d : Expr} {ma mb md : Mn β R} {pos : Pos} (ho : OpR X (compareOp op) r) (hk : Ok2 r f) (ho' : OpR X (compareOp op') r') (hk' : Ok2 r' g) (ha : PE X a (tE ma)) (hb : PE X b (tE mb)) (hd : PE X d (tE md))
    (hm : lastMarks [op, op'] [b, d] = false := by with_unfolding_all rfl) : PE X (.Compare a [op, op'] [b, d] pos) (tE (mChain f g ma mb md)) :=
  peI (pe_chain ho ho' ha hb hd hm) (chain_reads hk hk' (fun _ _ _ h => h) (fun _ _ _ h => h) fun _ _ _ h => h)
theorem st_chain {op op' : CmpOp} {r r' : R2} {f g : D → D → Option R} {a b d : Expr} {ma mb md : Mn β R} {pos : Pos} (ho : OpR X (compareOp op) r) (hk : Ok2 r f) (ho' : OpR X (compareOp op') r') (hk' : Ok2 r' g) (ha : PE X a (tE ma)) (hb : PE X b (tE mb)) (hd : PE X d (tE md))
    (hm : lastMarks [op, op'] [b, d] = false := by with_unfolding_all rfl) : PT X (.Compare a [op, op'] [b, d] pos) (tTs (mBl (mChain f g ma mb md))) :=
  ptI (pt_chain ho ho' ha hb hd hm) (bl_reads (chain_reads hk hk' (fun _ _ _ h => h) (fun _ _ _ h => h) fun _ _ _ h => h))
end
end M

/-! MStmt: tests, argument lists, displays, calls, statements. -/
namespace M
open PySem PySem.Spec PyProof.Rows L2
variable [Wrt]
variable {β : Type} [Sto β] [Kind β]
section
variable {X : Cx}

/-! ### tests -/
theorem truth_ok {H : Hp} {F : Gh} {rv v : V} {d : D} {b : Bool} (h : Pk H F rv d v) (e : truth d = some b) : TruV Wrt.K v H b := by
  cases d with
  | non => simp only [Pk, Rep] at h; subst h; simp only [truth, Option.some.injEq] at e; exact e.symm
  | bl x => simp only [Pk, Rep] at h; subst h; simp only [truth, Option.some.injEq] at e; exact e.symm
  | int i => simp only [Pk, Rep] at h; subst h; simp only [truth, Option.some.injEq] at e; exact e.symm
  | str x =>
    simp only [Pk, Rep] at h; subst h; simp only [truth] at e
    split at e
    · rename_i hl
      simp only [Option.some.injEq] at e
      exact ⟨by rw [sizeLine_eq]; exact hl, e.symm⟩
    · cases e
  | loc n => simp [truth] at e
  | ins _ _ _ => simp [truth] at e
  | res => simp [truth] at e
  | dit _ _ => simp [truth] at e
  | dic ks ds =>
    simp only [Pk] at h
    obtain ⟨a, xs, rfl, ha, hk, hl⟩ := h
    simp only [truth, Option.some.injEq] at e
    refine .inr (.inr ⟨ks.zip xs, ha, ?_⟩)
    rw [← e]
    have hll := hl.length
    cases ks with
    | nil => rfl
    | cons k ks =>
      cases xs with
      | nil =>
        simp only [List.length_cons, List.length_nil] at hk hll
        omega
      | cons x xs => rfl
  | tup ds =>
    simp only [Pk, Rep] at h
    obtain ⟨a, xs, rfl, ha, hl⟩ := h
    simp only [truth, Option.some.injEq] at e
    refine .inr (.inl ⟨xs, ha.sq, ?_⟩)
    rw [← e]
    have := hl.length
    cases ds <;> cases xs <;> simp_all
  | lst ds =>
    simp only [Pk] at h
    obtain ⟨a, xs, rfl, ha, hl⟩ := h
    simp only [truth, Option.some.injEq] at e
    refine .inl ⟨xs, SqL.of ha, ?_⟩
    rw [← e]
    have := hl.length
    cases ds <;> cases xs <;> simp_all
theorem tr_reads {t : TE} {m : Mn β R} (h : ∀ σ H Q, tE m σ H Q → t σ H Q) : ∀ σ H Q, tTs (mTr m) σ H Q → t σ H (fun x H' => ∃ k, TruV Wrt.K x H' k ∧ Q k H') := fun σ H Q q => by
  obtain ⟨c, F, st, b, st', rl, e, k⟩ := q
  obtain ⟨r, s1, e1, e⟩ := mBind_some e
  refine h _ _ _ ⟨c, F, st, r, s1, rl, e1, fun x H1 F1 t1 h1 => ?_⟩
  cases p1 : pk r s1 with
  | none => rw [p1] at e; cases e
  | some d =>
    rw [p1] at e
    simp only at e
    cases p2 : truth d with
    | none => rw [p2] at e; cases e
    | some b' =>
      rw [p2] at e
      simp only [Option.some.injEq, Prod.mk.injEq] at e
      obtain ⟨rfl, rfl⟩ := e
      exact ⟨b', truth_ok (pk_ok t1.rel h1 p1) p2, k H1 F1 t1⟩
/-- a value's truth, the test of a name, a call, a subscript .. -/
theorem st_tr {e : Expr} {m : Mn β R} (h : PE X e (tE m)) (he : ∀ whole, isTrue e X.env whole = (do let v ← whole; standAt e.pos; holding [v] (truthy v))) (hK : X.K = Wrt.K := by rfl) : PT X e (tTs (mTr m)) :=
  ptI (pt_truth h he) (by rw [hK]; exact tr_reads fun _ _ _ h => h)
theorem and_reads {t u : TT} {a b : Mn β Bool} (ha : ∀ σ H Q, tTs a σ H Q → t σ H Q) (hb : ∀ σ H Q, tTs b σ H Q → u σ H Q) : ∀ σ H Q, tTs (mAnd a b) σ H Q → tAnd t u σ H Q := fun σ H Q q => by
  obtain ⟨c, F, st, r, st', rl, e, k⟩ := q
  obtain ⟨x, s1, e1, e⟩ := mBind_some e
  refine ha _ _ _ ⟨c, F, st, x, s1, rl, e1, fun H1 F1 t1 => ?_⟩
  cases x with
  | true =>
    rw [if_pos rfl] at e ⊢
    exact hb _ _ _ ⟨c, F1, s1, r, st', t1.rel, e, fun H2 F2 t2 => k H2 F2 (t1.trans t2)⟩
  | false =>
    rw [if_neg (by decide)] at e ⊢
    simp only [Option.some.injEq, Prod.mk.injEq] at e
    obtain ⟨rfl, rfl⟩ := e
    exact k H1 F1 t1
theorem or_reads {t u : TT} {a b : Mn β Bool} (ha : ∀ σ H Q, tTs a σ H Q → t σ H Q) (hb : ∀ σ H Q, tTs b σ H Q → u σ H Q) : ∀ σ H Q, tTs (mOr a b) σ H Q → tOr t u σ H Q := fun σ H Q q => by
  obtain ⟨c, F, st, r, st', rl, e, k⟩ := q
  obtain ⟨x, s1, e1, e⟩ := mBind_some e
  refine ha _ _ _ ⟨c, F, st, x, s1, rl, e1, fun H1 F1 t1 => ?_⟩
  cases x with
  | true =>
    rw [if_pos rfl] at e ⊢
    simp only [Option.some.injEq, Prod.mk.injEq] at e
    obtain ⟨rfl, rfl⟩ := e
    exact k H1 F1 t1
  | false =>
    rw [if_neg (by decide)] at e ⊢
    exact hb _ _ _ ⟨c, F1, s1, r, st', t1.rel, e, fun H2 F2 t2 => k H2 F2 (t1.trans t2)⟩
theorem sw_and1 {a : Expr} {m : Mn β Bool} {pos : Pos} (ha : PT X a (tTs m)) : PW X (.BoolOp .And [a] pos) (tTs m) := pw_and1 ha
theorem sw_or1 {a : Expr} {m : Mn β Bool} {pos : Pos} (ha : PT X a (tTs m)) : PW X (.BoolOp .Or [a] pos) (tTs m) := pw_or1 ha
theorem sw_and {a b : Expr} {rest : List Expr} {m n : Mn β Bool} {pos : Pos} (ha : PT X a (tTs m)) (hb : PW X (.BoolOp .And (b :: rest) pos) (tTs n)) : PW X (.BoolOp .And (a :: b :: rest) pos) (tTs (mAnd m n)) :=
  pwI (pw_and ha hb) (and_reads (fun _ _ _ h => h) fun _ _ _ h => h)
theorem sw_or {a b : Expr} {rest : List Expr} {m n : Mn β Bool} {pos : Pos} (ha : PT X a (tTs m)) (hb : PW X (.BoolOp .Or (b :: rest) pos) (tTs n)) : PW X (.BoolOp .Or (a :: b :: rest) pos) (tTs (mOr m n)) :=
  pwI (pw_or ha hb) (or_reads (fun _ _ _ h => h) fun _ _ _ h => h)
theorem st_not {a : Expr} {m : Mn β Bool} {pos : Pos} (ha : PT X a (tTs m)) : PT X (.UnaryOp .Not a pos) (tTs (mNot m)) := by
  refine ptI (pt_not ha) fun σ H Q q => ?_
  obtain ⟨c, F, st, r, st', rl, e, k⟩ := q
  obtain ⟨x, s1, e1, e⟩ := mBind_some e
  simp only [Option.some.injEq, Prod.mk.injEq] at e
  obtain ⟨rfl, rfl⟩ := e
  exact ⟨c, F, st, x, s1, rl, e1, fun H1 F1 t1 => k H1 F1 t1⟩
/-- and, or, not as values, of values True and False -/
theorem se_one {op : BoolOp} {a : Expr} {m : Mn β R} {pos : Pos} (h : PE X a (tE m)) : PE X (.BoolOp op [a] pos) (tE m) := pe_one h
/-- the last of an and, an or as a value: no slot -/
def mAndV (a b : Mn β R) : Mn β R := mBind (mBl a) fun x => if x = true then b else fun st => some (.val (.bl false), st)
def mOrV (a b : Mn β R) : Mn β R := mBind (mBl a) fun x => if x = true then fun st => some (.val (.bl true), st) else b
def mNotV (a : Mn β R) : Mn β R := mBind (mBl a) fun x st => some (.val (.bl !x), st)
theorem rep_bl {H : Hp} {F : Gh} {rv : V} {b : Bool} : Rep H F rv (.bl b) (.bl b) := by simp [Rep]
theorem rr_bl {c : C β} {σ : L2.St} {Hs H : Hp} {F : Gh} {st : Sta β} {b : Bool} : RepR c σ Hs F H st (.val (.bl b)) (.bl b) := rep_bl (H := H) (F := F) (rv := c.R.val) (b := b)
theorem rep_int {H : Hp} {F : Gh} {rv : V} {b : Int} : Rep H F rv (.int b) (.int b) := by simp [Rep]
theorem rep_non {H : Hp} {F : Gh} {rv : V} : Rep H F rv .non .non := by simp [Rep]
theorem se_and {a b : Expr} {rest : List Expr} {m n : Mn β R} {pos : Pos} (ha : PE X a (tE m)) (hb : PE X (.BoolOp .And (b :: rest) pos) (tE n)) : PE X (.BoolOp .And (a :: b :: rest) pos) (tE (mAndV m n)) := by
  refine peI (pe_and ha hb) fun σ H Q q => ?_
  obtain ⟨c, F, st, r, st', rl, e, k⟩ := q
  obtain ⟨x, s1, e1, e⟩ := mBind_some e
  refine bl_reads (fun _ _ _ h => h) σ H _ ⟨c, F, st, x, s1, rl, e1, fun H1 F1 t1 => ?_⟩
  cases x with
  | true =>
    rw [if_pos rfl] at e ⊢
    exact ⟨c, F1, s1, r, st', t1.rel, e, fun v H2 F2 t2 h2 => k v H2 F2 (t1.trans t2) (h2.hs fun x hx => t1.gone hx)⟩
  | false =>
    rw [if_neg (by decide)] at e ⊢
    simp only [Option.some.injEq, Prod.mk.injEq] at e
    obtain ⟨rfl, rfl⟩ := e
    exact k _ H1 F1 t1 rr_bl
theorem se_or {a b : Expr} {rest : List Expr} {m n : Mn β R} {pos : Pos} (ha : PE X a (tE m)) (hb : PE X (.BoolOp .Or (b :: rest) pos) (tE n)) : PE X (.BoolOp .Or (a :: b :: rest) pos) (tE (mOrV m n)) := by
  refine peI (pe_or ha hb) fun σ H Q q => ?_
  obtain ⟨c, F, st, r, st', rl, e, k⟩ := q
  obtain ⟨x, s1, e1, e⟩ := mBind_some e
  refine bl_reads (fun _ _ _ h => h) σ H _ ⟨c, F, st, x, s1, rl, e1, fun H1 F1 t1 => ?_⟩
  cases x with
  | false =>
    rw [if_neg (by decide)] at e ⊢
    exact ⟨c, F1, s1, r, st', t1.rel, e, fun v H2 F2 t2 h2 => k v H2 F2 (t1.trans t2) (h2.hs fun x hx => t1.gone hx)⟩
  | true =>
    rw [if_pos rfl] at e ⊢
    simp only [Option.some.injEq, Prod.mk.injEq] at e
    obtain ⟨rfl, rfl⟩ := e
    exact k _ H1 F1 t1 rr_bl
theorem se_not {a : Expr} {m : Mn β R} {pos : Pos} (ha : PE X a (tE m)) : PE X (.UnaryOp .Not a pos) (tE (mNotV m)) := by
  refine peI (pe_not ha) fun σ H Q q => ?_
  obtain ⟨c, F, st, r, st', rl, e, k⟩ := q
  obtain ⟨x, s1, e1, e⟩ := mBind_some e
  simp only [Option.some.injEq, Prod.mk.injEq] at e
  obtain ⟨rfl, rfl⟩ := e
  exact bl_reads (fun _ _ _ h => h) σ H _ ⟨c, F, st, x, s1, rl, e1, fun H1 F1 t1 => k _ H1 F1 t1 rr_bl⟩
theorem se_ifE {t a b : Expr} {mt : Mn β Bool} {ma mb : Mn β R} {pos : Pos} (ht : PT X t (tTs mt)) (ha : PE X a (tE ma)) (hb : PE X b (tE mb)) : PE X (.IfExp t a b pos) (tE (mIfE mt ma mb)) := by
  refine peI (pe_ifExp ht ha hb) fun σ H Q q => ?_
  obtain ⟨c, F, st, r, st', rl, e, k⟩ := q
  obtain ⟨x, s1, e1, e⟩ := mBind_some e
  refine ⟨c, F, st, x, s1, rl, e1, fun H1 F1 t1 => ?_⟩
  cases x with
  | true =>
    rw [if_pos rfl] at e ⊢
    exact ⟨c, F1, s1, r, st', t1.rel, e, fun v H2 F2 t2 h2 => k v H2 F2 (t1.trans t2) (h2.hs fun x hx => t1.gone hx)⟩
  | false =>
    rw [if_neg (by decide)] at e ⊢
    exact ⟨c, F1, s1, r, st', t1.rel, e, fun v H2 F2 t2 h2 => k v H2 F2 (t1.trans t2) (h2.hs fun x hx => t1.gone hx)⟩

/-! ### one operand; argument lists -/
theorem op1_reads {r : V → Hp → VK → Prop} {f : D → Option R} (ho : Ok1 r f) {ta : TE} {a : Mn β R} (ha : ∀ σ H Q, tE a σ H Q → ta σ H Q) : ∀ σ H Q, tE (mOp1 f a) σ H Q → tUn r ta σ H Q := fun σ H Q q => by
  obtain ⟨c, F, st, res, st', rl, e, k⟩ := q
  obtain ⟨r1, s1, e1, e⟩ := mBind_some e
  refine ha _ _ _ ⟨c, F, st, r1, s1, rl, e1, fun x H1 F1 t1 h1 => ?_⟩
  cases p1 : pk r1 s1 with
  | none => rw [p1] at e; cases e
  | some d1 =>
    rw [p1] at e
    simp only at e
    cases p3 : f d1 with
    | none => rw [p3] at e; cases e
    | some r3 =>
      rw [p3] at e
      simp only [Option.some.injEq, Prod.mk.injEq] at e
      obtain ⟨rfl, rfl⟩ := e
      refine ho H1 F1 c.R.val x d1 r3 Q (pk_ok t1.rel h1 p1) p3 fun v H3 o => ?_
      obtain ⟨F3, t3, h3⟩ := out_ok t1.rel o
      exact k v H3 F3 (t1.trans t3) (h3.hs fun x hx => t1.gone hx)
theorem se_un {op : UnaryOp} {r : V → Hp → VK → Prop} {f : D → Option R} {a : Expr} {m : Mn β R} {pos : Pos} (ho : UnR X (unaryOp op) r) (hk : Ok1 r f) (ha : PE X a (tE m)) : PE X (.UnaryOp op a pos) (tE (mOp1 f m)) :=
  peI (pe_un ho ha) (op1_reads hk fun _ _ _ h => h)
theorem sr_nil : PA X [] (tRs (mNil (β := β))) := paI pa_nil fun σ H Q q => by
  obtain ⟨c, F, st, res, st', rl, e, k⟩ := q
  simp only [mNil, Option.some.injEq, Prod.mk.injEq] at e
  obtain ⟨rfl, rfl⟩ := e
  exact k [] H F (.refl rl) rfl
theorem rs_reads {ta : TE} {tr : TA} {a : Mn β R} {b : Mn β (List R)} (ha : ∀ σ H Q, tE a σ H Q → ta σ H Q) (hb : ∀ σ H Q, tRs b σ H Q → tr σ H Q) : ∀ σ H Q, tRs (mCons a b) σ H Q → tCons ta tr σ H Q := fun σ H Q q => by
  obtain ⟨c, F, st, res, st', rl, e, k⟩ := q
  obtain ⟨r1, s1, e1, e⟩ := mBind_some e
  obtain ⟨rs, s2, e2, e⟩ := mBind_some e
  simp only [Option.some.injEq, Prod.mk.injEq] at e
  obtain ⟨rfl, rfl⟩ := e
  refine ha _ _ _ ⟨c, F, st, r1, s1, rl, e1, fun x H1 F1 t1 h1 => ?_⟩
  refine hb _ _ _ ⟨c, F1, s1, rs, s2, t1.rel, e2, fun xs H2 F2 t2 h2 => ?_⟩
  exact k (x :: xs) H2 F2 (t1.trans t2) ⟨x, xs, rfl, h1.stp t1.rel t2 (fun x => rl.nofoot), h2.hs fun x hx => t1.gone hx⟩
theorem sr_cons {e : Expr} {es : List Expr} {a : Mn β R} {b : Mn β (List R)} (ha : PE X e (tE a)) (hb : PA X es (tRs b)) (hs : starEach (e :: es) X.env = (false, eval e X.env) :: starEach es X.env := by rfl) : PA X (e :: es) (tRs (mCons a b)) :=
  paI (pa_cons ha hb hs) (rs_reads (fun _ _ _ h => h) fun _ _ _ h => h)
theorem sd_nil : PA X [] (tDs (mNil (β := β))) := paI pa_nil fun σ H Q q => by
  obtain ⟨c, F, st, res, st', rl, e, k⟩ := q
  simp only [mNil, Option.some.injEq, Prod.mk.injEq] at e
  obtain ⟨rfl, rfl⟩ := e
  exact k [] H F (.refl rl) .nil
theorem sd_cons {e : Expr} {es : List Expr} {a : Mn β R} {b : Mn β (List D)} (ha : PE X e (tE a)) (hb : PA X es (tDs b)) (hs : starEach (e :: es) X.env = (false, eval e X.env) :: starEach es X.env := by rfl) : PA X (e :: es) (tDs (mCons (mD a) b)) := by
  refine paI (pa_cons (se_d ha) hb hs) fun σ H Q q => ?_
  obtain ⟨c, F, st, res, st', rl, e, k⟩ := q
  obtain ⟨d, s1, e1, e⟩ := mBind_some e
  obtain ⟨ds, s2, e2, e⟩ := mBind_some e
  simp only [Option.some.injEq, Prod.mk.injEq] at e
  obtain ⟨rfl, rfl⟩ := e
  refine ⟨c, F, st, d, s1, rl, e1, fun x H1 F1 t1 h1 => ?_⟩
  refine ⟨c, F1, s1, ds, s2, t1.rel, e2, fun xs H2 F2 t2 h2 => ?_⟩
  exact k (x :: xs) H2 F2 (t1.trans t2) (.cons (t2.rep t1.rel h1) h2)
theorem line_eq : line = sizeLine := sizeLine_eq.symm
theorem se_tup {es : List Expr} {a : Mn β (List D)} {x1 : Nat} {pos : Pos} (h : PA X es (tDs a)) : PE X (.Tuple es x1 pos) (tE (mTup a)) := by
  refine peI (pe_tup h) fun σ H Q q => ?_
  obtain ⟨c, F, st, res, st', rl, e, k⟩ := q
  obtain ⟨ds, s1, e1, e⟩ := mBind_some e
  refine ⟨c, F, st, ds, s1, rl, e1, fun xs H1 F1 t1 h1 => ?_⟩
  split at e
  · rename_i hl
    simp only [Option.some.injEq, Prod.mk.injEq] at e
    obtain ⟨rfl, rfl⟩ := e
    refine ⟨by rw [h1.length, ← line_eq]; exact hl, fun p hp => ?_⟩
    obtain ⟨F3, t3, h3⟩ := out_ok t1.rel (Out.tup (rv := c.R.val) hp h1)
    exact k _ _ F3 (t1.trans t3) (h3.hs fun x hx => t1.gone hx)
  · cases e
theorem se_lst {es : List Expr} {a : Mn β (List D)} {pos : Pos} (h : PA X es (tDs a)) : PE X (.List es pos) (tE (mLst a)) := by
  refine peI (pe_lst h) fun σ H Q q => ?_
  obtain ⟨c, F, st, res, st', rl, e, k⟩ := q
  obtain ⟨ds, s1, e1, e⟩ := mBind_some e
  refine ⟨c, F, st, ds, s1, rl, e1, fun xs H1 F1 t1 h1 => ?_⟩
  split at e
  · rename_i hl
    simp only [Option.some.injEq, Prod.mk.injEq] at e
    obtain ⟨rfl, rfl⟩ := e
    refine ⟨by rw [h1.length, ← line_eq]; exact hl, fun p hp => ?_⟩
    obtain ⟨F3, t3, h3⟩ := out_ok t1.rel (Out.lst (rv := c.R.val) hp h1)
    exact k _ _ F3 (t1.trans t3) (h3.hs fun x hx => t1.gone hx)
  · cases e
theorem bi_reads {r : List V → Hp → VK → Prop} {f : List D → Option R} (ho : OkC r f) {ta : TA} {a : Mn β (List R)} (ha : ∀ σ H Q, tRs a σ H Q → ta σ H Q) : ∀ σ H Q, tE (mBi f a) σ H Q → tCB r ta σ H Q := fun σ H Q q => by
  obtain ⟨c, F, st, res, st', rl, e, k⟩ := q
  obtain ⟨rs, s1, e1, e⟩ := mBind_some e
  refine ha _ _ _ ⟨c, F, st, rs, s1, rl, e1, fun xs H1 F1 t1 h1 => ?_⟩
  cases p1 : pkL rs s1 with
  | none => rw [p1] at e; cases e
  | some ds =>
    rw [p1] at e
    simp only at e
    cases p3 : f ds with
    | none => rw [p3] at e; cases e
    | some r3 =>
      rw [p3] at e
      simp only [Option.some.injEq, Prod.mk.injEq] at e
      obtain ⟨rfl, rfl⟩ := e
      refine ho H1 F1 c.R.val xs ds r3 Q (pkL_ok t1.rel h1 p1) p3 fun v H3 o => ?_
      obtain ⟨F3, t3, h3⟩ := out_ok t1.rel o
      exact k v H3 F3 (t1.trans t3) (h3.hs fun x hx => t1.gone hx)
/-- a built-in function, a built-in class, a module's name for a built-in function -/
theorem se_bi {id : String} {r : List V → Hp → VK → Prop} {f : List D → Option R} {x : Str} {p pos : Pos} {e : Expr} {es : List Expr} {a : Mn β (List R)} (hc : CallR X (.builtin id) r) (hk : OkC r f) (hg : Gl X x) (hm : X.mg x = none) (hv : bootBuiltins x = some (.builtin id)) (ha : PA X (e :: es) (tRs a))
    (hn : x ≠ "__name__" := by decide) (hdb : (x == ("__debug__" : Str)) = false := by decide) (he : starEach (e :: es) X.env = (false, eval e X.env) :: starEach es X.env := by rfl) (hpl : (backTo pos (starEach es X.env)).any (·.1) = false := by rfl) :
    PE X (.Call (.Name x p) (e :: es) [] pos) (tE (mBi f a)) := peI (pe_callB hc hg hm hv ha hn hdb he hpl) (bi_reads hk fun _ _ _ h => h)
theorem se_ty {id : String} {r : List V → Hp → VK → Prop} {f : List D → Option R} {x : Str} {p pos : Pos} {e : Expr} {es : List Expr} {a : Mn β (List R)} (hc : CallR X (.type id) r) (hk : OkC r f) (hg : Gl X x) (hm : X.mg x = none) (hv : bootBuiltins x = some (.type id)) (ha : PA X (e :: es) (tRs a))
    (hn : x ≠ "__name__" := by decide) (hdb : (x == ("__debug__" : Str)) = false := by decide) (he : starEach (e :: es) X.env = (false, eval e X.env) :: starEach es X.env := by rfl) (hpl : (backTo pos (starEach es X.env)).any (·.1) = false := by rfl) :
    PE X (.Call (.Name x p) (e :: es) [] pos) (tE (mBi f a)) := peI (pe_callTy hc hg hm hv ha hn hdb he hpl) (bi_reads hk fun _ _ _ h => h)
theorem se_fun {id : String} {r : List V → Hp → VK → Prop} {f : List D → Option R} {x : Str} {p pos : Pos} {e : Expr} {es : List Expr} {a : Mn β (List R)} (hc : CallR X (.builtin id) r) (hk : OkC r f) (hg : Gl X x) (hm : X.mg x = some (.builtin id)) (ha : PA X (e :: es) (tRs a))
    (hdb : (x == ("__debug__" : Str)) = false := by decide) (he : starEach (e :: es) X.env = (false, eval e X.env) :: starEach es X.env := by rfl) (hpl : (backTo pos (starEach es X.env)).any (·.1) = false := by rfl) :
    PE X (.Call (.Name x p) (e :: es) [] pos) (tE (mBi f a)) := peI (pe_callBfun hc hg hm ha hdb he hpl) (bi_reads hk fun _ _ _ h => h)
/-- a[b] -/
theorem se_ix {r : R2} {f : D → D → Option R} {a b : Expr} {ma mb : Mn β R} {pos : Pos} (hr : IxR X r) (hk : Ok2 r f) (ha : PE X a (tE ma)) (hb : PE X b (tE mb)) (hs : PlainIx b) : PE X (.Subscript a b pos) (tE (mOp2 f ma mb)) :=
  peI (pe_ix hr ha hb hs) (op2_reads hk (fun _ _ _ h => h) fun _ _ _ h => h)

/-! ### slices -/
def tOs (m : Mn β (Option Int)) : TO := fun σ H Q => ∃ (c : C β) (F : Gh) (st : Sta β) (o : Option Int) (st' : Sta β), Rel c F st σ H ∧ m st = some (o, st') ∧
  ∀ H' F', Stp c σ F st H F' st' H' → Q o H'
def mNo : Mn β (Option Int) := fun st => some (none, st)
def mSo (a : Mn β R) : Mn β (Option Int) := mBind a fun r st => match r with
  | .val (.int i) => some (some i, st)
  | _ => none
theorem so_no : PO X none (tOs (mNo (β := β))) := poI po_none fun σ H Q q => by
  obtain ⟨c, F, st, res, st', rl, e, k⟩ := q
  simp only [mNo, Option.some.injEq, Prod.mk.injEq] at e
  obtain ⟨rfl, rfl⟩ := e
  exact k H F (.refl rl)
theorem so_so {e : Expr} {a : Mn β R} (ha : PE X e (tE a)) : PO X (some e) (tOs (mSo a)) := poI (po_some ha) fun σ H Q q => by
  obtain ⟨c, F, st, res, st', rl, e, k⟩ := q
  obtain ⟨r, s1, e1, e⟩ := mBind_some e
  refine ⟨c, F, st, r, s1, rl, e1, fun x H1 F1 t1 h1 => ?_⟩
  split at e
  · simp only [Option.some.injEq, Prod.mk.injEq] at e
    obtain ⟨rfl, rfl⟩ := e
    have h1' : Rep H1 F1 c.R.val (.int _) x := h1
    simp only [Rep] at h1'
    exact ⟨_, h1', k H1 F1 t1⟩
  · cases e
def OkS (r : V → Option Int → Option Int → Hp → VK → Prop) (f : D → Option Int → Option Int → Option R) : Prop := ∀ (H : Hp) (F : Gh) (rv : V) (x : V) (d : D) (lo hi : Option Int) (res : R) (Q : VK), Pk H F rv d x → f d lo hi = some res → (∀ v H', Out H F rv res v H' → Q v H') → r x lo hi H Q
def mSl (f : D → Option Int → Option Int → Option R) (a : Mn β R) (lo hi : Mn β (Option Int)) : Mn β R := mBind a fun r1 => mBind lo fun l => mBind hi fun h st => match pk r1 st with
  | none => none
  | some d1 => match f d1 l h with
    | none => none
    | some r => some (r, st)
theorem se_sl {r : V → Option Int → Option Int → Hp → VK → Prop} {f : D → Option Int → Option Int → Option R} {e : Expr} {lo hi : Option Expr} {a : Mn β R} {l h : Mn β (Option Int)} {p2 pos : Pos} (hr : SlR X r) (hk : OkS r f) (he : PE X e (tE a)) (hl : PO X lo (tOs l)) (hu : PO X hi (tOs h)) :
    PE X (.Subscript e (.Slice lo hi none p2) pos) (tE (mSl f a l h)) := by
  refine peI (pe_slice hr he hl hu) fun σ H Q q => ?_
  obtain ⟨c, F, st, res, st', rl, e, k⟩ := q
  obtain ⟨r1, s1, e1, e⟩ := mBind_some e
  obtain ⟨l', s2, e2, e⟩ := mBind_some e
  obtain ⟨h', s3, e3, e⟩ := mBind_some e
  refine ⟨c, F, st, r1, s1, rl, e1, fun x H1 F1 t1 h1 => ?_⟩
  refine ⟨c, F1, s1, l', s2, t1.rel, e2, fun H2 F2 t2 => ?_⟩
  refine ⟨c, F2, s2, h', s3, t2.rel, e3, fun H3 F3 t3 => ?_⟩
  cases p1 : pk r1 s3 with
  | none => rw [p1] at e; cases e
  | some d1 =>
    rw [p1] at e
    simp only at e
    cases p3 : f d1 l' h' with
    | none => rw [p3] at e; cases e
    | some r3 =>
      rw [p3] at e
      simp only [Option.some.injEq, Prod.mk.injEq] at e
      obtain ⟨rfl, rfl⟩ := e
      have hnf : ∀ x, H x = none → ¬ c.R.foot x := fun x => rl.nofoot
      have h1' := (h1.stp t1.rel t2 hnf).stp t2.rel t3 hnf
      refine hk H3 F3 c.R.val x d1 l' h' r3 Q (pk_ok t3.rel h1' p1) p3 fun v H4 o => ?_
      obtain ⟨F4, t4, h4⟩ := out_ok t3.rel o
      have tt := (t1.trans t2).trans t3
      exact k v H4 F4 (tt.trans t4) (h4.hs fun x hx => tt.gone hx)
end

/-! ### calls of own defs -/
/-- a def's meaning: what comes in, the resource; what goes out -/
abbrev Fn (β : Type) := List Sl → β → Option (R × β)
/-- what a call leaves: H, F ahead -/
structure Post (S : Res β) (F : Gh) (H : Hp) (F' : Gh) (H' : Hp) (b' : β) : Prop where
  base : ∀ a o, H a = some o → ¬ Ft S F a → H' a = some o
  gF : ∀ a, F a → F' a
  gn : ∀ a, F' a → F a ∨ (H a = none ∧ ∃ o, H' a = some o)
  mus : ∀ n a, F.mu n = some a → F'.mu n = some a
  ln : ∀ a, Lcd F' a → Lcd F a ∨ H a = none
  fs : ∀ a, F' a → ∃ o, H' a = some o
  bag : S.rel b' H'
  sto : StoR S F' H' (Sto.sto b')
/-- what comes out: H ahead, F' not to be handed on -/
def ResR (rv : V) (H : Hp) (F' : Gh) (H' : Hp) : R → V → Prop
  | .val d, v => Rep H' F' rv d v
  | .new d, v => ∃ a, v = .ref a ∧ H a = none ∧ RepO H' F' rv d a ∧ F' a ∧ ¬ Lcd F' a
  | _, _ => False
def spF (f : Fn β) : Sp := fun vs H Q _ => ∃ (S : Res β) (F : Gh) (args : List Sl) (b : β) (r : R) (b' : β), Kind.kd S ∧ (∀ a, F a → ∃ o, H a = some o) ∧ (∀ a, S.foot a → F a) ∧ S.rel b H ∧ StoR S F H (Sto.sto b) ∧ ArgRs (Ft S F) S.val H F args vs ∧
  f args b = some (r, b') ∧ ∀ v H' F', Post S F H F' H' b' → ResR S.val H F' H' r v → Q v H'
def mCall (f : Fn β) (a : Mn β (List R)) : Mn β R := mBind a fun rs st => match toSlL rs st with
  | none => none
  | some args => match f args st.bag with
    | none => none
    | some (r, b) => some (r, { st with bag := b })
section
variable {c : C β} {F : Gh} {st : Sta β} {σ : L2.St} {H : Hp}
/-- behind a call -/
theorem call_ok (rl : Rel c F st σ H) {r : R} {b : β} {v : V} {H' : Hp} {F' : Gh} (P : Post c.R F H F' H' b) (hr : ResR c.R.val H F' H' r v) :
    Stp c σ F st H F' { st with bag := b } H' ∧ RepR c σ H F' H' { st with bag := b } r v := by
  have dom : ∀ a o, H a = some o → ∃ o', H' a = some o' := fun a o e => by
    by_cases hf : c.R.foot a
    · exact c.R.there _ _ _ P.bag hf
    · by_cases hl : Lcd F a
      · exact P.fs a (P.gF a hl.2)
      · exact ⟨o, P.base a o e fun z => z.elim hf hl⟩
  have nf : ∀ a o, H a = some o → F' a → F a := fun a o e z => by
    rcases P.gn a z with z | ⟨z, _⟩
    · exact z
    · rw [e] at z; cases z
  have wk : Kp H F H' F' := ⟨fun a o e hf => ⟨P.base a o e fun z => z.elim (fun z => hf (rl.f0 a (c.foot a z))) fun z => hf (rl.loc_f z).1, fun z => hf (nf a o e z)⟩, P.mus⟩
  have main : Stp c σ F st H F' { st with bag := b } H' := by
    refine ⟨⟨rl.len, fun i sl hi => ?_, rl.uniq, fun a o e hf => P.base a o (rl.base a o e hf) fun z => ?_, P.bag, fun a h => P.gF a (rl.f0 a h), fun a h => ?_, fun a h z => ?_, fun n a h => P.mus n a (rl.mu0 n a h), fun a z => ?_, P.sto⟩, fun a o e hf hw => ⟨P.base a o e fun z => z.elim hf fun z => hw (.inr z), nf a o e, P.gF a⟩, fun _ h => h, dom, P.mus, fun a z => ?_⟩
    · have q := rl.slot i sl hi
      cases sl with
      | no => trivial
      | val d => obtain ⟨v, e, hr⟩ := q; exact ⟨v, e, hr.mono wk⟩
      | own d =>
        obtain ⟨x, e, hr, hx, h0⟩ := q
        have ow : Own st σ x := ⟨i, d, hi, e⟩
        exact ⟨x, e, hr.mono wk (fun o z => P.base _ o z fun z => z.elim (rl.own_foot ow) (rl.nl x ow)), P.gF x hx, h0⟩
      | lock d =>
        obtain ⟨x, e, hr, hx, h0⟩ := q
        exact ⟨x, e, hr.mono wk (fun o z => P.base _ o z fun z => z.elim (fun z => hx (.inl z)) (rl.lock_loc hx h0)), hx, h0⟩
    · rcases z with z | z
      · exact hf (.inl z)
      · exact rl.lock_loc hf ⟨o, e⟩ z
    · rcases P.gn a h with z | ⟨_, z⟩
      · obtain ⟨o, e⟩ := rl.fs a z
        exact dom a o e
      · exact z
    · rcases P.ln a z with z | z
      · exact rl.nl a h z
      · obtain ⟨o, e⟩ := (rl.own_f (show Own st σ a from h)).2.2
        rw [z] at e; cases e
    · rcases P.ln a z with z | z
      · exact rl.ln a z
      · exact .inr (rl.h0 z)
    · rcases P.ln a z with z | z
      · exact .inl z
      · exact .inr (.inr z)
  refine ⟨main, ?_⟩
  cases r with
  | val d => exact hr
  | «at» i => exact hr.elim
  | loc n => exact hr.elim
  | new d =>
    obtain ⟨a, e, hn, ho, hf, hl⟩ := hr
    exact ⟨a, e, ho, hf, hn, fun z => z.elim (fun z => by
      obtain ⟨o, e⟩ := (rl.own_f (show Own st σ a from z)).2.2
      rw [hn] at e; cases e) hl⟩
end
section
variable {X : Cx}
theorem call_reads {f : Fn β} {ta : TA} {a : Mn β (List R)} {E : XK} (ha : ∀ σ H Q, tRs a σ H Q → ta σ H Q) : ∀ σ H Q, tE (mCall f a) σ H Q → tCall (spF f) [] E ta σ H Q := fun σ H Q q => by
  obtain ⟨c, F, st, res, st', rl, e, k⟩ := q
  obtain ⟨rs, s1, e1, e⟩ := mBind_some e
  refine ha _ _ _ ⟨c, F, st, rs, s1, rl, e1, fun xs H1 F1 t1 h1 => ?_⟩
  cases p1 : toSlL rs s1 with
  | none => rw [p1] at e; cases e
  | some args =>
    rw [p1] at e
    simp only at e
    cases p2 : f args s1.bag with
    | none => rw [p2] at e; cases e
    | some p =>
      rw [p2] at e
      simp only [Option.some.injEq, Prod.mk.injEq] at e
      obtain ⟨rfl, rfl⟩ := e
      have hnf : ∀ x, H x = none → ¬ c.R.foot x := fun x => rl.nofoot
      refine ⟨c.R, F1, args, s1.bag, p.1, p.2, c.kd, t1.rel.fs, fun x h => t1.rel.f0 x (c.foot x h), t1.rel.bag, t1.rel.sto, ?_, p2, fun v H2 F2 P2 r2 => ?_⟩
      · rw [List.append_nil]
        exact toSlL_ok t1.rel hnf h1 p1
      · obtain ⟨t2, h2⟩ := call_ok t1.rel P2 r2
        exact k v H2 F2 (t1.trans t2) (h2.hs fun x hx => t1.gone hx)
theorem se_call {k : Nat} {f : Addr} {fd : FuncData} {ps : List Str} {g : Fn β} {x : Str} {p pos : Pos} {e : Expr} {es : List Expr} {a : Mn β (List R)} (G : FnOk X.prog X.w X.K X.mg X.base CX0 k f fd ps (spF g)) (hr : Room k X.A) (hg : Gl X x) (hm : X.mg x = some (.ref f)) (hk : PySem.W.keepIn X.K (.ref f) = true)
    (hb : Binds X.K fd ps []) (ha : PA X (e :: es) (tRs a)) (hdb : (x == ("__debug__" : Str)) = false := by decide) (he : starEach (e :: es) X.env = (false, eval e X.env) :: starEach es X.env := by rfl) (hpl : (backTo pos (starEach es X.env)).any (·.1) = false := by rfl) :
    PE X (.Call (.Name x p) (e :: es) [] pos) (tE (mCall g a)) := peI (pe_call G hr hg hm hk hb .nil pass0 ha hdb he hpl) (call_reads fun _ _ _ h => h)
end
end M

/-! MLoop: statements, targets, what is walked, for, while, comprehensions, a def's body. -/
namespace M
open PySem PySem.Spec PyProof.Rows L2
variable [Wrt]
variable {β : Type} [Sto β] [Kind β]

/-! ### statements -/
inductive O where
  | nx | bk | ct | rt (r : R)
abbrev Ms (β : Type) := Mn β O
/-- what stays from statement to statement -/
abbrev FrS (F : Gh) (H : Hp) (F' : Gh) (H' : Hp) : Prop := Kp H F H' F'
theorem Kp.refl {F : Gh} {H : Hp} : Kp H F H F := ⟨fun _ _ h f => ⟨h, f⟩, fun _ _ h => h⟩
theorem Kp.trans {F F1 F2 : Gh} {H H1 H2 : Hp} (a : Kp H F H1 F1) (b : Kp H1 F1 H2 F2) : Kp H F H2 F2 := ⟨fun x o h f => b.k x o (a.k x o h f).1 (a.k x o h f).2, fun n x h => b.m n x (a.m n x h)⟩
def RtOk (c : C β) (b : β) (r : R) (v : V) (H : Hp) (F' : Gh) : Prop := Post c.R c.F0 c.H0 F' H b ∧ ResR c.R.val c.H0 F' H r v
def Goes (c : C β) (F : Gh) (H : Hp) (D : Ends) (o : O) (st' : Sta β) : Prop := match o with
  | .nx => ∀ σ' H' F', Rel c F' st' σ' H' → FrS F H F' H' → D.nx σ' H'
  | .bk => ∀ σ' H' F', Rel c F' st' σ' H' → FrS F H F' H' → D.bk σ' H'
  | .ct => ∀ σ' H' F', Rel c F' st' σ' H' → FrS F H F' H' → D.ct σ' H'
  | .rt r => ∀ v H' F', RtOk c st'.bag r v H' F' → D.rt v H'
def tSt (m : Ms β) : TS := fun D σ H => ∃ (c : C β) (F : Gh) (st : Sta β) (o : O) (st' : Sta β), Rel c F st σ H ∧ m st = some (o, st') ∧ Goes c F H D o st'
section
variable {c : C β} {F F1 F' : Gh} {st st' : Sta β} {σ : L2.St} {H H1 H' : Hp} {D D' : Ends} {o : O}
theorem Goes.from (f : FrS F H F1 H1) (g : Goes c F H D o st') : Goes c F1 H1 D o st' := by
  cases o with
  | nx => exact fun σ' H' F' r f' => g σ' H' F' r (f.trans f')
  | bk => exact fun σ' H' F' r f' => g σ' H' F' r (f.trans f')
  | ct => exact fun σ' H' F' r f' => g σ' H' F' r (f.trans f')
  | rt r => exact g
theorem Stp.frs (r : Rel c F st σ H) (s : Stp c σ F st H F' st' H') : FrS F H F' H' := s.pers r
end
def mSkip : Ms β := fun st => some (.nx, st)
def mSeq (a b : Ms β) : Ms β := mBind a fun o => match o with
  | .nx => b
  | o => fun st => some (o, st)
def mBk : Ms β := fun st => some (.bk, st)
def mCt : Ms β := fun st => some (.ct, st)
def mIf (t : Mn β Bool) (a b : Ms β) : Ms β := mBind t fun x => if x = true then a else b
def mEx (a : Mn β R) : Ms β := mBind a fun _ st => some (.nx, st)
def toRes (r : R) (st : Sta β) : Option R := match r with
  | .val d => some (.val d)
  | .new d => some (.new d)
  | .at i => match st.env[i]? with
    | some (.val d) => some (.val d)
    | some (.own d) => some (.new d)
    | _ => none
  | .loc n => some (.val (.loc n))
def mRet (a : Mn β R) : Ms β := mBind a fun r st => match toRes r st with
  | none => none
  | some r => some (.rt r, st)
def mRetN : Ms β := fun st => some (.rt (.val .non), st)
/-- x = r: a new object is owned by the slot; an owned list of another slot is given up to reading -/
def setSl (i : Nat) (r : R) (st : Sta β) : Option (Sta β) := match r with
  | .val d => some { st with env := st.env.set i (.val d) }
  | .new d => some { st with env := st.env.set i (.own d) }
  | .at j => match toD (.at j) st with
    | some (d, st') => some { st' with env := st'.env.set i (.val d) }
    | none => none
  | .loc n => some { st with env := st.env.set i (.val (.loc n)) }
def mSet (i : Nat) (a : Mn β R) : Ms β := mBind a fun r st => match setSl i r st with
  | none => none
  | some st' => some (.nx, st')
section
variable {c : C β} {F F1 F' : Gh} {st st' : Sta β} {σ : L2.St} {H H1 H' Hs : Hp} {D D' : Ends} {o : O}
theorem Rel.set (r : Rel c F st σ H) {i : Nat} {s : Sl} {v : V} (h : RelSl c F H s (some (some v))) (hw : ∀ d, s = .own d → ∀ a, v = .ref a → ¬ Bsy st σ F a) : Rel c F { st with env := st.env.set i s } (σ.set i (some v)) H := by
  have hl := r.len
  refine ⟨by simp [hl], fun j sl hj => ?_, fun j k d e hj hk hσ => ?_, r.base, r.bag, r.f0, r.fs, fun a h => ?_, r.mu0, r.ln, r.sto⟩
  · by_cases e : i = j
    · subst e
      by_cases hi : i < st.env.length
      · rw [List.getElem?_set_self hi] at hj
        cases hj
        rw [List.getElem?_set_self (by omega)]
        exact h
      · rw [List.getElem?_eq_none (by simpa using hi)] at hj
        cases hj
    · rw [List.getElem?_set_ne e] at hj
      rw [List.getElem?_set_ne e]
      exact r.slot j sl hj
  · have own_at : ∀ (j : Nat) (d : D), (st.env.set i s)[j]? = some (.own d) → (i = j ∧ s = .own d ∧ (σ.set i (some v))[j]? = some (some v)) ∨ (i ≠ j ∧ st.env[j]? = some (.own d) ∧ (σ.set i (some v))[j]? = σ[j]?) := fun j d hj => by
      by_cases e : i = j
      · subst e
        by_cases hi : i < st.env.length
        · rw [List.getElem?_set_self hi] at hj
          cases hj
          exact .inl ⟨rfl, rfl, List.getElem?_set_self (by omega)⟩
        · rw [List.getElem?_eq_none (by simpa using hi)] at hj
          cases hj
      · rw [List.getElem?_set_ne e] at hj
        exact .inr ⟨e, hj, List.getElem?_set_ne e⟩
    have clash : ∀ (k : Nat) (d d' : D), s = .own d → st.env[k]? = some (.own d') → σ[k]? = some (some v) → False := fun k d d' es ek eσ => by
      subst es
      obtain ⟨a, ea, _⟩ := h
      cases ea
      exact hw d rfl a rfl (.inl ⟨k, d', ek, eσ⟩)
    rcases own_at j d hj with ⟨e1, e2, e3⟩ | ⟨e1, e2, e3⟩
    · rcases own_at k e hk with ⟨g1, g2, g3⟩ | ⟨g1, g2, g3⟩
      · exact e1.symm.trans g1
      · rw [e3, g3] at hσ
        exact (clash k d e e2 g2 hσ.symm).elim
    · rcases own_at k e hk with ⟨g1, g2, g3⟩ | ⟨g1, g2, g3⟩
      · rw [e3, g3] at hσ
        exact (clash j e d g2 e2 hσ).elim
      · rw [e3, g3] at hσ
        exact r.uniq j k d e e2 g2 hσ
  · obtain ⟨j, d, hj, hσ⟩ := h
    by_cases e : i = j
    · subst e
      by_cases hi : i < st.env.length
      · rw [List.getElem?_set_self hi] at hj
        cases hj
        rw [List.getElem?_set_self (by omega)] at hσ
        cases hσ
        exact fun z => hw d rfl a rfl (.inr z)
      · rw [List.getElem?_eq_none (by simpa using hi)] at hj
        cases hj
    · rw [List.getElem?_set_ne e] at hj
      rw [List.getElem?_set_ne e] at hσ
      exact r.nl a ⟨j, d, hj, hσ⟩
/-- what is told apart at the end of a body -/
def retG (c : C β) (F1 : Gh) (x : Option Addr) : Gh := ⟨fun a => c.F0 a ∨ Lcd F1 a ∨ x = some a, F1.mu⟩
theorem ret_post (r : Rel c F st σ H) (x : Option Addr) (hx : ∀ a, x = some a → F a ∧ c.H0 a = none) : Post c.R c.F0 c.H0 (retG c F x) H st.bag ∧ Kp H F H (retG c F x) := by
  have kp : Kp H F H (retG c F x) := ⟨fun a o h f => ⟨h, fun z => by
    rcases z with z | z | z
    · exact f (r.f0 a z)
    · exact f (r.loc_f z).1
    · exact f (hx a z).1⟩, fun _ _ h => h⟩
  have up : ∀ a, retG c F x a → F a := fun a z => by
    rcases z with z | z | z
    · exact r.f0 a z
    · exact z.2
    · exact (hx a z).1
  refine ⟨⟨r.base, fun a h => .inl h, fun a h => ?_, r.mu0, fun a z => r.ln a ⟨z.1, up a z.2⟩, fun a z => r.fs a (up a z), r.bag, r.sto.mono kp rfl (fun a z => .inr (.inl z)) (fun _ o h => ⟨o, h⟩) fun _ _ _ h => h⟩, kp⟩
  rcases h with h | h | h
  · exact .inl h
  · rcases r.ln a h with z | z
    · exact .inl (c.loc a z)
    · exact .inr ⟨z, (r.loc_f h).2.2⟩
  · exact .inr ⟨(hx a h).2, r.fs a (hx a h).1⟩
theorem setSl_ok (rl : Rel c F st σ H) {st1 st2 : Sta β} (s : Stp c σ F st H F1 st1 H1) {r : R} {v : V} {i : Nat} (h : RepR c σ H F1 H1 st1 r v) (e : setSl i r st1 = some st2) : ∃ F2, Rel c F2 st2 (σ.set i (some v)) H1 ∧ FrS F H F2 H1 := by
  cases r with
  | val d =>
    simp only [setSl, Option.some.injEq] at e
    subst e
    exact ⟨F1, s.rel.set ⟨v, rfl, h⟩ (fun _ z => nomatch z), s.frs rl⟩
  | new d =>
    simp only [setSl, Option.some.injEq] at e
    subst e
    obtain ⟨a, e, ho, hf, hn, hw⟩ := h
    subst e
    exact ⟨F1, s.rel.set ⟨a, rfl, ho, hf, rl.h0 hn⟩ (fun _ _ b eb => by cases eb; exact hw), s.frs rl⟩
  | «at» j =>
    simp only [setSl] at e
    cases q : toD (.at j) st1 with
    | none => rw [q] at e; cases e
    | some p =>
      rw [q] at e
      simp only [Option.some.injEq] at e
      subst e
      obtain ⟨F2, s2, hd⟩ := toD_ok rl s h q
      exact ⟨F2, s2.rel.set ⟨v, rfl, hd⟩ (fun _ z => nomatch z), s2.frs rl⟩
  | loc n =>
    simp only [setSl, Option.some.injEq] at e
    subst e
    exact ⟨F1, s.rel.set ⟨v, rfl, h⟩ (fun _ z => nomatch z), s.frs rl⟩
theorem toRes_ok (rl : Rel c F st σ H) {st1 : Sta β} (s : Stp c σ F st H F1 st1 H1) {r r' : R} {v : V} (h : RepR c σ H F1 H1 st1 r v) (e : toRes r st1 = some r') : ∃ F', RtOk c st1.bag r' v H1 F' := by
  have plain : ∀ {d : D}, Rep H1 F1 c.R.val d v → ∃ F', RtOk c st1.bag (.val d) v H1 F' := fun {d} hd => by
    obtain ⟨P, kp⟩ := ret_post s.rel none fun a h => nomatch h
    exact ⟨_, P, Rep.mono kp hd⟩
  have fresh : ∀ {d : D} {a : Addr}, v = .ref a → RepO H1 F1 c.R.val d a → F1 a → c.H0 a = none → ¬ Lcd F1 a → ∃ F', RtOk c st1.bag (.new d) v H1 F' := fun {d a} ev ho hf h0 hl => by
    obtain ⟨P, kp⟩ := ret_post s.rel (some a) fun b h => by cases h; exact ⟨hf, h0⟩
    exact ⟨_, P, a, ev, h0, ho.mono kp fun _ z => z, .inr (.inr rfl), fun z => hl ⟨z.1, hf⟩⟩
  cases r with
  | val d =>
    simp only [toRes, Option.some.injEq] at e
    subst e
    exact plain h
  | new d =>
    simp only [toRes, Option.some.injEq] at e
    subst e
    obtain ⟨a, e, ho, hf, hn, hw⟩ := h
    exact fresh e ho hf (rl.h0 hn) fun z => hw (.inr z)
  | «at» j =>
    simp only [toRes] at e
    have h' : σ[j]? = some (some v) := h
    cases q : st1.env[j]? with
    | none => rw [q] at e; cases e
    | some sl =>
      have hsl := s.rel.slot j sl q
      rw [h'] at hsl
      rw [q] at e
      cases sl with
      | no => cases e
      | lock _ => cases e
      | val d =>
        simp only [Option.some.injEq] at e
        subst e
        obtain ⟨v', e', hr⟩ := hsl
        cases e'
        exact plain hr
      | own d =>
        simp only [Option.some.injEq] at e
        subst e
        obtain ⟨a, e', ho, hf, h0⟩ := hsl
        cases e'
        exact fresh rfl ho hf h0 (s.rel.nl a ⟨j, d, q, h'⟩)
  | loc n =>
    simp only [toRes, Option.some.injEq] at e
    subst e
    exact plain h
end
section
variable {X : Cx}
theorem ss_nil : PSs X [] (tSt (mSkip (β := β))) := pssI pss_nil fun D σ H q => by
  obtain ⟨c, F, st, o, st', rl, e, g⟩ := q
  simp only [mSkip, Option.some.injEq, Prod.mk.injEq] at e
  obtain ⟨rfl, rfl⟩ := e
  exact g σ H F rl .refl
theorem ss_cons {s : Stmt} {r : List Stmt} {a b : Ms β} (h1 : PS X s (tSt a)) (h2 : PSs X r (tSt b)) : PSs X (s :: r) (tSt (mSeq a b)) := by
  refine pssI (pss_cons h1 h2) fun D σ H q => ?_
  obtain ⟨c, F, st, o, st', rl, e, g⟩ := q
  obtain ⟨o1, s1, e1, e⟩ := mBind_some e
  refine ⟨c, F, st, o1, s1, rl, e1, ?_⟩
  cases o1 with
  | nx => exact fun σ' H' F' r' f => ⟨c, F', s1, o, st', r', e, g.from f⟩
  | bk => simp only [Option.some.injEq, Prod.mk.injEq] at e; obtain ⟨rfl, rfl⟩ := e; exact g
  | ct => simp only [Option.some.injEq, Prod.mk.injEq] at e; obtain ⟨rfl, rfl⟩ := e; exact g
  | rt r => simp only [Option.some.injEq, Prod.mk.injEq] at e; obtain ⟨rfl, rfl⟩ := e; exact g
theorem ss_one {s : Stmt} {a : Ms β} (h1 : PS X s (tSt a)) : PSs X [s] (tSt a) := pss_one h1
theorem ss_pass {pos : Pos} : PS X (.Pass pos) (tSt (mSkip (β := β))) := psI ps_pass fun D σ H q => by
  obtain ⟨c, F, st, o, st', rl, e, g⟩ := q
  simp only [mSkip, Option.some.injEq, Prod.mk.injEq] at e
  obtain ⟨rfl, rfl⟩ := e
  exact g σ H F rl .refl
theorem ss_bk {pos : Pos} : PS X (.Break pos) (tSt (mBk (β := β))) := psI ps_break fun D σ H q => by
  obtain ⟨c, F, st, o, st', rl, e, g⟩ := q
  simp only [mBk, Option.some.injEq, Prod.mk.injEq] at e
  obtain ⟨rfl, rfl⟩ := e
  exact g σ H F rl .refl
theorem ss_ct {pos : Pos} : PS X (.Continue pos) (tSt (mCt (β := β))) := psI ps_continue fun D σ H q => by
  obtain ⟨c, F, st, o, st', rl, e, g⟩ := q
  simp only [mCt, Option.some.injEq, Prod.mk.injEq] at e
  obtain ⟨rfl, rfl⟩ := e
  exact g σ H F rl .refl
theorem ss_if {t : Expr} {a b : List Stmt} {mt : Mn β Bool} {ma mb : Ms β} {pos : Pos} (ht : PT X t (tTs mt)) (ha : PSs X a (tSt ma)) (hb : PSs X b (tSt mb)) : PS X (.If t a b pos) (tSt (mIf mt ma mb)) := by
  refine psI (ps_if ht ha hb) fun D σ H q => ?_
  obtain ⟨c, F, st, o, st', rl, e, g⟩ := q
  obtain ⟨x, s1, e1, e⟩ := mBind_some e
  refine ⟨c, F, st, x, s1, rl, e1, fun H1 F1 t1 => ?_⟩
  cases x with
  | true =>
    rw [if_pos rfl] at e ⊢
    exact ⟨c, F1, s1, o, st', t1.rel, e, g.from (t1.frs rl)⟩
  | false =>
    rw [if_neg (by decide)] at e ⊢
    exact ⟨c, F1, s1, o, st', t1.rel, e, g.from (t1.frs rl)⟩
theorem ss_ex {e : Expr} {a : Mn β R} {pos : Pos} (he : PE X e (tE a)) (hs : swapsWith e none pos.line X.env = pure false := by rfl) : PS X (.Expr e pos) (tSt (mEx a)) := by
  refine psI (ps_expr he hs) fun D σ H q => ?_
  obtain ⟨c, F, st, o, st', rl, e, g⟩ := q
  obtain ⟨x, s1, e1, e⟩ := mBind_some e
  simp only [Option.some.injEq, Prod.mk.injEq] at e
  obtain ⟨rfl, rfl⟩ := e
  exact ⟨c, F, st, x, s1, rl, e1, fun v H1 F1 t1 _ => g σ H1 F1 t1.rel (t1.frs rl)⟩
theorem ss_ret {e : Expr} {a : Mn β R} {pos : Pos} (he : PE X e (tE a)) : PS X (.Return (some e) pos) (tSt (mRet a)) := by
  refine psI (ps_ret he) fun D σ H q => ?_
  obtain ⟨c, F, st, o, st', rl, e, g⟩ := q
  obtain ⟨x, s1, e1, e⟩ := mBind_some e
  refine ⟨c, F, st, x, s1, rl, e1, fun v H1 F1 t1 h1 => ?_⟩
  cases q : toRes x s1 with
  | none => rw [q] at e; cases e
  | some r' =>
    rw [q] at e
    simp only [Option.some.injEq, Prod.mk.injEq] at e
    obtain ⟨rfl, rfl⟩ := e
    obtain ⟨F', ok⟩ := toRes_ok rl t1 h1 q
    exact g v H1 F' ok
theorem ss_retN {pos : Pos} : PS X (.Return none pos) (tSt (mRetN (β := β))) := psI ps_retN fun D σ H q => by
  obtain ⟨c, F, st, o, st', rl, e, g⟩ := q
  simp only [mRetN, Option.some.injEq, Prod.mk.injEq] at e
  obtain ⟨rfl, rfl⟩ := e
  exact g .non H _ ⟨(ret_post rl none fun a h => nomatch h).1, by simp [ResR, Rep]⟩
theorem ss_set {i : Nat} {x : Str} {e : Expr} {a : Mn β R} {pos pos' : Pos} (hN : X.N.Nodup) (hi : X.N[i]? = some x) (hx : Loc X.env.scope x) (he : PE X e (tE a)) (hs : swapsWith e (some (.Name x pos')) pos.line X.env = pure false := by rfl) (hf : X.fn x = true ∨ X.env.scope.names.lookup x = some .local := by first | exact .inl rfl | exact .inr rfl | assumption) :
    PS X (.Assign [.Name x pos'] e pos) (tSt (mSet i a)) := by
  refine psI (ps_set hN hi hx he hs hf) fun D σ H q => ?_
  obtain ⟨c, F, st, o, st', rl, e, g⟩ := q
  obtain ⟨r, s1, e1, e⟩ := mBind_some e
  refine ⟨c, F, st, r, s1, rl, e1, fun v H1 F1 t1 h1 => ?_⟩
  cases q : setSl i r s1 with
  | none => rw [q] at e; cases e
  | some s2 =>
    rw [q] at e
    simp only [Option.some.injEq, Prod.mk.injEq] at e
    obtain ⟨rfl, rfl⟩ := e
    obtain ⟨F2, r2, f2⟩ := setSl_ok rl t1 h1 q
    exact g _ H1 F2 r2 f2
end

/-! ### targets: names alone; the slots that they change -/
abbrev Tm (β : Type) := D → Sta β → Option (Sta β)
abbrev Tms (β : Type) := List D → Sta β → Option (Sta β)
def Chg (is : List Nat) (σ σ' : L2.St) : Prop := σ'.length = σ.length ∧ ∀ j, j ∉ is → σ'[j]? = σ[j]?
def gTm (m : Tm β) (is : List Nat) : TG := fun v σ H Q => ∃ (c : C β) (F : Gh) (st : Sta β) (d : D) (st' : Sta β), Rel c F st σ H ∧ Rep H F c.R.val d v ∧ m d st = some st' ∧ ∀ σ', Rel c F st' σ' H → Chg is σ σ' → Q σ' H
def gTms (m : Tms β) (is : List Nat) : TGs := fun vs σ H Q => ∃ (c : C β) (F : Gh) (st : Sta β) (ds : List D) (st' : Sta β), Rel c F st σ H ∧ RepL H F c.R.val ds vs ∧ m ds st = some st' ∧ ∀ σ', Rel c F st' σ' H → Chg is σ σ' → Q σ' H
def tmN (i : Nat) : Tm β := fun d st => some { st with env := st.env.set i (.val d) }
def tmT (m : Tms β) (n : Nat) : Tm β := fun d st => match d with
  | .tup ds => if ds.length = n then m ds st else none
  | _ => none
def tmNil : Tms β := fun ds st => match ds with
  | [] => some st
  | _ => none
def tmCons (m : Tm β) (n : Tms β) : Tms β := fun ds st => match ds with
  | d :: r => match m d st with
    | some st' => n r st'
    | none => none
  | [] => none
section
variable {X : Cx}
theorem pgI {e : Expr} {t t' : TG} (h : PG X e t) (hi : ∀ v σ H Q, t' v σ H Q → t v σ H Q) : PG X e t' := ⟨fun pins s σ H v u Q I r q => h.run pins s σ H v u Q I r (hi v σ H Q q)⟩
theorem pgsI {e : List Expr} {t t' : TGs} (h : PGs X e t) (hi : ∀ v σ H Q, t' v σ H Q → t v σ H Q) : PGs X e t' := ⟨fun pins s σ H v u Q I r q => h.run pins s σ H v u Q I r (hi v σ H Q q)⟩
theorem sg_n {i : Nat} {x : Str} {pos : Pos} (hN : X.N.Nodup) (hi : X.N[i]? = some x) (hx : Loc X.env.scope x) (hf : X.fn x = true ∨ X.env.scope.names.lookup x = some .local := by first | exact .inl rfl | exact .inr rfl | assumption) : PG X (.Name x pos) (gTm (tmN (β := β) i) [i]) :=
  pgI (pg_name hN hi hx hf) fun v σ H Q q => by
    obtain ⟨c, F, st, d, st', rl, hd, e, k⟩ := q
    simp only [tmN, Option.some.injEq] at e
    subst e
    exact k _ (rl.set ⟨v, rfl, hd⟩ (fun _ z => nomatch z)) ⟨by simp, fun j hj => List.getElem?_set_ne (by simp at hj; omega)⟩
theorem sg_nil : PGs X [] (gTms (tmNil (β := β)) []) := pgsI pgs_nil fun vs σ H Q q => by
  obtain ⟨c, F, st, ds, st', rl, hd, e, k⟩ := q
  cases ds with
  | nil =>
    simp only [tmNil, Option.some.injEq] at e
    subst e
    simp only [RepL] at hd
    exact ⟨hd, k σ rl ⟨rfl, fun _ _ => rfl⟩⟩
  | cons d r => simp [tmNil] at e
theorem sg_cons {e : Expr} {es : List Expr} {m : Tm β} {n : Tms β} {is js : List Nat} (h1 : PG X e (gTm m is)) (h2 : PGs X es (gTms n js)) (hs : (assignEach (e :: es) X.env).map (·.2) = assign e X.env :: (assignEach es X.env).map (·.2) := by rfl) : PGs X (e :: es) (gTms (tmCons m n) (is ++ js)) :=
  pgsI (pgs_cons h1 h2 hs) fun vs σ H Q q => by
    obtain ⟨c, F, st, ds, st', rl, hd, e, k⟩ := q
    cases ds with
    | nil => simp [tmCons] at e
    | cons d r =>
      simp only [RepL] at hd
      obtain ⟨v, t, ev, h1, h2⟩ := hd
      subst ev
      simp only [tmCons] at e
      cases q1 : m d st with
      | none => rw [q1] at e; cases e
      | some s1 =>
        rw [q1] at e
        refine ⟨v, t, rfl, c, F, st, d, s1, rl, h1, q1, fun σ1 r1 g1 => ?_⟩
        refine ⟨c, F, s1, r, st', r1, h2, e, fun σ2 r2 g2 => k σ2 r2 ⟨g2.1.trans g1.1, fun j hj => ?_⟩⟩
        rw [g2.2 j (fun z => hj (List.mem_append_right _ z)), g1.2 j (fun z => hj (List.mem_append_left _ z))]
theorem sg_tup {es : List Expr} {k : Nat} {pos : Pos} {n : Nat} {m : Tms β} {is : List Nat} (hc : X.calm = true) (h : PGs X es (gTms m is)) (hn : (assignEach es X.env).length = n := by rfl) (hst : (assignEach es X.env).findIdx? (·.1) = none := by rfl) (hK : X.K = Wrt.K := by rfl) : PG X (.Tuple es k pos) (gTm (tmT m n) is) :=
  pgI (pg_tup hc h hn hst) fun v σ H Q q => by
    obtain ⟨c, F, st, d, st', rl, hd, e, k⟩ := q
    cases d with
    | tup ds =>
      simp only [tmT] at e
      split at e
      · rename_i hl
        simp only [Rep] at hd
        obtain ⟨a, xs, ev, ha, hl2⟩ := hd
        exact ⟨a, xs, ev, hK ▸ ha.sq, by rw [hl2.length, hl], c, F, st, ds, st', rl, hl2, e, k⟩
      · cases e
    | _ => simp [tmT] at e
/-- a, b = e -/
def mUnp (a : Mn β R) (m : Tm β) : Ms β := mBind (mD a) fun d st => match m d st with
  | none => none
  | some st' => some (.nx, st')
theorem ss_unp {tg e : Expr} {a : Mn β R} {m : Tm β} {is : List Nat} {pos : Pos} (he : PE X e (tE a)) (hg : PG X tg (gTm m is)) (hs : swapsWithSole [tg] e pos.line X.env = pure false := by rfl) (hw : swappedStores [tg] e X.env = pure none := by rfl)
    (h1 : (assignEach [tg] X.env).map (·.2) = [assign tg X.env] := by rfl) : PS X (.Assign [tg] e pos) (tSt (mUnp a m)) := by
  refine psI (ps_asg (se_d he) hg hs hw h1) fun D σ H q => ?_
  obtain ⟨c, F, st, o, st', rl, e, g⟩ := q
  obtain ⟨d, s1, e1, e⟩ := mBind_some e
  refine ⟨c, F, st, d, s1, rl, e1, fun v H1 F1 t1 h1 => ?_⟩
  cases q1 : m d s1 with
  | none => rw [q1] at e; cases e
  | some s2 =>
    rw [q1] at e
    simp only [Option.some.injEq, Prod.mk.injEq] at e
    obtain ⟨rfl, rfl⟩ := e
    exact ⟨c, F1, s1, d, s2, t1.rel, h1, q1, fun σ' r' _ => g σ' H1 F1 r' (t1.frs rl)⟩
/-- a, b = x, y with plain local names -/
def mPar (i j : Nat) (a b : Mn β R) : Ms β := mBind a fun r1 => mBind b fun r2 st => match r1, r2 with
  | .at _, _ => none
  | _, .at _ => none
  | r1, r2 => match setSl i r1 st with
    | none => none
    | some st1 => match setSl j r2 st1 with
      | none => none
      | some st2 => some (.nx, st2)
/-- .. where a slot stands on the right: as data -/
def mParD (i j : Nat) (a b : Mn β R) : Ms β := mBind (mD a) fun d1 => mBind (mD b) fun d2 st => some (.nx, { st with env := (st.env.set i (.val d1)).set j (.val d2) })
theorem ss_parD {i j : Nat} {x y : Str} {a b : Expr} {ma mb : Mn β R} {px py pt pos : Pos} {kt k2 : Nat} {pt2 : Pos} (hc : X.calm = true) (hN : X.N.Nodup) (hi : X.N[i]? = some x) (hj : X.N[j]? = some y) (hij : i ≠ j) (hx : X.env.scope.names.lookup x = some .local) (hy : X.env.scope.names.lookup y = some .local)
    (ha : PE X a (tE ma)) (hb : PE X b (tE mb)) (hw : swappedStores [.Tuple [.Name x px, .Name y py] kt pt] (.Tuple [a, b] k2 pt2) X.env = pure (some [x, y])) (hs : swapsWithSole [.Tuple [.Name x px, .Name y py] kt pt] (.Tuple [a, b] k2 pt2) pos.line X.env = pure false := by rfl)
    (h1 : starEach [a, b] X.env = (false, eval a X.env) :: starEach [b] X.env := by rfl) (h2 : starEach [b] X.env = (false, eval b X.env) :: starEach [] X.env := by rfl) :
    PS X (.Assign [.Tuple [.Name x px, .Name y py] kt pt] (.Tuple [a, b] k2 pt2) pos) (tSt (mParD i j ma mb)) := by
  refine psI (ps_par hc hN hi hj hij hx hy (pa_cons (se_d ha) (pa_cons (se_d hb) pa_nil h2) h1) hw hs) fun D σ H q => ?_
  obtain ⟨c, F, st, o, st', rl, e, g⟩ := q
  obtain ⟨d1, s1, e1, e⟩ := mBind_some e
  obtain ⟨d2, s2, e2, e⟩ := mBind_some e
  simp only [Option.some.injEq, Prod.mk.injEq] at e
  obtain ⟨rfl, rfl⟩ := e
  refine ⟨c, F, st, d1, s1, rl, e1, fun v H1 F1 t1 h1 => ?_⟩
  refine ⟨c, F1, s1, d2, s2, t1.rel, e2, fun w H2 F2 t2 h2 => ?_⟩
  refine ⟨v, w, rfl, g _ H2 F2 ?_ ((t1.trans t2).frs rl)⟩
  have q1 := t2.rel.set (i := i) (s := .val d1) (v := v) ⟨v, rfl, t2.rep t1.rel h1⟩ (fun _ z => nomatch z)
  exact q1.set (i := j) (s := .val d2) (v := w) ⟨w, rfl, h2⟩ (fun _ z => nomatch z)
def slOf : R → Sl
  | .val d => .val d
  | .new d => .own d
  | .at _ => .no
  | .loc n => .val (.loc n)
theorem setSl_env {r : R} {i : Nat} {s s' : Sta β} (h : ∀ k, r ≠ .at k) (e : setSl i r s = some s') : s'.env = s.env.set i (slOf r) := by
  cases r with
  | val d => simp only [setSl, Option.some.injEq] at e; rw [← e]; rfl
  | new d => simp only [setSl, Option.some.injEq] at e; rw [← e]; rfl
  | «at» k => exact absurd rfl (h k)
  | loc n => simp only [setSl, Option.some.injEq] at e; rw [← e]; rfl
theorem ss_par {i j : Nat} {x y : Str} {a b : Expr} {ma mb : Mn β R} {px py pt pos : Pos} {kt k2 : Nat} {pt2 : Pos} (hc : X.calm = true) (hN : X.N.Nodup) (hi : X.N[i]? = some x) (hj : X.N[j]? = some y) (hij : i ≠ j) (hx : X.env.scope.names.lookup x = some .local) (hy : X.env.scope.names.lookup y = some .local)
    (ha : PE X a (tE ma)) (hb : PE X b (tE mb)) (hw : swappedStores [.Tuple [.Name x px, .Name y py] kt pt] (.Tuple [a, b] k2 pt2) X.env = pure (some [x, y])) (hs : swapsWithSole [.Tuple [.Name x px, .Name y py] kt pt] (.Tuple [a, b] k2 pt2) pos.line X.env = pure false := by rfl)
    (h1 : starEach [a, b] X.env = (false, eval a X.env) :: starEach [b] X.env := by rfl) (h2 : starEach [b] X.env = (false, eval b X.env) :: starEach [] X.env := by rfl) :
    PS X (.Assign [.Tuple [.Name x px, .Name y py] kt pt] (.Tuple [a, b] k2 pt2) pos) (tSt (mPar i j ma mb)) := by
  refine psI (ps_par hc hN hi hj hij hx hy (pa_cons ha (pa_cons hb pa_nil h2) h1) hw hs) fun D σ H q => ?_
  obtain ⟨c, F, st, o, st', rl, e, g⟩ := q
  obtain ⟨r1, s1, e1, e⟩ := mBind_some e
  obtain ⟨r2, s2, e2, e⟩ := mBind_some e
  refine ⟨c, F, st, r1, s1, rl, e1, fun v H1 F1 t1 h1 => ?_⟩
  refine ⟨c, F1, s1, r2, s2, t1.rel, e2, fun w H2 F2 t2 h2 => ?_⟩
  have hnf : ∀ x, H x = none → ¬ c.R.foot x := fun x => rl.nofoot
  have h1' := h1.stp t1.rel t2 hnf
  have tt := t1.trans t2
  have h2' : RepR c σ H F2 H2 s2 r2 w := h2.hs fun x hx => t1.gone hx
  refine ⟨v, w, rfl, ?_⟩
  -- a new object's address is not the other's
  have ap : ∀ d d', r1 = .new d → r2 = .new d' → v ≠ w := fun d d' q1 q2 z => by
    subst q1 q2
    obtain ⟨a, ea, ho, _⟩ := h1
    obtain ⟨b, eb, _, _, hn, _⟩ := h2
    rw [ea, eb] at z
    cases z
    obtain ⟨o, q⟩ := ho.there
    rw [hn] at q
    cases q
  have one : ∀ {r : R} {u : V} {i : Nat} {s3 s4 : Sta β} {σ3 : L2.St} (hr : RepR c σ H F2 H2 s2 r u), (∀ k, r ≠ .at k) → Rel c F2 s3 σ3 H2 → (∀ d a, r = .new d → u = .ref a → ¬ Bsy s3 σ3 F2 a) → setSl i r s3 = some s4 → Rel c F2 s4 (σ3.set i (some u)) H2 := by
    intro r u i s3 s4 σ3 hr hna r3 hno e
    cases r with
    | val d =>
      simp only [setSl, Option.some.injEq] at e
      subst e
      exact r3.set ⟨u, rfl, hr⟩ (fun _ z => nomatch z)
    | new d =>
      simp only [setSl, Option.some.injEq] at e
      subst e
      obtain ⟨a, e, ho, hf, hn, hw⟩ := hr
      subst e
      exact r3.set ⟨a, rfl, ho, hf, rl.h0 hn⟩ (fun _ _ b eb => by cases eb; exact hno d a rfl rfl)
    | «at» k => exact absurd rfl (hna k)
    | loc n =>
      simp only [setSl, Option.some.injEq] at e
      subst e
      exact r3.set ⟨u, rfl, hr⟩ (fun _ z => nomatch z)
  have nat1 : ∀ k, r1 ≠ .at k := fun k z => by subst z; simp at e
  have nat2 : ∀ k, r2 ≠ .at k := fun k z => by subst z; cases r1 <;> simp at e
  have e' : (match setSl i r1 s2 with
    | none => none
    | some st1 => match setSl j r2 st1 with
      | none => none
      | some st2 => some (O.nx, st2)) = some (o, st') := by
    cases r1 with
    | «at» k => exact absurd rfl (nat1 k)
    | val d => cases r2 with
      | «at» k => exact absurd rfl (nat2 k)
      | val d' => exact e
      | new d' => exact e
      | loc n' => exact e
    | new d => cases r2 with
      | «at» k => exact absurd rfl (nat2 k)
      | val d' => exact e
      | new d' => exact e
      | loc n' => exact e
    | loc n => cases r2 with
      | «at» k => exact absurd rfl (nat2 k)
      | val d' => exact e
      | new d' => exact e
      | loc n' => exact e
  clear e
  cases q1 : setSl i r1 s2 with
  | none => rw [q1] at e'; cases e'
  | some s3 =>
    rw [q1] at e'
    simp only at e'
    cases q2 : setSl j r2 s3 with
    | none => rw [q2] at e'; cases e'
    | some s4 =>
      rw [q2] at e'
      simp only [Option.some.injEq, Prod.mk.injEq] at e'
      obtain ⟨rfl, rfl⟩ := e'
      have R3 := one h1' nat1 t2.rel (fun d a q z => by subst q; obtain ⟨b, eb, _, _, _, hw⟩ := h1'; rw [eb] at z; cases z; exact hw) q1
      have R4 := one h2' nat2 R3 (fun d a q z => by
        subst q
        obtain ⟨b, eb, _, _, hn, hw⟩ := h2'
        rw [eb] at z
        cases z
        refine fun z => z.elim ?_ fun z => hw (.inr z)
        rintro ⟨k, dk, hk, hσ⟩
        have hs3 : s3.env = s2.env.set i (slOf r1) := setSl_env nat1 q1
        by_cases hki : i = k
        · subst hki
          rw [hs3] at hk
          by_cases hil : i < s2.env.length
          · rw [List.getElem?_set_self hil] at hk
            have : i < σ.length := by have := t2.rel.len; omega
            rw [List.getElem?_set_self this] at hσ
            have hv : v = .ref a := by simpa using hσ
            cases r1 with
            | val d1 => simp [slOf] at hk
            | new d1 => exact ap d1 d rfl rfl (by rw [hv, eb])
            | «at» k => exact absurd rfl (nat1 k)
            | loc n => simp [slOf] at hk
          · rw [List.getElem?_eq_none (by simpa using hil)] at hk
            cases hk
        · rw [hs3, List.getElem?_set_ne hki] at hk
          rw [List.getElem?_set_ne hki] at hσ
          exact hw (.inl ⟨k, dk, hk, hσ⟩)) q2
      exact g _ H2 F2 R4 (tt.frs rl)
end
end M

/-! MDic: dicts as data: keys (whole numbers and texts) and values in their order. -/
namespace M
open PySem PySem.Spec PyProof.Rows L2
variable [Wrt]
/-! ### keys -/
def keyOf : D → Option Key
  | .int i => some (.inl i)
  | .str x => some (.inr x)
  | _ => none
theorem keyOf_rep {H : Hp} {F : Gh} {rv v : V} {d : D} {k : Key} (h : Rep H F rv d v) (e : keyOf d = some k) : v = kV k := by
  cases d <;> simp [keyOf] at e <;> subst e <;> simpa [Rep, kV] using h
theorem keyOf_pk {H : Hp} {F : Gh} {rv v : V} {d : D} {k : Key} (h : Pk H F rv d v) (e : keyOf d = some k) : v = kV k := by
  cases d <;> simp [keyOf] at e <;> subst e <;> simpa [Pk, Rep, kV] using h
section
variable {α γ : Type}
def dGet : List Key → List α → Key → Option α
  | k :: ks, x :: xs, q => if k = q then some x else dGet ks xs q
  | _, _, _ => none
def dHas (ks : List Key) (q : Key) : Bool := ks.any fun k => decide (k = q)
/-- the values behind d[q] = y -/
def dPutV (ks : List Key) (xs : List α) (q : Key) (y : α) : List α := if dHas ks q = true then List.zipWith (fun k x => if k = q then y else x) ks xs else xs ++ [y]
def dPutK (ks : List Key) (q : Key) : List Key := if dHas ks q = true then ks else ks ++ [q]
end
section
variable {H : Hp} {F : Gh} {rv : V}
theorem dGet_val {q : Key} : ∀ {ks : List Key} {vs : List V}, valV (ks.zip vs) q = dGet ks vs q
  | [], _ => by simp [dGet, valV_nil]
  | _ :: _, [] => by simp [dGet, valV_nil]
  | k :: ks, v :: vs => by
    rw [List.zip_cons_cons]
    by_cases h : k = q
    · rw [valV_pos h, dGet, if_pos h]
    · rw [valV_neg h, dGet, if_neg h]
      exact dGet_val
theorem dGet_rep {q : Key} : ∀ {ks : List Key} {ds : List D} {vs : List V}, RepL H F rv ds vs → (∀ d, dGet ks ds q = some d → ∃ v, dGet ks vs q = some v ∧ Rep H F rv d v) ∧ (dGet ks ds q = none → dGet ks vs q = none)
  | [], _, _, _ => ⟨fun d e => by simp [dGet] at e, fun _ => by simp [dGet]⟩
  | _ :: _, [], _, r => by
    simp only [RepL] at r
    subst r
    exact ⟨fun d e => by simp [dGet] at e, fun _ => by simp [dGet]⟩
  | k :: ks, d :: ds, _, r => by
    simp only [RepL] at r
    obtain ⟨v, t, rfl, h1, h2⟩ := r
    simp only [dGet]
    by_cases h : k = q
    · rw [if_pos h, if_pos h]
      exact ⟨fun d' e => by cases e; exact ⟨v, rfl, h1⟩, fun e => by cases e⟩
    · rw [if_neg h, if_neg h]
      exact dGet_rep h2
theorem dGet_some {q : Key} : ∀ {ks : List Key} {α : Type} {xs : List α}, ks.length = xs.length → (dGet ks xs q).isSome = dHas ks q
  | [], _, [], _ => rfl
  | k :: ks, _, x :: xs, h => by
    simp only [dGet, dHas, List.any_cons]
    by_cases e : k = q
    · simp [e]
    · rw [if_neg e, dGet_some (by simpa using h)]
      simp [e, dHas]
theorem put_zip {q : Key} {y : V} {ks : List Key} {vs : List V} (hl : ks.length = vs.length) : putK (ks.zip vs) q y = (dPutK ks q).zip (dPutV ks vs q y) := by
  unfold putK dPutK dPutV
  have hany : ((ks.zip vs).any fun kv => decide (kv.1 = q)) = dHas ks q := by
    rw [valV_any, dGet_val, dGet_some hl]
  rw [hany]
  by_cases h : dHas ks q = true
  · rw [if_pos h, if_pos h, if_pos h]
    clear hany h
    induction ks generalizing vs with
    | nil => simp
    | cons k ks ih =>
      cases vs with
      | nil => simp at hl
      | cons v vs =>
        simp only [List.zip_cons_cons, List.map_cons, List.zipWith_cons_cons]
        rw [ih (by simpa using hl)]
        congr 1
        split <;> rfl
  · rw [if_neg h, if_neg h, if_neg h, List.zip_append hl]
    rfl
theorem zipW_rep {q : Key} {d : D} {y : V} (hd : Rep H F rv d y) : ∀ {ks : List Key} {ds : List D} {vs : List V}, RepL H F rv ds vs → RepL H F rv (List.zipWith (fun k x => if k = q then d else x) ks ds) (List.zipWith (fun k x => if k = q then y else x) ks vs)
  | [], _, _, _ => by simp [RepL]
  | _ :: _, [], _, r => by
    simp only [RepL] at r
    subst r
    simp [RepL]
  | k :: ks, e :: ds, _, r => by
    simp only [RepL] at r
    obtain ⟨v, t, rfl, h1, h2⟩ := r
    simp only [List.zipWith_cons_cons]
    refine .cons ?_ (zipW_rep hd h2)
    split
    · exact hd
    · exact h1
theorem putV_rep {q : Key} {d : D} {y : V} (hd : Rep H F rv d y) {ks : List Key} {ds : List D} {vs : List V} (r : RepL H F rv ds vs) : RepL H F rv (dPutV ks ds q d) (dPutV ks vs q y) := by
  unfold dPutV
  split
  · exact zipW_rep hd r
  · exact r.append (.cons hd .nil)
theorem putV_len {α : Type} {q : Key} {y : α} {ks : List Key} {xs : List α} (hl : ks.length = xs.length) : (dPutK ks q).length = (dPutV ks xs q y).length := by
  unfold dPutK dPutV
  split
  · rw [List.length_zipWith, hl, Nat.min_self]
  · simp [hl]
end
end M

/-! MFor: what is walked, for, while, comprehensions, a def's body. -/
namespace M
open PySem PySem.Spec PyProof.Rows L2
variable [Wrt]
variable {β : Type} [Sto β] [Kind β]

/-! ### a def's body -/
def runF (np n : Nat) (m : Ms β) : Fn β := fun args b => if args.length = np then (match m ⟨args ++ List.replicate (n - args.length) .no, b⟩ with
  | some (.rt r, st') => some (r, st'.bag)
  | some (.nx, st') => some (.val .non, st'.bag)
  | _ => none) else none
theorem ArgRs.length {foot : Addr → Prop} {rv : V} {H : Hp} {F : Gh} : ∀ {as : List Sl} {vs : List V}, ArgRs foot rv H F as vs → vs.length = as.length
  | [], _, h => by cases h; rfl
  | a :: as, _, h => by
    obtain ⟨v, r, e, _, h2⟩ := h
    subst e
    simp [ArgRs.length h2]
theorem ArgRs.get {foot : Addr → Prop} {rv : V} {H : Hp} {F : Gh} : ∀ {as : List Sl} {vs : List V} {i : Nat} {s : Sl}, ArgRs foot rv H F as vs → as[i]? = some s → ∃ v, vs[i]? = some v ∧ ArgR foot rv H F s v
  | [], _, _, _, _, e => by simp at e
  | a :: as, _, i, s, h, e => by
    obtain ⟨v, r, ev, h1, h2⟩ := h
    subst ev
    cases i with
    | zero =>
      have e2 : a = s := Option.some.inj e
      subst e2
      exact ⟨v, rfl, h1⟩
    | succ i => exact ArgRs.get (i := i) h2 e
theorem argR_slot {c : C β} {F : Gh} {s : Sl} {v : V} (hF : c.F0 = F) (h : ArgR (Ft c.R c.F0) c.R.val c.H0 F s v) : RelSl c F c.H0 s (some (some v)) := by
  cases s with
  | no => trivial
  | val d => exact ⟨v, rfl, h⟩
  | own d => exact h.elim
  | lock d =>
    obtain ⟨a, e, ho, hf⟩ := h
    subst e
    exact ⟨a, rfl, ho, hf, ho.there⟩
section
variable {P : Program} {w : World} {K : PySem.W.Frag} {mg : Str → Option Value} {base : Heap}
theorem fn_ok {x qual : Str} {st : Stmt} {f : Addr} {fd : FuncData} {N ps : List Str} {k : Nat} {m : Ms β} (F : Fun K x qual st f fd) (S : FnScope N ps (defScope st))
    (hbody : ∀ (cdv : Value) (A : Around) (outer : List Env) (s : Shared) (H : Hp) (E : XK), Room k (A.deeper (envOfC qual (defScope st) s.heap.objs.size f cdv)) →
      PSs (cxOf CX0 P w K mg base N qual (defScope st) f cdv A outer s H E).nox (defBody st) (tSt m)) : FnOk P w K mg base CX0 (k + 1) f fd ps (spF (runF ps.length N.length m)) := by
  refine F.ok S (fun vs H Q E h => ?_) (fun cdv A outer s H vs Q E hr h => ⟨tSt m, hbody cdv A outer s H E hr, ?_⟩)
  · obtain ⟨Sr, F, args, b, r, b', _, _, _, _, _, ha, e, _⟩ := h
    unfold runF at e
    split at e
    · rename_i hl; rw [ha.length, hl]
    · cases e
  · obtain ⟨Sr, Fb, args, b, r, b', hkd, hfs, hft, hb, hst, ha, e, q⟩ := h
    unfold runF at e
    split at e
    · rename_i hl
      have hvl := ha.length
      let c : C β := ⟨Sr, hkd, H, Fb, hfs, hft, fun a z => z.2⟩
      let st0 : Sta β := ⟨args ++ List.replicate (N.length - args.length) .no, b⟩
      have rl : Rel c Fb st0 (start N vs) H := by
        have own_no : ∀ (i : Nat) (d : D), st0.env[i]? ≠ some (.own d) := fun i d z => by
          rw [List.getElem?_append] at z
          split at z
          · obtain ⟨v, _, h⟩ := ha.get z
            exact h.elim
          · rw [List.getElem?_replicate] at z
            split at z <;> cases z
        refine ⟨?_, fun i s hi => ?_, fun i j d e' hi => absurd hi (own_no i d), fun a o h _ => h, hb, fun a h => h, hfs, fun a ⟨i, d, z, _⟩ => absurd z (own_no i d), fun _ _ h => h, fun _ h => .inl h, hst⟩
        · show (args ++ List.replicate (N.length - args.length) Sl.no).length = (vs.map some ++ List.replicate (N.length - vs.length) none).length
          simp [hvl]
        · have hi' : (args ++ List.replicate (N.length - args.length) Sl.no)[i]? = some s := hi
          show RelSl c Fb H s (vs.map some ++ List.replicate (N.length - vs.length) none)[i]?
          rw [List.getElem?_append] at hi'
          split at hi'
          · obtain ⟨v, e1, h1⟩ := ha.get hi'
            have hlt : i < (vs.map some).length := by rw [List.length_map, hvl]; assumption
            rw [List.getElem?_append_left hlt, List.getElem?_map, e1]
            exact argR_slot (c := c) rfl h1
          · rw [List.getElem?_replicate] at hi'
            split at hi'
            · cases hi'; trivial
            · cases hi'
      split at e
      · rename_i r' st' em
        simp only [Option.some.injEq, Prod.mk.injEq] at e
        obtain ⟨rfl, rfl⟩ := e
        exact ⟨c, Fb, st0, .rt r', st', rl, em, fun v H' F' h => q v H' F' h.1 h.2⟩
      · rename_i st' em
        simp only [Option.some.injEq, Prod.mk.injEq] at e
        obtain ⟨rfl, rfl⟩ := e
        exact ⟨c, Fb, st0, .nx, st', rl, em, fun σ' H' F' r' _ => q .non H' _ (ret_post r' none fun a h => nomatch h).1 (by simp [ResR, Rep])⟩
      · cases e
    · cases e
theorem fn_none {f : Addr} {fd : FuncData} {ps : List Str} {k : Nat} : FnOk P w K mg base CX0 k f fd ps (spF fun _ (_ : β) => none) := by
  refine ⟨fun vs H Q E h => ?_, fun A outer s H args us vs Q E _ _ _ _ h => ?_⟩
  · obtain ⟨_, _, _, _, _, _, _, _, _, _, _, _, e, _⟩ := h; cases e
  · obtain ⟨_, _, _, _, _, _, _, _, _, _, _, _, e, _⟩ := h; cases e
end

/-! ### an owned list changes -/
section
variable {c : C β} {F F1 F' : Gh} {st st' : Sta β} {σ : L2.St} {H H1 H' Hs : Hp} {D D' : Ends} {o : O}
theorem own_at (rl : Rel c F st σ H) {i : Nat} {ds : List M.D} (hi : st.env[i]? = some (.own (.lst ds))) : ∃ a xs, σ[i]? = some (some (.ref a)) ∧ H a = some (.lst xs) ∧ RepL H F c.R.val ds xs := by
  obtain ⟨a, e, ⟨xs, h, l⟩, _⟩ := rl.slot i _ hi
  exact ⟨a, xs, e, h, l⟩
theorem own_at2 (rl : Rel c F st σ H) {i : Nat} {d : M.D} (hi : st.env[i]? = some (.own d)) : ∃ a, σ[i]? = some (some (.ref a)) ∧ RepO H F c.R.val d a := by
  obtain ⟨a, e, h, _⟩ := rl.slot i _ hi
  exact ⟨a, e, h⟩
theorem own_upd2 (rl : Rel c F st σ H) {i : Nat} {d0 d' : M.D} {a : Addr} {ob : HO} (hi : st.env[i]? = some (.own d0)) (hσ : σ[i]? = some (some (.ref a))) (hl : ∀ H', Kp H F H' F → H' a = some ob → RepO H' F c.R.val d' a) :
    Stp c σ F st H F { st with env := st.env.set i (.own d') } (upd H a ob) := by
  have ow : Own st σ a := ⟨i, _, hi, hσ⟩
  obtain ⟨hFa, h0a, o, ha⟩ := rl.own_f ow
  have hil : i < st.env.length := (List.getElem?_eq_some_iff.mp hi).1
  have wk : Kp H F (upd H a ob) F := ⟨fun b o e f => ⟨by rw [upd_ne (fun z => f (by rw [z]; exact hFa))]; exact e, f⟩, fun _ _ h => h⟩
  have nft : ∀ b, c.R.foot b → b ≠ a := fun b hb z => rl.own_foot ow (z ▸ hb)
  have now : ∀ b, Own { st with env := st.env.set i (.own d') } σ b → Own st σ b := fun b hb => by
    obtain ⟨j, d, hj, hq⟩ := hb
    by_cases e : i = j
    · subst e; exact ⟨i, _, hi, hq⟩
    · rw [List.getElem?_set_ne e] at hj; exact ⟨j, d, hj, hq⟩
  refine ⟨⟨by simpa using rl.len, fun j s hj => ?_, fun j k d e hj hk hq => ?_, fun b o e f => ?_, c.R.keep _ _ _ rl.bag fun b o hb e => by rw [upd_ne (nft b hb)]; exact e, rl.f0, fun b hb => ?_, fun b hb => rl.nl b (now b hb), rl.mu0, rl.ln, rl.sto.mono wk rfl (fun b hb => (rl.loc_f hb).1) (fun b o e => upd_dom e) fun b o hb e => by rw [upd_ne (fun (z : b = a) => rl.nl a ow (z ▸ hb))]; exact e⟩, fun b o e _ hw => ⟨?_, Iff.rfl⟩, fun b hb => now b hb, fun b o e => ?_, fun _ _ h => h, fun _ h => .inl h⟩
  · by_cases e : i = j
    · subst e
      rw [List.getElem?_set_self hil] at hj
      cases hj
      rw [hσ]
      exact ⟨a, rfl, hl _ wk upd_same, hFa, h0a⟩
    · rw [List.getElem?_set_ne e] at hj
      have q := rl.slot j s hj
      cases s with
      | no => trivial
      | val d => obtain ⟨v, e, hr⟩ := q; exact ⟨v, e, hr.mono wk⟩
      | own d =>
        obtain ⟨x, e2, hr, hx, h0⟩ := q
        refine ⟨x, e2, hr.mono wk (fun o z => ?_), hx, h0⟩
        rw [upd_ne (fun z => e (rl.uniq i j _ _ hi hj (by rw [hσ, e2, z])))]
        exact z
      | lock d =>
        obtain ⟨x, e2, hr, hx, ⟨o', h0⟩⟩ := q
        refine ⟨x, e2, hr.mono wk (fun o z => ?_), hx, ⟨o', h0⟩⟩
        rw [upd_ne (fun z => by rw [z, h0a] at h0; cases h0)]
        exact z
  · have gj : ∃ d', st.env[j]? = some (.own d') := by
      by_cases e : i = j
      · subst e; exact ⟨_, hi⟩
      · rw [List.getElem?_set_ne e] at hj; exact ⟨_, hj⟩
    have gk : ∃ d', st.env[k]? = some (.own d') := by
      by_cases e : i = k
      · subst e; exact ⟨_, hi⟩
      · rw [List.getElem?_set_ne e] at hk; exact ⟨_, hk⟩
    obtain ⟨d1, g1⟩ := gj
    obtain ⟨d2, g2⟩ := gk
    exact rl.uniq j k d1 d2 g1 g2 hq
  · rw [upd_ne (fun z => by rw [z, h0a] at e; cases e)]
    exact rl.base b o e f
  · by_cases e : b = a
    · subst e; exact ⟨_, upd_same⟩
    · rw [upd_ne e]; exact rl.fs b hb
  · rw [upd_ne (fun z => hw (.inl (by rw [z]; exact ow)))]
    exact e
  · by_cases e2 : b = a
    · subst e2; exact ⟨_, upd_same⟩
    · rw [upd_ne e2]; exact ⟨o, e⟩
theorem own_upd (rl : Rel c F st σ H) {i : Nat} {ds ds' : List M.D} {a : Addr} {xs' : List V} (hi : st.env[i]? = some (.own (.lst ds))) (hσ : σ[i]? = some (some (.ref a))) (hl : RepL H F c.R.val ds' xs') :
    Stp c σ F st H F { st with env := st.env.set i (.own (.lst ds')) } (upd H a (.lst xs')) := own_upd2 rl hi hσ fun H' wk e => ⟨xs', e, hl.mono wk⟩
end
/-- x.append(e), .. : the slot i an owned list; args as data -/
def mOwn (i : Nat) (f : List D → List D → Option (D × List D)) (a : Mn β (List D)) : Mn β R := fun st => match st.env[i]? with
  | some (.own (.lst _)) => mBind a (fun args st1 => match st1.env[i]? with
    | some (.own (.lst ds)) => match f ds args with
      | some (d, ds') => some (.val d, { st1 with env := st1.env.set i (.own (.lst ds')) })
      | none => none
    | _ => none) st
  | _ => none
/-- a method of a list that changes it -/
def OkM (r : V → List V → Hp → VK → Prop) (f : List D → List D → Option (D × List D)) : Prop := ∀ (H : Hp) (F : Gh) (rv : V) (l : Addr) (xs vs : List V) (ds as : List D) (d : D) (ds' : List D) (Q : VK), H l = some (.lst xs) → RepL H F rv ds xs → RepL H F rv as vs →
  f ds as = some (d, ds') → (∀ v xs', RepL H F rv ds' xs' → (∀ F' H', Kp H F H' F' → Rep H' F' rv d v) → Q v (upd H l (.lst xs'))) → r (.ref l) vs H Q
section
variable {X : Cx}
theorem meth_reads {r : V → List V → Hp → VK → Prop} {f : List D → List D → Option (D × List D)} (ho : OkM r f) {i : Nat} {ta : TA} {a : Mn β (List D)} {K : PySem.W.Frag} (ha : ∀ σ H Q, tDs a σ H Q → ta σ H Q) : ∀ σ H Q, tE (mOwn i f a) σ H Q → tBM K "list" r (tVar i) ta σ H Q := fun σ H Q q => by
  obtain ⟨c, F, st, res, st', rl, e, k⟩ := q
  simp only [mOwn] at e
  cases q0 : st.env[i]? with
  | none => rw [q0] at e; cases e
  | some s0 =>
    rw [q0] at e
    cases s0 with
    | no => cases e
    | val _ => cases e
    | lock _ => cases e
    | own d0 =>
      cases d0 with
      | lst ds0 =>
        simp only at e
        obtain ⟨args, s1, e1, e⟩ := mBind_some e
        obtain ⟨a0, xs0, hσ, h0, _⟩ := own_at rl q0
        refine ⟨.ref a0, hσ, .inl ⟨rfl, xs0, SqL.of h0⟩, ?_⟩
        refine ha _ _ _ ⟨c, F, st, args, s1, rl, e1, fun vs H1 F1 t1 h1 => ?_⟩
        split at e
        · rename_i ds q1
          split at e
          · rename_i d ds' q2
            simp only [Option.some.injEq, Prod.mk.injEq] at e
            obtain ⟨rfl, rfl⟩ := e
            obtain ⟨a1, xs1, hσ1, h1a, hl1⟩ := own_at t1.rel q1
            rw [hσ] at hσ1
            cases hσ1
            refine ho H1 F1 c.R.val a0 xs1 vs ds args d ds' Q h1a hl1 h1 q2 fun v xs' hl' hv => ?_
            have t2 := own_upd t1.rel q1 hσ hl'
            exact k v _ F1 (t1.trans t2) (hv F1 _ (t2.pers t1.rel))
          · cases e
        · cases e
      | _ => cases e
end
def fAppend : List D → List D → Option (D × List D) := fun ds as => match as with
  | [d] => if ds.length < line then some (.non, ds ++ [d]) else none
  | _ => none
def fPop : List D → List D → Option (D × List D) := fun ds as => match as with
  | [] => match ds[ds.length - 1]? with
    | some d => some (d, ds.dropLast)
    | none => none
  | _ => none
def fPopAt : List D → List D → Option (D × List D) := fun ds as => match as with
  | [.int i] => if -(2 ^ 63) ≤ i ∧ i < 2 ^ 63 then (match seqIndex? i ds.length with
    | some k => match ds[k]? with
      | some d => some (d, ds.eraseIdx k)
      | none => none
    | none => none) else none
  | _ => none
def fReverse : List D → List D → Option (D × List D) := fun ds as => match as with
  | [] => some (.non, ds.reverse)
  | _ => none
theorem ok_append : OkM rAppend fAppend := fun H F rv l xs vs ds as d ds' Q h hl ha e k => by
  unfold fAppend at e
  split at e
  · split at e
    · rename_i d1 hlt
      simp only [Option.some.injEq, Prod.mk.injEq] at e
      obtain ⟨rfl, rfl⟩ := e
      simp only [RepL] at ha
      obtain ⟨v, r, rfl, h1, rfl⟩ := ha
      refine ⟨l, xs, v, rfl, rfl, h, by rw [hl.length, ← line_eq]; exact hlt, k .non _ (hl.append (.cons h1 .nil)) fun _ _ _ => by simp [Rep]⟩
    · cases e
  · cases e
theorem RepL.dropLast {H : Hp} {F : Gh} {rv : V} {ds : List D} {vs : List V} (h : RepL H F rv ds vs) : RepL H F rv ds.dropLast vs.dropLast := by
  rw [List.dropLast_eq_take, List.dropLast_eq_take, h.length]
  exact h.take _
theorem RepL.eraseIdx {H : Hp} {F : Gh} {rv : V} : ∀ {ds : List D} {vs : List V} (n : Nat), RepL H F rv ds vs → RepL H F rv (ds.eraseIdx n) (vs.eraseIdx n)
  | [], _, n, r => by simp only [RepL] at r; subst r; simp [RepL]
  | d :: ds, _, 0, r => by
    simp only [RepL] at r
    obtain ⟨v, t, ev, hd, hl⟩ := r
    subst ev
    simpa using hl
  | d :: ds, _, n + 1, r => by
    simp only [RepL] at r
    obtain ⟨v, t, ev, hd, hl⟩ := r
    subst ev
    simp only [List.eraseIdx_cons_succ, RepL]
    exact ⟨_, _, rfl, hd, RepL.eraseIdx n hl⟩
theorem ok_pop : OkM rPop fPop := fun H F rv l xs vs ds as d ds' Q h hl ha e k => by
  unfold fPop at e
  split at e
  · split at e
    · rename_i d1 hq
      simp only [Option.some.injEq, Prod.mk.injEq] at e
      obtain ⟨rfl, rfl⟩ := e
      simp only [RepL] at ha
      subst ha
      obtain ⟨v, e2, hr⟩ := hl.get hq
      rw [← hl.length] at e2
      exact ⟨l, xs, v, rfl, rfl, h, e2, k v _ hl.dropLast fun F' H' w => hr.mono w⟩
    · cases e
  · cases e
theorem ok_popAt : OkM rPopAt fPopAt := fun H F rv l xs vs ds as d ds' Q h hl ha e k => by
  unfold fPopAt at e
  split at e
  · rename_i i
    split at e
    · rename_i hi
      split at e
      · rename_i kk hk
        split at e
        · rename_i d1 hq
          simp only [Option.some.injEq, Prod.mk.injEq] at e
          obtain ⟨rfl, rfl⟩ := e
          simp only [RepL, Rep] at ha
          obtain ⟨v, r, rfl, rfl, rfl⟩ := ha
          obtain ⟨v, e2, hr⟩ := hl.get hq
          exact ⟨l, xs, i, kk, v, rfl, rfl, h, hi.1, hi.2, by rw [hl.length]; exact hk, e2, k v _ (hl.eraseIdx kk) fun F' H' w => hr.mono w⟩
        · cases e
      · cases e
    · cases e
  · cases e
theorem ok_reverse : OkM rReverse fReverse := fun H F rv l xs vs ds as d ds' Q h hl ha e k => by
  unfold fReverse at e
  split at e
  · simp only [Option.some.injEq, Prod.mk.injEq] at e
    obtain ⟨rfl, rfl⟩ := e
    simp only [RepL] at ha
    subst ha
    exact ⟨l, xs, rfl, rfl, h, k .non _ hl.reverse fun _ _ _ => by simp [Rep]⟩
  · cases e
section
variable {X : Cx}
theorem se_m {i : Nat} {r : V → List V → Hp → VK → Prop} {f : List D → List D → Option (D × List D)} {o e : Expr} {es : List Expr} {a : Mn β (List D)} {name : Str} {apos cpos : Pos} {id : String} (hk : OkM r f) (hm : MtR X id r) (slot : Slot "list" name id) (hty : typeOf (.builtin id) = pure (.type "method_descriptor"))
    (ho : PE X o (tVar i)) (ha : PA X (e :: es) (tDs a))
    (hbase : attributeBase o name X.env (eval o X.env) = eval o X.env := by rfl)
    (hfew : ((backTo cpos (starEach (e :: es) X.env)).all (fun x => !x.1) && (backToKw cpos (keywordEach [] X.env)).all (fun x => x.1.isSome)
      && decide ((e :: es).length + ([] : List Keyword).length + (if ([] : List Keyword).isEmpty then 0 else 1) < 30)) = true := by rfl)
    (hline : (apos.endLine == cpos.line) = true := by rfl) (hs : starEach (e :: es) X.env = (false, eval e X.env) :: starEach es X.env := by rfl) (hplain : (backTo cpos (starEach es X.env)).any (·.1) = false := by rfl) :
    PE X (.Call (.Attribute o name apos) (e :: es) [] cpos) (tE (mOwn i f a)) :=
  peI (pe_bm PySem.F.plainAttrs_list slot hty hm ho ha hbase hfew hline hs hplain) (meth_reads hk fun _ _ _ h => h)
theorem se_m0 {i : Nat} {r : V → List V → Hp → VK → Prop} {f : List D → List D → Option (D × List D)} {o : Expr} {name : Str} {apos cpos : Pos} {id : String} (hk : OkM r f) (hm : MtR X id r) (slot : Slot "list" name id) (hty : typeOf (.builtin id) = pure (.type "method_descriptor"))
    (ho : PE X o (tVar i)) (hbase : attributeBase o name X.env (eval o X.env) = eval o X.env := by rfl) (hline : (apos.endLine == cpos.line) = true := by rfl) :
    PE X (.Call (.Attribute o name apos) [] [] cpos) (tE (mOwn i f (mNil (β := β)))) := by
  refine peI (pe_bm0 PySem.F.plainAttrs_list slot hty hm ho hbase hline) fun σ H Q q => ?_
  have := meth_reads (K := X.K) hk (ta := tNil) (a := mNil) (fun σ H Q q => ?_) σ H Q q
  · exact this
  · obtain ⟨c, F, st, res, st', rl, e, k⟩ := q
    simp only [mNil, Option.some.injEq, Prod.mk.injEq] at e
    obtain ⟨rfl, rfl⟩ := e
    exact k [] H F (.refl rl) .nil
end

/-! ### x[i] = e; a[i], b[j] = e -/
def gSb (m : Tm β) : TG := fun v σ H Q => ∃ (c : C β) (F : Gh) (st : Sta β) (d : D) (st' : Sta β), Rel c F st σ H ∧ Rep H F c.R.val d v ∧ m d st = some st' ∧ ∀ H' F', Rel c F' st' σ H' → FrS F H F' H' → Q σ H'
def gSbs (m : Tms β) : TGs := fun vs σ H Q => ∃ (c : C β) (F : Gh) (st : Sta β) (ds : List D) (st' : Sta β), Rel c F st σ H ∧ RepL H F c.R.val ds vs ∧ m ds st = some st' ∧ ∀ H' F', Rel c F' st' σ H' → FrS F H F' H' → Q σ H'
/-- what a store leaves: a list, a dict -/
def fPutI : D → D → D → Option D
  | .lst ds, .int k, d => match ixN ds.length k with
    | some j => some (.lst (ds.set j d))
    | none => none
  | .dic ks ds, k, d => match keyOf k with
    | some q => if ks.length < line then some (.dic (dPutK ks q) (dPutV ks ds q d)) else none
    | none => none
  | _, _, _ => none
theorem fPutI_inv {o k d o' : M.D} (e : fPutI o k d = some o') : (∃ ds i j, o = .lst ds ∧ k = .int i ∧ ixN ds.length i = some j ∧ o' = .lst (ds.set j d)) ∨ (∃ ks ds q, o = .dic ks ds ∧ keyOf k = some q ∧ ks.length < line ∧ o' = .dic (dPutK ks q) (dPutV ks ds q d)) := by
  cases o with
  | lst ds =>
    cases k with
    | int i =>
      simp only [fPutI] at e
      cases h : ixN ds.length i with
      | none => rw [h] at e; cases e
      | some j => rw [h] at e; cases e; exact .inl ⟨ds, i, j, rfl, rfl, h, rfl⟩
    | _ => cases e
  | dic ks ds =>
    simp only [fPutI] at e
    cases h : keyOf k with
    | none => rw [h] at e; cases e
    | some q =>
      rw [h] at e
      by_cases hl : ks.length < line
      · simp only [if_pos hl] at e
        cases e
        exact .inr ⟨ks, ds, q, rfl, rfl, hl, rfl⟩
      · simp only [if_neg hl] at e
        cases e
  | _ => cases k <;> cases e
def tmSub (i : Nat) (a : Mn β R) : Tm β := fun d st => match st.env[i]? with
  | some (.own _) => match a st with
    | some (.val k, st1) => match st1.env[i]? with
      | some (.own o) => match fPutI o k d with
        | some o' => some { st1 with env := st1.env.set i (.own o') }
        | none => none
      | _ => none
    | _ => none
  | _ => none
def rSetA : TSet := fun o i v H Q => rSetL o i v H Q ∨ ∃ a H', o = .ref a ∧ DPut H a i v H' ∧ Q H'
theorem set_any {X : Cx} (hu : X.A.units + 1 < cLine) : PSet X rSetA := by
  intro pins s σ H o i v ov iv u Q I ro ri rv h
  rcases h with h | ⟨a, H', rfl, g, q⟩
  · exact set_list pins s σ H o i v ov iv u Q I ro ri rv h
  · obtain rfl : ov = Value.ref a := ro
    exact d_setItem hu I g ri rv fun s' I' => ⟨H', I', q⟩
section
variable {X : Cx}
theorem sg_sub {i : Nat} {o e : Expr} {a : Mn β R} {pos : Pos} (hu : X.A.units + 1 < cLine) (ho : PE X o (tVar i)) (ha : PE X e (tE a))
    (hs : ∀ v, assign (.Subscript o e pos) X.env v = (do
      let ov ← holding [v] (eval o X.env)
      let iv ← holding [v, ov] (eval e X.env)
      standAt pos
      holding [v, ov, iv] (setItem ov iv v)
      release [v, ov, iv] []) := by intro _; rfl) : PG X (.Subscript o e pos) (gSb (tmSub i a)) :=
  pgI (pg_sub ho ha (set_any hu) hs) fun v σ H Q q => by
    obtain ⟨c, F, st, d, st', rl, hd, e, k⟩ := q
    unfold tmSub at e
    split at e
    · rename_i d0 q0
      split at e
      · rename_i kk s1 e1
        obtain ⟨a0, hσ, h0⟩ := own_at2 rl q0
        refine ⟨.ref a0, hσ, c, F, st, .val kk, s1, rl, e1, fun x H1 F1 t1 h1 => ?_⟩
        have h1' : Rep H1 F1 c.R.val kk x := h1
        split at e
        · rename_i o q1
          obtain ⟨a1, hσ1, h1a⟩ := own_at2 t1.rel q1
          rw [hσ] at hσ1
          cases hσ1
          have hd1 := t1.rep rl hd
          split at e
          · rename_i o' q2
            cases e
            rcases fPutI_inv q2 with ⟨ds, ki, j, rfl, rfl, q3, rfl⟩ | ⟨ks, ds, q, rfl, q3, hlt, rfl⟩
            · obtain ⟨xs1, hx1, hl1⟩ := h1a
              simp only [Rep] at h1'
              refine .inl ⟨a0, xs1, ki, j, rfl, h1', hx1, by rw [hl1.length]; exact q3, ?_⟩
              have t2 := own_upd t1.rel q1 hσ (hl1.set j hd1)
              exact k _ F1 t2.rel ((t1.trans t2).frs rl)
            · obtain ⟨xs1, hx1, hk1, hl1⟩ := h1a
              have hkx : ks.length = xs1.length := by rw [hl1.length]; exact hk1
              refine .inr ⟨a0, upd H1 a0 (.dK ((dPutK ks q).zip (dPutV ks xs1 q v))), rfl, ?_, ?_⟩
              · rw [keyOf_rep h1' q3, ← put_zip hkx]
                refine DPut.k hx1 ?_
                rw [List.length_zip, ← hkx, Nat.min_self]
                exact hlt
              · have t2 := own_upd2 (d' := .dic (dPutK ks q) (dPutV ks ds q d)) (ob := .dK ((dPutK ks q).zip (dPutV ks xs1 q v))) t1.rel q1 hσ fun H' wk e => ⟨_, e, putV_len hk1, (putV_rep hd1 hl1).mono wk⟩
                exact k _ F1 t2.rel ((t1.trans t2).frs rl)
          · cases e
        · cases e
      · cases e
    · cases e
/-- x[i] = e -/
def mPut (a : Mn β R) (m : Tm β) : Ms β := mUnp a m
theorem ss_put {tg e : Expr} {a : Mn β R} {m : Tm β} {pos : Pos} (he : PE X e (tE a)) (hg : PG X tg (gSb m)) (hs : swapsWithSole [tg] e pos.line X.env = pure false := by rfl) (hw : swappedStores [tg] e X.env = pure none := by rfl)
    (h1 : (assignEach [tg] X.env).map (·.2) = [assign tg X.env] := by rfl) : PS X (.Assign [tg] e pos) (tSt (mPut a m)) := by
  refine psI (ps_asg (se_d he) hg hs hw h1) fun D σ H q => ?_
  obtain ⟨c, F, st, o, st', rl, e, g⟩ := q
  obtain ⟨d, s1, e1, e⟩ := mBind_some e
  refine ⟨c, F, st, d, s1, rl, e1, fun v H1 F1 t1 h1 => ?_⟩
  cases q1 : m d s1 with
  | none => rw [q1] at e; cases e
  | some s2 =>
    rw [q1] at e
    simp only [Option.some.injEq, Prod.mk.injEq] at e
    obtain ⟨rfl, rfl⟩ := e
    exact ⟨c, F1, s1, d, s2, t1.rel, h1, q1, fun H' F' r' f => g σ H' F' r' ((t1.frs rl).trans f)⟩
theorem sgs_nil : PGs X [] (gSbs (tmNil (β := β))) := pgsI pgs_nil fun vs σ H Q q => by
  obtain ⟨c, F, st, ds, st', rl, hd, e, k⟩ := q
  cases ds with
  | nil =>
    simp only [tmNil, Option.some.injEq] at e
    subst e
    simp only [RepL] at hd
    exact ⟨hd, k H F rl .refl⟩
  | cons d r => simp [tmNil] at e
theorem sgs_cons {e : Expr} {es : List Expr} {m : Tm β} {n : Tms β} (h1 : PG X e (gSb m)) (h2 : PGs X es (gSbs n)) (hs : (assignEach (e :: es) X.env).map (·.2) = assign e X.env :: (assignEach es X.env).map (·.2) := by rfl) : PGs X (e :: es) (gSbs (tmCons m n)) :=
  pgsI (pgs_cons h1 h2 hs) fun vs σ H Q q => by
    obtain ⟨c, F, st, ds, st', rl, hd, e, k⟩ := q
    cases ds with
    | nil => simp [tmCons] at e
    | cons d r =>
      simp only [RepL] at hd
      obtain ⟨v, t, ev, h1, h2⟩ := hd
      subst ev
      simp only [tmCons] at e
      cases q1 : m d st with
      | none => rw [q1] at e; cases e
      | some s1 =>
        rw [q1] at e
        refine ⟨v, t, rfl, c, F, st, d, s1, rl, h1, q1, fun H1 F1 r1 f1 => ?_⟩
        exact ⟨c, F1, s1, r, st', r1, h2.mono f1, e, fun H2 F2 r2 f2 => k H2 F2 r2 (f1.trans f2)⟩
theorem sgs_tup {es : List Expr} {k : Nat} {pos : Pos} {n : Nat} {m : Tms β} (hc : X.calm = true) (h : PGs X es (gSbs m)) (hn : (assignEach es X.env).length = n := by rfl) (hst : (assignEach es X.env).findIdx? (·.1) = none := by rfl) (hK : X.K = Wrt.K := by rfl) : PG X (.Tuple es k pos) (gSb (tmT m n)) :=
  pgI (pg_tup hc h hn hst) fun v σ H Q q => by
    obtain ⟨c, F, st, d, st', rl, hd, e, k⟩ := q
    cases d with
    | tup ds =>
      simp only [tmT] at e
      split at e
      · rename_i hl
        simp only [Rep] at hd
        obtain ⟨a, xs, ev, ha, hl2⟩ := hd
        exact ⟨a, xs, ev, hK ▸ ha.sq, by rw [hl2.length, hl], c, F, st, ds, st', rl, hl2, e, k⟩
      · cases e
    | _ => simp [tmT] at e
/-- x op= e, whole numbers -/
def mAug (i : Nat) (f : Int → Int → Option Int) (a : Mn β R) : Ms β := fun st => match st.env[i]? with
  | some (.val (.int x)) => mBind a (fun r st1 => match r with
    | .val (.int y) => match f x y with
      | some z => some (.nx, { st1 with env := st1.env.set i (.val (.int z)) })
      | none => none
    | _ => none) st
  | _ => none
theorem ss_aug {i : Nat} {x : Str} {e : Expr} {a : Mn β R} {op : Operator} {g : Int → Int → Int} {pos pos' : Pos} (hN : X.N.Nodup) (hi : X.N[i]? = some x) (hx : Loc X.env.scope x) (he : PE X e (tE a)) (ho : PIp X op (ipI g))
    (hf : X.fn x = true ∨ X.env.scope.names.lookup x = some .local := by first | exact .inl rfl | exact .inr rfl | assumption) : PS X (.AugAssign (.Name x pos') op e pos) (tSt (mAug i (fun x y => some (g x y)) a)) := by
  refine psI (ps_aug hN hi hx he ho hf) fun D σ H q => ?_
  obtain ⟨c, F, st, o, st', rl, e, k⟩ := q
  unfold mAug at e
  split at e
  · rename_i x0 q0
    obtain ⟨r, s1, e1, e⟩ := mBind_some e
    obtain ⟨v, ev, hv⟩ := rl.slot i _ q0
    simp only [Rep] at hv
    subst hv
    refine ⟨_, ev, c, F, st, r, s1, rl, e1, fun w H1 F1 t1 h1 => ?_⟩
    split at e
    · rename_i y
      simp only [Option.some.injEq, Prod.mk.injEq] at e
      obtain ⟨rfl, rfl⟩ := e
      have h1' : Rep H1 F1 c.R.val (.int y) w := h1
      simp only [Rep] at h1'
      refine ⟨x0, y, rfl, h1', k _ H1 F1 (t1.rel.set (s := .val (.int (g x0 y))) ⟨_, rfl, by simp [Rep]⟩ (fun _ z => nomatch z)) (t1.frs rl)⟩
    · cases e
  · cases e
end
end M

/-! MIter: what is walked, for, while, comprehensions. -/
namespace M
open PySem PySem.Spec PyProof.Rows L2
variable [Wrt]
variable {β : Type} [Sto β] [Kind β]

/-! ### what is walked -/
/-- J yields the data ds, as long as what G says stands -/
structure Walks (c : C β) (J : It) (ds : List D) (G : Gh → Hp → Prop) : Prop where
  go : ∀ (i : Nat) (d : D) (F : Gh) (st : Sta β) (σ : L2.St) (H : Hp), ds[i]? = some d → Rel c F st σ H → G F H → J.go i H ∧ ∀ x H', J.yld i H x H' → ∃ F', Stp c σ F st H F' st H' ∧ Rep H' F' c.R.val d x
  stop : ∀ (F : Gh) (st : Sta β) (σ : L2.St) (H : Hp), Rel c F st σ H → G F H → J.stop ds.length H
  stay : ∀ (F : Gh) (st st' : Sta β) (σ σ' : L2.St) (H : Hp) (F' : Gh) (H' : Hp), Rel c F st σ H → G F H → Rel c F' st' σ' H' → FrS F H F' H' → G F' H'
def tIt (m : Mn β (List D)) : TI := fun σ H R => ∃ (c : C β) (F : Gh) (st : Sta β) (ds : List D) (st' : Sta β), Rel c F st σ H ∧ m st = some (ds, st') ∧
  ∀ J H' F' G, Stp c σ F st H F' st' H' → Walks c J ds G → G F' H' → R J H'
/-- an object that stands still: handed on, or the caller's -/
def Held (c : C β) (F : Gh) (H : Hp) (a : Addr) (ho : HO) : Prop := H a = some ho ∧ (¬ F a ∨ (¬ c.ft a ∧ ∃ o, c.H0 a = some o))
theorem Held.stay {c : C β} {F F' : Gh} {st st' : Sta β} {σ σ' : L2.St} {H H' : Hp} {a : Addr} {ho : HO} (h : Held c F H a ho) (r : Rel c F st σ H) (r' : Rel c F' st' σ' H') (f : FrS F H F' H') : Held c F' H' a ho := by
  obtain ⟨e, h | ⟨h1, o, h2⟩⟩ := h
  · exact ⟨(f.k a ho e h).1, .inl (f.k a ho e h).2⟩
  · have q := r.base a o h2 h1
    rw [e] at q
    cases q
    exact ⟨r'.base a ho h2 h1, .inr ⟨h1, ho, h2⟩⟩
theorem walks_list {c : C β} {K : PySem.W.Frag} {a : Addr} {xs : List V} {ds : List D} : Walks c (Itl K a) ds (fun F H => Held c F H a (.lst xs) ∧ RepL H F c.R.val ds xs) where
  go := fun i d F st σ H hd rl g => by
    obtain ⟨v, e, hv⟩ := g.2.get hd
    refine ⟨⟨xs, v, SqL.of g.1.1, e⟩, fun x H' y => ?_⟩
    obtain ⟨rfl, y⟩ := y
    have q := y xs (SqL.of g.1.1)
    rw [e] at q
    cases q
    exact ⟨F, .refl rl, hv⟩
  stop := fun F st σ H rl g => ⟨xs, SqL.of g.1.1, by rw [g.2.length]; exact Nat.le_refl _⟩
  stay := fun F st st' σ σ' H F' H' r g r' f => ⟨g.1.stay r r' f, g.2.mono f⟩
def HeldT (c : C β) (F : Gh) (H : Hp) (a : Addr) (xs : List V) : Prop := Held c F H a (.tup xs) ∨ Wr a xs
theorem HeldT.sq {c : C β} {F : Gh} {H : Hp} {a : Addr} {xs : List V} (h : HeldT c F H a xs) : SqT Wrt.K H a xs := h.elim (fun h => SqT.of h.1) .inr
theorem HeldT.stay {c : C β} {F F' : Gh} {st st' : Sta β} {σ σ' : L2.St} {H H' : Hp} {a : Addr} {xs : List V} (h : HeldT c F H a xs) (r : Rel c F st σ H) (r' : Rel c F' st' σ' H') (f : FrS F H F' H') : HeldT c F' H' a xs := h.elim (fun h => .inl (h.stay r r' f)) .inr
theorem walks_tup {c : C β} {a : Addr} {xs : List V} {ds : List D} : Walks c (Itt Wrt.K a) ds (fun F H => HeldT c F H a xs ∧ RepL H F c.R.val ds xs) where
  go := fun i d F st σ H hd rl g => by
    obtain ⟨v, e, hv⟩ := g.2.get hd
    refine ⟨⟨xs, v, g.1.sq, e⟩, fun x H' y => ?_⟩
    obtain ⟨rfl, y⟩ := y
    have q := y xs g.1.sq
    rw [e] at q
    cases q
    exact ⟨F, .refl rl, hv⟩
  stop := fun F st σ H rl g => ⟨xs, g.1.sq, by rw [g.2.length]; exact Nat.le_refl _⟩
  stay := fun F st st' σ σ' H F' H' r g r' f => ⟨g.1.stay r r' f, g.2.mono f⟩
theorem walks_rng {c : C β} {lo : Int} {n : Nat} : Walks c (Itr lo n) ((List.range n).map fun (i : Nat) => D.int (lo + (i : Int))) (fun _ _ => True) where
  go := fun i d F st σ H hd rl _ => by
    rw [List.getElem?_map] at hd
    cases q : (List.range n)[i]? with
    | none => rw [q] at hd; cases hd
    | some j =>
      obtain ⟨hi, e⟩ := List.getElem?_eq_some_iff.mp q
      rw [List.getElem_range] at e
      subst e
      rw [q] at hd
      cases hd
      have hi' : i < n := by simpa using hi
      refine ⟨hi', fun x H' y => ?_⟩
      obtain ⟨rfl, rfl⟩ := y
      exact ⟨F, .refl rl, by simp [Rep]⟩
  stop := fun F st σ H rl _ => by
    show n ≤ _
    simp
  stay := fun _ _ _ _ _ _ _ _ _ g _ _ => g
theorem walks_rngC {c : C β} {lo s : Int} {n : Nat} : Walks c (Itc lo s n) ((List.range n).map fun (i : Nat) => D.int (lo + (i : Int) * s)) (fun _ _ => True) where
  go := fun i d F st σ H hd rl _ => by
    rw [List.getElem?_map] at hd
    cases q : (List.range n)[i]? with
    | none => rw [q] at hd; cases hd
    | some j =>
      obtain ⟨hi, e⟩ := List.getElem?_eq_some_iff.mp q
      rw [List.getElem_range] at e
      subst e
      rw [q] at hd
      cases hd
      have hi' : i < n := by simpa using hi
      refine ⟨hi', fun x H' y => ?_⟩
      obtain ⟨rfl, rfl⟩ := y
      exact ⟨F, .refl rl, by simp [Rep]⟩
  stop := fun F st σ H rl _ => by
    show n ≤ _
    simp
  stay := fun _ _ _ _ _ _ _ _ _ g _ _ => g
/-- what a for walks: a list or a tuple, its data -/
def toIt (r : R) (st : Sta β) : Option (List D × Sta β) := match r with
  | .val (.lst ds) => some (ds, st)
  | .val (.tup ds) => some (ds, st)
  | .new (.lst ds) => some (ds, st)
  | .at i => match st.env[i]? with
    | some (.val (.lst ds)) => some (ds, st)
    | some (.val (.tup ds)) => some (ds, st)
    | some (.own (.lst ds)) => some (ds, { st with env := st.env.set i (.val (.lst ds)) })
    | some (.lock (.lst ds)) => some (ds, st)
    | _ => none
  | _ => none
def mIt (a : Mn β R) : Mn β (List D) := mBind a toIt
def iSeq (K : PySem.W.Frag) (tl : TE) : TI := fun σ H R => tl σ H fun x H1 => ∃ a, x = .ref a ∧ (((∃ xs, SqL K H1 a xs) ∧ R (Itl K a) H1) ∨ ((∃ xs, SqT K H1 a xs) ∧ R (Itt K a) H1))
section
variable {X : Cx}
theorem piI {tg e : Expr} {t t' : TI} (h : PI X tg e t) (hi : ∀ σ H Q, t' σ H Q → t σ H Q) : PI X tg e t' := ⟨fun pins s σ H R I q => h.run pins s σ H R I (hi σ H R q)⟩
theorem pi_seq {tg l : Expr} {tl : TE} (hl : PE X l tl) : PI X tg l (iSeq X.K tl) := by
  refine ⟨fun pins s σ H R I h => ?_⟩
  refine thn (hl.run pins s σ H _ I h) fun v s1 ⟨x, H1, I1, r1, q1⟩ => ?_
  obtain ⟨a, e, ⟨⟨xs, hq⟩, q⟩ | ⟨⟨xs, hq⟩, q⟩⟩ := q1
  · subst e
    cases r1
    obtain ⟨its, rv, p, hz⟩ := I1.list hq
    refine wpAny_pyIter_list p.isList ?_
    refine ⟨s1.heap.objs.size, [s1.heap.objs.size], _, _, H1, rfl, I1.kept (t' := s1.toks) fun b o e => Heap.get?_push_of_some _ e, turn_list a _, ⟨_, Heap.get?_push_size _ rfl, rfl, rfl⟩, fun b hb => ?_, q⟩
    have e : b = s1.heap.objs.size := by simpa using hb
    subst e
    exact I1.fpOk (Nat.le_refl _) (I1.hok.fresh (Nat.le_refl _))
  · subst e
    cases r1
    obtain ⟨its, rv, p, hz⟩ := I1.tuple hq
    refine wpAny_pyIter_tuple (show s1.heap.IsTuple a its.toArray from p) ?_
    refine ⟨s1.heap.objs.size, [s1.heap.objs.size], _, _, H1, rfl, I1.kept (t' := s1.toks) fun b o e => Heap.get?_push_of_some _ e, turn_tuple a _, ⟨_, Heap.get?_push_size _ rfl, rfl, rfl⟩, fun b hb => ?_, q⟩
    have e : b = s1.heap.objs.size := by simpa using hb
    subst e
    exact I1.fpOk (Nat.le_refl _) (I1.hok.fresh (Nat.le_refl _))
theorem toIt_ok {c : C β} {F F1 : Gh} {st st1 st2 : Sta β} {σ : L2.St} {H H1 : Hp} (rl : Rel c F st σ H) (s : Stp c σ F st H F1 st1 H1) {r : R} {v : V} {ds : List D} (h : RepR c σ H F1 H1 st1 r v) (e : toIt r st1 = some (ds, st2)) :
    ∃ F2 a, Stp c σ F st H F2 st2 H1 ∧ v = .ref a ∧ ∃ xs, RepL H1 F2 c.R.val ds xs ∧ (Held c F2 H1 a (.lst xs) ∨ HeldT c F2 H1 a xs) := by
  have fin : ∀ {d : D} {F2 : Gh}, (d = .lst ds ∨ d = .tup ds) → Stp c σ F st H F2 st2 H1 → Rep H1 F2 c.R.val d v → ∃ F2 a, Stp c σ F st H F2 st2 H1 ∧ v = .ref a ∧ ∃ xs, RepL H1 F2 c.R.val ds xs ∧ (Held c F2 H1 a (.lst xs) ∨ HeldT c F2 H1 a xs) := fun {d F2} hd s2 hr => by
    rcases hd with rfl | rfl
    · simp only [Rep] at hr
      obtain ⟨a, xs, ev, ha, hf, hl⟩ := hr
      exact ⟨F2, a, s2, ev, xs, hl, .inl ⟨ha, .inl hf⟩⟩
    · simp only [Rep] at hr
      obtain ⟨a, xs, ev, ha, hl⟩ := hr
      exact ⟨F2, a, s2, ev, xs, hl, .inr (ha.elim (fun ha => .inl ⟨ha.1, .inl ha.2⟩) .inr)⟩
  cases r with
  | val d =>
    cases d with
    | lst ds' => simp only [toIt, Option.some.injEq, Prod.mk.injEq] at e; obtain ⟨rfl, rfl⟩ := e; exact fin (.inl rfl) s h
    | tup ds' => simp only [toIt, Option.some.injEq, Prod.mk.injEq] at e; obtain ⟨rfl, rfl⟩ := e; exact fin (.inr rfl) s h
    | _ => simp [toIt] at e
  | new d =>
    cases d with
    | lst ds' =>
      simp only [toIt, Option.some.injEq, Prod.mk.injEq] at e
      obtain ⟨rfl, rfl⟩ := e
      obtain ⟨F2, s2, hd⟩ := toD_ok (st2 := st1) (d := .lst ds') rl s h rfl
      exact fin (.inl rfl) s2 hd
    | _ => simp [toIt] at e
  | loc n => simp [toIt] at e
  | «at» i =>
    have h' : σ[i]? = some (some v) := h
    simp only [toIt] at e
    split at e
    · rename_i ds' q
      simp only [Option.some.injEq, Prod.mk.injEq] at e; obtain ⟨rfl, rfl⟩ := e
      obtain ⟨F2, s2, hd⟩ := toD_ok (st2 := st1) (d := .lst ds') rl s h (by simp [toD, q])
      exact fin (.inl rfl) s2 hd
    · rename_i ds' q
      simp only [Option.some.injEq, Prod.mk.injEq] at e; obtain ⟨rfl, rfl⟩ := e
      obtain ⟨F2, s2, hd⟩ := toD_ok (st2 := st1) (d := .tup ds') rl s h (by simp [toD, q])
      exact fin (.inr rfl) s2 hd
    · rename_i ds' q
      simp only [Option.some.injEq, Prod.mk.injEq] at e; obtain ⟨rfl, rfl⟩ := e
      obtain ⟨F2, s2, hd⟩ := toD_ok (d := .lst ds') rl s h (by simp only [toD, q]; rfl)
      exact fin (.inl rfl) s2 hd
    · rename_i ds' q
      simp only [Option.some.injEq, Prod.mk.injEq] at e; obtain ⟨rfl, rfl⟩ := e
      have hs := s.rel.slot i _ q
      obtain ⟨a, ea, ⟨xs, ha, hl⟩, hf, h0⟩ := hs
      rw [h'] at ea
      cases ea
      exact ⟨F1, a, s, rfl, xs, hl, .inl ⟨ha, .inr ⟨hf, h0⟩⟩⟩
    · cases e
/-- for x in e, e a list or a tuple -/
theorem si_seq {tg e : Expr} {a : Mn β R} (he : PE X e (tE a)) (hK : X.K = Wrt.K := by rfl) : PI X tg e (tIt (mIt a)) := piI (show PI X tg e (iSeq Wrt.K (tE a)) from hK ▸ pi_seq he) fun σ H R q => by
  obtain ⟨c, F, st, ds, st', rl, e, k⟩ := q
  obtain ⟨r, s1, e1, e⟩ := mBind_some e
  refine ⟨c, F, st, r, s1, rl, e1, fun v H1 F1 t1 h1 => ?_⟩
  obtain ⟨F2, a, s2, ev, xs, hl, hh | hh⟩ := toIt_ok rl t1 h1 e
  · exact ⟨a, ev, .inl ⟨⟨xs, SqL.of hh.1⟩, k _ H1 F2 _ s2 walks_list ⟨hh, hl⟩⟩⟩
  · exact ⟨a, ev, .inr ⟨⟨xs, hh.sq⟩, k _ H1 F2 _ s2 walks_tup ⟨hh, hl⟩⟩⟩
/-- of the size that a range takes (by a choice: nothing is reckoned of it) -/
noncomputable def rgOk (i : Int) : Bool := @decide (-(2 ^ 62) ≤ i ∧ i < 2 ^ 62) (Classical.propDecidable _)
theorem rgOk_iff {i : Int} (h : rgOk i = true) : -(2 ^ 62) ≤ i ∧ i < 2 ^ 62 := @of_decide_eq_true _ (Classical.propDecidable _) h
theorem rgOk_of {i : Int} (h : -(2 ^ 62) ≤ i ∧ i < 2 ^ 62) : rgOk i = true := @decide_eq_true _ (Classical.propDecidable _) h
def rgL (lo : Int) (n : Nat) : List D := (List.range n).map fun (i : Nat) => D.int (lo + (i : Int))
def rgLC (lo s : Int) (n : Nat) : List D := (List.range n).map fun (i : Nat) => D.int (lo + (i : Int) * s)
noncomputable def fR1 : List D → Option (List D)
  | [.int j] => if rgOk j = true then some (rgL 0 j.toNat) else none
  | _ => none
noncomputable def fR2 : List D → Option (List D)
  | [.int i, .int j] => if (rgOk i && rgOk j) = true then some (rgL i (j - i).toNat) else none
  | _ => none
/-- range(i, j, -1) -/
noncomputable def fR3 : List D → Option (List D)
  | [.int i, .int j, .int s] => if (decide (s = -1) && (rgOk i && rgOk j)) = true then some (rgLC i s (i - j).toNat) else none
  | _ => none
def mRng (f : List D → Option (List D)) (a : Mn β (List R)) : Mn β (List D) := mBind a fun rs st => match pkL rs st with
  | none => none
  | some ds => match f ds with
    | none => none
    | some xs => some (xs, st)
theorem pkl_int {H : Hp} {F : Gh} {rv : V} {i : Int} {v : V} (h : Pk H F rv (.int i) v) : v = .int i := by simpa [Pk, Rep] using h
theorem rng_reads {f : List D → Option (List D)} {ta : TA} {m : Mn β (List R)} {P : List V → (It → Hp → Prop) → Hp → Prop} (ha : ∀ σ H Q, tRs m σ H Q → ta σ H Q)
    (hP : ∀ (c : C β) (F : Gh) (H : Hp) (ds xs : List D) (vs : List V) (R : It → Hp → Prop), PkL H F c.R.val ds vs → f ds = some xs → (∀ J, Walks c J xs (fun _ _ => True) → R J H) → P vs R H) :
    ∀ σ H R, tIt (mRng f m) σ H R → ta σ H fun vs H1 => P vs R H1 := fun σ H R q => by
  obtain ⟨c, F, st, ds, st', rl, e, k⟩ := q
  obtain ⟨rs, s1, e1, e⟩ := mBind_some e
  refine ha _ _ _ ⟨c, F, st, rs, s1, rl, e1, fun vs H1 F1 t1 h1 => ?_⟩
  cases q1 : pkL rs s1 with
  | none => rw [q1] at e; cases e
  | some as =>
    rw [q1] at e
    simp only at e
    cases q2 : f as with
    | none => rw [q2] at e; cases e
    | some xs =>
      rw [q2] at e
      simp only [Option.some.injEq, Prod.mk.injEq] at e
      obtain ⟨rfl, rfl⟩ := e
      exact hP c F1 H1 as xs vs R (pkL_ok t1.rel h1 q1) q2 fun J w => k J H1 F1 _ t1 w trivial
theorem si_rng1 {tg a : Expr} {m : Mn β (List R)} {p pos : Pos} (hg : Gl X "range") (hm : X.mg "range" = none) (ha : PA X [a] (tRs m)) (hs : starEach [a] X.env = [(false, eval a X.env)] := by rfl) : PI X tg (.Call (.Name "range" p) [a] [] pos) (tIt (mRng fR1 m)) :=
  piI (pi_range1 hg hm ha hs) (rng_reads (fun _ _ _ h => h) fun c F H ds xs vs R hp e k => by
    unfold fR1 at e
    split at e
    · rename_i j
      split at e
      · rename_i hj
        simp only [Option.some.injEq] at e
        subst e
        obtain ⟨v, r, rfl, h1, rfl⟩ := hp
        have := pkl_int h1
        subst this
        exact ⟨j, rfl, (rgOk_iff hj).1, (rgOk_iff hj).2, k _ walks_rng⟩
      · cases e
    · cases e)
theorem si_rng2 {tg a b : Expr} {m : Mn β (List R)} {p pos : Pos} (hg : Gl X "range") (hm : X.mg "range" = none) (ha : PA X [a, b] (tRs m)) (hs : starEach [a, b] X.env = [(false, eval a X.env), (false, eval b X.env)] := by rfl) (hs2 : starEach [b] X.env = [(false, eval b X.env)] := by rfl) :
    PI X tg (.Call (.Name "range" p) [a, b] [] pos) (tIt (mRng fR2 m)) :=
  piI (pi_range2 hg hm ha hs hs2) (rng_reads (fun _ _ _ h => h) fun c F H ds xs vs R hp e k => by
    unfold fR2 at e
    split at e
    · rename_i i j
      split at e
      · rename_i hj
        simp only [Option.some.injEq] at e
        subst e
        rw [Bool.and_eq_true] at hj
        obtain ⟨v, r, rfl, h1, w, r2, rfl, h2, rfl⟩ := hp
        have := pkl_int h1
        subst this
        have := pkl_int h2
        subst this
        exact ⟨i, j, rfl, ⟨(rgOk_iff hj.1).1, (rgOk_iff hj.1).2, (rgOk_iff hj.2).1, (rgOk_iff hj.2).2⟩, k _ walks_rng⟩
      · cases e
    · cases e)
theorem si_rng3 {tg a b d : Expr} {m : Mn β (List R)} {p pos : Pos} (hg : Gl X "range") (hm : X.mg "range" = none) (ha : PA X [a, b, d] (tRs m)) (hs : starEach [a, b, d] X.env = (false, eval a X.env) :: starEach [b, d] X.env := by rfl) (hpl : (backTo pos (starEach [b, d] X.env)).any (·.1) = false := by rfl) :
    PI X tg (.Call (.Name "range" p) [a, b, d] [] pos) (tIt (mRng fR3 m)) :=
  piI (pi_range3 hg hm ha hs hpl) (rng_reads (fun _ _ _ h => h) fun c F H ds xs vs R hp e k => by
    unfold fR3 at e
    split at e
    · rename_i i j s
      split at e
      · rename_i hj
        simp only [Option.some.injEq] at e
        subst e
        rw [Bool.and_eq_true, Bool.and_eq_true] at hj
        obtain ⟨hs1, hi, hj⟩ := hj
        have hs1 := of_decide_eq_true hs1
        subst hs1
        obtain ⟨v, r, rfl, h1, w, r2, rfl, h2, x, r3, rfl, h3, rfl⟩ := hp
        have := pkl_int h1
        subst this
        have := pkl_int h2
        subst this
        have := pkl_int h3
        subst this
        exact ⟨i, j, -1, (i - j).toNat, rfl, RgC.neg (rgOk_iff hi).1 (rgOk_iff hi).2 (rgOk_iff hj).1 (rgOk_iff hj).2, k _ walks_rngC⟩
      · cases e
    · cases e)
end

/-! ### for, while -/
def forL (tg : Tm β) (body : Ms β) : List D → Ms β
  | [], st => some (.nx, st)
  | d :: ds, st => match tg d st with
    | none => none
    | some st1 => match body st1 with
      | none => none
      | some (.nx, st2) => forL tg body ds st2
      | some (.ct, st2) => forL tg body ds st2
      | some (.bk, st2) => some (.nx, st2)
      | some (.rt r, st2) => some (.rt r, st2)
def mFor (it : Mn β (List D)) (tg : Tm β) (body : Ms β) : Ms β := mBind it fun ds => forL tg body ds
def whileN (t : Mn β Bool) (body : Ms β) : Nat → Ms β
  | 0, _ => none
  | n + 1, st => match t st with
    | none => none
    | some (false, st1) => some (.nx, st1)
    | some (true, st1) => match body st1 with
      | none => none
      | some (.nx, st2) => whileN t body n st2
      | some (.ct, st2) => whileN t body n st2
      | some (.bk, st2) => some (.nx, st2)
      | some (.rt r, st2) => some (.rt r, st2)
def fuel : Nat := 18446744073709551616
def mWhile (t : Mn β Bool) (body : Ms β) : Ms β := fun st => whileN t body fuel st
section
variable {X : Cx}
theorem ss_for {tg iter : Expr} {body : List Stmt} {it : Mn β (List D)} {mt : Tm β} {is : List Nat} {mb : Ms β} {pos : Pos} (hp : PassesOwn (model X.prog X.w) X.A X.env X.xe) (hc : X.calm = true) (hi : PI X tg iter (tIt it)) (hg : PG X tg (gTm mt is)) (hb : PSs X body (tSt mb))
    (hs : ∀ x, foldedSetIterable iter X.env x = pure x := by intro _; rfl) : PS X (.For tg iter body [] pos) (tSt (mFor it mt mb)) := by
  refine psI (ps_for hp hc hi hg hb hs) fun D σ H q => ?_
  obtain ⟨c, F, st, o, st', rl, e, g⟩ := q
  obtain ⟨ds, s1, e1, e⟩ := mBind_some e
  refine ⟨c, F, st, ds, s1, rl, e1, fun J H1 F1 G t1 w g1 => ?_⟩
  refine ⟨fun i m σ' H' => i + m = ds.length ∧ ∃ F' s', Rel c F' s' σ' H' ∧ G F' H' ∧ FrS F H F' H' ∧ forL mt mb (ds.drop i) s' = some (o, st'), ⟨ds.length, by omega, F1, s1, t1.rel, g1, t1.frs rl, by rw [List.drop_zero]; exact e⟩, ?_⟩
  rintro i m σ' H' ⟨him, F', s', r', g', f', e'⟩
  by_cases hlt : i < ds.length
  · right
    have hd : ds[i]? = some ds[i] := List.getElem?_eq_getElem hlt
    obtain ⟨go, yl⟩ := w.go i ds[i] F' s' σ' H' hd r' g'
    refine ⟨go, fun σ2 H2 => (i + 1) + (m - 1) = ds.length ∧ ∃ F' s', Rel c F' s' σ2 H2 ∧ G F' H2 ∧ FrS F H F' H2 ∧ forL mt mb (ds.drop (i + 1)) s' = some (o, st'), fun σ2 H2 h2 => ⟨m - 1, by omega, h2⟩, fun x H2 y => ?_⟩
    obtain ⟨F2, t2, hx⟩ := yl x H2 y
    rw [List.drop_eq_getElem_cons hlt] at e'
    simp only [forL] at e'
    split at e'
    · cases e'
    · rename_i s3 q3
      refine ⟨c, F2, s', ds[i], s3, t2.rel, hx, q3, fun σ3 r3 _ => ?_⟩
      have f2 : FrS F H F2 H2 := f'.trans (t2.frs r')
      have g2 : G F2 H2 := w.stay F' s' s' σ' σ' H' F2 H2 r' g' t2.rel (t2.frs r')
      split at e'
      · cases e'
      · rename_i s4 q4
        exact ⟨c, F2, s3, .nx, s4, r3, q4, fun σ4 H4 F4 r4 f4 => ⟨by omega, F4, s4, r4, w.stay F2 s3 s4 σ3 σ4 H2 F4 H4 r3 g2 r4 f4, f2.trans f4, e'⟩⟩
      · rename_i s4 q4
        exact ⟨c, F2, s3, .ct, s4, r3, q4, fun σ4 H4 F4 r4 f4 => ⟨by omega, F4, s4, r4, w.stay F2 s3 s4 σ3 σ4 H2 F4 H4 r3 g2 r4 f4, f2.trans f4, e'⟩⟩
      · rename_i s4 q4
        simp only [Option.some.injEq, Prod.mk.injEq] at e'
        obtain ⟨rfl, rfl⟩ := e'
        exact ⟨c, F2, s3, .bk, s4, r3, q4, fun σ4 H4 F4 r4 f4 => g σ4 H4 F4 r4 (f2.trans f4)⟩
      · rename_i r s4 q4
        simp only [Option.some.injEq, Prod.mk.injEq] at e'
        obtain ⟨rfl, rfl⟩ := e'
        exact ⟨c, F2, s3, .rt r, s4, r3, q4, g⟩
  · left
    have hi : i = ds.length := by omega
    subst hi
    rw [List.drop_length] at e'
    simp only [forL, Option.some.injEq, Prod.mk.injEq] at e'
    obtain ⟨rfl, rfl⟩ := e'
    exact ⟨w.stop F' s' σ' H' r' g', g σ' H' F' r' f'⟩
theorem ss_while {t : Expr} {body : List Stmt} {mt : Mn β Bool} {mb : Ms β} {pos : Pos} (hp : PassesOwn (model X.prog X.w) X.A X.env X.xe) (ht : PT X t (tTs mt)) (hb : PSs X body (tSt mb)) : PS X (.While t body [] pos) (tSt (mWhile mt mb)) := by
  refine psI (ps_while hp ht hb) fun D σ H q => ?_
  obtain ⟨c, F, st, o, st', rl, e, g⟩ := q
  refine ⟨fun n σ' H' => ∃ F' s', Rel c F' s' σ' H' ∧ FrS F H F' H' ∧ whileN mt mb n s' = some (o, st'), ⟨fuel, F, st, rl, .refl, e⟩, ?_⟩
  rintro n σ' H' ⟨F', s', r', f', e'⟩
  cases n with
  | zero => cases e'
  | succ n =>
    simp only [whileN] at e'
    split at e'
    · cases e'
    · rename_i s1 q1
      simp only [Option.some.injEq, Prod.mk.injEq] at e'
      obtain ⟨rfl, rfl⟩ := e'
      refine ⟨c, F', s', false, s1, r', q1, fun H1 F1 t1 => ?_⟩
      exact iteF (g σ' H1 F1 t1.rel (f'.trans (t1.frs r')))
    · rename_i s1 q1
      refine ⟨c, F', s', true, s1, r', q1, fun H1 F1 t1 => ?_⟩
      have f1 := f'.trans (t1.frs r')
      refine iteT ?_
      refine ⟨fun σ2 H2 => ∃ F2 s2, Rel c F2 s2 σ2 H2 ∧ FrS F H F2 H2 ∧ whileN mt mb n s2 = some (o, st'), fun σ2 H2 h2 => ⟨n, Nat.lt_succ_self n, h2⟩, ?_⟩
      split at e'
      · cases e'
      · rename_i s2 q2
        exact ⟨c, F1, s1, .nx, s2, t1.rel, q2, fun σ4 H4 F4 r4 f4 => ⟨F4, s2, r4, f1.trans f4, e'⟩⟩
      · rename_i s2 q2
        exact ⟨c, F1, s1, .ct, s2, t1.rel, q2, fun σ4 H4 F4 r4 f4 => ⟨F4, s2, r4, f1.trans f4, e'⟩⟩
      · rename_i s2 q2
        simp only [Option.some.injEq, Prod.mk.injEq] at e'
        obtain ⟨rfl, rfl⟩ := e'
        exact ⟨c, F1, s1, .bk, s2, t1.rel, q2, fun σ4 H4 F4 r4 f4 => g σ4 H4 F4 r4 (f1.trans f4)⟩
      · rename_i r s2 q2
        simp only [Option.some.injEq, Prod.mk.injEq] at e'
        obtain ⟨rfl, rfl⟩ := e'
        exact ⟨c, F1, s1, .rt r, s2, t1.rel, q2, g⟩
end
end M

/-! MComp: list comprehensions. -/
namespace M
open PySem PySem.Spec PyProof.Rows L2
variable [Wrt]
variable {β : Type} [Sto β] [Kind β]
def wipeE (env : List Sl) : List Nat → List Sl
  | [] => env
  | v :: vs => (wipeE env vs).set v .no
/-- the slots vs as they were in e0 -/
def backE (e0 env : List Sl) : List Nat → List Sl
  | [] => env
  | v :: vs => (backE e0 env vs).set v (e0.getD v .no)
def noOwn (env : List Sl) : List Nat → Bool
  | [] => true
  | v :: vs => (match env[v]? with
    | some (.own _) => false
    | _ => true) && noOwn env vs
def compL (vs : List Nat) (e0 : List Sl) (tg : Tm β) (tt : Mn β Bool) (te : Mn β D) : List D → List D → Mn β (List D)
  | [], acc, st => some (acc, st)
  | d :: ds, acc, st => match tg d { st with env := wipeE st.env vs } with
    | none => none
    | some s1 => match tt s1 with
      | none => none
      | some (false, s2) => compL vs e0 tg tt te ds acc { s2 with env := backE e0 s2.env vs }
      | some (true, s2) => match te s2 with
        | none => none
        | some (x, s3) => if acc.length < line then compL vs e0 tg tt te ds (acc ++ [x]) { s3 with env := backE e0 s3.env vs } else none
def mComp (vs : List Nat) (it : Mn β (List D)) (tg : Tm β) (tt : Mn β Bool) (te : Mn β D) : Mn β R := mBind it fun ds st => if noOwn st.env vs = true then (match compL vs st.env tg tt te ds [] st with
  | some (acc, st') => some (.new (.lst acc), st')
  | none => none) else none
theorem wipeE_length (env : List Sl) : ∀ vs : List Nat, (wipeE env vs).length = env.length
  | [] => rfl
  | v :: vs => by simp [wipeE, wipeE_length env vs]
theorem backE_length (e0 env : List Sl) : ∀ vs : List Nat, (backE e0 env vs).length = env.length
  | [] => rfl
  | v :: vs => by simp [backE, backE_length e0 env vs]
theorem wipeE_get {env : List Sl} {i : Nat} {s : Sl} : ∀ {vs : List Nat}, (wipeE env vs)[i]? = some s → s = .no ∨ (i ∉ vs ∧ env[i]? = some s)
  | [], h => .inr ⟨by simp, h⟩
  | v :: vs, h => by
    simp only [wipeE] at h
    by_cases e : v = i
    · subst e
      by_cases hl : v < (wipeE env vs).length
      · rw [List.getElem?_set_self hl] at h; cases h; exact .inl rfl
      · rw [List.getElem?_eq_none (by simpa using hl)] at h; cases h
    · rw [List.getElem?_set_ne e] at h
      rcases wipeE_get h with h | ⟨h1, h2⟩
      · exact .inl h
      · exact .inr ⟨by simp [h1, Ne.symm e], h2⟩
theorem backE_get {e0 env : List Sl} {i : Nat} {s : Sl} : ∀ {vs : List Nat}, (backE e0 env vs)[i]? = some s → (i ∈ vs ∧ s = e0.getD i .no) ∨ (i ∉ vs ∧ env[i]? = some s)
  | [], h => .inr ⟨by simp, h⟩
  | v :: vs, h => by
    simp only [backE] at h
    by_cases e : v = i
    · subst e
      by_cases hl : v < (backE e0 env vs).length
      · rw [List.getElem?_set_self hl] at h; cases h; exact .inl ⟨by simp, rfl⟩
      · rw [List.getElem?_eq_none (by simpa using hl)] at h; cases h
    · rw [List.getElem?_set_ne e] at h
      rcases backE_get h with ⟨h1, h2⟩ | ⟨h1, h2⟩
      · exact .inl ⟨by simp [h1], h2⟩
      · exact .inr ⟨by simp [h1, Ne.symm e], h2⟩
theorem noOwn_get {env : List Sl} {i : Nat} {d : D} : ∀ {vs : List Nat}, noOwn env vs = true → i ∈ vs → env[i]? ≠ some (.own d)
  | [], _, h => by simp at h
  | v :: vs, h, hi => by
    simp only [noOwn, Bool.and_eq_true] at h
    rcases List.mem_cons.mp hi with e | hi
    · subst e
      intro z
      rw [z] at h
      simp at h
    · exact noOwn_get h.2 hi
theorem wipe_get {σ : L2.St} {i : Nat} : ∀ {vs : List Nat}, i ∉ vs → (wipe σ vs)[i]? = σ[i]?
  | [], _ => rfl
  | v :: vs, h => by
    simp only [List.mem_cons, not_or] at h
    unfold wipe
    rw [List.getElem?_set_ne (Ne.symm h.1)]
    exact wipe_get h.2
theorem wipe_ext {σ σ' : L2.St} (hl : σ'.length = σ.length) : ∀ {vs : List Nat}, (∀ j, j ∉ vs → σ'[j]? = σ[j]?) → wipe σ' vs = wipe σ vs := fun {vs} h => by
  apply List.ext_getElem?
  intro i
  by_cases hi : i ∈ vs
  · have at_ : ∀ (τ : L2.St) (ws : List Nat), i ∈ ws → (wipe τ ws)[i]? = if i < τ.length then some none else none := by
      intro τ ws hw
      induction ws with
      | nil => simp at hw
      | cons w ws ih =>
        unfold wipe
        by_cases e : w = i
        · subst e
          by_cases hl : w < τ.length
          · rw [List.getElem?_set_self (by rw [wipe_length]; exact hl), if_pos hl]
          · rw [List.getElem?_eq_none (by rw [List.length_set, wipe_length]; omega), if_neg hl]
        · rw [List.getElem?_set_ne e]
          rcases List.mem_cons.mp hw with z | z
          · exact absurd z.symm e
          · exact ih z
    rw [at_ _ _ hi, at_ _ _ hi, hl]
  · rw [wipe_get hi, wipe_get hi]
    exact h i hi
section
variable {c : C β} {F F' : Gh} {st st' : Sta β} {σ σ' : L2.St} {H H' : Hp}
/-- into a comprehension's block -/
theorem Rel.wiped (r : Rel c F st σ H) (vs : List Nat) : Rel c F { st with env := wipeE st.env vs } (wipe σ vs) H := by
  refine ⟨by rw [wipe_length]; simpa [wipeE_length] using r.len, fun i s hi => ?_, fun i j d e hi hj hq => ?_, r.base, r.bag, r.f0, r.fs, fun a ⟨i, d, hi, hq⟩ => ?_, r.mu0, r.ln, r.sto⟩
  · rcases wipeE_get hi with h | ⟨h1, h2⟩
    · subst h; trivial
    · rw [wipe_get h1]; exact r.slot i s h2
  · rcases wipeE_get hi with h | ⟨h1, h2⟩
    · cases h
    · rcases wipeE_get hj with h | ⟨g1, g2⟩
      · cases h
      · rw [wipe_get h1, wipe_get g1] at hq
        exact r.uniq i j d e h2 g2 hq
  · rcases wipeE_get hi with h | ⟨h1, h2⟩
    · cases h
    · rw [wipe_get h1] at hq
      exact r.nl a ⟨i, d, h2, hq⟩
/-- out of it: e0 the slots ahead -/
theorem Rel.back {vs : List Nat} {st0 : Sta β} {H0 : Hp} {F0 : Gh} (r0 : Rel c F0 st0 σ H0) (no : noOwn st0.env vs = true) (r : Rel c F st σ' H) (f : FrS F0 H0 F H) (hl : σ'.length = σ.length) (hσ : ∀ j, j ∉ vs → σ'[j]? = σ[j]?) :
    Rel c F { st with env := backE st0.env st.env vs } σ H := by
  have ow : ∀ (i : Nat) (d : D), (backE st0.env st.env vs)[i]? = some (.own d) → i ∉ vs ∧ st.env[i]? = some (.own d) := fun i d hi => by
    rcases backE_get hi with ⟨h1, h2⟩ | h
    · have : st0.env[i]? = some (.own d) := by
        cases q : st0.env[i]? with
        | none => simp [List.getD_eq_getElem?_getD, q] at h2
        | some s => simp [List.getD_eq_getElem?_getD, q] at h2; rw [h2]
      exact absurd this (noOwn_get no h1)
    · exact h
  refine ⟨by rw [← hl]; simpa [backE_length] using r.len, fun i s hi => ?_, fun i j d e hi hj hq => ?_, r.base, r.bag, r.f0, r.fs, fun a ⟨i, d, hi, hq⟩ => ?_, r.mu0, r.ln, r.sto⟩
  · rcases backE_get hi with ⟨h1, h2⟩ | ⟨h1, h2⟩
    · cases q : st0.env[i]? with
      | none =>
        have e : s = .no := by simpa [List.getD_eq_getElem?_getD, q] using h2
        subst e
        trivial
      | some s0 =>
        have e : s = s0 := by simpa [List.getD_eq_getElem?_getD, q] using h2
        subst e
        have g := r0.slot i s q
        cases s with
        | no => trivial
        | own d => exact absurd q (noOwn_get no h1)
        | val d =>
          obtain ⟨v, e, hr⟩ := g
          exact ⟨v, e, hr.mono f⟩
        | lock d =>
          obtain ⟨a, e, hr, hf, ⟨o, h0⟩⟩ := g
          refine ⟨a, e, hr.mono f (fun o' z => ?_), hf, ⟨o, h0⟩⟩
          have q1 := r0.base a o h0 hf
          rw [q1] at z
          cases z
          exact r.base a o h0 hf
    · rw [← hσ i h1]
      exact r.slot i s h2
  · obtain ⟨h1, h2⟩ := ow i d hi
    obtain ⟨g1, g2⟩ := ow j e hj
    rw [← hσ i h1, ← hσ j g1] at hq
    exact r.uniq i j d e h2 g2 hq
  · obtain ⟨h1, h2⟩ := ow i d hi
    rw [← hσ i h1] at hq
    exact r.nl a ⟨i, d, h2, hq⟩
end
section
variable {X : Cx}
def mYes : Mn β Bool := fun st => some (true, st)
theorem ptsI {es : List Expr} {t t' : TT} (h : PTs X es t) (hi : ∀ σ H Q, t' σ H Q → t σ H Q) : PTs X es t' := ⟨fun pins s σ H Q I q => h.run pins s σ H Q I (hi σ H Q q)⟩
theorem sts_nil : PTs X [] (tTs (mYes (β := β))) := ptsI pts_nil fun σ H Q q => by
  obtain ⟨c, F, st, b, st', rl, e, k⟩ := q
  simp only [mYes, Option.some.injEq, Prod.mk.injEq] at e
  obtain ⟨rfl, rfl⟩ := e
  exact k H F (.refl rl)
theorem sts_one {e : Expr} {m : Mn β Bool} (h : PT X e (tTs m)) : PTs X [e] (tTs m) := pts_one h
/-- a target that stores data alone -/
def TgV (m : Tm β) : Prop := ∀ (d : D) (st st' : Sta β), m d st = some st' → ∀ (i : Nat) (e : D), st'.env[i]? = some (.own e) → st.env[i]? = some (.own e)
def TgsV (m : Tms β) : Prop := ∀ (d : List D) (st st' : Sta β), m d st = some st' → ∀ (i : Nat) (e : D), st'.env[i]? = some (.own e) → st.env[i]? = some (.own e)
theorem tgv_n {i : Nat} : TgV (tmN (β := β) i) := fun d st st' e j e' h => by
  simp only [tmN, Option.some.injEq] at e
  subst e
  exact (set_own h (fun _ z => nomatch z)).2
theorem tgsv_nil : TgsV (tmNil (β := β)) := fun d st st' e j e' h => by
  cases d with
  | nil => simp only [tmNil, Option.some.injEq] at e; subst e; exact h
  | cons _ _ => simp [tmNil] at e
theorem tgsv_cons {m : Tm β} {n : Tms β} (hm : TgV m) (hn : TgsV n) : TgsV (tmCons m n) := fun d st st' e j e' h => by
  cases d with
  | nil => simp [tmCons] at e
  | cons x r =>
    simp only [tmCons] at e
    cases q : m x st with
    | none => rw [q] at e; cases e
    | some s1 => rw [q] at e; exact hm x st s1 q j e' (hn r s1 st' e j e' h)
theorem tgv_t {m : Tms β} {n : Nat} (hm : TgsV m) : TgV (tmT m n) := fun d st st' e j e' h => by
  cases d with
  | tup ds =>
    simp only [tmT] at e
    split at e
    · exact hm ds st st' e j e' h
    · cases e
  | _ => simp [tmT] at e
theorem blk_stp {c : C β} {σ σ3 : L2.St} {F1 F2 F4 : Gh} {s1 s' s3 s4 : Sta β} {H1 H2 H4 : Hp} {vs : List Nat} (r1 : Rel c F1 s1 σ H1) (no : noOwn s1.env vs = true) (t : Stp c σ F1 s1 H1 F2 s' H2)
    (hs3 : ∀ (i : Nat) (d : D), s3.env[i]? = some (.own d) → i ∉ vs ∧ s'.env[i]? = some (.own d)) (hl : σ3.length = σ.length) (hσ : ∀ j, j ∉ vs → σ3[j]? = σ[j]?) (u : Stp c σ3 F2 s3 H2 F4 s4 H4) :
    Stp c σ F1 s1 H1 F4 { s4 with env := backE s1.env s4.env vs } H4 := by
  have o3 : ∀ a, Own s3 σ3 a → Own s1 σ a := fun a ⟨i, d, h, q⟩ => by
    obtain ⟨h1, h2⟩ := hs3 i d h
    rw [hσ i h1] at q
    exact t.own a ⟨i, d, h2, q⟩
  have b3 : ∀ a o, H1 a = some o → Bsy s3 σ3 F2 a → Bsy s1 σ F1 a := fun a o e z => by
    rcases z with z | z
    · exact .inl (o3 a z)
    · exact t.bsy e (.inr z)
  have fr : ∀ a o, H1 a = some o → ¬ c.R.foot a → ¬ Bsy s1 σ F1 a → H4 a = some o ∧ (F4 a ↔ F1 a) := fun a o e hf hw => by
    obtain ⟨e2, i2⟩ := t.fr a o e hf hw
    obtain ⟨e4, i4⟩ := u.fr a o e2 hf fun z => hw (b3 a o e z)
    exact ⟨e4, i4.trans i2⟩
  have frs : FrS F1 H1 F4 H4 := ⟨fun a o e hf => by
    obtain ⟨e4, i4⟩ := fr a o e (fun z => hf (r1.f0 a (c.foot a z))) fun z => hf (r1.bsy_f z).1
    exact ⟨e4, fun z => hf (i4.mp z)⟩, fun n a h => u.mus n a (t.mus n a h)⟩
  refine ⟨r1.back no u.rel frs hl hσ, fr, fun a ⟨i, d, h, q⟩ => ?_, fun a o e => ?_, frs.m, fun a z => ?_⟩
  · have g : i ∉ vs ∧ s4.env[i]? = some (.own d) := by
      rcases backE_get h with ⟨h1, h2⟩ | g
      · have : s1.env[i]? = some (.own d) := by
          cases q : s1.env[i]? with
          | none => simp [List.getD_eq_getElem?_getD, q] at h2
          | some s => simp [List.getD_eq_getElem?_getD, q] at h2; rw [h2]
        exact absurd this (noOwn_get no h1)
      · exact g
    exact o3 a (u.own a ⟨i, d, g.2, by rw [hσ i g.1]; exact q⟩)
  · obtain ⟨o2, e2⟩ := t.dom a o e
    exact u.dom a o2 e2
  · rcases u.lo a z with z | z | z
    · exact t.lo a z
    · exact .inr (.inl (o3 a z))
    · exact .inr (.inr (t.gone z))
/-- a new list that no slot has is filled -/
theorem tmp_upd {c : C β} {σ : L2.St} {F1 F : Gh} {s1 s : Sta β} {H1 H : Hp} {p : Addr} {ob : HO} (r1 : Rel c F1 s1 σ H1) (t : Stp c σ F1 s1 H1 F s H) (hD : H1 p = none) (hF : F p) (hN : ¬ Lcd F p) :
    Stp c σ F1 s1 H1 F s (upd H p ob) := by
  have h0 : c.H0 p = none := r1.h0 hD
  have nf : ¬ c.R.foot p := r1.nofoot hD
  have now : ∀ b, Own s σ b → b ≠ p := fun b hb z => by
    obtain ⟨o, e⟩ := (r1.own_f (t.own b hb)).2.2
    rw [z, hD] at e
    cases e
  have wk : Kp H F (upd H p ob) F := ⟨fun b o e f => ⟨by rw [upd_ne (fun z => f (by rw [z]; exact hF))]; exact e, f⟩, fun _ _ h => h⟩
  refine ⟨⟨t.rel.len, fun i sl hi => ?_, t.rel.uniq, fun b o e f => ?_, c.R.keep _ _ _ t.rel.bag fun b o hb e => (upd_ne (fun (z : b = p) => nf (by rw [← z]; exact hb))).trans e, t.rel.f0, fun b hb => ?_, t.rel.nl, t.rel.mu0, t.rel.ln, t.rel.sto.mono wk rfl (fun b hb => (t.rel.loc_f hb).1) (fun b o e => upd_dom e) fun b o hb e => (upd_ne (fun (z : b = p) => hN (z ▸ hb))).trans e⟩, fun b o e f hw => ?_, t.own, fun b o e => ?_, t.mus, t.lo⟩
  · have q := t.rel.slot i sl hi
    cases sl with
    | no => trivial
    | val d => obtain ⟨v, e, hr⟩ := q; exact ⟨v, e, hr.mono wk⟩
    | own d =>
      obtain ⟨x, e, hr, hx, h0⟩ := q
      refine ⟨x, e, hr.mono wk (fun o z => ?_), hx, h0⟩
      rw [upd_ne (now x ⟨i, d, hi, e⟩)]
      exact z
    | lock d =>
      obtain ⟨x, e, hr, hx, ⟨o', h0'⟩⟩ := q
      refine ⟨x, e, hr.mono wk (fun o z => ?_), hx, ⟨o', h0'⟩⟩
      rw [upd_ne (fun z => by rw [z, h0] at h0'; cases h0')]
      exact z
  · rw [upd_ne (fun z => by rw [z, h0] at e; cases e)]
    exact t.rel.base b o e f
  · by_cases e : b = p
    · subst e; exact ⟨_, upd_same⟩
    · rw [upd_ne e]; exact t.rel.fs b hb
  · obtain ⟨e2, i2⟩ := t.fr b o e f hw
    rw [upd_ne (fun z => by rw [z, hD] at e; cases e)]
    exact ⟨e2, i2⟩
  · obtain ⟨o2, e2⟩ := t.dom b o e
    by_cases z : b = p
    · subst z; exact ⟨_, upd_same⟩
    · rw [upd_ne z]; exact ⟨o2, e2⟩
theorem comp_reads {it : Mn β (List D)} {vs is : List Nat} {tg : Tm β} {tt : Mn β Bool} {te : Mn β D} (hv : ∀ i ∈ is, i ∈ vs) (hg : TgV tg) : ∀ σ H Q, tE (mComp vs it tg tt te) σ H Q → tLc (tIt it) (gTm tg is) (tTs tt) (tDt te) vs σ H Q := fun σ H Q q => by
  obtain ⟨c, F, st, res, st', rl, e, k⟩ := q
  obtain ⟨ds, s1, e1, e⟩ := mBind_some e
  split at e
  · rename_i no
    refine ⟨c, F, st, ds, s1, rl, e1, fun J H1 F1 G t1 w g1 Dd hD => ?_⟩
    split at e
    · rename_i acc s2 e2
      simp only [Option.some.injEq, Prod.mk.injEq] at e
      obtain ⟨rfl, rfl⟩ := e
      -- what holds at a turn
      let Pv : Nat → Hp → Prop := fun i H' => ∃ F' s' ac xs, Stp c σ F1 s1 H1 F' s' H' ∧ H' Dd = some (.lst xs) ∧ RepL H' F' c.R.val ac xs ∧ F' Dd ∧ ¬ Lcd F' Dd ∧ G F' H' ∧ compL vs s1.env tg tt te (ds.drop i) ac s' = some (acc, s2)
      have start : Pv 0 (upd H1 Dd (.lst [])) := by
        have hn : ∀ a, F1.add Dd a → F1 a ∨ (H1 a = none ∧ ∃ o, upd H1 Dd (.lst []) a = some o) := fun a h => by
          rcases h with h | h
          · exact .inl h
          · subst h; exact .inr ⟨hD, _, upd_same⟩
        refine ⟨F1.add Dd, s1, [], [], .grow t1.rel (upd_keep hD) (fun _ h => .inl h) hn, upd_same, .nil, .inr rfl, (fun z => t1.rel.nobsyA hD (.inr z)), ?_, by rw [List.drop_zero]; exact e2⟩
        refine w.stay F1 s1 s1 σ σ H1 _ _ t1.rel g1 (t1.rel.grow (upd_keep hD) (fun _ h => .inl h) hn) ⟨fun b o e hf => ⟨upd_keep hD b o e, fun z => ?_⟩, fun _ _ h => h⟩
        rcases z with z | z
        · exact hf z
        · subst z; rw [hD] at e; cases e
      have hnD : ¬ c.R.foot Dd := t1.rel.nofoot hD
      have hnO : ¬ Own s1 σ Dd := fun z => by
        obtain ⟨o, e⟩ := (t1.rel.own_f z).2.2
        rw [hD] at e
        cases e
      refine ⟨fun i m H' => i + m = ds.length ∧ Pv i H', ⟨ds.length, by omega, start⟩, ?_⟩
      rintro i m H' ⟨him, F', s', ac, xs, t', hx, hl, hFD, hND, g', e'⟩
      by_cases hlt : i < ds.length
      · right
        have hd : ds[i]? = some ds[i] := List.getElem?_eq_getElem hlt
        obtain ⟨go, yl⟩ := w.go i ds[i] F' s' σ H' hd t'.rel g'
        refine ⟨go, fun H2 => (i + 1) + (m - 1) = ds.length ∧ Pv (i + 1) H2, fun H2 h2 => ⟨m - 1, by omega, h2⟩, fun x H2 y => ?_⟩
        obtain ⟨F2, t2, hx2⟩ := yl x H2 y
        rw [List.drop_eq_getElem_cons hlt] at e'
        simp only [compL] at e'
        split at e'
        · cases e'
        · rename_i s3 q3
          have t12 := t'.trans t2
          have hB' : ¬ Bsy s' σ F' Dd := fun z => z.elim (fun z => hnO (t'.own _ z)) hND
          obtain ⟨hx3, hF3⟩ := t2.fr Dd _ hx hnD hB'
          have hND2 : ¬ Lcd F2 Dd := fun z => hB' (t2.bsy hx (.inr z))
          have hFD2 : F2 Dd := hF3.mpr hFD
          have hl3 := hl.mono (t2.pers t'.rel)
          have g2 : G F2 H2 := w.stay F' s' s' σ σ H' F2 H2 t'.rel g' t2.rel (t2.frs t'.rel)
          refine ⟨c, F2, { s' with env := wipeE s'.env vs }, ds[i], s3, t2.rel.wiped vs, hx2, q3, fun σ3 r3 ch => ⟨wipe_ext (by rw [ch.1, wipe_length]) (fun j hj => ?_), ?_⟩⟩
          · rw [ch.2 j (fun z => hj (hv j z)), wipe_get hj]
          · have hσl : σ3.length = σ.length := by rw [ch.1, wipe_length]
            have hσ : ∀ j, j ∉ vs → σ3[j]? = σ[j]? := fun j hj => by rw [ch.2 j (fun z => hj (hv j z)), wipe_get hj]
            have hs3 : ∀ (i : Nat) (d : D), s3.env[i]? = some (.own d) → i ∉ vs ∧ s'.env[i]? = some (.own d) := fun i d h => by
              have q := hg _ _ _ q3 i d h
              rcases wipeE_get q with z | z
              · cases z
              · exact z
            have o3 : ¬ Bsy s3 σ3 F2 Dd := fun z => z.elim (fun ⟨i, d, h, q⟩ => by
              obtain ⟨h1, h2⟩ := hs3 i d h
              rw [hσ i h1] at q
              exact hnO (t'.own _ ⟨i, d, h2, q⟩)) hND2
            split at e'
            · cases e'
            · rename_i s4 q4
              refine ⟨c, F2, s3, false, s4, r3, q4, fun H4 F4 u => iteF ⟨by omega, ?_⟩⟩
              obtain ⟨hx4, hF4⟩ := u.fr Dd _ hx3 hnD o3
              have tb := blk_stp t1.rel no t12 hs3 hσl hσ u
              exact ⟨F4, _, ac, xs, tb, hx4, hl3.mono (u.pers r3), hF4.mpr hFD2, (fun z => o3 (u.bsy hx3 (.inr z))), w.stay F2 s3 s4 σ3 σ3 H2 F4 H4 r3 g2 u.rel (u.frs r3), e'⟩
            · rename_i s4 q4
              refine ⟨c, F2, s3, true, s4, r3, q4, fun H4 F4 u => iteT ?_⟩
              split at e'
              · cases e'
              · rename_i dx s5 q5
                refine ⟨c, F4, s4, dx, s5, u.rel, q5, fun v H5 F5 u2 hv5 => ?_⟩
                have u3 := u.trans u2
                obtain ⟨hx5, hF5⟩ := u3.fr Dd _ hx3 hnD o3
                have hl5 := hl3.mono (u3.pers r3)
                split at e'
                · rename_i hln
                  refine ⟨xs, hx5, by rw [hl.length, ← line_eq]; exact hln, by omega, ?_⟩
                  have tb := blk_stp t1.rel no t12 hs3 hσl hσ u3
                  have hl6 := hl5.append (.cons hv5 .nil)
                  have hND5 : ¬ Lcd F5 Dd := fun z => o3 (u3.bsy hx3 (.inr z))
                  have tu := tmp_upd (ob := .lst (xs ++ [v])) t1.rel tb hD (hF5.mpr hFD2) hND5
                  have fr5 : FrS F5 H5 F5 (upd H5 Dd (.lst (xs ++ [v]))) := ⟨fun b o e f => ⟨by rw [upd_ne (fun z => f (by rw [z]; exact hF5.mpr hFD2))]; exact e, f⟩, fun _ _ h => h⟩
                  exact ⟨F5, _, ac ++ [dx], xs ++ [v], tu, upd_same, hl6.mono fr5, hF5.mpr hFD2, hND5, w.stay F5 s5 _ σ3 σ H5 F5 _ u3.rel (w.stay F2 s3 s5 σ3 σ3 H2 F5 H5 r3 g2 u3.rel (u3.frs r3)) tu.rel fr5, e'⟩
                · cases e'
      · left
        have hi : i = ds.length := by omega
        subst hi
        rw [List.drop_length] at e'
        simp only [compL, Option.some.injEq, Prod.mk.injEq] at e'
        obtain ⟨rfl, rfl⟩ := e'
        refine ⟨w.stop F' s' σ H' t'.rel g', ?_⟩
        exact k (.ref Dd) H' F' (t1.trans t') ⟨Dd, rfl, ⟨xs, hx, hl⟩, hFD, t1.gone hD, fun z => z.elim (fun z => hnO (t'.own _ z)) hND⟩
    · cases e
  · cases e
theorem se_comp {elt tg iter : Expr} {ifs : List Expr} {scope : Scope} {own : List (Str × Nat)} {pos : Pos} {it : Mn β (List D)} {is : List Nat} {mt : Tm β} {tt : Mn β Bool} {te : Mn β R} (hc : X.calm = true) (hN : X.N.Nodup) (hi : PI X tg iter (tIt it)) (ok : BlkOk X.N X.env.scope scope own)
    (hv : ∀ i ∈ is, i ∈ own.map (·.2)) (hgv : TgV mt)
    (hg : ∀ (s : Shared) (H : Hp) (C : Addr) (cl : List (Str × Addr)) (fp : List Addr), PG (X.blk s H scope (compEnvC scope cl C X.env) fp) tg (gTm mt is)) (ht : ∀ (s : Shared) (H : Hp) (C : Addr) (cl : List (Str × Addr)) (fp : List Addr), PTs (X.blk s H scope (compEnvC scope cl C X.env) fp) ifs (tTs tt))
    (he : ∀ (s : Shared) (H : Hp) (C : Addr) (cl : List (Str × Addr)) (fp : List Addr), PE (X.blk s H scope (compEnvC scope cl C X.env) fp) elt (tE te)) (hs : ∀ x, foldedSetIterable iter X.env x = pure x := by intro _; rfl) :
    PE X (.ListComp elt [⟨tg, iter, ifs, 0⟩] scope pos) (tE (mComp (own.map (·.2)) it mt tt (mD te))) :=
  peI (pe_lc hc hN hi ok hg ht (fun s H C cl fp => se_d (he s H C cl fp)) hs) (comp_reads hv hgv)
/-- y = [..], y a local name -/
theorem ss_setLc {i : Nat} {y : Str} {py : Pos} {elt tg iter : Expr} {ifs : List Expr} {scope : Scope} {own : List (Str × Nat)} {pos spos : Pos} {it : Mn β (List D)} {is : List Nat} {mt : Tm β} {tt : Mn β Bool} {te : Mn β R} (hc : X.calm = true) (hN : X.N.Nodup) (hy : X.N[i]? = some y) (hyl : X.env.scope.names.lookup y = some .local)
    (hsw : swapsWith (.ListComp elt [⟨tg, iter, ifs, 0⟩] scope pos) (some (.Name y py)) spos.line X.env = pure true) (hi : PI X tg iter (tIt it)) (ok : BlkOk X.N X.env.scope scope own)
    (hv : ∀ i ∈ is, i ∈ own.map (·.2)) (hgv : TgV mt)
    (hg : ∀ (s : Shared) (H : Hp) (C : Addr) (cl : List (Str × Addr)) (fp : List Addr), PG (X.blk s H scope (compEnvC scope cl C X.env) fp) tg (gTm mt is)) (ht : ∀ (s : Shared) (H : Hp) (C : Addr) (cl : List (Str × Addr)) (fp : List Addr), PTs (X.blk s H scope (compEnvC scope cl C X.env) fp) ifs (tTs tt))
    (he : ∀ (s : Shared) (H : Hp) (C : Addr) (cl : List (Str × Addr)) (fp : List Addr), PE (X.blk s H scope (compEnvC scope cl C X.env) fp) elt (tE te)) (hs : ∀ x, foldedSetIterable iter X.env x = pure x := by intro _; rfl) :
    PS X (.Assign [.Name y py] (.ListComp elt [⟨tg, iter, ifs, 0⟩] scope pos) spos) (tSt (mSet i (mComp (own.map (·.2)) it mt tt (mD te)))) := by
  refine psI (ps_setLc hc hN hy hyl hsw hi ok hg ht (fun s H C cl fp => se_d (he s H C cl fp)) hs) fun D σ H q => ?_
  obtain ⟨c, F, st, o, st', rl, e, g⟩ := q
  obtain ⟨r, s1, e1, e⟩ := mBind_some e
  refine comp_reads hv hgv _ _ _ ⟨c, F, st, r, s1, rl, e1, fun v H1 F1 t1 h1 => ?_⟩
  cases q : setSl i r s1 with
  | none => rw [q] at e; cases e
  | some s2 =>
    rw [q] at e
    simp only [Option.some.injEq, Prod.mk.injEq] at e
    obtain ⟨rfl, rfl⟩ := e
    obtain ⟨F2, r2, f2⟩ := setSl_ok rl t1 h1 q
    exact g _ H1 F2 r2 f2
end
end M

/-! MEnum: enumerate over a list or a tuple. -/
namespace M
open PySem PySem.Spec PyProof.Rows L2
variable [Wrt]
open Sem (wp)
set_option maxHeartbeats 1000000 in
theorem meets_enum1 {v : Value} {o : Obj} {G : Heap → Prop} (B : Begins v o G) :
    Meets (Builtin.«enumerate.__new__» ⟨[.type "enumerate", v], []⟩) (fun _ R s => G s.heap ∧
      R (.ok (.ret (.ref (s.heap.push o).objs.size))) { s with heap := (s.heap.push o).push { cls := .type "enumerate", data := .fields #[.none, .bool false, .ref s.heap.objs.size, rawInt 0, .none, .none] } }) :=
  .of_wp fun prog w A R s h => by
    obtain ⟨hp, g, d, tk, os⟩ := s
    obtain ⟨h1, h⟩ := h
    have hsub := sub_enumerate
    have q1 : ∀ {A' : Around} {E : Value → Shared → Prop} {Q : Value → Shared → Prop}, Q (.ref hp.objs.size) ⟨hp.push o, g, d, tk, os⟩ → wpAny (model prog w) A' (pyIter v) Q E ⟨hp, g, d, tk, os⟩ :=
      fun q => B.iter prog w _ _ ⟨hp, g, d, tk, os⟩ _ h1 q
    wp_walk using q1
    refine wpAny_stack_any fun st => wpAny_pure ?_
    split
    · rename_i c _ _ _ _ _
      cases (c == Value.type "enumerate")
      all_goals (wp_walk using q1; exact ⟨_, rfl, h⟩)
    · wp_walk using q1
      exact ⟨_, rfl, h⟩
theorem enum1_begins {prog : Program} {w : World} {A : Around} {E : Value → Shared → Prop} {s : Shared} {v : Value} {o : Obj} {G : Heap → Prop} {Q : Value → Shared → Prop} (B : Begins v o G) (h1 : G s.heap)
    (h : ∀ h', IsEnum h' (s.heap.objs.size + 1) s.heap.objs.size 0 .none → h'.get? s.heap.objs.size = some o → h'.objs.size = s.heap.objs.size + 2 →
      (∀ b o, s.heap.get? b = some o → h'.get? b = some o) → Q (.ref (s.heap.objs.size + 1)) { s with heap := h' }) :
    wpAny (model prog w) A (call (.type "enumerate") [v]) Q E s := by
  refine callType_new F.called_enumerate (by decide) (F.typeCall_enumerate_1 _) (F.newCall_enumerate_1 _) (fun obj => F.args_object_init_2 obj _) F.entry_enumerate_new (meets_enum1 B) ⟨h1, ?_⟩
  have hz : (s.heap.push o).objs.size = s.heap.objs.size + 1 := Heap.size_push ..
  show _ ∧ _
  rw [hz]
  have he : IsEnum ((s.heap.push o).push { cls := .type "enumerate", data := .fields #[.none, .bool false, .ref s.heap.objs.size, rawInt 0, .none, .none] }) (s.heap.objs.size + 1) s.heap.objs.size 0 .none := by
    have hp2 := Heap.get?_push_size (s.heap.push o) (o := { cls := .type "enumerate", data := .fields #[.none, .bool false, .ref s.heap.objs.size, rawInt 0, .none, .none] }) rfl
    rw [hz] at hp2
    exact hp2
  exact ⟨⟨_, he, rfl⟩, h _ he (Heap.get?_push_of_some _ (Heap.get?_push_size _ B.free)) (by rw [Heap.size_push, hz]) fun b o x => Heap.get?_push_of_some _ (Heap.get?_push_of_some _ x)⟩
/-- a tuple's items in new pairs -/
def IteT (K : PySem.W.Frag) (a : Addr) : It :=
  ⟨fun i H => ∃ (xs : List V) (x : V), SqT K H a xs ∧ xs[i]? = some x, fun i H v H' => ∃ T x, v = .ref T ∧ H T = none ∧ H' = upd H T (.tup [.int (i : Nat), x]) ∧ ∀ xs, SqT K H a xs → xs[i]? = some x, fun i H => ∃ xs : List V, SqT K H a xs ∧ xs.length = i⟩
theorem turn_enumT {P : Program} {w : World} {K : PySem.W.Frag} {elts : List Expr} {kk : Nat} {tpos : Pos} (a e it : Addr) :
    Turn P w K (.Tuple elts kk tpos) (IteT K a) [e, it] e (fun i h => (∃ old, IsEnum h e it ((i : Nat) : Int) old) ∧ h.IsTupleIter it a i ∧ e ≠ it ∧ e ≠ a ∧ a ≠ it) where
  mem := by simp
  obj := fun i h st b hb => by
    obtain ⟨⟨old, he⟩, ⟨o, ho, hc, hd⟩, _⟩ := st
    rcases (show b = e ∨ b = it by simpa using hb) with z | z
    · rw [z]
      exact ⟨_, he, fun v q => nomatch q⟩
    · rw [z]
      exact ⟨o, ho, fun v q => by rw [hd] at q; cases q⟩
  keep := fun i h h' st k => let ⟨⟨old, he⟩, hi, hne⟩ := st; ⟨⟨old, k e (by simp) _ he⟩, hi.at fun o q => k it (by simp) o q, hne⟩
  item := by
    intro X hP hw hK hc i pins s σ H E I hf st hg
    subst hP hw hK
    obtain ⟨⟨old, he⟩, hit, hne, hea, hai⟩ := st
    obtain ⟨xs, x, hq, hx⟩ := hg
    obtain ⟨its, rv, p, hz⟩ := I.tuple hq
    obtain ⟨u, hu, ru⟩ := rv.get hx
    have hel : e < s.heap.objs.size := Heap.lt_size he
    have hil : it < s.heap.objs.size := by obtain ⟨_, q, _⟩ := hit; exact Heap.lt_size q
    have hlt : i < its.toArray.size := by
      have := (List.getElem?_eq_some_iff.mp hu).1
      simpa using this
    refine wpAny_pyNext_enum_itemD (Draws.tuple (A := X.A.in1) (I.ok.hd hc) it a hai its.toArray) he ⟨hit, p⟩ hlt hne (by simp [hne, hea]) fun x' h' tk hx' ho hst' hT hsz hk => ?_
    have ex : x' = u := by
      have e1 : its[i]? = some x' := by simpa using hx'
      rw [hu] at e1
      exact (Option.some.inj e1).symm
    subst ex
    refine ⟨_, rfl, wpAny_letOwnedTupleGo_enum (s := { s with heap := h', toks := tk + 1 }) ho fun h'' he' sb => ?_⟩
    have hT2 : h''.get? s.heap.objs.size = some { cls := .type "tuple", data := .seq #[.int i tk, x'] } := (sb.2 _ (Nat.ne_of_gt hel)).trans hT
    have new : ObjOk X.prog X.w (upd H s.heap.objs.size (.tup [.int (i : Nat), x])) h'' s.heap.objs.size (.tup [.int (i : Nat), x]) :=
      ⟨(show 2 ≤ sizeLine by decide), [.int i tk, x'], .cons ⟨_, rfl⟩ (.cons ru .nil), ⟨_, hT2, rfl, _, rfl⟩⟩
    have I1 : Inv X pins σ (upd H s.heap.objs.size (.tup [.int (i : Nat), x])) { s with heap := h'', toks := tk + 1 } :=
      I.turnedNew (ch := [e, it]) (fun b ob hb q => (sb.2 b (fun z => hb (by simp [z]))).trans (hk b ob (fun z => hb (by simp [z])) (fun z => hb (by simp [z])) q)) hf (Nat.le_refl _) new
    refine ⟨.ref s.heap.objs.size, _, I1, rfl, ⟨_, x, rfl, I.hok.fresh (Nat.le_refl _), rfl, fun ys hy => by rw [I.tuple_inj hy hq]; exact hx⟩, ⟨⟨x', ?_⟩, hst'.1.at fun o q => (sb.2 it (Ne.symm hne)).trans q, hne, hea, hai⟩, fun b hb => ?_⟩
    · have e1 : ((i + 1 : Nat) : Int) = (i : Int) + 1 := by omega
      rw [e1]
      exact he'
    · have hb' : b < s.heap.objs.size := by
        rcases (show b = e ∨ b = it by simpa using hb) with z | z
        · rw [z]; exact hel
        · rw [z]; exact hil
      rw [upd_ne (Nat.ne_of_lt hb')]
      exact (hf b hb).1
  done := by
    intro X hP hw hK hc i pins s σ H E I hf st hg
    subst hP hw hK
    obtain ⟨⟨old, he⟩, hit, hne, hea, hai⟩ := st
    obtain ⟨xs, hq, hx⟩ := hg
    obtain ⟨its, rv, p, hz⟩ := I.tuple hq
    obtain ⟨f0, f1, f2, f3, f4, f5⟩ := hf it (by simp)
    have hl := rv.length
    have hi : i = its.toArray.size := by simp; omega
    rw [hi] at hit
    exact wpAny_pyNext_enum_endD (Draws.tuple (A := X.A.in1) (I.ok.hd hc) it a hai its.toArray) he ⟨hit, p⟩ fun h' eb => ⟨rfl, I.turned (t' := s.toks) (fun b o hb q => eb b o hb q) f0 f1 f3 f4 f5⟩
  self := fun A i s Q E st h => let ⟨⟨_, he⟩, _⟩ := st; wpAny_pyIter_enum he h
/-- enumerate(e), e a list or a tuple -/
def iEnumA (K : PySem.W.Frag) (ta : TA) : TI := fun σ H R => ta σ H fun vs H1 => ∃ a xs, vs = [.ref a] ∧ ((SqL K H1 a xs ∧ R (Ite K a) H1) ∨ (SqT K H1 a xs ∧ R (IteT K a) H1))
theorem pi_enumA {X : Cx} {e : Expr} {ta : TA} {p pos tpos : Pos} {elts : List Expr} {kk : Nat} (hg : Gl X "enumerate") (hm : X.mg "enumerate" = none) (ha : PA X [e] ta) (hs : starEach [e] X.env = [(false, eval e X.env)] := by rfl) :
    PI X (.Tuple elts kk tpos) (.Call (.Name "enumerate" p) [e] [] pos) (iEnumA X.K ta) := by
  refine ⟨fun pins s σ H R I h => ?_⟩
  refine Call_ (ld_blt I hg hm boot_enumerate (PyProof.Rows.callWith_type1 (L2.thn (ha.run pos pins s σ H _ I h) fun us s1 ⟨vs, H1, I1, r1, q1⟩ => ?_) hs rfl))
  obtain ⟨a, xs, ex, hh⟩ := q1
  subst ex
  cases r1 with
  | cons r rr =>
    cases rr
    cases r
    have fp : ∀ b ∈ [s1.heap.objs.size + 1, s1.heap.objs.size], FpOk X pins H1 b := fun b hb => by
      have hle : s1.heap.objs.size ≤ b := by
        rcases (show b = s1.heap.objs.size + 1 ∨ b = s1.heap.objs.size by simpa using hb) with z | z
        · rw [z]; exact Nat.le_add_right _ _
        · rw [z]; exact Nat.le_refl _
      exact I1.fpOk hle (I1.hok.fresh hle)
    rcases hh with ⟨hq, q⟩ | ⟨hq, q⟩
    · obtain ⟨its, rv, p', hz⟩ := I1.list hq
      refine call_enumerate_list p'.isList fun h' he hit hsz hk => wpAny_pyIter_enum he ?_
      exact ⟨s1.heap.objs.size + 1, [s1.heap.objs.size + 1, s1.heap.objs.size], _, _, H1, rfl, I1.kept (t' := s1.toks) hk, turn_enum a (s1.heap.objs.size + 1) s1.heap.objs.size, ⟨⟨.none, he⟩, hit, Nat.succ_ne_self _⟩, fp, q⟩
    · obtain ⟨its, rv, p', hz⟩ := I1.tuple hq
      have hal : a < s1.heap.objs.size := by
        obtain ⟨o, ho, _⟩ := id (show s1.heap.IsTuple a its.toArray from p')
        exact Heap.lt_size ho
      refine enum1_begins (begins_tuple a its.toArray) p' fun h' he hit hsz hk => wpAny_pyIter_enum he ?_
      exact ⟨s1.heap.objs.size + 1, [s1.heap.objs.size + 1, s1.heap.objs.size], _, _, H1, rfl, I1.kept (t' := s1.toks) hk, turn_enumT a (s1.heap.objs.size + 1) s1.heap.objs.size, ⟨⟨.none, he⟩, ⟨_, hit, rfl, rfl⟩, Nat.succ_ne_self _, fun z => absurd hal (by rw [← z]; exact Nat.not_lt.mpr (Nat.le_succ _)), Nat.ne_of_lt hal⟩, fp, q⟩
variable {β : Type} [Sto β] [Kind β]
/-- the pairs -/
def enumD (ds : List D) : List D := ds.mapIdx fun i d => .tup [.int (i : Int), d]
theorem enumD_get (ds : List D) (i : Nat) : (enumD ds)[i]? = (ds[i]?).map fun d => .tup [.int (i : Int), d] := by
  unfold enumD
  rw [List.getElem?_mapIdx]
theorem enumD_len (ds : List D) : (enumD ds).length = ds.length := by simp [enumD]
theorem walks_enum {c : C β} {K : PySem.W.Frag} {a : Addr} {xs : List V} {ds : List D} : Walks c (Ite K a) (enumD ds) (fun F H => Held c F H a (.lst xs) ∧ RepL H F c.R.val ds xs) where
  go := fun i d F st σ H hd rl g => by
    rw [enumD_get] at hd
    obtain ⟨d0, h0, rfl⟩ := Option.map_eq_some_iff.mp hd
    obtain ⟨v, e, hv⟩ := g.2.get h0
    refine ⟨⟨xs, v, SqL.of g.1.1, e⟩, fun x H' y => ?_⟩
    obtain ⟨T, z, rfl, hT, rfl, hz⟩ := y
    have q := hz xs (SqL.of g.1.1)
    rw [e] at q
    cases q
    exact out_ok rl (Out.tup (ds := [.int (i : Int), d0]) hT (.cons (by simp [Rep]) (.cons hv .nil)))
  stop := fun F st σ H rl g => ⟨xs, SqL.of g.1.1, by rw [enumD_len, g.2.length]; exact Nat.le_refl _⟩
  stay := fun F st st' σ σ' H F' H' r g r' f => ⟨g.1.stay r r' f, g.2.mono f⟩
theorem walks_enumT {c : C β} {a : Addr} {xs : List V} {ds : List D} : Walks c (IteT Wrt.K a) (enumD ds) (fun F H => HeldT c F H a xs ∧ RepL H F c.R.val ds xs) where
  go := fun i d F st σ H hd rl g => by
    rw [enumD_get] at hd
    obtain ⟨d0, h0, rfl⟩ := Option.map_eq_some_iff.mp hd
    obtain ⟨v, e, hv⟩ := g.2.get h0
    refine ⟨⟨xs, v, g.1.sq, e⟩, fun x H' y => ?_⟩
    obtain ⟨T, z, rfl, hT, rfl, hz⟩ := y
    have q := hz xs (g.1.sq)
    rw [e] at q
    cases q
    exact out_ok rl (Out.tup (ds := [.int (i : Int), d0]) hT (.cons (by simp [Rep]) (.cons hv .nil)))
  stop := fun F st σ H rl g => ⟨xs, g.1.sq, by rw [enumD_len, g.2.length]⟩
  stay := fun F st st' σ σ' H F' H' r g r' f => ⟨g.1.stay r r' f, g.2.mono f⟩
/-- the pairs of an enumerate -/
def mEnum (a : Mn β R) : Mn β (List D) := mBind (mBind a toIt) fun ds st => some (enumD ds, st)
theorem si_enum {X : Cx} {e : Expr} {a : Mn β R} {p pos tpos : Pos} {elts : List Expr} {kk : Nat} (hg : Gl X "enumerate") (hm : X.mg "enumerate" = none) (he : PE X e (tE a)) (hs : starEach [e] X.env = [(false, eval e X.env)] := by rfl) (hK : X.K = Wrt.K := by rfl) :
    PI X (.Tuple elts kk tpos) (.Call (.Name "enumerate" p) [e] [] pos) (tIt (mEnum a)) := piI (show PI X _ _ (iEnumA Wrt.K _) from hK ▸ pi_enumA hg hm (pa_cons he pa_nil (hs.trans rfl)) hs) fun σ H R q => by
  obtain ⟨c, F, st, ds, st', rl, e, k⟩ := q
  obtain ⟨ds0, s2, e0, e⟩ := mBind_some e
  obtain ⟨r, s1, e1, e0⟩ := mBind_some e0
  simp only [Option.some.injEq, Prod.mk.injEq] at e
  obtain ⟨rfl, rfl⟩ := e
  refine ⟨c, F, st, r, s1, rl, e1, fun v H1 F1 t1 h1 => ?_⟩
  obtain ⟨F2, a, s2, ev, xs, hl, hh | hh⟩ := toIt_ok rl t1 h1 e0
  · exact ⟨a, xs, by rw [ev], .inl ⟨SqL.of hh.1, k _ H1 F2 _ s2 walks_enum ⟨hh, hl⟩⟩⟩
  · exact ⟨a, xs, by rw [ev], .inr ⟨hh.sq, k _ H1 F2 _ s2 walks_enumT ⟨hh, hl⟩⟩⟩
end M

/-! MZip: zip of two tuples. -/
namespace M
open PySem PySem.Spec PyProof.Rows L2
variable [Wrt]
variable {β : Type} [Sto β] [Kind β]
def zipD (xs ys : List D) : List D := List.zipWith (fun a b => D.tup [a, b]) xs ys
theorem walks_zipT {c : C β} {a b : Addr} {d1 d2 : List D} : Walks c (RZ.ItzT Wrt.K a b) (zipD d1 d2) (fun F H => Rep H F c.R.val (.tup d1) (.ref a) ∧ Rep H F c.R.val (.tup d2) (.ref b)) where
  go := fun i d F st σ H hd rl g => by
    obtain ⟨g1, g2⟩ := g
    simp only [Rep] at g1 g2
    obtain ⟨a', xs, e1, ha, hl1⟩ := g1
    obtain ⟨b', ys, e2, hb, hl2⟩ := g2
    cases e1
    cases e2
    unfold zipD at hd
    rw [List.getElem?_zipWith] at hd
    cases h1 : d1[i]? with
    | none => rw [h1] at hd; cases hd
    | some u =>
      cases h2 : d2[i]? with
      | none => rw [h1, h2] at hd; cases hd
      | some v =>
        rw [h1, h2] at hd
        simp only [Option.some.injEq] at hd
        subst hd
        obtain ⟨x, ex, hx⟩ := hl1.get h1
        obtain ⟨y, ey, hy⟩ := hl2.get h2
        refine ⟨⟨xs, ys, x, y, ha.sq, hb.sq, ex, ey⟩, fun z H' yl => ?_⟩
        obtain ⟨T, x', y', rfl, hT, rfl, z1, z2⟩ := yl
        have q1 := z1 xs (ha.sq)
        have q2 := z2 ys (hb.sq)
        rw [ex] at q1
        rw [ey] at q2
        cases q1
        cases q2
        exact out_ok rl (Out.tup (ds := [u, v]) hT (.cons hx (.cons hy .nil)))
  stop := fun F st σ H rl g => by
    obtain ⟨g1, g2⟩ := g
    simp only [Rep] at g1 g2
    obtain ⟨a', xs, e1, ha, hl1⟩ := g1
    obtain ⟨b', ys, e2, hb, hl2⟩ := g2
    cases e1
    cases e2
    refine ⟨xs, ys, ha.sq, hb.sq, ?_⟩
    rw [hl1.length, hl2.length]
    unfold zipD
    rw [List.length_zipWith]
    omega
  stay := fun F st st' σ σ' H F' H' r g r' f => ⟨g.1.mono f, g.2.mono f⟩
/-- the pairs of a zip of two tuples -/
def mZip (a : Mn β (List R)) : Mn β (List D) := mBind a fun rs st => match pkL rs st with
  | some [.tup d1, .tup d2] => some (zipD d1 d2, st)
  | _ => none
theorem si_zip {X : Cx} {e e2 : Expr} {a : Mn β (List R)} {p pos tpos : Pos} {elts : List Expr} {kk : Nat} (hg : Gl X "zip") (hm : X.mg "zip" = none) (he : PA X [e, e2] (tRs a))
    (hs : starEach [e, e2] X.env = (false, eval e X.env) :: starEach [e2] X.env := by rfl) (hpl : (backTo pos (starEach [e2] X.env)).any (·.1) = false := by rfl) (hK : X.K = Wrt.K := by rfl) :
    PI X (.Tuple elts kk tpos) (.Call (.Name "zip" p) [e, e2] [] pos) (tIt (mZip a)) := piI (RZ.pi_zipA hg hm he hs hpl) fun σ H R q => by
  rw [hK]
  obtain ⟨c, F, st, ds, st', rl, e, k⟩ := q
  obtain ⟨rs, s1, e1, e⟩ := mBind_some e
  refine ⟨c, F, st, rs, s1, rl, e1, fun vs H1 F1 t1 h1 => ?_⟩
  split at e
  · rename_i d1 d2 p1
    simp only [Option.some.injEq, Prod.mk.injEq] at e
    obtain ⟨rfl, rfl⟩ := e
    obtain ⟨v, r, rfl, h2, h3⟩ := pkL_ok t1.rel h1 p1
    obtain ⟨v', r', rfl, h4, h5⟩ := h3
    have h5 : r' = [] := h5
    subst h5
    have h2' : Rep H1 F1 c.R.val (.tup d1) v := h2
    have h4' : Rep H1 F1 c.R.val (.tup d2) v' := h4
    have h2'' := h2'
    have h4'' := h4'
    simp only [Rep] at h2' h4'
    obtain ⟨a', xs, rfl, ha, _⟩ := h2'
    obtain ⟨b', ys, rfl, hb, _⟩ := h4'
    exact ⟨a', b', xs, ys, rfl, .inr ⟨ha.sq, hb.sq, k _ H1 F1 _ t1 walks_zipT ⟨h2'', h4''⟩⟩⟩
  · cases e
end M

/-! MGen: all, any of a generator expression over whatever a for may walk; its element may call defs. -/
namespace M
open PySem PySem.Spec PyProof.Rows L2

/-- the context of a generator expression's frame that was made at s -/
abbrev gCx (X : Cx) (A : Around) (s : Shared) (H : Hp) (cenv : Env) (fp : List Addr) : Cx :=
  { X with A := A, s_0 := s, H_0 := H, env := cenv, outer := X.stack, stack := cenv :: X.stack, ex := fp, fn := fun _ => false, pn := [], xe := fun _ _ => False }
theorem over_gx {A : Around} {elt : Expr} {gs : List Comprehension} {sc : Scope} {pos : Pos} {it acc : Value} {env : Env} :
    A.over (.compLoop (.GeneratorExp elt gs sc pos) 0 it acc env) [] = A.deeper env := by
  first
    | rfl
    | (obtain ⟨hd, d, fr, gs, u⟩ := A; simp [Around.over, Around.deeper, marksOver, frameCount, unitsOf, envsOf, guardsOf, pushEnvs, pushGuards, Code.envs, Code.env?, Code.isFrame, Code.guards, Code.isGuard, Code.weight, Code.frames, Code.isCreation, Code.isCaller, Code.cUnits])
theorem Room.gx {k : Nat} {A : Around} (r : Room (k + 1) A) (env : Env) : Room k (A.in1.in1.deeper env) :=
  ⟨r.hd, by have := r.dp; show A.depth + 1 + 3 * k + 5 < _; omega, by have := r.un; show A.units + 1 + 1 + 3 + 16 * k + 200 < _; omega⟩
/-- the generator's names: its own, with their places in N, or captured -/
structure GenOk (N : List Str) (sc scope : Scope) (own : List (Str × Nat)) : Prop where
  kind : scope.kind = .function
  co : scope.isCoroutine = false
  ix : ∀ p ∈ own, N[p.2]? = some p.1
  free : ∀ y ∈ scope.names, y.2 = .free → sc.names.lookup y.1 = some .cell ∨ sc.names.lookup y.1 = some .free
  own : ∀ y ∈ scope.names, y.2 = .local → y.1 ∈ own.map (·.1) ∨ y.1 ∉ N
  nocell : ∀ y ∈ scope.names, y.2 ≠ .cell
  dot : scope.names.lookup (".0" : Str) = some NameKind.local
def genC (N : List Str) (sc scope : Scope) (own : List (Str × Nat)) : Bool :=
  decide (scope.kind = .function) && (!scope.isCoroutine && (own.all (fun p => decide (N[p.2]? = some p.1)) && (scope.names.all (fun y => !decide (y.2 = .free) || (decide (sc.names.lookup y.1 = some .cell) || decide (sc.names.lookup y.1 = some .free))) &&
    (scope.names.all (fun y => !decide (y.2 = .local) || (decide (y.1 ∈ own.map (·.1)) || decide (y.1 ∉ N))) && (scope.names.all (fun y => !decide (y.2 = .cell)) && decide (scope.names.lookup (".0" : Str) = some NameKind.local))))))
theorem genOk_by {N : List Str} {sc scope : Scope} {own : List (Str × Nat)} (h : genC N sc scope own = true) : GenOk N sc scope own := by
  unfold genC at h
  simp only [Bool.and_eq_true, decide_eq_true_eq, Bool.not_eq_true', List.all_eq_true, Bool.or_eq_true, decide_eq_false_iff_not] at h
  obtain ⟨h1, h2, h3, h4, h5, h6, h7⟩ := h
  exact ⟨h1, h2, h3, fun y hy e => (h4 y hy).elim (fun z => absurd e z) id, fun y hy e => (h5 y hy).elim (fun z => absurd e z) id, h6, h7⟩
/-- only the generators' table is another one -/
theorem inv_regens {X : Cx} {pins : List (Addr × Obj)} {σ : L2.St} {H : Hp} {s : Shared} (I : Inv X pins σ H s) {G : Array GenState} (h : AllBare G) : Inv X pins σ H { s with gens := G } :=
  ⟨I.ok, I.os, h, I.base, I.loc, I.cell, I.free, I.freeC, I.pin, I.hok, I.len⟩
section
variable {X : Cx} {pins : List (Addr × Obj)} {σ : L2.St} {H : Hp} {s : Shared}
theorem gen_start {scope : Scope} {own : List (Str × Nat)} {fp : List Addr} {A : Around} {code it : Value} {h' : Heap} {ob : Obj} {gs : GenState} {tk : Nat} (I : Inv X pins σ H s) (ok : GenOk X.N X.env.scope scope own) (hN : X.N.Nodup) (hfp : ∀ b ∈ fp, FpOk X pins H b ∧ b < s.heap.objs.size)
    (hA : A.frames = some (genEnv scope (cloFrom X.env.cells scope.names []) s.heap.objs.size code builtinsNs X.env :: X.stack)) (hh : A.handled = none) (hn : h'.Ns s.heap.objs.size (fun y => if y = ".0" then some it else none))
    (hs : Heap.SameBut s.heap.objs.size (s.heap.push { cls := .type "frame", data := .dict #[] }) h') (hob : ∀ v, ob.data ≠ .cell v) (hof : ob.isFreed = false) (hb : gs.bare = true) :
    Inv (gCx X A s H (genEnv scope (cloFrom X.env.cells scope.names []) s.heap.objs.size code builtinsNs X.env) fp) [(h'.objs.size, ob)] (wipe σ (own.map (·.2))) H { s with gens := s.gens.push gs, toks := tk, heap := h'.push ob } := by
  have hfree : ∀ y ∈ scope.names, y.2 = .free → ∃ c, X.env.cells.lookup y.1 = some c := fun y hy e => by
    rcases ok.free y hy e with k | k
    · exact I.ok.has _ (.inl k)
    · exact I.ok.has _ (.inr k)
  have hsz : h'.objs.size = s.heap.objs.size + 1 := by rw [hs.1, Heap.size_push]
  have kp : ∀ b o, s.heap.get? b = some o → (h'.push ob).get? b = some o := fun b o e =>
    Heap.get?_push_of_some _ (hs.extBut b o (Nat.ne_of_lt (Heap.lt_size e)) (Heap.get?_push_of_some _ e))
  have cm : ∀ {y c}, (cloFrom X.env.cells scope.names []).lookup y = some c → X.env.cells.lookup y = some c ∧ c < s.heap.objs.size ∧ (y, NameKind.free) ∈ scope.names := fun {y c} e => by
    rcases cloFrom_mem (PySem.mem_of_lookup e) with hm | ⟨h1, h2⟩
    · cases hm
    · obtain ⟨c', hc⟩ := hfree _ h1 rfl
      have e2 : c = c' := by rw [h2]; simp only at hc; rw [hc]; rfl
      subst e2
      obtain ⟨w, z⟩ := I.cell _ _ hc
      exact ⟨hc, z.lt, h1⟩
  have look : ∀ {y}, (y, NameKind.free) ∈ scope.names → ∃ c, (cloFrom X.env.cells scope.names []).lookup y = some c ∧ X.env.cells.lookup y = some c := fun {y} hy => by
    obtain ⟨c', e'⟩ := mem_lookup (cloFrom_has (cells := X.env.cells) (acc := []) hy)
    exact ⟨c', e', (cm e').1⟩
  have okG : (gCx X A s H (genEnv scope (cloFrom X.env.cells scope.names []) s.heap.objs.size code builtinsNs X.env) fp).Ok := by
    refine ⟨I.ok.mod, ok.kind, I.ok.glob, rfl, Nat.le_refl _, fun y z c e1 e2 => I.ok.inj y z c (cm e1).1 (cm e2).1, fun y hy => ?_, fun y c z _ => ?_, fun _ => hh, hA, .inr ⟨rfl, rfl⟩, fun b hb => ⟨Nat.ne_of_lt (hfp b hb).2, fun y c e => (hfp b hb).1.2.2.2.2.1 y c (cm e).1⟩,
      I.bs, Nat.le_trans I.ok.bsz I.sz, fun b o e hb => ?_, fun b hb z => ?_, I.stack, I.stkFree⟩
    · have hy : scope.names.lookup y = some .cell ∨ scope.names.lookup y = some .free := hy
      rcases hy with hy | hy
      · exact absurd rfl (ok.nocell _ (PySem.mem_of_lookup hy))
      · obtain ⟨c, h1, _⟩ := look (PySem.mem_of_lookup hy)
        exact ⟨c, h1⟩
    · have z : false = true := z
      cases z
    · rcases (hfp b hb).1.2.2.2.1 with z | z
      · exact I.ok.noex b o e z
      · exact absurd (Nat.lt_of_lt_of_le (Heap.lt_size e) (Nat.le_trans I.ok.bsz z)) (Nat.lt_irrefl _)
    · rcases List.mem_cons.mp (I.stkSub b z) with z | z
      · exact (hfp b hb).1.2.1 z
      · exact (hfp b hb).1.2.2.1 z
  refine ⟨okG, rfl, I.bare.push hb, Un.kept kp, ⟨_, hn.push _, fun i y av e1 e2 e3 => ?_⟩, fun y c e => ?_, I.hok.fresh (Nat.le_refl _), fun y c e => I.freeC y c (cm e).1, fun p hp => ?_, I.hok.kept kp, by rw [wipe_length]; exact I.len⟩
  · obtain ⟨e2, hne⟩ := wipe_some e2
    have e1 : X.N[i]? = some y := e1
    have hfr : (y, NameKind.free) ∈ scope.names := by
      have e3 : scope.names.lookup y = some .local ∨ scope.names.lookup y = some .cell ∨ scope.names.lookup y = some .free := e3
      rcases e3 with e3 | e3 | e3
      · rcases ok.own _ (PySem.mem_of_lookup e3) rfl with e' | e'
        · obtain ⟨p, hp, hpy⟩ := List.mem_map.mp e'
          have q := ok.ix p hp
          have hpy : p.1 = y := hpy
          rw [hpy] at q
          exact absurd (List.mem_map.mpr ⟨p, hp, nodup_ix hN q e1⟩) hne
        · exact absurd (List.mem_of_getElem? e1) e'
      · exact absurd rfl (ok.nocell _ (PySem.mem_of_lookup e3))
      · exact PySem.mem_of_lookup e3
    have hfk : scope.names.lookup y = some .free := by
      have e3 : scope.names.lookup y = some .local ∨ scope.names.lookup y = some .cell ∨ scope.names.lookup y = some .free := e3
      rcases e3 with e3 | e3 | e3
      · rcases ok.own _ (PySem.mem_of_lookup e3) rfl with e' | e'
        · obtain ⟨p, hp, hpy⟩ := List.mem_map.mp e'
          have q := ok.ix p hp
          have hpy : p.1 = y := hpy
          rw [hpy] at q
          exact absurd (List.mem_map.mpr ⟨p, hp, nodup_ix hN q e1⟩) hne
        · exact absurd (List.mem_of_getElem? e1) e'
      · exact absurd rfl (ok.nocell _ (PySem.mem_of_lookup e3))
      · exact e3
    obtain ⟨m, hn, hl⟩ := I.loc
    have hk := ok.free _ hfr rfl
    have hvis : Vis X.env.scope y := hk.elim (fun k => .inr (.inl k)) (fun k => .inr (.inr k))
    obtain ⟨w, r, q⟩ := hl i y av e1 e2 hvis
    refine ⟨w, r, .inr ⟨.inr hfk, ?_⟩⟩
    obtain ⟨c, h1, h2⟩ := look hfr
    rcases q with ⟨k, _⟩ | ⟨_, c', e', z⟩
    · have k : X.env.scope.names.lookup y = some .local := k
      have hk : X.env.scope.names.lookup y = some .cell ∨ X.env.scope.names.lookup y = some .free := hk
      rw [k] at hk
      rcases hk with hk | hk <;> cases hk
    · rw [h2] at e'
      cases e'
      exact ⟨c, h1, z.keeps kp⟩
  · obtain ⟨w, z⟩ := I.cell y c (cm e).1
    exact ⟨w, z.keeps kp⟩
  · have e : p = (h'.objs.size, ob) := List.mem_singleton.mp (show p ∈ [(h'.objs.size, ob)] from hp)
    subst e
    have hle : s.heap.objs.size ≤ h'.objs.size := by rw [hsz]; exact Nat.le_succ _
    refine ⟨Heap.get?_push_size _ hof, I.hok.fresh hle, fun z => ?_, fun z => ?_, hob⟩
    · have z : h'.objs.size = s.heap.objs.size := z
      rw [hsz] at z
      exact absurd z (Nat.succ_ne_self _)
    · rcases List.mem_cons.mp (I.stkSub _ z) with z | z
      · have := I.lt
        have z : h'.objs.size = X.env.locals := z
        rw [← z] at this
        exact absurd (Nat.lt_of_lt_of_le this hle) (Nat.lt_irrefl _)
      · exact I.nofs hle z
end

/-! ### the generator's turns -/
section
variable {Z : Cx} {tg elt iter : Expr} {scope : Scope} {pos : Pos} {it : Addr} {fp : List Addr} {tn : Nat → Heap → Prop} {J : It} {g : TG} {te : TE} {vs : List Nat} {σ : L2.St} {pa : Addr × Obj} {W : Nat → Nat → Hp → Prop} {pol : Bool} {Qe Qf : Hp → Prop} {A : Around}
/-- between two turns -/
structure GAt (Z : Cx) (pa : Addr × Obj) (σ : L2.St) (fp : List Addr) (tn : Nat → Heap → Prop) (i : Nat) (H : Hp) (s : Shared) : Prop where
  inv : Inv Z [pa] σ H s
  tn : tn i s.heap
  fre : ∀ b ∈ fp, H b = none
theorem GAt.regens {i : Nat} {H : Hp} {s : Shared} (h : GAt Z pa σ fp tn i H s) {G : Array GenState} (hG : AllBare G) : GAt Z pa σ fp tn i H { s with gens := G } := ⟨inv_regens h.inv hG, h.tn, h.fre⟩
def gxY (Z : Cx) (pa : Addr × Obj) (σ : L2.St) (fp : List Addr) (tn : Nat → Heap → Prop) (W : Nat → Nat → Hp → Prop) (pol : Bool) (Qf : Hp → Prop) : Protocol := fun n _ v s kap =>
  ∃ i H b, v = .bool b ∧ GAt Z pa σ fp tn i H s ∧ if b = pol then ∀ s'', GAt Z pa σ fp tn i H s'' → kap (.send .none) s'' else Qf H
def gxR (Z : Cx) (pa : Addr × Obj) (σ : L2.St) (Qe : Hp → Prop) : Nat → Shared → Shared → Prop := fun _ _ s => ∃ H, Inv Z [pa] σ H s ∧ Qe H
theorem gx_loop (hA : A.deeper Z.env = Z.A) (T : Turn Z.prog Z.w Z.K tg J fp it tn) (pg : PG Z tg g) (pe : PE Z elt te) (hc : Z.calm = true) (hxe : Z.xe = fun _ _ => False) (hco : Z.env.scope.isCoroutine = false) (hpa : ∀ b ∈ fp, pa.1 ≠ b) (hex : Z.ex = fp) (hpn : Z.pn = [])
    (hσ : wipe σ vs = σ) (turn : ∀ i m H, W i m H → (J.stop i H ∧ Qe H) ∨ (J.go i H ∧ ∃ Nx : Hp → Prop, (∀ H', Nx H' → ∃ m', m' < m ∧ W (i + 1) m' H') ∧ ∀ x H', J.yld i H x H' → g x σ H' fun σ2 H2 => wipe σ2 vs = σ ∧ te σ2 H2 fun y H3 => ∃ b, y = .bl b ∧ if b = pol then Nx H3 else Qf H3)) :
    ∀ (m n i : Nat) (H : Hp) (s₀ s : Shared), m < n → W i m H → GAt Z pa σ fp tn i H s →
      Seg (model Z.prog Z.w) A (fun n s₀ r s₁ => r = .ok .next ∧ gxR Z pa σ Qe n s₀ s₁) (gxY Z pa σ fp tn W pol Qf) n s₀ (.compLoop (.GeneratorExp elt [⟨tg, iter, [], 0⟩] scope pos) 0 (.ref it) .none Z.env)
        ((model Z.prog Z.w).den (.compLoop (.GeneratorExp elt [⟨tg, iter, [], 0⟩] scope pos) 0 (.ref it) .none Z.env)) [] s := by
  have stat : ∀ {pins : List (Addr × Obj)} {σ' : L2.St} {H' : Hp} {s' : Shared}, pins = [pa] → Inv Z pins σ' H' s' → (∀ b ∈ fp, H' b = none) → ∀ b ∈ fp, FpOk Z pins H' b := fun {pins σ' H' s'} e I' hn b hb => by
    have hbx : b ∈ Z.ex := by rw [hex]; exact hb
    refine ⟨hn b hb, (I'.ok.exf b hbx).1, I'.ok.exfs b hbx, .inl hbx, fun x c e => (I'.ok.exf b hbx).2 x c e, fun p hp => ?_⟩
    rw [hpn, e] at hp
    have hp' : p ∈ [pa] := hp
    rw [List.mem_singleton.mp hp']
    exact hpa b hb
  intro m
  induction m using Nat.strongRecOn with
  | ind m ih =>
    intro n i H s₀ s hmn w gat
    show Seg _ A _ _ _ s₀ _ ((compTurn (.GeneratorExp elt [⟨tg, iter, [], 0⟩] scope pos) 0 (.ref it) .none Z.env).onRaise (leaving Z.env)) [] s
    rw [compTurn_gen, Sem.onRaise_eq_wrap]
    refine seg_bind_wrap (wpAny_standAt (seg_bind_wrap ?_))
    rw [over_gx, hA]
    rcases turn i m H w with ⟨stop, qq⟩ | ⟨go, Nx, hNx, step⟩
    · refine thnF (T.done Z rfl rfl rfl hc i [pa] s _ H (fun _ _ => False) gat.inv (stat rfl gat.inv gat.fre) gat.tn stop) fun r s6 ⟨hr, I6⟩ => ?_
      subst hr
      exact seg_end (.ok .next) ⟨rfl, H, I6, qq⟩
    · refine thnF (T.item Z rfl rfl rfl hc i [pa] s _ H (fun _ _ => False) gat.inv (stat rfl gat.inv gat.fre) gat.tn go) fun r s6 ⟨u, hr, h6⟩ => ?_
      subst hr
      refine seg_bind_wrap ?_
      rw [over_gx, hA]
      refine thnF h6 fun _ s7 ⟨x, H7, I7, r7, y7, st7, n7⟩ => ?_
      have I7' := I7.pinned (stat rfl I7 n7) (T.obj _ _ st7)
      refine seg_bind_wrap ?_
      rw [over_gx, hA]
      refine wpAny_mono (pg.run _ s7 _ H7 x u _ I7' r7 (step x H7 y7)) (fun _ s8 ⟨σ8, H8, I8, hw8, q8⟩ => ?_) fun e s8 he => ?_
      · have hy : ∀ v, yieldOut Z.env v = yieldValue v := fun v => by simp only [yieldOut, hco, Bool.false_eq_true, if_false]
        simp only [List.forIn_nil, pure_bind, if_true, hy]
        rw [Sem.bind_eq_wrap', Sem.bind_eq_wrap', Sem.wrap_wrap, Sem.wrap_wrap]
        refine seg_wrap ?_
        rw [over_gx, hA]
        refine wpAny_mono (pe.run _ s8 σ8 H8 _ I8 q8) (fun z s10 ⟨yv, H10, I10, r10, b, eb, q10⟩ => ?_) fun e s9 he => ?_
        · subst eb
          have r10 : z = .bool b := r10
          subst r10
          obtain ⟨n', rfl⟩ : ∃ k, n = k + 1 := ⟨n - 1, by omega⟩
          have pin' : ∀ b ∈ fp, ∀ o, s7.heap.get? b = some o → s10.heap.get? b = some o ∧ H10 b = none := fun b hb o e =>
            let z := I10.pin (b, o) (List.mem_append_right _ (List.mem_append_right _ (mem_pinsAt hb e)))
            ⟨z.1, z.2.1⟩
          have hl : σ.length = σ8.length := by rw [← hw8, wipe_length]
          have gat' : GAt Z pa σ fp tn (i + 1) H10 s10 := by
            refine ⟨(I10.unpinned (pins := [pa])).weak hl fun j v e => ?_, T.keep _ _ _ st7 fun b hb o e => (pin' b hb o e).1, fun b hb => ?_⟩
            · rw [← hw8] at e
              exact (wipe_some e).1
            · obtain ⟨o, e, _⟩ := T.obj _ _ st7 b hb
              exact (pin' b hb o e).2
          refine seg_at (seg_yield rfl rfl rfl ⟨i + 1, H10, b, rfl, gat', ?_⟩)
          by_cases hb : b = pol
          · rw [if_pos hb] at q10 ⊢
            obtain ⟨m', hm, w'⟩ := hNx H10 q10
            exact fun s'' hs => seg_again rfl (ih m' hm n' (i + 1) H10 s'' s'' (by omega) w' hs)
          · rw [if_neg hb] at q10 ⊢
            exact q10
        · rw [hxe] at he
          exact he.elim
      · rw [hxe] at he
        exact he.elim
end
end M

/-! MGen2: the consumers of a generator expression, and its making. -/
namespace M
open PySem PySem.Spec PyProof.Rows L2 GxR GenW
section
variable {Z : Cx} {fp : List Addr} {tn : Nat → Heap → Prop} {σ : L2.St} {pa : Addr × Obj} {W : Nat → Nat → Hp → Prop} {pol : Bool} {Qe Qf : Hp → Prop} {A : Around} {gi : Nat}
/-- ready for its next turn, with at most n ahead -/
def GRest (Z : Cx) (pa : Addr × Obj) (σ : L2.St) (fp : List Addr) (tn : Nat → Heap → Prop) (W : Nat → Nat → Hp → Prop) (pol : Bool) (Qe Qf : Hp → Prop) (A : Around) (gi : Nat) (n : Nat) (s : Shared) : Prop :=
  ∃ i H gs, GAt Z pa σ fp tn i H s ∧ s.gens[gi]? = some gs ∧ ∀ s'', GAt Z pa σ fp tn i H s'' →
    gs.Goes (model Z.prog Z.w) A (fun n s₀ r s₁ => r = .ok .next ∧ gxR Z pa σ Qe n s₀ s₁) (gxY Z pa σ fp tn W pol Qf) n (.send .none) s''
theorem gx_next (hh : A.handled = none) (hd : A.depth < recursionLimit) (hg : ∀ h : Heap, h.get? pa.1 = some pa.2 → h.IsGen pa.1 gi) {E : Value → Shared → Prop} {n : Nat} {s : Shared} (R : GRest Z pa σ fp tn W pol Qe Qf A.in1 gi n s) :
    wpAny (model Z.prog Z.w) A (pyNext (.ref pa.1)) (fun r s₁ => match r with
      | none => ∃ H, Inv Z [pa] σ H s₁ ∧ Qe H
      | some v => ∃ b, v = .bool b ∧ if b = pol then (∃ k, k < n ∧ GRest Z pa σ fp tn W pol Qe Qf A.in1 gi k s₁) else ∃ H, Inv Z [pa] σ H s₁ ∧ Qf H) E s := by
  obtain ⟨i, H, gs, gat, hgs, hgo⟩ := R
  have isg : s.heap.IsGen pa.1 gi := hg s.heap (gat.inv.pin pa (List.mem_append_right _ List.mem_cons_self)).1
  have hlt : gi < s.gens.size := (Array.getElem?_eq_some_iff.mp hgs).1
  refine wpAny_gsz (n := gi + 1) hlt ?_
  have ab : AllBare (s.setGen gi .running).gens := allBare_setGen gat.inv.bare rfl
  refine wpAny_pyNext_genexpQ (P := gxR Z pa σ Qe) hh gat.inv.nolimit hd isg hgs (hgo _ (gat.regens ab)) (fun v s₁ gs' hb hv hz => ?_) fun s₁ hp h' hk hz => ?_
  · obtain ⟨i', H', b, rfl, gat', hq⟩ := hv
    refine ⟨b, rfl, ?_⟩
    have ab' : AllBare (s₁.setGen gi gs').gens := allBare_setGen gat'.inv.bare hb
    by_cases e : b = pol
    · rw [if_pos e] at hq ⊢
      cases n with
      | zero => exact (hq s₁ gat').elim
      | succ n =>
        refine ⟨n, Nat.lt_succ_self n, i', H', gs', gat'.regens ab', ?_, fun s'' h'' => hq s'' h''⟩
        rw [setGen_size] at hz
        show (s₁.gens.setIfInBounds gi gs')[gi]? = some gs'
        have hz' : gi < s₁.gens.size := hz
        simp [hz']
    · rw [if_neg e] at hq ⊢
      exact ⟨H', inv_regens gat'.inv ab', hq⟩
  · obtain ⟨H', I', q⟩ := hp
    have ab' : AllBare (s₁.setGen gi .finished).gens := allBare_setGen I'.bare rfl
    exact ⟨H', (inv_regens I' ab').kept (h' := h') (t' := s₁.toks) hk, q⟩
/-- the consumer all -/
theorem all_loop {M : Model} (hM : ∃ prog w, M = model prog w) {a : Addr} {Good : Nat → Shared → Prop} {Ret : Bool → Shared → Prop} {R : Result → Shared → Prop} (hR : ∀ b s, Ret b s → R (.ok (.ret (.bool b))) s)
    (turn : ∀ n s (E : Value → Shared → Prop), Good n s → wpAny M A.in1 (pyNext (.ref a)) (fun r s₁ => match r with
      | none => Ret true s₁
      | some v => ∃ b, v = .bool b ∧ if b = true then (∃ k, k < n ∧ Good k s₁) else Ret false s₁) E s) :
    ∀ (n : Nat) (s : Shared), Good n s → codeAny M A (.builtin "all.loop" ⟨[.ref a], []⟩) R s := by
  obtain ⟨prog, w, rfl⟩ := hM
  intro n
  induction n using Nat.strongRecOn with
  | ind n ih =>
    intro s hs
    refine (codeAny_builtin F.entry_all_loop ?_)
    rw [Around.under_plainId F.plain_all_loop _]
    refine wpAny_bind (m := pyNext (.ref a)) (thn (turn n s _ hs) fun r s₁ h => ?_)
    cases r with
    | none => exact wpAny_bind (wpAny_rule (wpAny_pure (hR true s₁ h)))
    | some v =>
      obtain ⟨b, rfl, h⟩ := h
      refine wpAny_bind (wpAny_holding (wpAny_truthy_bool (wpAny_bind (wpAny_letGo ?_))))
      cases b with
      | true =>
        obtain ⟨k, hk, g⟩ := h
        exact wpAny_pure ⟨plainId_quiet F.plain_all_loop _, ih k hk s₁ g⟩
      | false => exact wpAny_bind (wpAny_rule (wpAny_pure (hR false s₁ h)))
theorem call_allG {prog : Program} {w : World} {a : Addr} {Good : Nat → Shared → Prop} {Q : Value → Shared → Prop} {E : Value → Shared → Prop} {s : Shared} (hg : s.heap.IsGen a gi) {n : Nat} (h0 : Good n s)
    (turn : ∀ n s (E : Value → Shared → Prop), Good n s → wpAny (model prog w) A.in1 (pyNext (.ref a)) (fun r s₁ => match r with
      | none => Q (.bool true) s₁
      | some v => ∃ b, v = .bool b ∧ if b = true then (∃ k, k < n ∧ Good k s₁) else Q (.bool false) s₁) E s) :
    wpAny (model prog w) A (call (.builtin "all") [.ref a]) Q E s := by
  refine (call_function_tree F.kind_all F.plain_all F.entry_all (F.args_all1 _) ?_)
  unfold Builtin.«all»
  refine wpAny_bind (m := oneArg "all" _) (wpAny_pure (wpAny_bind (wpAny_pyIter_gen hg ?_)))
  exact wpAny_pure ⟨plainId_quiet F.plain_all_loop _, all_loop (Ret := fun b s => Q (.bool b) s) ⟨prog, w, rfl⟩ (fun b s h => h) turn n s h0⟩
end
end M

/-! MGen3: all(test for .. in ..) as a rule of the layer. -/
namespace M
open PySem PySem.Spec PyProof.Rows L2 GxR GenW
variable [M.Wrt]
section
variable {Z : Cx} {tg elt iter : Expr} {scope : Scope} {pos : Pos} {it : Addr} {fp : List Addr} {tn : Nat → Heap → Prop} {J : It} {R : GenEnd} {Y : Protocol} {A : Around}
/-- the generator's first turn -/
theorem gx_start (T : Turn Z.prog Z.w Z.K tg J fp it tn) {n : Nat} {s₀ s : Shared} (ht : tn 0 s.heap)
    (h : Seg (model Z.prog Z.w) A R Y n s₀ (.compLoop (.GeneratorExp elt [⟨tg, iter, [], 0⟩] scope pos) 0 (.ref it) .none Z.env) ((model Z.prog Z.w).den (.compLoop (.GeneratorExp elt [⟨tg, iter, [], 0⟩] scope pos) 0 (.ref it) .none Z.env)) [] s) :
    Seg (model Z.prog Z.w) A R Y n s₀ (.compStart (.GeneratorExp elt [⟨tg, iter, [], 0⟩] scope pos) 0 (.ref it) .none Z.env) ((model Z.prog Z.w).den (.compStart (.GeneratorExp elt [⟨tg, iter, [], 0⟩] scope pos) 0 (.ref it) .none Z.env)) [] s := by
  show Seg _ A _ _ _ s₀ _ ((compStart (.GeneratorExp elt [⟨tg, iter, [], 0⟩] scope pos) 0 (.ref it) .none Z.env).onRaise (leaving Z.env)) [] s
  unfold compStart
  rw [Sem.onRaise_eq_wrap]
  show Seg (model Z.prog Z.w) A R Y n s₀ _ ((ask >>= _).wrap _ _ _ _) [] s
  refine seg_bind_wrap (wpAny_askSetting ?_)
  split
  · exact (seg_again rfl h)
  · first
      | exact seg_bind_wrap (wpAny_rule (seg_bind_wrap (wpAny_standAt (seg_bind_wrap (T.self _ 0 s _ _ ht (seg_again rfl h))))))
      | (refine (seg_bind_wrap (wpAny_rule ?_)); show Seg (model Z.prog Z.w) A R Y n s₀ _ ((standAt iter.pos >>= _).wrap _ _ _ _) [] s; exact (seg_bind_wrap (wpAny_standAt (seg_bind_wrap (T.self _ 0 s _ _ ht (seg_again rfl h))))))
end

/-- all(elt for target in iter); P: the def's table of code objects -/
def tAllG (P : Addr) (wi : TI) (g : TG) (te : TE) (vs : List Nat) : TE := fun σ H Q => wi σ H fun J H1 => TabG H1 P ∧ ∀ H2, Tabbed P H1 H2 → ∃ W : Nat → Nat → Hp → Prop, (∃ m, W 0 m H2) ∧ ∀ i m H, W i m H →
  (J.stop i H ∧ Q (.bl true) H) ∨ (J.go i H ∧ ∃ Nx : Hp → Prop, (∀ H', Nx H' → ∃ m', m' < m ∧ W (i + 1) m' H') ∧ ∀ x H', J.yld i H x H' → g x (wipe σ vs) H' fun σ2 H2 => wipe σ2 vs = wipe σ vs ∧ te σ2 H2 fun y H3 => ∃ b, y = .bl b ∧ if b = true then Nx H3 else Q (.bl false) H3)
theorem wipe_wipe (σ : L2.St) (vs : List Nat) : wipe (wipe σ vs) vs = wipe σ vs := by
  apply List.ext_getElem?
  intro i
  by_cases hi : i ∈ vs
  · have at_ : ∀ (τ : L2.St) (ws : List Nat), i ∈ ws → (wipe τ ws)[i]? = if i < τ.length then some none else none := by
      intro τ ws hw
      induction ws with
      | nil => simp at hw
      | cons w ws ih =>
        unfold wipe
        by_cases e : w = i
        · subst e
          by_cases hl : w < τ.length
          · rw [List.getElem?_set_self (by rw [wipe_length]; exact hl), if_pos hl]
          · rw [List.getElem?_eq_none (by rw [List.length_set, wipe_length]; omega), if_neg hl]
        · rw [List.getElem?_set_ne e]
          rcases List.mem_cons.mp hw with z | z
          · exact absurd z.symm e
          · exact ih z
    rw [at_ _ _ hi, at_ _ _ hi, wipe_length]
  · rw [wipe_get hi, wipe_get hi]
section
variable {X : Cx} {pins : List (Addr × Obj)} {σ : L2.St} {H : Hp} {s : Shared}
/-- the code object comes: new, or found in the table -/
theorem gx_code {c P : Addr} {ps : Array Value} {gpos : Pos} {q : Str} {scope : Scope} {Q : Value → Addr → Shared → Prop} (I : Inv X pins σ H s) (TB : TabB X.base X.mg c P) (hcode : X.env.code = .ref c) (hP : H P = some (.tbl ps)) (ht : TriplesOk ps.toList)
    (hQ : ∀ (code : Value) (s' : Shared) (H' : Hp), Tabbed P H H' → Inv X pins σ H' s' → (∀ b o, b ≠ P → s.heap.get? b = some o → s'.heap.get? b = some o) → Q code builtinsNs s') :
    wpAny (model X.prog X.w) X.A (genexprCode X.env gpos q scope) (fun code s₃ => wpAny (model X.prog X.w) X.A (builtinsFor X.env.globals X.env.builtins) (fun bi s₄ => Q code bi s₄) X.xe s₃) X.xe s := by
  have hPs : s.heap.get? P = some { cls := .none, data := .fields ps } := I.hok P _ hP
  have cd : PySem.W.CodeHd s.heap c P := TB.code.keeps fun b u e => I.bk b u e
  have fin : ∀ (code : Value) (s' : Shared) (H' : Hp), Tabbed P H H' → Inv X pins σ H' s' → (∀ b o, b ≠ P → s.heap.get? b = some o → s'.heap.get? b = some o) → wpAny (model X.prog X.w) X.A (builtinsFor X.env.globals X.env.builtins) (fun bi s₄ => Q code bi s₄) X.xe s' := fun code s' H' tb I' k => by
    obtain ⟨bm, ob, e1, e2, e3, e4, e5, e6, e7, e8⟩ := TB.bm
    refine wpAny_builtinsFor (m := X.mg) (by rw [I'.ok.glob]; exact I'.mod.glob.keeps I'.bk) e1 e2 (I'.bk _ _ e5) e6 e7 e8 (hQ code s' H' tb I' k)
  cases hf : codeAmong gpos ps.toList with
  | none =>
    refine (wpAny_genexprCodeX hcode (cd.code hPs ht) (cd.tab hPs) hf fun c' h' tk hx hge hlt hco' _ htab' _ => ?_)
    obtain ⟨o1, vs, f1, tf, fl, tg, inF, tx, tt, op, _, _, _, _, _, _, _, _, _, htr, _⟩ := hco'
    have J := inv_tab (more := #[rawInt gpos.line, rawInt gpos.col, .ref c']) (h' := h') (g' := s.gens) (d' := s.drawn) (t' := tk) I hP (fun b u hb e => hx b u hb e) htab'.2 I.bare
    exact fin _ _ _ ⟨⟨_, upd_same, htr⟩, fun b hb => upd_ne hb⟩ J fun b o hb e => hx b o hb e
  | some cv =>
    refine (wpAny_genexprCode_hit hcode (cd.code hPs ht) hf ?_)
    exact fin cv s H ⟨⟨ps, hP, ht⟩, fun _ _ => rfl⟩ I fun _ _ _ e => e
theorem pe_allG {c P : Addr} {elt tg iter : Expr} {scope : Scope} {own : List (Str × Nat)} {p pos gpos : Pos} {wi : TI} {g : TG} {te : TE} {k : Nat} (hr : Room (k + 1) X.A) (hc : X.calm = true) (hN : X.N.Nodup) (hgl : Gl X "all") (hm : X.mg "all" = none) (TB : TabB X.base X.mg c P) (hcode : X.env.code = .ref c)
    (ok : GenOk X.N X.env.scope scope own) (hi : PI X tg iter wi)
    (hg : ∀ (s : Shared) (H : Hp) (C : Addr) (cl : List (Str × Addr)) (code : Value) (fp : List Addr), PG (gCx X (X.A.in1.in1.deeper (genEnv scope cl C code builtinsNs X.env)) s H (genEnv scope cl C code builtinsNs X.env) fp) tg g)
    (he : ∀ (s : Shared) (H : Hp) (C : Addr) (cl : List (Str × Addr)) (code : Value) (fp : List Addr), PE (gCx X (X.A.in1.in1.deeper (genEnv scope cl C code builtinsNs X.env)) s H (genEnv scope cl C code builtinsNs X.env) fp) elt te)
    (hs : ∀ v, genFold iter X.env v = pure v := by intro _; rfl) (hb : bootBuiltins "all" = some (.builtin "all") := by decide +kernel)
    (hst : starEach [.GeneratorExp elt [⟨tg, iter, [], 0⟩] scope gpos] X.env = (false, eval (.GeneratorExp elt [⟨tg, iter, [], 0⟩] scope gpos) X.env) :: starEach [] X.env := by rfl) :
    PE X (.Call (.Name "all" p) [.GeneratorExp elt [⟨tg, iter, [], 0⟩] scope gpos] [] pos) (tAllG P wi g te (own.map (·.2))) := by
  refine ⟨fun pins s σ H Q I h => ?_⟩
  have hfree : ∀ y ∈ scope.names, y.2 = .free → ∃ c, X.env.cells.lookup y.1 = some c := fun y hy e => by
    rcases ok.free y hy e with k | k
    · exact I.ok.has _ (.inl k)
    · exact I.ok.has _ (.inr k)
  refine wpAny_Call_Name_kw (ld_blt I hgl hm hb (PyProof.Rows.callWith_builtin1 ?_ hst (by rfl)))
  rw [hst]
  show wpAny _ _ (spliced ((false, eval (.GeneratorExp elt [⟨tg, iter, [], 0⟩] scope gpos) X.env) :: backTo pos (starEach [] X.env))) _ _ s
  refine (Calls.spliced_cons ?_)
  refine wpAny_GeneratorExp_make ok.co (closure_ok hfree) ok.nocell ok.dot ok.kind hr.depth (thn (hi.run pins s σ H _ I h) fun xv s1 hx => thn hx fun itv s2 h2 => ?_) hs
  obtain ⟨it, fp, tn, J, H2, e, I2, T, st2, f2, ⟨ps, hP, ht⟩, q⟩ := h2
  subst e
  refine ⟨I2.nolimit, gx_code I2 TB hcode hP ht fun code s3 H3 tb I3 kp h' hn' hs' => ?_⟩
  obtain ⟨W, ⟨m0, w0⟩, turn⟩ := q H3 tb
  have nP : ∀ b ∈ fp, b ≠ P := fun b hb z => by
    have e1 := (f2 b hb).1
    rw [z, hP] at e1
    cases e1
  have st3 : tn 0 s3.heap := T.keep _ _ _ st2 fun b hb o e => kp b o (nP b hb) e
  have f3 : ∀ b ∈ fp, FpOk X pins H3 b ∧ b < s3.heap.objs.size := fun b hb => by
    obtain ⟨o, e, _⟩ := T.obj _ _ st3 b hb
    refine ⟨⟨?_, (f2 b hb).2⟩, Heap.lt_size e⟩
    rw [tb.2 b (nP b hb)]
    exact (f2 b hb).1
  generalize hcl : cloFrom X.env.cells scope.names [] = cl
  -- the generator's frame
  have A0 := gen_start (own := own) (code := code) (it := .ref it) (h' := h') (A := X.A.in1.in1.deeper (genEnv scope (cloFrom X.env.cells scope.names []) s3.heap.objs.size code builtinsNs X.env))
    (ob := { cls := .type "generator", data := .fields #[.int s3.gens.size 0, .str "<genexpr>" (s3.toks + 1), .str (X.env.qual ++ "<genexpr>") (s3.toks + 1 + 1)] })
    (gs := .fresh (.compStart (.GeneratorExp elt [⟨tg, iter, [], 0⟩] scope gpos) 0 (.ref it) .none (genEnv scope (cloFrom X.env.cells scope.names []) s3.heap.objs.size code builtinsNs X.env))) (tk := s3.toks + 1 + 1 + 1)
    I3 ok hN f3 (Around.frames_deeper (show X.A.in1.in1.frames = some X.stack from I3.ok.frames)) hr.hd hn' hs' (fun v z => by cases z) rfl rfl
  rw [hcl] at A0
  have hs3 : h'.objs.size = s3.heap.objs.size + 1 := by rw [hs'.1, Heap.size_push]
  have kp5 : ∀ b o, s3.heap.get? b = some o → (h'.push { cls := .type "generator", data := .fields #[.int s3.gens.size 0, .str "<genexpr>" (s3.toks + 1), .str (X.env.qual ++ "<genexpr>") (s3.toks + 1 + 1)] }).get? b = some o := fun b o e =>
    Heap.get?_push_of_some _ (hs'.extBut b o (Nat.ne_of_lt (Heap.lt_size e)) (Heap.get?_push_of_some _ e))
  have pg := hg s3 H3 s3.heap.objs.size cl code fp
  have pe := he s3 H3 s3.heap.objs.size cl code fp
  generalize hce : genEnv scope cl s3.heap.objs.size code builtinsNs X.env = ce at A0 pg pe ⊢
  have hsc : ce.scope = scope := by subst hce; rfl
  generalize hob : ({ cls := .type "generator", data := .fields #[.int s3.gens.size 0, .str "<genexpr>" (s3.toks + 1), .str (X.env.qual ++ "<genexpr>") (s3.toks + 1 + 1)] } : Obj) = ob at A0 kp5 ⊢
  have gat : GAt (gCx X (X.A.in1.in1.deeper ce) s3 H3 ce fp) (h'.objs.size, ob) (wipe σ (own.map (·.2))) fp tn 0 H3 { s3 with gens := s3.gens.push (.fresh (.compStart (.GeneratorExp elt [⟨tg, iter, [], 0⟩] scope gpos) 0 (.ref it) .none ce)), toks := s3.toks + 1 + 1 + 1, heap := h'.push ob } :=
    ⟨A0, T.keep _ _ _ st3 fun b _ o e => kp5 b o e, fun b hb => (f3 b hb).1.1⟩
  have hpa : ∀ b ∈ fp, h'.objs.size ≠ b := fun b hb z => by
    have h1 := (f3 b hb).2
    rw [← z, hs3] at h1
    exact absurd (Nat.lt_trans (Nat.lt_succ_self _) h1) (Nat.lt_irrefl _)
  have isg : ∀ h : Heap, h.get? h'.objs.size = some ob → h.IsGen h'.objs.size s3.gens.size := fun h e => by
    subst hob
    exact ⟨_, _, _, e, rfl, rfl, rfl⟩
  have loop := gx_loop (Z := gCx X (X.A.in1.in1.deeper ce) s3 H3 ce fp) (A := X.A.in1.in1) (pa := (h'.objs.size, ob)) (W := W) (pol := true) (Qe := Q (.bl true)) (Qf := Q (.bl false)) (vs := own.map (·.2)) (σ := wipe σ (own.map (·.2))) (iter := iter) (scope := scope) (pos := gpos)
    rfl T pg pe hc rfl (by show ce.scope.isCoroutine = false; rw [hsc]; exact ok.co) hpa rfl rfl (wipe_wipe _ _) turn
  have rest : GRest (gCx X (X.A.in1.in1.deeper ce) s3 H3 ce fp) (h'.objs.size, ob) (wipe σ (own.map (·.2))) fp tn W true (Q (.bl true)) (Q (.bl false)) X.A.in1.in1 s3.gens.size (m0 + 1)
      { s3 with gens := s3.gens.push (.fresh (.compStart (.GeneratorExp elt [⟨tg, iter, [], 0⟩] scope gpos) 0 (.ref it) .none ce)), toks := s3.toks + 1 + 1 + 1, heap := h'.push ob } := by
    refine ⟨0, H3, _, gat, Array.getElem?_push_size .., fun s'' h'' => ⟨rfl, ?_⟩⟩
    exact gx_start (Z := gCx X (X.A.in1.in1.deeper ce) s3 H3 ce fp) T h''.tn (loop m0 (m0 + 1) 0 H3 _ s'' (Nat.lt_succ_self _) w0 h'')
  have back : ∀ (b : Bool) (s' : Shared) (H' : Hp), Inv (gCx X (X.A.in1.in1.deeper ce) s3 H3 ce fp) [(h'.objs.size, ob)] (wipe σ (own.map (·.2))) H' s' → Q (.bl b) H' → EP X pins σ Q (.bool b) s' := fun b s' H' I6 qq =>
    ⟨.bl b, H', I3.call' (ch := fp) I6.os I6.base I6.hok I6.bare fun b hb => ⟨(f3 b hb).1.2.2.2.1, (f3 b hb).1.2.1, (f3 b hb).1.2.2.2.2.1, (f3 b hb).1.2.2.2.2.2⟩, rfl, qq⟩
  refine (Calls.spliced_nil ?_)
  refine call_allG (gi := s3.gens.size) (Good := GRest (gCx X (X.A.in1.in1.deeper ce) s3 H3 ce fp) (h'.objs.size, ob) (wipe σ (own.map (·.2))) fp tn W true (Q (.bl true)) (Q (.bl false)) X.A.in1.in1 s3.gens.size)
    (isg _ (gat.inv.pin _ (List.mem_append_right _ List.mem_cons_self)).1) rest fun n s' E g => ?_
  refine thn (gx_next (A := X.A.in1) (show X.A.in1.handled = none from hr.hd) (show X.A.in1.depth < recursionLimit from hr.depth) isg g) fun r s'' hrr => ?_
  cases r with
  | none =>
    obtain ⟨H', I6, qq⟩ := hrr
    exact back true s'' H' I6 qq
  | some v =>
    obtain ⟨b, rfl, hrr⟩ := hrr
    refine ⟨b, rfl, ?_⟩
    cases b with
    | true => exact hrr
    | false =>
      obtain ⟨H', I6, qq⟩ := hrr
      exact back false s'' H' I6 qq
end
end M

/-! MSort: sorted of a tuple of ints, of a list of tuples of ints of any lengths. -/
namespace M
open PySem PySem.Spec PyProof.Rows L2 SrtO
/-! ### the order -/
def lexL : List Int → List Int → Bool
  | [], [] => false
  | [], _ :: _ => true
  | _ :: _, [] => false
  | a :: l, b :: m => if a = b then lexL l m else decide (a < b)
theorem lexL_asym : ∀ l m, lexL l m = true → lexL m l = false
  | [], [], h => by cases h
  | [], _ :: _, _ => rfl
  | _ :: _, [], h => by cases h
  | a :: l, b :: m, h => by
    simp only [lexL] at h ⊢
    by_cases e : a = b
    · subst e
      rw [if_pos rfl] at h ⊢
      exact lexL_asym l m h
    · rw [if_neg e] at h
      rw [if_neg (Ne.symm e)]
      have := of_decide_eq_true h
      exact decide_eq_false (by omega)
theorem lexL_tr : ∀ x y z, lexL y x = false → lexL z y = false → lexL z x = false
  | [], _, [], _, _ => rfl
  | _ :: _, [], [], h, _ => by cases h
  | _ :: _, _ :: _, [], _, h => by cases h
  | [], _, _ :: _, _, _ => rfl
  | a :: x, [], c :: z, h, _ => by cases h
  | a :: x, b :: y, c :: z, h1, h2 => by
    simp only [lexL] at h1 h2 ⊢
    by_cases e1 : b = a
    · subst e1
      rw [if_pos rfl] at h1
      by_cases e2 : c = b
      · subst e2
        rw [if_pos rfl] at h2 ⊢
        exact lexL_tr x y z h1 h2
      · rw [if_neg e2] at h2 ⊢
        exact h2
    · rw [if_neg e1] at h1
      have g1 := of_decide_eq_false h1
      by_cases e2 : c = b
      · subst e2
        rw [if_neg e1]
        exact h1
      · rw [if_neg e2] at h2
        have g2 := of_decide_eq_false h2
        rw [if_neg (by omega)]
        exact decide_eq_false (by omega)
theorem swo_lexL {α : Type} (k : α → List Int) : Swo fun x y => lexL (k x) (k y) := ⟨fun x y => lexL_asym _ _, fun x y z => lexL_tr _ _ _⟩

/-! ### two tuples -/
section
variable {prog : Program} {w : World} {A : Around} {E : Value → Shared → Prop} {s : Shared}
theorem kat_ints {Q : Bool → Shared → Prop} : ∀ (ns ms : List Int) (us vs : List Value) (i : Nat), IntsAre us ns → IntsAre vs ms → Q (lexL ns ms) s → PySem.W.KatLex prog w A true (decide (ns.length < ms.length)) Q (us.zip vs) i s
  | [], [], _, _, i, .nil, .nil, h => PySem.W.kat_nil h
  | [], m :: ms, _, _, i, .nil, .cons _ _ _, h => PySem.W.kat_nil (by rw [show decide (([] : List Int).length < (m :: ms).length) = true from decide_eq_true (by simp)]; exact h)
  | n :: ns, [], _, _, i, .cons _ _ _, .nil, h => PySem.W.kat_nil (by rw [show decide ((n :: ns).length < ([] : List Int).length) = false from decide_eq_false (by simp)]; exact h)
  | n :: ns, m :: ms, _, _, i, .cons (vs := us) _ t r, .cons (vs := vs) _ u q, h => by
    show PySem.W.KatLex prog w A true _ Q ((.int n t, .int m u) :: us.zip vs) i s
    refine PySem.W.kat_cons (SeqAt.EqAt.int_int n t m u prog w _ _ ?_)
    simp only [lexL] at h
    refine PySem.W.kat_go (fun e => ?_) (fun e => ?_)
    · have e' : n = m := by simpa using e
      rw [if_pos e'] at h
      have := kat_ints ns ms us vs (i + 1) r q h
      have e2 : decide ((n :: ns).length < (m :: ms).length) = decide (ns.length < ms.length) := by simp
      rw [e2]
      exact PySem.W.kat_yes this
    · have e' : ¬ n = m := by simpa using e
      rw [if_neg e'] at h
      refine PySem.W.kat_no ?_
      cases hi : (true && i == 0) with
      | true => exact oneLt_int h
      | false => exact PySem.W.kat_one _ _ (PyProof.Rows.lt_int h)
/-- v is a tuple of these ints -/
def IsTupI (h : Heap) (v : Value) (ns : List Int) : Prop := ∃ a o us n, v = .ref a ∧ h.get? a = some o ∧ o.cls = .type "tuple" ∧ o.data = .seq us n ∧ IntsAre us.toList ns
theorem IsTupI.keeps {h h' : Heap} {v : Value} {ns : List Int} (p : IsTupI h v ns) (k : ∀ b o, h.get? b = some o → o.cls = .type "tuple" → h'.get? b = some o) : IsTupI h' v ns := by
  obtain ⟨a, o, us, n, e, ho, hc, hd, hi⟩ := p
  exact ⟨a, o, us, n, e, k _ _ ho hc, hc, hd, hi⟩
theorem tupI_cmp {vs : List Value} {k : Value → List Int} (hp : ∀ v ∈ vs, IsTupI s.heap v (k v)) : Cmp prog w A s (tuples' true) (fun p => p.1 ∈ vs) (lt2 fun v u => lexL (k v) (k u)) := by
  intro p q hm hm'
  obtain ⟨a, o, us, n, e, ho, hc, hd, hi⟩ := hp _ hm
  obtain ⟨a', o', us', n', e', ho', hc', hd', hi'⟩ := hp _ hm'
  show wpAny (model prog w) A (keyLt' (tuples' true) p.1 q.1) (fun r s' => s' = s ∧ r = lexL (k p.1) (k q.1)) (fun _ _ => False) s
  generalize k p.1 = ns at hi ⊢
  generalize k q.1 = ms at hi' ⊢
  rw [e, e']
  refine PySem.W.kat_lt ho hd ho' hd' ?_
  have l1 := hi.length
  have l2 := hi'.length
  rw [Array.length_toList] at l1 l2
  rw [l1, l2]
  exact kat_ints ns ms _ _ 0 hi hi' ⟨rfl, rfl⟩
theorem firstsI {h : Heap} {k : Value → List Int} : ∀ (vs : List Value), (∀ v ∈ vs, IsTupI h v (k v) ∧ k v ≠ []) → ∃ fs : List Value, PySem.W.KatTups h vs fs ∧ fs.length = vs.length ∧ ∀ f ∈ fs, ∃ x t, f = Value.int x t
  | [], _ => ⟨[], PySem.W.KatTups.nil, rfl, fun _ hm => by simp at hm⟩
  | v :: vs, hp => by
    obtain ⟨fs, h1, h2, h3⟩ := firstsI vs fun v' hm => hp v' (List.mem_cons_of_mem _ hm)
    obtain ⟨⟨a, o, us, n, e, ho, hc, hd, hi⟩, hne⟩ := hp v (List.mem_cons_self ..)
    cases hk : k v with
    | nil => exact absurd hk hne
    | cons x xs =>
      rw [hk] at hi
      cases hu : us.toList with
      | nil => rw [hu] at hi; cases hi
      | cons u ul =>
        rw [hu] at hi
        cases hi with
        | cons _ t _ =>
          subst e
          have h0 : us[0]? = some (.int x t) := by rw [← Array.getElem?_toList, hu]; rfl
          refine ⟨.int x t :: fs, PySem.W.KatTups.cons ho hc hd h0 h1, by rw [List.length_cons, List.length_cons, h2], fun f hm => ?_⟩
          rcases List.mem_cons.mp hm with rfl | hm
          · exact ⟨x, t, rfl⟩
          · exact h3 f hm
theorem tupI_sortable {a : Addr} {vs : List Value} {k : Value → List Int} (h0 : 0 < vs.length) (hp : ∀ v ∈ vs, IsTupI s.heap v (k v) ∧ k v ≠ []) (ha : ∀ o, s.heap.get? a = some o → o.cls ≠ .type "tuple") : SortableO prog w A s a vs fun v u => lexL (k v) (k u) := by
  intro h' keep
  have hp' : ∀ v ∈ vs, IsTupI h' v (k v) := fun v hm => (hp v hm).1.keeps fun b o e c => keep b o (fun z => by subst z; exact ha o e c) e
  obtain ⟨fs, h1, h2, h3⟩ := firstsI vs fun v hm => ⟨hp' v hm, (hp v hm).2⟩
  refine ⟨tuples' true, fun Q E hq => ?_, tupI_cmp hp'⟩
  refine PySem.W.kat_kind (T := .type "int") h1 (by omega) (fun f hm => ?_) (by rfl) ?_
  · obtain ⟨x, t, rfl⟩ := h3 f hm
    exact PySem.W.Looks.now
  · have e : (Value.type "int" != Value.type "tuple") = true := by decide +kernel
    rw [e]
    exact hq
/-- collect of a tuple -/
theorem collect_tup {l : Addr} {vs : List Value} {Q : List Value → Shared → Prop} (hl : s.heap.IsTuple l vs.toArray)
    (h : Q vs { s with heap := (s.heap.push (seqObj "list" #[] 0)).update s.heap.objs.size (Obj.mapSeq (· ++ vs.toArray)) }) (hsz : vs.length ≤ sizeLine) :
    wpAny (model prog w) A (collect (.ref l)) Q E s := by
  obtain ⟨o, ho, hc, n, hd⟩ := id hl
  have ho' : (s.heap.push (seqObj "list" #[] 0)).get? l = some o := Heap.get?_push_of_some _ ho
  have hq : Code.quiet (.builtin "list.__iadd__" ⟨[.ref s.heap.objs.size, .ref l], []⟩) = true := Code.quiet_builtin _ (by decide +kernel)
  have ho0 : (s.heap.push (seqObj "list" #[] 0)).get? s.heap.objs.size = some (seqObj "list" #[] 0) := Heap.get?_push_size _ rfl
  unfold collect
  refine wpAny_bind (wpAny_runValue (codeAny_builtin entry_proto_collect' ?_))
  show wpAny _ _ (do again (.builtin "list.__iadd__" ⟨[← newList [], .ref l], []⟩)) _ _ s
  refine wpAny_bind (wpAny_newList (wpAny_pure ⟨hq, codeAny_builtin entry_list_iadd' ?_⟩))
  show wpAny (model prog w) _ (Builtin.List.listExtendWith (.ref s.heap.objs.size) (.ref l) (.ref s.heap.objs.size)) _ _ { s with heap := s.heap.push (seqObj "list" #[] 0) }
  unfold Builtin.List.listExtendWith
  refine wpAny_bind (wpAny_typeOf (T := "tuple") ⟨o, ho', hc⟩ ?_)
  have ht : (Value.type "tuple" == Value.type "tuple") = true := by rfl
  rw [if_pos (by rw [ht]; simp)]
  refine wpAny_bind (listItems_at ho' hd (wpAny_bind (listItems_at (xs := #[]) (n := 0) ho0 rfl ?_)))
  rw [if_neg (by simp)]
  refine wpAny_bind (listUpdate_at (xs := #[]) (n := 0) ho0 rfl (wpAny_pure ?_) (Nat.zero_le _) (by
    show (#[] ++ vs.toArray).size ≤ sizeLine + 1
    simp only [Array.size_append, List.size_toArray, List.length_nil]
    omega))
  refine wpAny_bind (m := load s.heap.objs.size) (wpAny_load (get?_update_seq ho0 _) ?_)
  have ev : ((#[] : Array Value) ++ vs.toArray).toList = vs := by simp
  show wpAny _ _ (pure ((#[] : Array Value) ++ vs.toArray).toList) Q E _
  rw [ev]
  exact wpAny_pure h
/-- sorted of a tuple -/
theorem sorted_ordT {l : Addr} {vs : List Value} {ltv : Value → Value → Bool} {Q : Value → Shared → Prop} (O : Swo ltv) (hl : s.heap.IsTuple l vs.toArray) (hz : vs.length ≤ sizeLine)
    (hS : 2 ≤ vs.length → ∀ (h₁ : Heap) (a : Addr), h₁.get? a = some (seqObj "list" vs.toArray 0) → (∀ b o, s.heap.get? b = some o → b ≠ a ∧ h₁.get? b = some o) → SortableO prog w A.in1.in1 { s with heap := h₁ } a vs ltv)
    (h : ∀ out : List Value, Srtd ltv out → Stb ltv out vs → Q (.ref (s.heap.objs.size + 1)) { s with heap := sortedAll s.heap vs out.toArray }) :
    wpAny (model prog w) A (call (.builtin "sorted") [.ref l]) Q E s := by
  refine (Calls.call_function_entry kind_sorted plain_sorted entry_sorted (args_sorted1 _) ?_)
  unfold Builtin.«sorted»
  refine wpAny_bind (m := checkCount "sorted" 1 1 _) (wpAny_pure (wpAny_bind (collect_tup hl (wpAny_bind (wpAny_newList ?_ hz)) hz)))
  generalize hH : (s.heap.push (seqObj "list" #[] 0)).update s.heap.objs.size (Obj.mapSeq (· ++ vs.toArray)) = H1
  have hsz : H1.objs.size = s.heap.objs.size + 1 := by rw [← hH, Heap.size_update, size_push']
  have hoL : (H1.push (seqObj "list" vs.toArray 0)).get? (s.heap.objs.size + 1) = some (seqObj "list" vs.toArray 0) := by
    rw [← hsz]; exact Heap.get?_push_size _ rfl
  have keep : ∀ b o, s.heap.get? b = some o → b ≠ s.heap.objs.size + 1 ∧ (H1.push (seqObj "list" vs.toArray 0)).get? b = some o := fun b o q => by
    have hlt : b < s.heap.objs.size := Heap.lt_size q
    refine ⟨Nat.ne_of_lt (Nat.lt_succ_of_lt hlt), Heap.get?_push_of_some _ ?_⟩
    rw [← hH, Heap.get?_update_ne _ _ _ _ (Nat.ne_of_lt hlt)]
    exact Heap.get?_push_of_some _ q
  show wpAny _ _ _ _ _ { s with heap := H1.push (seqObj "list" vs.toArray 0) }
  rw [hsz]
  refine wpAny_bind (wpAny_holding (wpAny_call_entry slot_list_sort ⟨_, hoL, rfl⟩ entry_list_sort (list_sort_ord O hoL hz (fun h2 => hS h2 _ _ hoL keep) fun out hs hb => ⟨_, rfl, wpAny_pure ⟨_, rfl, ?_⟩⟩) (args_list_sort _)))
  have := h out hs hb
  unfold sortedAll at this
  rw [← hH]
  exact this
end

/-! ### as rules of the layer -/
def rSortedTI (K : PySem.W.Frag) : List V → Hp → VK → Prop := fun vs H Q => ∃ (a : Addr) (ns : List Int), vs = [V.ref a] ∧ SqT K H a (ns.map V.int) ∧
  ∀ (ns' : List Int) (p : Addr), ns'.Perm ns → ns'.Pairwise (· ≤ ·) → H p = none → Q (.ref p) (upd H p (.lst (ns'.map V.int)))
def rSortedLT (K : PySem.W.Frag) : List V → Hp → VK → Prop := fun vs H Q => ∃ (a : Addr) (xs : List V), vs = [V.ref a] ∧ SqL K H a xs ∧ (∀ x ∈ xs, ∃ ns : List Int, ns ≠ [] ∧ ∃ t, x = V.ref t ∧ SqT K H t (ns.map V.int)) ∧
  ∀ k : V → List Int, (∀ (ns : List Int) (t : Addr), SqT K H t (ns.map V.int) → k (V.ref t) = ns) → ∀ ys p, Srtd (fun x y => lexL (k x) (k y)) ys → Stb (fun x y => lexL (k x) (k y)) ys xs → H p = none → Q (.ref p) (upd H p (.lst ys))
def rSortedA (K : PySem.W.Frag) : List V → Hp → VK → Prop := fun vs H Q => rSortedI K vs H Q ∨ rSortedTI K vs H Q ∨ rSortedLT K vs H Q
section
variable {X : Cx}
theorem cr_sortedTI : CallR X (.builtin "sorted") (rSortedTI X.K) := by
  intro pins s σ H vs us Q I r h
  obtain ⟨a, ns, rfl, hs, q⟩ := h
  obtain ⟨its, rv, hl, hz⟩ := I.tuple hs
  rw [Vals.ref1 r]
  have hi := rv.ints
  refine sorted_ordT swo_int (show s.heap.IsTuple a its.toArray from hl) (by rw [← rv.length]; exact hz) (fun h2 h₁ a' _ _ => ints_sortable hi h2) fun out h1 h2 => ?_
  obtain ⟨k1, k2, k3⟩ := ints_out hi h1 h2
  obtain ⟨ep, he'⟩ := PyProof.Rows.sortedAll_at s.heap its out.toArray
  have hlen : ((out.map iv).map V.int).length ≤ sizeLine := by
    rw [List.length_map, k2.length_eq]
    rw [List.length_map] at hz
    exact hz
  refine ⟨.ref _, upd H (s.heap.objs.size + 1) (.lst ((out.map iv).map V.int)), I.laid (t' := s.toks) (fun _ _ => PyProof.Rows.sortedAll_old) (Nat.le_succ _) ⟨hlen, out, ep, vals_of_ints k1, he'⟩, rfl, q _ _ k2 k3 (I.hok.fresh (Nat.le_succ _))⟩
theorem sqt_uniq {pins : List (Addr × Obj)} {s : Shared} {σ : L2.St} {H : Hp} {a : Addr} {xs ys : List V} (I : Inv X pins σ H s) (h1 : SqT X.K H a xs) (h2 : SqT X.K H a ys) : xs = ys := by
  obtain ⟨its, r1, p1, _⟩ := I.tuple h1
  obtain ⟨its2, r2, p2, _⟩ := I.tuple h2
  obtain ⟨o, ho, hc, n, hd⟩ := p1
  obtain ⟨o2, ho2, hc2, n2, hd2⟩ := p2
  rw [ho] at ho2
  cases ho2
  rw [hd] at hd2
  injection hd2 with e _
  have e : its = its2 := by simpa using congrArg Array.toList e
  subst e
  exact Vals.inj r1 r2
theorem vints_inj : ∀ {l m : List Int}, l.map V.int = m.map V.int → l = m
  | [], [], _ => rfl
  | [], _ :: _, h => by cases h
  | _ :: _, [], h => by cases h
  | a :: l, b :: m, h => by
    simp only [List.map_cons, List.cons.injEq, V.int.injEq] at h
    rw [h.1, vints_inj h.2]
open Classical in
theorem cr_sortedLT : CallR X (.builtin "sorted") (rSortedLT X.K) := by
  intro pins s σ H vs us Q I r h
  obtain ⟨a, xs, rfl, hs, hx0, q0⟩ := h
  let k : V → List Int := fun x => if h : ∃ ns : List Int, ∃ t, x = V.ref t ∧ SqT X.K H t (ns.map V.int) then h.choose else []
  have hk : ∀ (ns : List Int) (t : Addr), SqT X.K H t (ns.map V.int) → k (V.ref t) = ns := fun ns t ht => by
    have hh : ∃ ns : List Int, ∃ t', V.ref t = V.ref t' ∧ SqT X.K H t' (ns.map V.int) := ⟨ns, t, rfl, ht⟩
    show (if h : ∃ ns : List Int, ∃ t', V.ref t = V.ref t' ∧ SqT X.K H t' (ns.map V.int) then h.choose else []) = ns
    rw [dif_pos hh]
    obtain ⟨t', e1, e2⟩ := hh.choose_spec
    cases e1
    exact vints_inj (sqt_uniq I e2 ht)
  have q := q0 k hk
  have hx : ∀ x ∈ xs, k x ≠ [] ∧ ∃ t, x = V.ref t ∧ SqT X.K H t ((k x).map V.int) := fun x m => by
    obtain ⟨ns, hne, t, e, ht⟩ := hx0 x m
    have e2 : k x = ns := by rw [e]; exact hk ns t ht
    rw [e2]
    exact ⟨hne, t, e, ht⟩
  obtain ⟨its, rv, hl, hz⟩ := I.list hs
  obtain ⟨u, rfl, ru⟩ := vals1 r
  obtain rfl : u = Value.ref a := ru
  obtain ⟨e1, e2⟩ := refs_back rv fun x m => by
    obtain ⟨_, t, e, _⟩ := hx x m
    exact ⟨t, e⟩
  have hp : ∀ v ∈ its, IsTupI s.heap v (k (backV v)) ∧ k (backV v) ≠ [] := fun v hv => by
    obtain ⟨t, rfl⟩ := e2 v hv
    have hm : V.ref t ∈ xs := by rw [e1]; exact List.mem_map.mpr ⟨_, hv, rfl⟩
    obtain ⟨hne, t', e, ht⟩ := hx _ hm
    cases e
    obtain ⟨its2, r2, ⟨o, ho, hc, n, hd⟩, _⟩ := I.tuple ht
    have hi : IntsAre its2.toArray.toList (k (backV (Value.ref t))) := by
      rw [show its2.toArray.toList = its2 by simp]
      exact r2.ints
    exact ⟨⟨t, o, its2.toArray, n, rfl, ho, hc, hd, hi⟩, hne⟩
  refine sorted_ord (swo_lexL fun u => k (backV u)) hl.isList (by rw [← rv.length]; exact hz) (fun h2 h₁ a' ha kk => ?_) fun out h1 h2 => ?_
  · refine tupI_sortable (s := { s with heap := h₁ }) (by omega) (fun v hm => ⟨(hp v hm).1.keeps fun b o e _ => (kk b o e).2, (hp v hm).2⟩) fun o e => ?_
    have e' : some o = some (seqObj "list" its.toArray 0) := e.symm.trans ha
    cases e'
    intro c
    exact absurd (Value.type.inj c) (by decide)
  · have h3 : ∀ u ∈ out, ∃ a, u = Value.ref a := fun u hu => e2 u (h2.perm.mem_iff.mp hu)
    obtain ⟨ep, he'⟩ := PyProof.Rows.sortedAll_at s.heap its out.toArray
    have hb : Stb (fun x y => lexL (k x) (k y)) (out.map backV) xs := by
      rw [e1]
      exact Stb.map (swo_lexL k) backV h2
    refine ⟨.ref _, upd H (s.heap.objs.size + 1) (.lst (out.map backV)), I.laid (t' := s.toks) (fun _ _ => PyProof.Rows.sortedAll_old) (Nat.le_succ _) ⟨by rw [hb.len]; exact hz, out, ep, vals_back h3, he'⟩, rfl, q _ _ (srtd_map h1) hb (I.hok.fresh (Nat.le_succ _))⟩
theorem cr_sortedA : CallR X (.builtin "sorted") (rSortedA X.K) := by
  intro pins s σ H vs us Q I r h
  rcases h with h | h | h
  · exact cr_sortedI pins s σ H vs us Q I r h
  · exact cr_sortedTI pins s σ H vs us Q I r h
  · exact cr_sortedLT pins s σ H vs us Q I r h
end
end M

/-! MOps: what each operation and built-in function does with data. -/
namespace M
open PySem PySem.Spec PyProof.Rows L2
variable [Wrt]
variable {β : Type} [Sto β] [Kind β]

/-! ### whole numbers -/
def fI (C : Int → Int → Bool) (g : Int → Int → Int) : D → D → Option R
  | .int i, .int j => if C i j = true then some (.val (.int (g i j))) else none
  | _, _ => none
theorem pk_i {H : Hp} {F : Gh} {rv v : V} {i : Int} (h : Pk H F rv (.int i) v) : v = .int i := by simpa [Pk, Rep] using h
theorem ok_I {C : Int → Int → Prop} {Cb : Int → Int → Bool} {g : Int → Int → Int} (hC : ∀ i j, Cb i j = true → C i j) : Ok2 (rI C fun i j => .int (g i j)) (fI Cb g) := fun H F rv x y d e res Q hx hy he k => by
  unfold fI at he
  split at he
  · rename_i i j
    split at he
    · rename_i hc
      simp only [Option.some.injEq] at he
      subst he
      exact ⟨i, j, pk_i hx, pk_i hy, hC i j hc, k _ _ (.same (by simp [Rep]))⟩
    · cases he
  · cases he
def cTrue : Int → Int → Bool := fun _ _ => true
theorem ok_I0 {g : Int → Int → Int} : Ok2 (rI0 fun i j => .int (g i j)) (fI cTrue g) := fun H F rv x y d e res Q hx hy he k => by
  unfold fI at he
  split at he
  · rename_i i j
    split at he
    · simp only [Option.some.injEq] at he
      subst he
      exact ⟨i, j, pk_i hx, pk_i hy, k _ _ (.same (by simp [Rep]))⟩
    · cases he
  · cases he
def fCmpI (g : Int → Int → Bool) : D → D → Option R
  | .int i, .int j => some (.val (.bl (g i j)))
  | _, _ => none
theorem ok_CmpI {g : Int → Int → Bool} : Ok2 (rI0 fun i j => .bl (g i j)) (fCmpI g) := fun H F rv x y d e res Q hx hy he k => by
  unfold fCmpI at he
  split at he
  · rename_i i j
    simp only [Option.some.injEq] at he
    subst he
    exact ⟨i, j, pk_i hx, pk_i hy, k _ _ (.same (by simp [Rep]))⟩
  · cases he
/-- one factor below 2^64 -/
def cMul (i j : Int) : Bool := decide (i.natAbs < 18446744073709551616) || decide (j.natAbs < 18446744073709551616)
theorem cMul_ok (i j : Int) (h : cMul i j = true) : CMul i j := by
  unfold cMul at h
  rw [Bool.or_eq_true] at h
  rcases h with h | h
  · have := of_decide_eq_true h; exact .inl (by omega)
  · have := of_decide_eq_true h; exact .inr (by omega)
def cDiv (_ j : Int) : Bool := decide (0 < j) && decide (j.natAbs.log2 < 9000)
theorem cDiv_ok (i j : Int) (h : cDiv i j = true) : CDivW i j := by
  unfold cDiv at h
  rw [Bool.and_eq_true] at h
  exact ⟨of_decide_eq_true h.1, of_decide_eq_true h.2⟩
def cMod (_ j : Int) : Bool := decide (0 < j)
def cPow (i j : Int) : Bool := decide (0 ≤ j) && decide (j ≤ 1000000) && decide (i.natAbs < 18446744073709551616)
theorem cPow_ok (i j : Int) (h : cPow i j = true) : CPow i j := by
  unfold cPow at h
  rw [Bool.and_eq_true, Bool.and_eq_true] at h
  exact ⟨of_decide_eq_true h.1.1, of_decide_eq_true h.1.2, of_decide_eq_true h.2⟩
abbrev fSub := fI cTrue (fun i j => i - j)
abbrev fMul := fI cMul (fun i j => i * j)
abbrev fDiv := fI cDiv (fun i j => i / j)
abbrev fMod := fI cMod (fun i j => i % j)
abbrev fPow := fI cPow (fun i j => i ^ j.toNat)
abbrev fLt := fCmpI (fun i j => decide (i < j))
abbrev fLe := fCmpI (fun i j => decide (i ≤ j))
abbrev fGt := fCmpI (fun i j => decide (j < i))
abbrev fGe := fCmpI (fun i j => decide (j ≤ i))
def fNeg : D → Option R
  | .int i => some (.val (.int (-i)))
  | _ => none
theorem ok_neg : Ok1 (rU fun i => .int (-i)) fNeg := fun H F rv x d res Q hx he k => by
  unfold fNeg at he
  split at he
  · rename_i i
    simp only [Option.some.injEq] at he
    subst he
    exact ⟨i, pk_i hx, k _ _ (.same (by simp [Rep]))⟩
  · cases he

/-! ### == of data -/
mutual
def py : D → PyData
  | .non => .none
  | .bl b => .bool b
  | .int i => .int i
  | .str x => .str x
  | .res => .none
  | .loc _ => .none
  | .ins _ _ _ => .none
  | .tup ds => .tuple (pyL ds)
  | .lst ds => .list (pyL ds)
  | .dic _ _ => .none
  | .dit _ _ => .none
def pyL : List D → List PyData
  | [] => []
  | d :: ds => py d :: pyL ds
end
mutual
/-- data alone, no resource, texts of signs -/
def fine : D → Bool
  | .str x => PyData.strOk x
  | .res => false
  | .loc _ => false
  | .ins _ _ _ => false
  | .dic _ _ => false
  | .dit _ _ => false
  | .tup ds => fineL ds
  | .lst ds => fineL ds
  | _ => true
def fineL : List D → Bool
  | [] => true
  | d :: ds => fine d && fineL ds
end
mutual
def deep : D → Nat
  | .tup ds => deepL ds + 1
  | .lst ds => deepL ds + 1
  | _ => 0
def deepL : List D → Nat
  | [] => 0
  | d :: ds => max (deep d) (deepL ds)
end
mutual
/-- Python's == -/
def deq : D → D → Bool
  | .non, .non => true
  | .bl a, .bl b => a == b
  | .bl a, .int j => (if a then 1 else 0) == j
  | .int i, .bl b => i == (if b then 1 else 0)
  | .int i, .int j => i == j
  | .str x, .str y => x == y
  | .tup xs, .tup ys => deqL xs ys
  | .lst xs, .lst ys => deqL xs ys
  | _, _ => false
def deqL : List D → List D → Bool
  | [], [] => true
  | x :: xs, y :: ys => deq x y && deqL xs ys
  | _, _ => false
end
def okq (d : D) : Bool := fine d && decide (deep d ≤ 64)
mutual
theorem eqv_py : ∀ (d e : D), fine d = true → fine e = true → PyData.eqv (py d) (py e) = deq d e
  | .non, e, _, h => by cases e <;> simp_all [py, deq, PyData.eqv, fine]
  | .bl _, e, _, h => by cases e <;> simp_all [py, deq, PyData.eqv, fine]
  | .int _, e, _, h => by cases e <;> simp_all [py, deq, PyData.eqv, fine]
  | .str _, e, _, h => by cases e <;> simp_all [py, deq, PyData.eqv, fine]
  | .res, e, h, _ => by simp [fine] at h
  | .loc _, e, h, _ => by simp [fine] at h
  | .ins _ _ _, e, h, _ => by simp [fine] at h
  | .dic _ _, e, h, _ => by simp [fine] at h
  | .dit _ _, e, h, _ => by simp [fine] at h
  | .tup xs, e, h, h2 => by
    cases e with
    | tup ys =>
      simp only [fine] at h h2
      simp only [py, deq, PyData.eqv]
      exact eqvAll_py xs ys h h2
    | _ => simp_all [py, deq, PyData.eqv, fine]
  | .lst xs, e, h, h2 => by
    cases e with
    | lst ys =>
      simp only [fine] at h h2
      simp only [py, deq, PyData.eqv]
      exact eqvAll_py xs ys h h2
    | _ => simp_all [py, deq, PyData.eqv, fine]
theorem eqvAll_py : ∀ (xs ys : List D), fineL xs = true → fineL ys = true → PyData.eqvAll (pyL xs) (pyL ys) = deqL xs ys
  | [], [], _, _ => by simp [pyL, deqL, PyData.eqvAll]
  | [], _ :: _, _, _ => by simp [pyL, deqL, PyData.eqvAll]
  | _ :: _, [], _, _ => by simp [pyL, deqL, PyData.eqvAll]
  | x :: xs, y :: ys, h, h2 => by
    simp only [fineL, Bool.and_eq_true] at h h2
    simp only [pyL, deqL, PyData.eqvAll]
    rw [eqv_py x y h.1 h2.1, eqvAll_py xs ys h.2 h2.2]
end
mutual
theorem lay_py : ∀ d : D, fine d = true → PyData.canLay0 (py d) = true
  | .non, _ => by simp [py, PyData.canLay0]
  | .bl _, _ => by simp [py, PyData.canLay0]
  | .int _, _ => by simp [py, PyData.canLay0]
  | .str x, h => by simpa [py, PyData.canLay0, fine] using h
  | .res, h => by simp [fine] at h
  | .loc _, h => by simp [fine] at h
  | .ins _ _ _, h => by simp [fine] at h
  | .dic _ _, h => by simp [fine] at h
  | .dit _ _, h => by simp [fine] at h
  | .tup xs, h => by simp only [py, PyData.canLay0]; exact layL_py xs (by simpa [fine] using h)
  | .lst xs, h => by simp only [py, PyData.canLay0]; exact layL_py xs (by simpa [fine] using h)
theorem layL_py : ∀ ds : List D, fineL ds = true → PyData.canLayAll0 (pyL ds) = true
  | [], _ => by simp [pyL, PyData.canLayAll0]
  | d :: ds, h => by
    simp only [fineL, Bool.and_eq_true] at h
    simp only [pyL, PyData.canLayAll0, Bool.and_eq_true]
    exact ⟨lay_py d h.1, layL_py ds h.2⟩
end
mutual
theorem depth_py : ∀ d : D, PyData.depth (py d) = deep d
  | .non => by simp [py, PyData.depth, deep]
  | .bl _ => by simp [py, PyData.depth, deep]
  | .int _ => by simp [py, PyData.depth, deep]
  | .str x => by simp [py, PyData.depth, deep]
  | .res => by simp [py, PyData.depth, deep]
  | .loc _ => by simp [py, PyData.depth, deep]
  | .ins _ _ _ => by simp [py, PyData.depth, deep]
  | .dic _ _ => by simp [py, PyData.depth, deep]
  | .dit _ _ => by simp [py, PyData.depth, deep]
  | .tup xs => by simp only [py, PyData.depth, deep, depthL_py xs]
  | .lst xs => by simp only [py, PyData.depth, deep, depthL_py xs]
theorem depthL_py : ∀ ds : List D, PyData.depthAll (pyL ds) = deepL ds
  | [] => by simp [pyL, PyData.depthAll, deepL]
  | d :: ds => by simp only [pyL, PyData.depthAll, deepL, depth_py d, depthL_py ds]
end
theorem shaped_py {d : D} (h : okq d = true) : SeqAt.shaped (py d) = true := by
  unfold okq at h
  rw [Bool.and_eq_true] at h
  show (PyData.canLay0 (py d) && decide (PyData.depth (py d) ≤ 64)) = true
  rw [Bool.and_eq_true, depth_py]
  exact ⟨lay_py d h.1, h.2⟩
section
variable {H : Hp} {F : Gh} {rv : V}
mutual
theorem Rep.dp : ∀ {d : D} {v : V}, fine d = true → Rep H F rv d v → Dp Wrt.K H v (py d)
  | .non, v, _, h => by simp only [Rep] at h; subst h; simp only [py]; exact .non
  | .bl b, v, _, h => by simp only [Rep] at h; subst h; simp only [py]; exact .bl b
  | .int i, v, _, h => by simp only [Rep] at h; subst h; simp only [py]; exact .int i
  | .str x, v, _, h => by simp only [Rep] at h; subst h; simp only [py]; exact .str x
  | .res, v, f, h => by simp [fine] at f
  | .loc _, v, f, h => by simp [fine] at f
  | .ins _ _ _, v, f, h => by simp [fine] at f
  | .dic _ _, v, f, h => by simp [fine] at f
  | .dit _ _, v, f, h => by simp [fine] at f
  | .tup xs, v, f, h => by
    simp only [Rep] at h
    obtain ⟨a, vs, rfl, ha, hl⟩ := h
    simp only [py]
    exact .tup (ha.sq) (RepL.dp (by simpa [fine] using f) hl)
  | .lst xs, v, f, h => by
    simp only [Rep] at h
    obtain ⟨a, vs, rfl, ha, _, hl⟩ := h
    simp only [py]
    exact .lst (SqL.of ha) (RepL.dp (by simpa [fine] using f) hl)
theorem RepL.dp : ∀ {ds : List D} {vs : List V}, fineL ds = true → RepL H F rv ds vs → DpAll Wrt.K H vs (pyL ds)
  | [], vs, _, h => by simp only [RepL] at h; subst h; simp only [pyL]; exact .nil
  | d :: ds, vs, f, h => by
    simp only [RepL] at h
    obtain ⟨v, r, rfl, h1, h2⟩ := h
    simp only [fineL, Bool.and_eq_true] at f
    simp only [pyL]
    exact .cons (Rep.dp f.1 h1) (RepL.dp f.2 h2)
end
theorem pk_dp {d : D} {v : V} (f : fine d = true) (h : Pk H F rv d v) : Dp Wrt.K H v (py d) := by
  cases d with
  | lst xs =>
    obtain ⟨a, vs, rfl, ha, hl⟩ := h
    simp only [py]
    exact .lst (SqL.of ha) (RepL.dp (by simpa [fine] using f) hl)
  | dic _ _ => simp [fine] at f
  | dit _ _ => simp [fine] at f
  | _ => exact Rep.dp (F := F) (rv := rv) f h
end
theorem okq_fine {d : D} (h : okq d = true) : fine d = true := by
  unfold okq at h
  rw [Bool.and_eq_true] at h
  exact h.1
def fEq : D → D → Option R := fun d e => if (okq d && okq e) = true then some (.val (.bl (deq d e))) else none
def fNe : D → D → Option R := fun d e => if (okq d && okq e) = true then some (.val (.bl (!deq d e))) else none
theorem ok_eq : Ok2 (rEqD Wrt.K) fEq := fun H F rv x y d e res Q hx hy he k => by
  unfold fEq at he
  split at he
  · rename_i hc
    rw [Bool.and_eq_true] at hc
    simp only [Option.some.injEq] at he
    subst he
    refine ⟨py d, py e, pk_dp (okq_fine hc.1) hx, pk_dp (okq_fine hc.2) hy, shaped_py hc.1, shaped_py hc.2, ?_⟩
    rw [eqv_py d e (okq_fine hc.1) (okq_fine hc.2)]
    exact k _ _ (.same (by simp [Rep]))
  · cases he
theorem ok_ne : Ok2 (rNeD Wrt.K) fNe := fun H F rv x y d e res Q hx hy he k => by
  unfold fNe at he
  split at he
  · rename_i hc
    rw [Bool.and_eq_true] at hc
    simp only [Option.some.injEq] at he
    subst he
    refine ⟨py d, py e, pk_dp (okq_fine hc.1) hx, pk_dp (okq_fine hc.2) hy, shaped_py hc.1, shaped_py hc.2, ?_⟩
    rw [eqv_py d e (okq_fine hc.1) (okq_fine hc.2)]
    exact k _ _ (.same (by simp [Rep]))
  · cases he

/-! ### in, not in; is None -/
def rInA (K : PySem.W.Frag) (neg : Bool) : R2 := fun x y H Q => ∃ (d : PyData) (ds : List PyData), Dp K H x d ∧ (Dp K H y (.list ds) ∨ Dp K H y (.tuple ds)) ∧ SeqAt.shaped d = true ∧ SeqAt.shaped (.list ds) = true ∧
  Q (.bl (if neg then !(ds.any fun z => PyData.eqv z d) else ds.any fun z => PyData.eqv z d)) H
section
variable {X : Cx}
theorem shaped_lt {ds : List PyData} (h : SeqAt.shaped (.list ds) = true) : SeqAt.shaped (.tuple ds) = true := by
  have h' : (PyData.canLay0 (.list ds) && decide (PyData.depth (.list ds) ≤ 64)) = true := h
  show (PyData.canLay0 (.tuple ds) && decide (PyData.depth (.tuple ds) ≤ 64)) = true
  simpa [PyData.canLay0, PyData.depth] using h'
theorem op_inA (hu : X.A.units + 65 < cLine) : OpR X (compareOp .In) (rInA X.K false) := by
  intro pins s σ H x y v u Q I rx ry h
  obtain ⟨d, ds, hd, he | he, sd, se, q⟩ := h
  · exact op_inD hu pins s σ H x y v u Q I rx ry ⟨d, ds, hd, he, sd, se, q⟩
  · obtain ⟨as, r1⟩ := Dp.reads I d x v hd rx
    obtain ⟨bs, r2⟩ := Dp.reads I (.tuple ds) y u he ry
    exact SeqAt.in_tuple_reads r2 r1 (SeqAt.canLay_of_shaped se) (SeqAt.canLay_of_shaped sd) (room_in_shaped sd hu) ⟨.bl _, H, I, rfl, q⟩
theorem op_notInA (hu : X.A.units + 65 < cLine) : OpR X (compareOp .NotIn) (rInA X.K true) := by
  intro pins s σ H x y v u Q I rx ry h
  obtain ⟨d, ds, hd, he | he, sd, se, q⟩ := h
  · exact op_notInD hu pins s σ H x y v u Q I rx ry ⟨d, ds, hd, he, sd, se, q⟩
  · obtain ⟨as, r1⟩ := Dp.reads I d x v hd rx
    obtain ⟨bs, r2⟩ := Dp.reads I (.tuple ds) y u he ry
    exact SeqAt.notIn_tuple_reads r2 r1 (SeqAt.canLay_of_shaped se) (SeqAt.canLay_of_shaped sd) (room_in_shaped sd hu) ⟨.bl _, H, I, rfl, q⟩
end
def dIn (d : D) (ds : List D) : Bool := ds.any fun z => deq z d
theorem any_py {d : D} (f : fine d = true) : ∀ {ds : List D}, fineL ds = true → ((pyL ds).any fun z => PyData.eqv z (py d)) = dIn d ds
  | [], _ => by simp [pyL, dIn]
  | z :: ds, h => by
    simp only [fineL, Bool.and_eq_true] at h
    have ih := any_py f h.2
    simp only [pyL, dIn, List.any_cons] at ih ⊢
    rw [ih, eqv_py z d h.1 f]
def fInB (neg : Bool) : D → D → Option R
  | d, .lst ds => if (okq d && okq (.lst ds)) = true then some (.val (.bl (if neg then !dIn d ds else dIn d ds))) else none
  | d, .tup ds => if (okq d && okq (.tup ds)) = true then some (.val (.bl (if neg then !dIn d ds else dIn d ds))) else none
  | d, .dic ks _ => match keyOf d with
    | some q => some (.val (.bl (if neg then !dHas ks q else dHas ks q)))
    | none => none
  | _, _ => none
/-- a key in a dict -/
def rInDc (neg : Bool) : R2 := fun y x H Q => ∃ a o, x = .ref a ∧ DGet H a y o ∧ Q (.bl (if neg then !o.isSome else o.isSome)) H
theorem op_inDc {X : Cx} (hu : X.A.units + 1 < cLine) : OpR X (compareOp .In) (rInDc false) := by
  intro pins s σ H y x v u Q I ry rx h
  obtain ⟨a, ov, rfl, g, q⟩ := h
  obtain rfl : u = Value.ref a := rx
  exact d_in hu I g ry fun s3 I3 => ⟨.bl ov.isSome, H, I3, rfl, q⟩
theorem op_notInDc {X : Cx} (hu : X.A.units + 1 < cLine) : OpR X (compareOp .NotIn) (rInDc true) := by
  intro pins s σ H y x v u Q I ry rx h
  obtain ⟨a, ov, rfl, g, q⟩ := h
  obtain rfl : u = Value.ref a := rx
  exact d_notIn hu I g ry fun s3 I3 => ⟨.bl (!ov.isSome), H, I3, rfl, q⟩
def rInC (K : PySem.W.Frag) (neg : Bool) : R2 := fun x y H Q => rInA K neg x y H Q ∨ rInDc neg x y H Q
theorem op_inC {X : Cx} (hu : X.A.units + 65 < cLine) : OpR X (compareOp .In) (rInC X.K false) := (op_inA hu).or (op_inDc (by omega))
theorem op_notInC {X : Cx} (hu : X.A.units + 65 < cLine) : OpR X (compareOp .NotIn) (rInC X.K true) := (op_notInA hu).or (op_notInDc (by omega))
theorem ok_in {neg : Bool} : Ok2 (rInC Wrt.K neg) (fInB neg) := fun H F rv x y d e res Q hx hy he k => by
  have fin : ∀ {ds : List D}, (Dp Wrt.K H y (.list (pyL ds)) ∨ Dp Wrt.K H y (.tuple (pyL ds))) → okq d = true → okq (.lst ds) = true → some (R.val (.bl (if neg then !dIn d ds else dIn d ds))) = some res → rInA Wrt.K neg x y H Q := fun {ds} hd h1 h2 he => by
    simp only [Option.some.injEq] at he
    subst he
    refine ⟨py d, pyL ds, pk_dp (okq_fine h1) hx, hd, shaped_py h1, by simpa [py] using shaped_py h2, ?_⟩
    rw [any_py (okq_fine h1) (by simpa [fine] using okq_fine h2)]
    exact k _ _ (.same (by simp [Rep]))
  unfold fInB at he
  split at he
  · rename_i ds
    split at he
    · rename_i hc
      rw [Bool.and_eq_true] at hc
      exact .inl (fin (.inl (by simpa [py] using pk_dp (okq_fine hc.2) hy)) hc.1 hc.2 he)
    · cases he
  · rename_i ds
    split at he
    · rename_i hc
      rw [Bool.and_eq_true] at hc
      have h2 : okq (.lst ds) = true := by simpa [okq, fine, deep] using hc.2
      exact .inl (fin (.inr (by simpa [py] using pk_dp (okq_fine hc.2) hy)) hc.1 h2 he)
    · cases he
  · rename_i ks ds
    cases q1 : keyOf d with
    | none => rw [q1] at he; cases he
    | some qk =>
      rw [q1] at he
      simp only [Option.some.injEq] at he
      subst he
      obtain ⟨a, xs, rfl, ha, hk, hl⟩ := hy
      have hkx : ks.length = xs.length := by rw [hl.length]; exact hk
      have g := DGet.k (k := qk) ha
      refine .inr ⟨a, _, rfl, by rw [keyOf_pk hx q1]; exact g, ?_⟩
      rw [dGet_val, dGet_some hkx]
      exact k _ _ (.same (by simp [Rep]))
  · cases he
def isNon : D → Bool
  | .non => true
  | _ => false
theorem pk_non {H : Hp} {F : Gh} {rv v : V} {d : D} (hr : d ≠ .res) (h : Pk H F rv d v) : decide (v = .non) = isNon d := by
  cases d with
  | non => simp only [Pk, Rep] at h; subst h; rfl
  | bl _ => simp only [Pk, Rep] at h; subst h; rfl
  | int _ => simp only [Pk, Rep] at h; subst h; rfl
  | str _ => simp only [Pk, Rep] at h; subst h; rfl
  | res => exact absurd rfl hr
  | loc _ => simp only [Pk, Rep] at h; obtain ⟨a, rfl, _⟩ := h; rfl
  | ins _ _ _ => simp only [Pk, Rep] at h; obtain ⟨a, dx, xs, rfl, _⟩ := h; rfl
  | tup _ => simp only [Pk, Rep] at h; obtain ⟨a, xs, rfl, _⟩ := h; rfl
  | lst _ => simp only [Pk] at h; obtain ⟨a, xs, rfl, _⟩ := h; rfl
  | dic _ _ => simp only [Pk] at h; obtain ⟨a, xs, rfl, _⟩ := h; rfl
  | dit _ _ => simp only [Pk] at h; obtain ⟨a, kas, xs, rfl, _⟩ := h; rfl
def fIs (neg : Bool) : D → D → Option R
  | .res, _ => none
  | d, .non => some (.val (.bl (if neg then !isNon d else isNon d)))
  | _, _ => none
theorem ok_is : Ok2 (fun x y H Q => y = .non ∧ Q (.bl (decide (x = .non))) H) (fIs false) := fun H F rv x y d e res Q hx hy he k => by
  unfold fIs at he
  split at he
  · cases he
  · rename_i hr
    simp only [Option.some.injEq] at he
    subst he
    refine ⟨by simpa [Pk, Rep] using hy, ?_⟩
    rw [pk_non (fun z => hr z) hx]
    exact k _ _ (.same (by simp [Rep]))
  · cases he
theorem ok_isnot : Ok2 (fun x y H Q => y = .non ∧ Q (.bl (!decide (x = .non))) H) (fIs true) := fun H F rv x y d e res Q hx hy he k => by
  unfold fIs at he
  split at he
  · cases he
  · rename_i hr
    simp only [Option.some.injEq] at he
    subst he
    refine ⟨by simpa [Pk, Rep] using hy, ?_⟩
    rw [pk_non (fun z => hr z) hx]
    exact k _ _ (.same (by simp [Rep]))
  · cases he

/-! ### places, slices -/
def fIx : D → D → Option R
  | .lst ds, .int i => match atI ds i with
    | some d => some (.val d)
    | none => none
  | .tup ds, .int i => match atI ds i with
    | some d => some (.val d)
    | none => none
  | .dic ks ds, k => match keyOf k with
    | some q => match dGet ks ds q with
      | some d => some (.val d)
      | none => none
    | none => none
  | _, _ => none
/-- a dict's value at a key -/
def rIxD : R2 := fun x y H Q => ∃ a v, x = .ref a ∧ DGet H a y (some v) ∧ Q v H
theorem ix_dict {X : Cx} (hu : X.A.units + 1 < cLine) : IxR X rIxD := by
  intro value slice pins s σ H x y v u Q I rx ry h hs
  obtain ⟨a, z, rfl, g, q⟩ := h
  obtain rfl : v = Value.ref a := rx
  exact tail_any (dict_typeIs I g) PySem.F.slot_dict_getitem.lookup (d_getItem hu I g ry fun w' s3 I3 rw' => ⟨z, H, I3, rw', q⟩) hs
def rIxA (K : PySem.W.Frag) : R2 := fun x y H Q => rIx K x y H Q ∨ rIxD x y H Q
theorem ix_any {X : Cx} (hu : X.A.units + 1 < cLine) : IxR X (rIxA X.K) := ix_seq.or (ix_dict hu)
theorem atI_rep {H : Hp} {F : Gh} {rv : V} {ds : List D} {xs : List V} {i : Int} {d : D} (h : RepL H F rv ds xs) (e : atI ds i = some d) : ∃ v, atI xs i = some v ∧ Rep H F rv d v := by
  unfold atI at e ⊢
  rw [h.length]
  cases q : ixN ds.length i with
  | none => rw [q] at e; cases e
  | some j =>
    rw [q] at e
    exact h.get (i := j) e
theorem ok_ix : Ok2 (rIxA Wrt.K) fIx := fun H F rv x y d e res Q hx hy he k => by
  cases d with
  | lst ds =>
    cases e with
    | int i =>
      simp only [fIx] at he
      cases q : atI ds i with
      | none => rw [q] at he; cases he
      | some d' =>
        rw [q] at he
        cases he
        obtain ⟨a, xs, rfl, ha, hl⟩ := hx
        obtain ⟨v, e1, hv⟩ := atI_rep hl q
        exact .inl (.inl ⟨a, xs, i, v, rfl, pk_i hy, SqL.of ha, e1, k _ _ (.same hv)⟩)
    | _ => cases he
  | tup ds =>
    cases e with
    | int i =>
      simp only [fIx] at he
      cases q : atI ds i with
      | none => rw [q] at he; cases he
      | some d' =>
        rw [q] at he
        cases he
        simp only [Pk, Rep] at hx
        obtain ⟨a, xs, rfl, ha, hl⟩ := hx
        obtain ⟨v, e1, hv⟩ := atI_rep hl q
        exact .inl (.inr (.inl ⟨a, xs, i, v, rfl, pk_i hy, ha.sq, e1, k _ _ (.same hv)⟩))
    | _ => cases he
  | dic ks ds =>
    simp only [fIx] at he
    cases q : keyOf e with
    | none => rw [q] at he; cases he
    | some qk =>
      rw [q] at he
      simp only at he
      cases q2 : dGet ks ds qk with
      | none => rw [q2] at he; cases he
      | some d' =>
        rw [q2] at he
        cases he
        obtain ⟨a, xs, rfl, ha, hk, hl⟩ := hx
        obtain ⟨v, e1, hv⟩ := (dGet_rep hl).1 d' q2
        refine .inr ⟨a, v, rfl, ?_, k _ _ (.same hv)⟩
        rw [keyOf_pk hy q]
        have g := DGet.k (k := qk) ha
        rw [dGet_val, e1] at g
        exact g
  | _ => cases e <;> cases he
def cutD (xs : List D) (lo hi : Option Int) : List D := (xs.drop (HT.sIx xs.length 0 lo)).take (HT.sIx xs.length xs.length hi - HT.sIx xs.length 0 lo)
theorem cut_rep {H : Hp} {F : Gh} {rv : V} {ds : List D} {xs : List V} {lo hi : Option Int} (h : RepL H F rv ds xs) : RepL H F rv (cutD ds lo hi) (cutV xs lo hi) := by
  unfold cutD cutV
  rw [h.length]
  exact (h.drop _).take _
def fCut : D → Option Int → Option Int → Option R
  | .lst ds, lo, hi => some (.new (.lst (cutD ds lo hi)))
  | .tup ds, lo, hi => some (.val (.tup (cutD ds lo hi)))
  | _, _, _ => none
def rCut (K : PySem.W.Frag) : V → Option Int → Option Int → Hp → VK → Prop := fun x lo hi H Q => rSlL K x lo hi H Q ∨ rSlA K x lo hi H Q
theorem sl_cut {X : Cx} : SlR X (rCut X.K) := sl_list.or sl_tupA
theorem cut_all {ds : List D} {lo hi : Option Int} (h : HT.sIx ds.length 0 lo = 0 ∧ HT.sIx ds.length ds.length hi = ds.length) : cutD ds lo hi = ds := by
  unfold cutD
  rw [h.1, h.2]
  simp
theorem ok_cut : OkS (rCut Wrt.K) fCut := fun H F rv x d lo hi res Q hx he k => by
  unfold fCut at he
  split at he
  · rename_i ds
    simp only [Option.some.injEq] at he
    subst he
    obtain ⟨a, xs, rfl, ha, hl⟩ := hx
    exact .inl ⟨a, xs, rfl, SqL.of ha, fun p hp => k _ _ (.lst hp (cut_rep hl))⟩
  · rename_i ds
    simp only [Option.some.injEq] at he
    subst he
    have hx' := hx
    simp only [Pk, Rep] at hx
    obtain ⟨a, xs, rfl, ha, hl⟩ := hx
    refine .inr ⟨a, xs, rfl, ha.sq, fun hw => ?_, fun _ p hp => k _ _ (.tup hp (cut_rep hl))⟩
    rw [hl.length] at hw
    rw [cut_all hw] at k
    exact k _ _ (.same hx')
  · cases he

/-! ### + of lists, of tuples, of whole numbers -/
def fAdd : D → D → Option R
  | .int i, .int j => some (.val (.int (i + j)))
  | .lst xs, .lst ys => if xs.length + ys.length ≤ line then some (.new (.lst (xs ++ ys))) else none
  | .tup xs, .tup ys => if xs.length + ys.length ≤ line then some (.val (.tup (xs ++ ys))) else none
  | _, _ => none
def rAddA (K : PySem.W.Frag) : R2 := fun x y H Q => (rI0 fun i j => .int (i + j)) x y H Q ∨ rCat x y H Q ∨ rCatA K x y H Q
theorem op_addA {X : Cx} : OpR X (binaryOp .Add) (rAddA X.K) := op_add.or (op_cat.or op_catA)
theorem ok_add : Ok2 (rAddA Wrt.K) fAdd := fun H F rv x y d e res Q hx hy he k => by
  unfold fAdd at he
  split at he
  · rename_i i j
    simp only [Option.some.injEq] at he
    subst he
    exact .inl ⟨i, j, pk_i hx, pk_i hy, k _ _ (.same (by simp [Rep]))⟩
  · rename_i ds es
    split at he
    · rename_i hl
      simp only [Option.some.injEq] at he
      subst he
      obtain ⟨a, xs, rfl, ha, hxs⟩ := hx
      obtain ⟨b, ys, rfl, hb, hys⟩ := hy
      exact .inr (.inl ⟨a, b, xs, ys, rfl, rfl, ha, hb, by rw [hxs.length, hys.length, ← line_eq]; exact hl, fun p hp => k _ _ (.lst hp (hxs.append hys))⟩)
    · cases he
  · rename_i ds es
    split at he
    · rename_i hl
      simp only [Option.some.injEq] at he
      subst he
      have hx' := hx
      have hy' := hy
      simp only [Pk, Rep] at hx hy
      obtain ⟨a, xs, rfl, ha, hxs⟩ := hx
      obtain ⟨b, ys, rfl, hb, hys⟩ := hy
      have lx := hxs.length
      have ly := hys.length
      refine .inr (.inr ⟨a, b, xs, ys, rfl, rfl, ha.sq, hb.sq, by rw [lx, ly, ← line_eq]; exact hl, fun h0 => ?_, fun _ h0 => ?_, fun _ _ p hp => k _ _ (.tup hp (hxs.append hys))⟩)
      · subst h0
        have : ds = [] := List.length_eq_zero_iff.mp lx.symm
        subst this
        exact k _ _ (.same hy')
      · subst h0
        have : es = [] := List.length_eq_zero_iff.mp ly.symm
        subst this
        rw [List.append_nil] at k
        exact k _ _ (.same hx')
    · cases he
  · cases he

/-! ### built-in functions -/
theorem pkl1 {H : Hp} {F : Gh} {rv : V} {d : D} {vs : List V} (h : PkL H F rv [d] vs) : ∃ v, vs = [v] ∧ Pk H F rv d v := by
  obtain ⟨v, r, e, h1, h2⟩ := h
  cases h2
  exact ⟨v, e, h1⟩
theorem pkl2 {H : Hp} {F : Gh} {rv : V} {d d2 : D} {vs : List V} (h : PkL H F rv [d, d2] vs) : ∃ v w, vs = [v, w] ∧ Pk H F rv d v ∧ Pk H F rv d2 w := by
  obtain ⟨v, r, e, h1, w, r2, e2, h2, h3⟩ := h
  cases h3
  subst e2
  exact ⟨v, w, e, h1, h2⟩
def fLen : List D → Option R
  | [.lst ds] => some (.val (.int (ds.length : Int)))
  | [.tup ds] => some (.val (.int (ds.length : Int)))
  | [.dic ks _] => some (.val (.int (ks.length : Int)))
  | [.str x] => if x.length ≤ line then some (.val (.int (x.length : Int))) else none
  | _ => none
def rLenA (K : PySem.W.Frag) : List V → Hp → VK → Prop := fun xs H Q => (∃ x n, xs = [x] ∧ LenV K x H n ∧ Q (.int n) H) ∨ ∃ a kvs, xs = [V.ref a] ∧ H a = some (.dK kvs) ∧ Q (.int kvs.length) H
theorem call_lenA {X : Cx} : CallR X (.builtin "len") (rLenA X.K) := call_len.or call_lenD
theorem ok_len : OkC (rLenA Wrt.K) fLen := fun H F rv xs ds res Q hx he k => by
  unfold fLen at he
  split at he
  · rename_i ds
    simp only [Option.some.injEq] at he
    subst he
    obtain ⟨v, rfl, a, xs, rfl, ha, hl⟩ := pkl1 hx
    exact .inl ⟨.ref a, ds.length, rfl, .inl ⟨xs, SqL.of ha, hl.length.symm⟩, k _ _ (.same (by simp [Rep]))⟩
  · rename_i ds
    simp only [Option.some.injEq] at he
    subst he
    obtain ⟨v, rfl, h⟩ := pkl1 hx
    simp only [Pk, Rep] at h
    obtain ⟨a, xs, rfl, ha, hl⟩ := h
    exact .inl ⟨.ref a, ds.length, rfl, .inr ⟨xs, ha.sq, hl.length.symm⟩, k _ _ (.same (by simp [Rep]))⟩
  · rename_i ks ds
    simp only [Option.some.injEq] at he
    subst he
    obtain ⟨v, rfl, h⟩ := pkl1 hx
    simp only [Pk] at h
    obtain ⟨a, xs, rfl, ha, hk, hl⟩ := h
    refine .inr ⟨a, _, rfl, ha, ?_⟩
    rw [List.length_zip, hl.length, ← hk, Nat.min_self]
    exact k _ _ (.same (by simp [Rep]))
  · rename_i x
    split at he
    · rename_i hl
      simp only [Option.some.injEq] at he
      subst he
      obtain ⟨v, rfl, h⟩ := pkl1 hx
      simp only [Pk, Rep] at h
      subst h
      exact .inl ⟨.str x, x.length, rfl, ⟨by rw [← line_eq]; exact hl, rfl⟩, k _ _ (.same (by simp [Rep]))⟩
    · cases he
  · cases he
def fInt : List D → Option R
  | [.int i] => some (.val (.int i))
  | [.bl b] => some (.val (.int (if b then 1 else 0)))
  | _ => none
theorem ok_int : OkC (fun xs H Q => (∃ i, xs = [.int i] ∧ Q (.int i) H) ∨ ∃ k, xs = [.bl k] ∧ Q (.int (if k then 1 else 0)) H) fInt := fun H F rv xs ds res Q hx he k => by
  unfold fInt at he
  split at he
  · rename_i i
    simp only [Option.some.injEq] at he
    subst he
    obtain ⟨v, rfl, h⟩ := pkl1 hx
    simp only [Pk, Rep] at h
    subst h
    exact .inl ⟨i, rfl, k _ _ (.same (by simp [Rep]))⟩
  · rename_i b
    simp only [Option.some.injEq] at he
    subst he
    obtain ⟨v, rfl, h⟩ := pkl1 hx
    simp only [Pk, Rep] at h
    subst h
    exact .inr ⟨b, rfl, k _ _ (.same (by simp [Rep]))⟩
  · cases he
def fAbs : List D → Option R
  | [.int i] => some (.val (.int (if i < 0 then -i else i)))
  | _ => none
theorem ok_abs : OkC (fun xs H Q => ∃ i, xs = [.int i] ∧ Q (.int (if i < 0 then -i else i)) H) fAbs := fun H F rv xs ds res Q hx he k => by
  unfold fAbs at he
  split at he
  · rename_i i
    simp only [Option.some.injEq] at he
    subst he
    obtain ⟨v, rfl, h⟩ := pkl1 hx
    simp only [Pk, Rep] at h
    subst h
    exact ⟨i, rfl, k _ _ (.same (by simp [Rep]))⟩
  · cases he
def fMax2 : List D → Option R
  | [.int i, .int j] => some (.val (.int (if j > i then j else i)))
  | _ => none
def fMin2 : List D → Option R
  | [.int i, .int j] => some (.val (.int (if j < i then j else i)))
  | _ => none
theorem ok_max2 : OkC (fun xs H Q => ∃ i j, xs = [.int i, .int j] ∧ Q (.int (if j > i then j else i)) H) fMax2 := fun H F rv xs ds res Q hx he k => by
  unfold fMax2 at he
  split at he
  · rename_i i j
    simp only [Option.some.injEq] at he
    subst he
    obtain ⟨v, w, rfl, h1, h2⟩ := pkl2 hx
    simp only [Pk, Rep] at h1 h2
    subst h1 h2
    exact ⟨i, j, rfl, k _ _ (.same (by simp [Rep]))⟩
  · cases he
theorem ok_min2 : OkC (fun xs H Q => ∃ i j, xs = [.int i, .int j] ∧ Q (.int (if j < i then j else i)) H) fMin2 := fun H F rv xs ds res Q hx he k => by
  unfold fMin2 at he
  split at he
  · rename_i i j
    simp only [Option.some.injEq] at he
    subst he
    obtain ⟨v, w, rfl, h1, h2⟩ := pkl2 hx
    simp only [Pk, Rep] at h1 h2
    subst h1 h2
    exact ⟨i, j, rfl, k _ _ (.same (by simp [Rep]))⟩
  · cases he
def fGcd : List D → Option R
  | [.int i, .int j] => some (.val (.int ((Nat.gcd i.natAbs j.natAbs : Nat) : Int)))
  | _ => none
theorem ok_gcd : OkC rGcd fGcd := fun H F rv xs ds res Q hx he k => by
  unfold fGcd at he
  split at he
  · rename_i i j
    simp only [Option.some.injEq] at he
    subst he
    obtain ⟨v, w, rfl, h1, h2⟩ := pkl2 hx
    simp only [Pk, Rep] at h1 h2
    subst h1 h2
    exact ⟨i, j, rfl, k _ _ (.same (by simp [Rep]))⟩
  · cases he
def fTuple : List D → Option R
  | [.lst ds] => some (.val (.tup ds))
  | [.tup ds] => some (.val (.tup ds))
  | _ => none
theorem ok_tuple : OkC (fun xs H Q => ∃ p ys, xs = [.ref p] ∧ ((SqL Wrt.K H p ys ∧ ∀ l, H l = none → Q (.ref l) (upd H l (.tup ys))) ∨ (SqT Wrt.K H p ys ∧ Q (.ref p) H))) fTuple := fun H F rv xs ds res Q hx he k => by
  unfold fTuple at he
  split at he
  · rename_i ds
    simp only [Option.some.injEq] at he
    subst he
    obtain ⟨v, rfl, a, xs, rfl, ha, hl⟩ := pkl1 hx
    exact ⟨a, xs, rfl, .inl ⟨SqL.of ha, fun p hp => k _ _ (.tup hp hl)⟩⟩
  · rename_i ds
    simp only [Option.some.injEq] at he
    subst he
    obtain ⟨v, rfl, h⟩ := pkl1 hx
    have h' := h
    simp only [Pk, Rep] at h
    obtain ⟨a, xs, rfl, ha, hl⟩ := h
    exact ⟨a, xs, rfl, .inr ⟨ha.sq, k _ _ (.same h')⟩⟩
  · cases he
def fList : List D → Option R
  | [.lst ds] => some (.new (.lst ds))
  | [.tup ds] => some (.new (.lst ds))
  | _ => none
theorem ok_list : OkC (fun xs H Q => ∃ p ys, xs = [.ref p] ∧ (SqL Wrt.K H p ys ∨ SqT Wrt.K H p ys) ∧ ∀ l, H l = none → Q (.ref l) (upd H l (.lst ys))) fList := fun H F rv xs ds res Q hx he k => by
  unfold fList at he
  split at he
  · rename_i ds
    simp only [Option.some.injEq] at he
    subst he
    obtain ⟨v, rfl, a, xs, rfl, ha, hl⟩ := pkl1 hx
    exact ⟨a, xs, rfl, .inl (SqL.of ha), fun p hp => k _ _ (.lst hp hl)⟩
  · rename_i ds
    simp only [Option.some.injEq] at he
    subst he
    obtain ⟨v, rfl, h⟩ := pkl1 hx
    simp only [Pk, Rep] at h
    obtain ⟨a, xs, rfl, ha, hl⟩ := h
    exact ⟨a, xs, rfl, .inr (ha.sq), fun p hp => k _ _ (.lst hp hl)⟩
  · cases he
/-- isinstance(x, T) -/
def isi (T : String) : D → Option Bool
  | .non => kitB "NoneType" T
  | .bl _ => kitB "bool" T
  | .int _ => kitB "int" T
  | .str _ => kitB "str" T
  | .tup _ => kitB "tuple" T
  | .lst _ => kitB "list" T
  | .dic _ _ => none
  | .dit _ _ => none
  | .res => none
  | .loc _ => none
  | .ins _ _ _ => none
def fIsi (T : String) (d : D) : Option R := match isi T d with
  | some b => some (.val (.bl b))
  | none => none
theorem isi_ok {H : Hp} {F : Gh} {rv v : V} {d : D} {T : String} {b : Bool} (h : Pk H F rv d v) (e : isi T d = some b) : ∃ t, TyX Wrt.K H v (.type t) ∧ kitB t T = some b := by
  cases d with
  | non => simp only [Pk, Rep] at h; subst h; exact ⟨_, .base .non, e⟩
  | bl x => simp only [Pk, Rep] at h; subst h; exact ⟨_, .base (.bl x), e⟩
  | int x => simp only [Pk, Rep] at h; subst h; exact ⟨_, .base (.int x), e⟩
  | str x => simp only [Pk, Rep] at h; subst h; exact ⟨_, .base (.str x), e⟩
  | res => cases e
  | loc _ => cases e
  | ins _ _ _ => cases e
  | dic _ _ => cases e
  | dit _ _ => cases e
  | tup ds =>
    simp only [Pk, Rep] at h
    obtain ⟨a, xs, rfl, ha, _⟩ := h
    rcases ha with ⟨ha, _⟩ | ⟨o, its, n, h1, h2, _⟩
    · exact ⟨_, .base (.tup ha), e⟩
    · exact ⟨_, .kTuple h1 h2, e⟩
  | lst ds => simp only [Pk] at h; obtain ⟨a, xs, rfl, ha, _⟩ := h; exact ⟨_, .base (.lst ha), e⟩
section
variable {X : Cx}
theorem se_isi {T : Str} {Ts : String} {e : Expr} {a : Mn β R} {p p2 pos : Pos} (hg : Gl X "isinstance") (hm : X.mg "isinstance" = none) (hg2 : Gl X T) (hm2 : X.mg T = none) (hv : bootBuiltins T = some (.type Ts)) (ha : PE X e (tE a)) (hn : T ≠ "__name__" := by decide) (hd : (T == ("__debug__" : Str)) = false := by decide)
    (he : starEach [e, .Name T p2] X.env = (false, eval e X.env) :: starEach [.Name T p2] X.env := by rfl) (hpl : (backTo pos (starEach [.Name T p2] X.env)).any (·.1) = false := by rfl) (hK : X.K = Wrt.K := by rfl) :
    PE X (.Call (.Name "isinstance" p) [e, .Name T p2] [] pos) (tE (mOp1 (fIsi Ts) a)) := by
  refine peI (pe_callB call_isi hg hm (by decide +kernel) (pa_cons ha (pa_cons (pe_bltn (v := .ty Ts) hg2 hm2 hv rfl hn hd) pa_nil) he) (by decide) (by decide) he hpl) fun σ H Q q => ?_
  obtain ⟨c, F, st, res, st', rl, e, k⟩ := q
  obtain ⟨r1, s1, e1, e⟩ := mBind_some e
  refine ⟨c, F, st, r1, s1, rl, e1, fun x H1 F1 t1 h1 => ?_⟩
  cases p1 : pk r1 s1 with
  | none => rw [p1] at e; cases e
  | some d1 =>
    rw [p1] at e
    simp only [fIsi] at e
    cases p3 : isi Ts d1 with
    | none => rw [p3] at e; cases e
    | some b =>
      rw [p3] at e
      simp only [Option.some.injEq, Prod.mk.injEq] at e
      obtain ⟨rfl, rfl⟩ := e
      obtain ⟨t, ty, hk⟩ := isi_ok (pk_ok t1.rel h1 p1) p3
      exact ⟨x, .ty Ts, .type t, .type Ts, b, rfl, .ty Ts, hK ▸ ty, kit_ty hk, k _ H1 F1 t1 rr_bl⟩
/-- list(range(n)), list(range(a, b)) -/
noncomputable def lrOk (a b : Int) : Bool := rgOk a && rgOk b && decide ((b - a).toNat ≤ 16777216)
noncomputable def mLR1 (a : Mn β R) : Mn β R := mBind a fun r st => match r with
  | .val (.int n) => if lrOk 0 n = true then some (.new (.lst (rgL 0 n.toNat)), st) else none
  | _ => none
theorem rgV_rep {H : Hp} {F : Gh} {rv : V} {a b : Int} : RepL H F rv (rgL a (b - a).toNat) (rgV a b) := by
  unfold rgL rgV
  have : ∀ l : List Nat, RepL H F rv (l.map fun (i : Nat) => D.int (a + (i : Int))) (l.map fun (i : Nat) => V.int (a + (i : Int))) := by
    intro l
    induction l with
    | nil => exact .nil
    | cons x l ih => exact .cons (by simp [Rep]) ih
  exact this _
theorem se_lr1 {e : Expr} {a : Mn β R} {p p2 pos pos2 : Pos} (hc : X.calm = true) (hg : Gl X "list") (hm : X.mg "list" = none) (hg2 : Gl X "range") (hm2 : X.mg "range" = none) (ha : PE X e (tE a))
    (na : starEach [e] X.env = (false, eval e X.env) :: starEach [] X.env := by rfl) (na2 : starEach [.Call (.Name "range" p2) [e] [] pos2] X.env = (false, eval (.Call (.Name "range" p2) [e] [] pos2) X.env) :: starEach [] X.env := by rfl) :
    PE X (.Call (.Name "list" p) [.Call (.Name "range" p2) [e] [] pos2] [] pos) (tE (mLR1 a)) := by
  refine peI (pe_listRg hc hg hm (prg_1 hg2 hm2 ha na) na2) fun σ H Q q => ?_
  obtain ⟨c, F, st, res, st', rl, e, k⟩ := q
  obtain ⟨r1, s1, e1, e⟩ := mBind_some e
  refine ⟨c, F, st, r1, s1, rl, e1, fun x H1 F1 t1 h1 => ?_⟩
  split at e
  · rename_i n
    split at e
    · rename_i hl
      simp only [Option.some.injEq, Prod.mk.injEq] at e
      obtain ⟨rfl, rfl⟩ := e
      have h1' : Rep H1 F1 c.R.val (.int n) x := h1
      simp only [Rep] at h1'
      unfold lrOk at hl
      rw [Bool.and_eq_true, Bool.and_eq_true] at hl
      obtain ⟨⟨g1, g2⟩, g3⟩ := hl
      refine ⟨n, h1', ⟨(rgOk_iff g1).1, (rgOk_iff g1).2, (rgOk_iff g2).1, (rgOk_iff g2).2, of_decide_eq_true g3⟩, fun p hp => ?_⟩
      have h0 : (n - 0).toNat = n.toNat := by rw [Int.sub_zero]
      obtain ⟨F3, t3, h3⟩ := out_ok t1.rel (Out.lst (rv := c.R.val) (ds := rgL 0 n.toNat) hp (by rw [← h0]; exact rgV_rep))
      exact k _ _ F3 (t1.trans t3) (h3.hs fun x hx => t1.gone hx)
    · cases e
  · cases e

/-! ### calls by keywords -/
def pickL {α : Type} (is : List Nat) (xs : List α) : List α := is.filterMap fun i => xs[i]?
theorem pick_args {foot : Addr → Prop} {rv : V} {H : Hp} {F : Gh} {as : List Sl} {vs : List V} (h : ArgRs foot rv H F as vs) : ∀ is : List Nat, ArgRs foot rv H F (pickL is as) (pickL is vs)
  | [] => rfl
  | i :: is => by
    have ih := pick_args h is
    unfold pickL at ih ⊢
    cases q : as[i]? with
    | none =>
      have : vs[i]? = none := by
        rw [List.getElem?_eq_none_iff] at q ⊢
        rw [h.length]
        exact q
      rw [List.filterMap_cons_none q, List.filterMap_cons_none this]
      exact ih
    | some s =>
      obtain ⟨v, e, hv⟩ := h.get q
      rw [List.filterMap_cons_some q, List.filterMap_cons_some e]
      exact ⟨v, _, rfl, hv, ih⟩
theorem pick_vals {vs : List V} {us : List Value} (h : Vals vs us) : ∀ is : List Nat, Vals (pickL is vs) (pickL is us)
  | [] => .nil
  | i :: is => by
    have ih := pick_vals h is
    unfold pickL at ih ⊢
    cases q : vs[i]? with
    | none =>
      rw [List.filterMap_cons_none q, List.filterMap_cons_none (h.none_of q)]
      exact ih
    | some s =>
      obtain ⟨v, e, hv⟩ := h.get q
      rw [List.filterMap_cons_some q, List.filterMap_cons_some e]
      exact .cons hv ih
theorem kbn_of {K : PySem.W.Frag} {x qual : Str} {st : Stmt} {f : Addr} {fd : FuncData} {ps ks : List Str} {n : Nat} (F : Fun K x qual st f fd) (is : List Nat)
    (h : ∀ (kV doc pm : Value) (an : Option Addr) (cdv ct : Value) (us ws : List Value), us.length = n → ws.length = ks.length → bindArgs (PySem.W.fnOf x qual (defArgs st) (defBody st) (defScope st) .none kV doc pm an cdv ct) ⟨us, ks.zip ws⟩ = pure (ps.zip (pickL is (us ++ ws)))) :
    KBn K fd ps n ks (fun us ws => pickL is (us ++ ws)) (fun vs zs => pickL is (vs ++ zs)) := by
  obtain ⟨oc, od, kV, doc, pm, an, cdv, ct, osl, rfl, lk, hcd⟩ := F.ex
  exact ⟨fun s us ws _ h1 h2 => .of_eq (h kV doc pm an cdv ct us ws h1 h2), fun r z => pick_vals (r.append z) is⟩
theorem pe_callN0 {CX : CXT} {k n : Nat} {f : Addr} {fd : FuncData} {ps ks : List Str} {sp : Sp} {E : XK} {x : Str} {p pos : Pos} {kws : List Keyword} {tk : TA} {g : List Value → List Value → List Value} {gV : List V → List V → List V}
    (F : FnOk X.prog X.w X.K X.mg X.base CX k f fd ps sp) (hr : Room k X.A) (hg : Gl X x) (hm : X.mg x = some (.ref f)) (hk : PySem.W.keepIn X.K (.ref f) = true) (hb : KBn X.K fd ps 0 ks g gV) (hx : Passes CX X E)
    (hkw : PK X kws tk) (hall : (backToKw pos (keywordEach kws X.env)).all (·.1.isSome) = true := by rfl) (hks : (backToKw pos (keywordEach kws X.env)).filterMap (·.1) = ks := by rfl)
    (hdb : (x == ("__debug__" : Str)) = false := by decide)
    (hpl : ((backTo pos (starEach [] X.env)).any (·.1) || (backToKw pos (keywordEach kws X.env)).any (·.1.isNone)) = false := by rfl) :
    PE X (.Call (.Name x p) [] kws pos) (tCallN 0 ks.length sp gV E tNil tk) := by
  refine ⟨fun pins s σ H Q I h => ?_⟩
  refine wpAny_Call_Name_kw (ld_glob I hg hm ?_ hdb)
  refine PySem.W.callWith_KW0 (h₀ := X.base) I.ok.mod.kin hk hall (thn (hkw.run pos pins s σ H _ I h) fun ws s2 ⟨zs, H2, I2, rz, l1, l2, q2⟩ => ⟨I2.kIn, ?_⟩) hpl
  rw [hks]
  exact run_fnN F hr hb hx I2 .nil rz l1 l2 q2
/-- n positional, m keyword arguments -/
def mCallK (f : Fn β) (is : List Nat) (n m : Nat) (a k : Mn β (List R)) : Mn β R := mBind a fun rs => mBind k fun ks st => if rs.length = n ∧ ks.length = m then (match toSlL (rs ++ ks) st with
  | none => none
  | some args => match f (pickL is args) st.bag with
    | none => none
    | some (r, b) => some (r, { st with bag := b })) else none
theorem RepRs.length {c : C β} {σ : L2.St} {Hs : Hp} {F : Gh} {H : Hp} {st : Sta β} : ∀ {rs : List R} {vs : List V}, RepRs c σ Hs F H st rs vs → vs.length = rs.length
  | [], _, h => by cases h; rfl
  | _ :: _, _, h => by
    obtain ⟨v, t, e, _, h2⟩ := h
    subst e
    simp [RepRs.length h2]
theorem RepRs.app {c : C β} {σ : L2.St} {Hs : Hp} {F : Gh} {H : Hp} {st : Sta β} : ∀ {rs ks : List R} {vs zs : List V}, RepRs c σ Hs F H st rs vs → RepRs c σ Hs F H st ks zs → RepRs c σ Hs F H st (rs ++ ks) (vs ++ zs)
  | [], _, _, _, h, g => by cases h; exact g
  | _ :: _, _, _, _, h, g => by
    obtain ⟨v, t, e, h1, h2⟩ := h
    subst e
    exact ⟨v, _, rfl, h1, RepRs.app h2 g⟩
theorem callK_reads {f : Fn β} {is : List Nat} {n m : Nat} {ta tk : TA} {a k : Mn β (List R)} {E : XK} (ha : ∀ σ H Q, tRs a σ H Q → ta σ H Q) (hk : ∀ σ H Q, tRs k σ H Q → tk σ H Q) :
    ∀ σ H Q, tE (mCallK f is n m a k) σ H Q → tCallN n m (spF f) (fun vs zs => pickL is (vs ++ zs)) E ta tk σ H Q := fun σ H Q q => by
  obtain ⟨c, F, st, res, st', rl, e, g⟩ := q
  obtain ⟨rs, s1, e1, e⟩ := mBind_some e
  obtain ⟨ks, s2, e2, e⟩ := mBind_some e
  refine ha _ _ _ ⟨c, F, st, rs, s1, rl, e1, fun xs H1 F1 t1 h1 => ?_⟩
  refine hk _ _ _ ⟨c, F1, s1, ks, s2, t1.rel, e2, fun zs H2 F2 t2 h2 => ?_⟩
  split at e
  · rename_i hnm
    have hnf : ∀ x, H x = none → ¬ c.R.foot x := fun x => rl.nofoot
    have h1' := h1.stp t1.rel t2 hnf
    have h2' := h2.hs fun x hx => t1.gone hx
    refine ⟨by rw [h1.length]; exact hnm.1, by rw [h2.length]; exact hnm.2, ?_⟩
    cases p1 : toSlL (rs ++ ks) s2 with
    | none => rw [p1] at e; cases e
    | some args =>
      rw [p1] at e
      simp only at e
      cases p2 : f (pickL is args) s2.bag with
      | none => rw [p2] at e; cases e
      | some p =>
        rw [p2] at e
        simp only [Option.some.injEq, Prod.mk.injEq] at e
        obtain ⟨rfl, rfl⟩ := e
        refine ⟨c.R, F2, pickL is args, s2.bag, p.1, p.2, c.kd, t2.rel.fs, fun x h => t2.rel.f0 x (c.foot x h), t2.rel.bag, t2.rel.sto, pick_args (toSlL_ok t2.rel hnf (h1'.app h2') p1) is, p2, fun v H3 F3 P3 r3 => ?_⟩
        obtain ⟨t3, h3⟩ := call_ok t2.rel P3 r3
        exact g v H3 F3 ((t1.trans t2).trans t3) (h3.hs fun x hx => (t1.trans t2).gone hx)
  · cases e
theorem sk_nil : PK X [] (tRs (mNil (β := β))) := pkI pk_nil fun σ H Q q => by
  obtain ⟨c, F, st, res, st', rl, e, k⟩ := q
  simp only [mNil, Option.some.injEq, Prod.mk.injEq] at e
  obtain ⟨rfl, rfl⟩ := e
  exact k [] H F (.refl rl) rfl
theorem sk_cons {nm : Option Str} {e : Expr} {kpos : Pos} {kws : List Keyword} {a : Mn β R} {b : Mn β (List R)} (ha : PE X e (tE a)) (hb : PK X kws (tRs b)) : PK X (⟨nm, e, kpos⟩ :: kws) (tRs (mCons a b)) :=
  pkI (pk_cons ha hb) (rs_reads (fun _ _ _ h => h) fun _ _ _ h => h)
theorem se_callK {k n m : Nat} {f : Addr} {fd : FuncData} {ps ks : List Str} {g : Fn β} {x : Str} {p pos : Pos} {e : Expr} {es : List Expr} {kws : List Keyword} {a b : Mn β (List R)} {is : List Nat} (G : FnOk X.prog X.w X.K X.mg X.base CX0 k f fd ps (spF g)) (hr : Room k X.A) (hg : Gl X x) (hm : X.mg x = some (.ref f)) (hk : PySem.W.keepIn X.K (.ref f) = true)
    (hb : KBn X.K fd ps n ks (fun us ws => pickL is (us ++ ws)) (fun vs zs => pickL is (vs ++ zs))) (ha : PA X (e :: es) (tRs a)) (hkw : PK X kws (tRs b)) (hlen : ks.length = m := by rfl) (hall : (backToKw pos (keywordEach kws X.env)).all (·.1.isSome) = true := by rfl) (hks : (backToKw pos (keywordEach kws X.env)).filterMap (·.1) = ks := by rfl)
    (hdb : (x == ("__debug__" : Str)) = false := by decide) (he : starEach (e :: es) X.env = (false, eval e X.env) :: starEach es X.env := by rfl)
    (hpl : ((backTo pos (starEach (e :: es) X.env)).any (·.1) || (backToKw pos (keywordEach kws X.env)).any (·.1.isNone)) = false := by rfl) :
    PE X (.Call (.Name x p) (e :: es) kws pos) (tE (mCallK g is n m a b)) := by
  subst hlen
  exact peI (pe_callN G hr hg hm hk hb pass0 ha hkw hall hks hdb he hpl) (callK_reads (fun _ _ _ h => h) fun _ _ _ h => h)
theorem se_callK0 {k m : Nat} {f : Addr} {fd : FuncData} {ps ks : List Str} {g : Fn β} {x : Str} {p pos : Pos} {kws : List Keyword} {b : Mn β (List R)} {is : List Nat} (G : FnOk X.prog X.w X.K X.mg X.base CX0 k f fd ps (spF g)) (hr : Room k X.A) (hg : Gl X x) (hm : X.mg x = some (.ref f)) (hk : PySem.W.keepIn X.K (.ref f) = true)
    (hb : KBn X.K fd ps 0 ks (fun us ws => pickL is (us ++ ws)) (fun vs zs => pickL is (vs ++ zs))) (hkw : PK X kws (tRs b)) (hlen : ks.length = m := by rfl) (hall : (backToKw pos (keywordEach kws X.env)).all (·.1.isSome) = true := by rfl) (hks : (backToKw pos (keywordEach kws X.env)).filterMap (·.1) = ks := by rfl)
    (hdb : (x == ("__debug__" : Str)) = false := by decide)
    (hpl : ((backTo pos (starEach [] X.env)).any (·.1) || (backToKw pos (keywordEach kws X.env)).any (·.1.isNone)) = false := by rfl) :
    PE X (.Call (.Name x p) [] kws pos) (tE (mCallK g is 0 m mNil b)) := by
  subst hlen
  exact peI (pe_callN0 (n := 0) G hr hg hm hk hb pass0 hkw hall hks hdb hpl) (callK_reads (fun σ H Q q => by
      obtain ⟨c, F, st, res, st', rl, e, k⟩ := q
      simp only [mNil, Option.some.injEq, Prod.mk.injEq] at e
      obtain ⟨rfl, rfl⟩ := e
      exact k [] H F (.refl rl) rfl) fun _ _ _ h => h)
end
end M

/-! MRev: t[::-1] of a tuple. -/
namespace M
open PySem PySem.Spec PyProof.Rows L2
variable [Wrt]
section
variable {prog : Program} {w : World} {A : Around} {E : Value → Shared → Prop} {s : Shared}
theorem adjust_rev (n : Nat) : Builtin.Slice.sliceAdjust none none (-1) (n : Int) = ((n : Int) - 1, -1) := by
  unfold Builtin.Slice.sliceAdjust
  simp
theorem places_rev (n : Nat) : Builtin.Slice.slicePlaces ((n : Int) - 1) (-1) (-1) = n := by
  unfold Builtin.Slice.slicePlaces
  simp
  try omega
theorem sliceApplied_rev {sl : Addr} {vl vu vs : Value} {n : Nat} {Q : Int × Int × Nat → Shared → Prop} (hs : s.heap.IsSliceOf sl vl vu vs) (pl : IsPart vl none) (pu : IsPart vu none) (ps : IsPart vs (some (-1)))
    (h : Q ((n : Int) - 1, -1, n) s) : wpAny (model prog w) A (Builtin.Slice.sliceApplied (.ref sl) (pure (n : Int))) Q E s := by
  obtain ⟨os, hos, hcs, hds⟩ := id hs
  unfold Builtin.Slice.sliceApplied Builtin.Slice.sliceFields
  refine wpAny_bind (wpAny_bind (wpAny_field hos hds (x := vl) rfl (wpAny_bind (wpAny_field hos hds (x := vu) rfl (wpAny_bind (wpAny_field hos hds (x := vs) rfl (wpAny_pure ?_)))))))
  refine wpAny_bind (HT.slicePart_ ps ?_)
  show wpAny _ _ (if ((-1 : Int) == 0) = true then _ else _) _ _ s
  rw [if_neg (by decide)]
  refine wpAny_bind (HT.slicePart_ pl (wpAny_bind (HT.slicePart_ pu (wpAny_bind (wpAny_pure ?_)))))
  show wpAny _ _ (match Builtin.Slice.sliceAdjust none none (-1) (n : Int) with | (lo, hi) => pure (lo, (-1 : Int), Builtin.Slice.slicePlaces lo hi (-1))) _ _ s
  rw [adjust_rev n]
  show wpAny _ _ (pure ((n : Int) - 1, (-1 : Int), Builtin.Slice.slicePlaces ((n : Int) - 1) (-1) (-1))) _ _ s
  rw [places_rev]
  exact wpAny_pure h
theorem fm_congr {α γ : Type} {f g : α → Option γ} : ∀ {l : List α}, (∀ k ∈ l, f k = g k) → l.filterMap f = l.filterMap g
  | [], _ => rfl
  | a :: l, h => by rw [List.filterMap_cons, List.filterMap_cons, h a List.mem_cons_self, fm_congr fun k hk => h k (List.mem_cons_of_mem _ hk)]
theorem pick_rev (xs : Array Value) : ((List.range xs.size).filterMap fun (k : Nat) => xs[(((xs.size : Int) - 1) + (k : Int) * -1).toNat]?).toArray = xs.toList.reverse.toArray := by
  congr 1
  have e : ∀ k ∈ List.range xs.size, xs[(((xs.size : Int) - 1) + (k : Int) * -1).toNat]? = xs.toList.reverse[k]? := fun k hk => by
    have hk := List.mem_range.mp hk
    have e1 : (((xs.size : Int) - 1) + (k : Int) * -1).toNat = xs.size - 1 - k := by omega
    rw [e1, List.getElem?_reverse (by simpa using hk), Array.getElem?_toList, Array.length_toList]
  have e2 : (List.range xs.size).filterMap (fun (k : Nat) => xs[(((xs.size : Int) - 1) + (k : Int) * -1).toNat]?) = (List.range xs.size).filterMap fun k => xs.toList.reverse[k]? := fm_congr e
  rw [e2]
  have e3 : ∀ (l : List Value), (List.range l.length).filterMap (fun k => l[k]?) = l := fun l => by
    induction l with
    | nil => rfl
    | cons a l ih =>
      rw [List.length_cons, List.range_succ_eq_map, List.filterMap_cons]
      simp only [List.getElem?_cons_zero, List.filterMap_map]
      congr 1
  have := e3 xs.toList.reverse
  rw [List.length_reverse, Array.length_toList] at this
  exact this
theorem getItem_tuple_rev {t sl : Addr} {items : Array Value} {vl vu vs : Value} {Q : Value → Shared → Prop} (ht : IsTup s.heap t items) (hs : s.heap.IsSliceOf sl vl vu vs) (pl : IsPart vl none) (pu : IsPart vu none) (ps : IsPart vs (some (-1)))
    (h : Q (.ref s.heap.objs.size) { s with heap := s.heap.push { cls := .type "tuple", data := .seq items.toList.reverse.toArray } }) (hsz : items.size ≤ sizeLine) : wpAny (model prog w) A (getItem (.ref t) (.ref sl)) Q E s := by
  have hz : sizeOk (.seq items.toList.reverse.toArray) := by
    show items.toList.reverse.toArray.size ≤ sizeLine
    rw [List.size_toArray, List.length_reverse, Array.length_toList]
    exact hsz
  obtain ⟨os, hos, hcs, hds⟩ := id hs
  have hTs : s.TypeIs (.ref sl) "slice" := ⟨os, hos, hcs⟩
  unfold getItem
  try with_reducible refine wpAny_holding ?_
  first | refine wpAny_bind (wpAny_pure ?_) | skip
  refine wpAny_bind (wpAny_sequenceKey ht.typeIs (by decide) (wpAny_bind (wpAny_callSpecial?_slot (name := Str.ofString "__getitem__") ht.typeIs PyProof.Rows.slot_tuple_getitem
    (wpAny_call_entry PyProof.Rows.slot_tuple_getitem ht.typeIs PyProof.Rows.entry_tuple_getitem ?_ (PyProof.Rows.args_tuple_getitem _ _)))))
  show wpAny _ _ (Builtin.Tuple.tupleItemsOf (.ref t) >>= _) _ _ s
  refine wpAny_bind (tupleItemsOf_ ht (wpAny_bind (wpAny_typeOf hTs ?_)))
  rw [if_pos (by decide)]
  refine wpAny_bind (sliceApplied_rev hs pl pu ps ?_)
  have hno : ¬ ((((items.size : Int) - 1) == 0 && (-1 : Int) == 1 && items.size == items.size) = true) := by
    rw [Bool.and_eq_true, Bool.and_eq_true]
    intro q
    exact absurd q.1.2 (by decide)
  show wpAny _ _ (if (((items.size : Int) - 1) == 0 && (-1 : Int) == 1 && items.size == items.size) = true then _ else _) _ _ s
  rw [if_neg hno, pick_rev]
  first
    | exact wpAny_bind (m := Builtin.Tuple.tupleExact _) (wpAny_newObj_type (wpAny_pure ⟨_, rfl, wpAny_pure h⟩) hz)
    | exact wpAny_bind (m := Builtin.Tuple.tupleExact _) (wpAny_newObj_type (wpAny_bind (wpAny_pure (wpAny_pure ⟨_, rfl, wpAny_pure h⟩))) hz)
    | exact wpAny_bind (wpAny_bind (m := Builtin.Tuple.tupleExact _) (wpAny_newObj_type (wpAny_pure (wpAny_pure ⟨_, rfl, wpAny_pure h⟩)) hz))
    | exact wpAny_bind (wpAny_bind (m := Builtin.Tuple.tupleExact _) (wpAny_newObj_type (wpAny_pure ⟨_, rfl, wpAny_pure h⟩) hz))
end
def tRevT (K : PySem.W.Frag) (te : TE) : TE := fun σ H Q => te σ H fun x H1 => ∃ a xs, x = .ref a ∧ SqT K H1 a xs ∧ ∀ p, H1 p = none → Q (.ref p) (upd H1 p (.tup xs.reverse))
section
variable {X : Cx}
theorem pe_revT {e : Expr} {te : TE} {k : Nat} {p1 p2 p3 pos : Pos} (he : PE X e te) : PE X (.Subscript e (.Slice none none (some (.UnaryOp .USub (.Constant (.int 1) k p1) p2)) p3) pos) (tRevT X.K te) := by
  refine ⟨fun pins s σ H Q I h => Subscript_ (L2.thn (he.run pins s σ H _ I h) fun v s1 ⟨x, H1, I1, r1, q1⟩ => ?_)⟩
  obtain ⟨a, xs, ex, hx, q⟩ := q1
  subst ex
  cases r1
  have hst : PO X (some (.UnaryOp .USub (.Constant (.int 1) k p1) p2)) (tPart (tUn (rU fun i => .int (-i)) (tC (.int 1)))) := po_some (pe_un un_neg pe_int)
  refine wpAny_Slice (L2.thn (po_none.run pins s1 σ H1 (fun o H2 => o = none ∧ H2 = H1) I1 ⟨rfl, rfl⟩) fun vl s2 ⟨l, H2, I2, pl, el, e2⟩ => ?_)
  subst el e2
  refine L2.thn (po_none.run pins s2 σ H2 (fun o H3 => o = none ∧ H3 = H2) I2 ⟨rfl, rfl⟩) fun vu s3 ⟨u, H3, I3, pu, eu, e3⟩ => ?_
  subst eu e3
  refine L2.thn (hst.run pins s3 σ H3 (fun o H4 => o = some (-1) ∧ H4 = H3) I3 ⟨1, rfl, -1, rfl, rfl, rfl⟩) fun vs s4 ⟨o, H4, I4, ps, eo, e4⟩ => ?_
  subst eo e4
  have I5 : Inv X pins σ H4 { s4 with heap := s4.heap.push { cls := .type "slice", data := .fields #[vl, vu, vs] } } := I4.kept (t' := s4.toks) fun b ob q => Heap.get?_push_of_some _ q
  obtain ⟨its, r, ht, hz⟩ := I5.tuple hx
  have hlen := r.length
  show wpAny (model X.prog X.w) X.A (subscriptTail e (.Slice none none (some (.UnaryOp .USub (.Constant (.int 1) k p1) p2)) p3) (.ref a) (.ref s4.heap.objs.size)) (EP X pins σ Q) X.xe { s4 with heap := s4.heap.push { cls := .type "slice", data := .fields #[vl, vu, vs] } }
  refine tail_any (ops := [.ref a, .ref s4.heap.objs.size]) ht.typeIs (PyProof.Rows.slot_tuple_getitem.lookup) ?_ (by with_unfolding_all rfl)
  refine getItem_tuple_rev ht (Heap.IsSliceOf.new _ vl vu vs) pl pu ps ?_ (by rw [List.size_toArray]; omega)
  refine ⟨.ref _, _, I5.laid (t' := s4.toks) (o := .tup xs.reverse) (fun b ob q => Heap.get?_push_of_some _ q) (Nat.le_refl _) ?_, rfl, q _ (I5.hok.fresh (Nat.le_refl _))⟩
  exact ⟨by rw [List.length_reverse]; exact hz, _, r.reverse, IsTup.new _ _⟩
end
section
variable {β : Type} [Sto β] [Kind β]
def fRev : D → Option R
  | .tup ds => some (.val (.tup ds.reverse))
  | _ => none
def mRev (a : Mn β R) : Mn β R := mBind a fun r st => match pk r st with
  | some (.tup ds) => some (.val (.tup ds.reverse), st)
  | _ => none
theorem se_rev {X : Cx} {e : Expr} {a : Mn β R} {k : Nat} {p1 p2 p3 pos : Pos} (he : PE X e (tE a)) (hK : X.K = Wrt.K := by rfl) : PE X (.Subscript e (.Slice none none (some (.UnaryOp .USub (.Constant (.int 1) k p1) p2)) p3) pos) (tE (mRev a)) := by
  refine peI (show PE X _ (tRevT Wrt.K (tE a)) from hK ▸ pe_revT he) fun σ H Q q => ?_
  obtain ⟨c, F, st, res, st', rl, e, k⟩ := q
  obtain ⟨r, s1, e1, e⟩ := mBind_some e
  refine ⟨c, F, st, r, s1, rl, e1, fun x H1 F1 t1 h1 => ?_⟩
  split at e
  · rename_i ds p1
    simp only [Option.some.injEq, Prod.mk.injEq] at e
    obtain ⟨rfl, rfl⟩ := e
    have hp := pk_ok t1.rel h1 p1
    simp only [Pk, Rep] at hp
    obtain ⟨a, xs, rfl, ha, hl⟩ := hp
    refine ⟨a, xs, rfl, ha.sq, fun p hp => ?_⟩
    obtain ⟨F3, t3, h3⟩ := out_ok t1.rel (Out.tup (rv := c.R.val) hp hl.reverse)
    exact k _ _ F3 (t1.trans t3) (h3.hs fun x hx => t1.gone hx)
  · cases e
end
end M

/-! MIs: is, is not between bools. -/
namespace M
open PySem L2
variable [Wrt]
def fIsB (neg : Bool) : D → D → Option R
  | .bl a, .bl b => some (.val (.bl (if neg then !decide (a = b) else decide (a = b))))
  | _, _ => none
@[simp] theorem fIsB_b (neg a b : Bool) : fIsB neg (.bl a) (.bl b) = some (.val (.bl (if neg then !decide (a = b) else decide (a = b)))) := rfl
theorem ok_isB : Ok2 (fun x y H Q => ∃ a b, x = .bl a ∧ y = .bl b ∧ Q (.bl (decide (a = b))) H) (fIsB false) := fun H F rv x y d e res Q hx hy he k => by
  unfold fIsB at he
  split at he
  · rename_i a b
    simp only [Option.some.injEq] at he
    subst he
    simp only [Pk, Rep] at hx hy
    exact ⟨a, b, hx, hy, k _ _ (.same (by simp [Rep]))⟩
  · cases he
theorem ok_isnotB : Ok2 (fun x y H Q => ∃ a b, x = .bl a ∧ y = .bl b ∧ Q (.bl (!decide (a = b))) H) (fIsB true) := fun H F rv x y d e res Q hx hy he k => by
  unfold fIsB at he
  split at he
  · rename_i a b
    simp only [Option.some.injEq] at he
    subst he
    simp only [Pk, Rep] at hx hy
    exact ⟨a, b, hx, hy, k _ _ (.same (by simp [Rep]))⟩
  · cases he
end M

/-! MDisp: displays of dicts, a list many times, sorted whole numbers. -/
namespace M
open PySem PySem.Spec PyProof.Rows L2
variable [Wrt]
variable {β : Type} [Sto β] [Kind β]
/-! ### {} -/
def mDic0 : Mn β R := fun st => some (.new (.dic [] []), st)
theorem se_dic0 {X : Cx} {pos : Pos} : PE X (.Dict [] [] pos) (tE (mDic0 (β := β))) := peI pe_dnewK fun σ H Q q => by
  obtain ⟨c, F, st, r, st', rl, e, k⟩ := q
  simp only [mDic0, Option.some.injEq, Prod.mk.injEq] at e
  obtain ⟨rfl, rfl⟩ := e
  intro p hp
  obtain ⟨F', t, h⟩ := out_ok rl (Out.dic (rv := c.R.val) (ks := []) (ds := []) (xs := []) hp rfl .nil)
  exact k _ _ F' t h
/-! ### {k: v, ..} -/
section
variable {c : C β} {F F1 F2 : Gh} {st st2 : Sta β} {σ : L2.St} {H H2 : Hp}
/-- a new object, still no one's, changes -/
theorem Rel.upd_free {p : Addr} {o : HO} (r : Rel c F st σ H) (hF : F p) (hf : ¬ c.R.foot p) (ho : ¬ Bsy st σ F p) (h0 : c.H0 p = none) : Rel c F st σ (upd H p o) := by
  have wk : Kp H F (upd H p o) F := ⟨fun a u e nf => ⟨by rw [upd_ne (fun z => nf (by rw [z]; exact hF))]; exact e, nf⟩, fun _ _ h => h⟩
  refine ⟨r.len, fun i s hi => ?_, r.uniq, fun a u e nf => ?_, c.R.keep _ _ _ r.bag fun a u ha e => ?_, r.f0, fun a ha => ?_, r.nl, r.mu0, r.ln, r.sto.mono wk rfl (fun b hb => (r.loc_f hb).1) (fun b u e => upd_dom e) fun b u hb e => (upd_ne (fun (z : b = p) => ho (.inr (z ▸ hb)))).trans e⟩
  · have q := r.slot i s hi
    cases s with
    | no => trivial
    | val d => obtain ⟨v, e, hr⟩ := q; exact ⟨v, e, hr.mono wk⟩
    | own d =>
      obtain ⟨x, e, hr, hx, hx0⟩ := q
      refine ⟨x, e, hr.mono wk (fun u z => ?_), hx, hx0⟩
      rw [upd_ne (fun z => ho (.inl (by rw [← z]; exact ⟨i, d, hi, e⟩)))]
      exact z
    | lock d =>
      obtain ⟨x, e, hr, hx, ⟨u0, hx0⟩⟩ := q
      refine ⟨x, e, hr.mono wk (fun u z => ?_), hx, ⟨u0, hx0⟩⟩
      rw [upd_ne (fun z => by rw [z, h0] at hx0; cases hx0)]
      exact z
  · rw [upd_ne (fun z => by rw [z, h0] at e; cases e)]
    exact r.base a u e nf
  · rw [upd_ne (fun z => hf (by rw [← z]; exact ha))]
    exact e
  · by_cases z : a = p
    · rw [z]; exact ⟨_, upd_same⟩
    · rw [upd_ne z]; exact r.fs a ha
/-- a new object that was laid first and filled later -/
theorem Stp.laid {p : Addr} {o1 o2 : HO} (rl : Rel c F st σ H) (hp : H p = none) (t1 : Stp c σ (F.add p) st (upd H p o1) F2 st2 H2) : H2 p = some o1 ∧ F2 p ∧ ¬ Bsy st2 σ F2 p ∧ Stp c σ F st H F2 st2 (upd H2 p o2) := by
  have nf : ¬ c.R.foot p := rl.nofoot hp
  have no : ¬ Bsy st σ (F.add p) p := rl.nobsyA hp
  have h0 : c.H0 p = none := rl.h0 hp
  obtain ⟨e2, f2⟩ := t1.fr p o1 upd_same nf no
  have hF2 : F2 p := f2.mpr (.inr rfl)
  have no2 : ¬ Bsy st2 σ F2 p := fun z => no (t1.bsy upd_same z)
  refine ⟨e2, hF2, no2, t1.rel.upd_free hF2 nf no2 h0, fun a o e nf' no' => ?_, t1.own, fun a o e => ?_, t1.mus, fun a z => ?_⟩
  · have ne : a ≠ p := fun z => by rw [z, hp] at e; cases e
    obtain ⟨e3, f3⟩ := t1.fr a o (by rw [upd_ne ne]; exact e) nf' (fun z => no' (z.elim .inl fun z => .inr ⟨z.1, z.2.elim id fun z => absurd z ne⟩))
    refine ⟨by rw [upd_ne ne]; exact e3, f3.trans ⟨fun z => z.elim id fun z => absurd z ne, .inl⟩⟩
  · have ne : a ≠ p := fun z => by rw [z, hp] at e; cases e
    obtain ⟨o', e3⟩ := t1.dom a o (by rw [upd_ne ne]; exact e)
    exact ⟨o', by rw [upd_ne ne]; exact e3⟩
  · rcases t1.lo a z with z | z | z
    · rcases z with ⟨z, zf | zf⟩
      · exact .inl ⟨z, zf⟩
      · obtain ⟨n, z⟩ := z
        exact absurd (zf ▸ z) (rl.nomu hp n)
    · exact .inr (.inl z)
    · by_cases e : a = p
      · rw [e]; exact .inr (.inr hp)
      · rw [upd_ne e] at z; exact .inr (.inr z)
end
def mPairs : List (Mn β D × Mn β D) → Mn β (List (D × D))
  | [] => fun st => some ([], st)
  | (mk, mv) :: r => mBind mk fun k => mBind mv fun v => mBind (mPairs r) fun ps st => some ((k, v) :: ps, st)
def PRep (H : Hp) (F : Gh) (rv : V) (ps : List (D × D)) (xs : List (V × V)) : Prop := RepL H F rv (ps.map (·.1)) (xs.map (·.1)) ∧ RepL H F rv (ps.map (·.2)) (xs.map (·.2))
theorem pairs_reads {c : C β} : ∀ (l : List (Mn β D × Mn β D)) {σ : L2.St} {H : Hp} {Q : List (V × V) → Hp → Prop} {F : Gh} {st : Sta β} {ps : List (D × D)} {st' : Sta β}, Rel c F st σ H → mPairs l st = some (ps, st') →
    (∀ xs H' F', Stp c σ F st H F' st' H' → PRep H' F' c.R.val ps xs → Q xs H') → tPairs (l.map fun p => (tDt p.1, tDt p.2)) σ H Q
  | [], σ, H, Q, F, st, ps, st', rl, e, k => by
    simp only [mPairs, Option.some.injEq, Prod.mk.injEq] at e
    obtain ⟨rfl, rfl⟩ := e
    exact k [] H F (.refl rl) ⟨by simp [RepL], by simp [RepL]⟩
  | (mk, mv) :: r, σ, H, Q, F, st, ps, st', rl, e, k => by
    simp only [mPairs] at e
    obtain ⟨dk, s1, e1, e⟩ := mBind_some e
    obtain ⟨dv, s2, e2, e⟩ := mBind_some e
    obtain ⟨qs, s3, e3, e⟩ := mBind_some e
    simp only [Option.some.injEq, Prod.mk.injEq] at e
    obtain ⟨rfl, rfl⟩ := e
    refine ⟨c, F, st, dk, s1, rl, e1, fun x H1 F1 t1 h1 => ⟨c, F1, s1, dv, s2, t1.rel, e2, fun y H2 F2 t2 h2 => ?_⟩⟩
    refine pairs_reads r t2.rel e3 fun xs H3 F3 t3 h3 => ?_
    refine k _ H3 F3 ((t1.trans t2).trans t3) ⟨?_, ?_⟩
    · exact .cons (t3.rep t2.rel (t2.rep t1.rel h1)) h3.1
    · exact .cons (t3.rep t2.rel h2) h3.2
def keysOf : List D → Option (List Key)
  | [] => some []
  | d :: ds => match keyOf d with
    | some k => (keysOf ds).map (k :: ·)
    | none => none
theorem keysOf_rep {H : Hp} {F : Gh} {rv : V} : ∀ {ds : List D} {ks : List Key} {xs : List V}, RepL H F rv ds xs → keysOf ds = some ks → xs = ks.map kV
  | [], _, _, h, e => by
    simp only [keysOf, Option.some.injEq] at e
    subst e
    simpa [RepL] using h
  | d :: ds, _, _, h, e => by
    simp only [RepL] at h
    obtain ⟨v, r, rfl, h1, h2⟩ := h
    simp only [keysOf] at e
    cases q : keyOf d with
    | none => rw [q] at e; cases e
    | some k =>
      rw [q] at e
      simp only at e
      cases q2 : keysOf ds with
      | none => rw [q2] at e; cases e
      | some ks =>
        rw [q2] at e
        cases e
        rw [keyOf_rep h1 q, keysOf_rep h2 q2]
        rfl
/-- the pairs put one after the other -/
def dispG {α : Type} : List Key → List α → List Key → List α → List Key × List α
  | ak, av, k :: ks, x :: xs => dispG (dPutK ak k) (dPutV ak av k x) ks xs
  | ak, av, _, _ => (ak, av)
theorem disp_rep {H : Hp} {F : Gh} {rv : V} : ∀ {ks : List Key} {ds : List D} {vs : List V} {ak : List Key} {ad : List D} {av : List V}, RepL H F rv ds vs → RepL H F rv ad av → ak.length = ad.length →
    mergeK (ak.zip av) (ks.zip vs) = (dispG ak ad ks ds).1.zip (dispG ak av ks vs).2 ∧ (dispG ak ad ks ds).1.length = (dispG ak ad ks ds).2.length ∧ RepL H F rv (dispG ak ad ks ds).2 (dispG ak av ks vs).2
  | [], ds, vs, ak, ad, av, _, h, hl => by
    simp only [dispG, List.zip_nil_left]
    exact ⟨rfl, hl, h⟩
  | k :: ks, [], vs, ak, ad, av, h0, h, hl => by
    simp only [RepL] at h0
    subst h0
    simp only [dispG, List.zip_nil_right]
    exact ⟨rfl, hl, h⟩
  | k :: ks, d :: ds, _, ak, ad, av, h0, h, hl => by
    simp only [RepL] at h0
    obtain ⟨v, r, rfl, h1, h2⟩ := h0
    have hla : ak.length = av.length := by rw [h.length]; exact hl
    obtain ⟨e1, e2, e3⟩ := disp_rep (ks := ks) h2 (putV_rep (q := k) h1 (ks := ak) h) (putV_len hl)
    refine ⟨?_, e2, e3⟩
    rw [List.zip_cons_cons]
    show mergeK (putK (ak.zip av) k v) (ks.zip r) = _
    rw [put_zip hla]
    exact e1
def mDisp (l : List (Mn β D × Mn β D)) : Mn β R := mBind (mPairs l) fun ps st => match keysOf (ps.map (·.1)) with
  | some ks => some (.new (.dic (dispG [] [] ks (ps.map (·.2))).1 (dispG [] [] ks (ps.map (·.2))).2), st)
  | none => none
theorem keysOf_len : ∀ {ds : List D} {ks : List Key}, keysOf ds = some ks → ks.length = ds.length
  | [], _, e => by
    simp only [keysOf, Option.some.injEq] at e
    subst e
    rfl
  | d :: ds, _, e => by
    simp only [keysOf] at e
    cases q : keyOf d with
    | none => rw [q] at e; cases e
    | some k =>
      rw [q] at e
      simp only at e
      cases q2 : keysOf ds with
      | none => rw [q2] at e; cases e
      | some ks =>
        rw [q2] at e
        cases e
        rw [List.length_cons, List.length_cons, keysOf_len q2]
theorem zip_back : ∀ {xs : List (V × V)} {ks : List Key}, xs.map (·.1) = ks.map kV → xs = (ks.zip (xs.map (·.2))).map fun kv => (kV kv.1, kv.2)
  | [], ks, _ => by simp
  | x :: xs, [], h => by simp at h
  | x :: xs, k :: ks, h => by
    simp only [List.map_cons, List.cons.injEq] at h
    simp only [List.map_cons, List.zip_cons_cons]
    rw [← zip_back h.2, ← h.1]
theorem mPairs_len : ∀ (l : List (Mn β D × Mn β D)) {st st' : Sta β} {ps : List (D × D)}, mPairs l st = some (ps, st') → ps.length = l.length
  | [], _, _, _, e => by
    simp only [mPairs, Option.some.injEq, Prod.mk.injEq] at e
    obtain ⟨rfl, rfl⟩ := e
    rfl
  | (mk, mv) :: r, _, _, _, e => by
    simp only [mPairs] at e
    obtain ⟨dk, s1, e1, e⟩ := mBind_some e
    obtain ⟨dv, s2, e2, e⟩ := mBind_some e
    obtain ⟨qs, s3, e3, e⟩ := mBind_some e
    simp only [Option.some.injEq, Prod.mk.injEq] at e
    obtain ⟨rfl, rfl⟩ := e
    rw [List.length_cons, List.length_cons, mPairs_len r e3]
theorem se_disp {X : Cx} {pos : Pos} {keys : List (Option Expr)} {values : List Expr} {l : List (Mn β D × Mn β D)} (h : PPs X pos keys values (l.map fun p => (tDt p.1, tDt p.2))) (hall : keys.all (·.isSome) = true) (hl : keys.length = values.length) (h0 : keys ≠ []) (h15 : keys.length ≤ 15) (hn : l.length ≤ 15 := by decide) :
    PE X (.Dict keys values pos) (tE (mDisp l)) := peI (pe_disp h hall hl h0 h15) fun σ H Q q => by
  obtain ⟨c, F, st, r, st', rl, e, k⟩ := q
  obtain ⟨ps, s1, e1, e⟩ := mBind_some e
  split at e
  · rename_i ks hk
    simp only [Option.some.injEq, Prod.mk.injEq] at e
    obtain ⟨rfl, rfl⟩ := e
    intro p hp
    have hnp : ¬ F p := fun z => by
      obtain ⟨o, e⟩ := rl.fs p z
      rw [hp] at e
      cases e
    have t0 : Stp c σ F st H (F.add p) st (upd H p (.dK [])) := .grow rl (upd_keep hp) (fun _ h => .inl h) (fun a h => by
      rcases h with h | h
      · exact .inl h
      · subst h; exact .inr ⟨hp, _, upd_same⟩)
    refine pairs_reads l t0.rel e1 fun xs H2 F2 t1 h1 => ?_
    have hxs := zip_back (keysOf_rep h1.1 hk)
    obtain ⟨m1, m2, m3⟩ := disp_rep (H := H2) (F := F2) (rv := c.R.val) (ks := ks) (ak := []) (ad := []) (av := []) h1.2 .nil rfl
    obtain ⟨l1, l2, l3, l4⟩ := Stp.laid (o2 := .dK (mergeK [] (ks.zip (xs.map (·.2))))) rl hp t1
    refine ⟨l1, ks.zip (xs.map (·.2)), hxs, ?_, ?_⟩
    · have h3 := keysOf_len hk
      rw [List.length_map, mPairs_len l e1] at h3
      rw [List.length_zip]
      exact Nat.le_trans (Nat.min_le_left _ _) (by omega)
    · refine k _ _ F2 l4 ⟨p, rfl, ?_, l2, hp, l3⟩
      refine ⟨_, ?_, m2, m3.mono ⟨fun a o e nf => ⟨by rw [upd_ne (fun z => nf (by rw [z]; exact l2))]; exact e, nf⟩, fun _ _ h => h⟩⟩
      rw [upd_same]
      exact congrArg (fun z => some (HO.dK z)) m1
  · cases e
/-! ### a list many times -/
noncomputable def repOk (k : Int) (n : Nat) : Bool := @decide (-(2 ^ 63) ≤ k ∧ k < 2 ^ 63 ∧ n * k.toNat ≤ line) (Classical.propDecidable _)
noncomputable def fRep : D → D → Option R
  | .lst ds, .int k => if repOk k ds.length = true then some (.new (.lst (List.replicate k.toNat ds).flatten)) else none
  | _, _ => none
theorem RepL.flat {H : Hp} {F : Gh} {rv : V} {ds : List D} {vs : List V} (h : RepL H F rv ds vs) : ∀ n, RepL H F rv (List.replicate n ds).flatten (List.replicate n vs).flatten
  | 0 => by simp [RepL]
  | n + 1 => by
    rw [List.replicate_succ, List.flatten_cons, List.replicate_succ, List.flatten_cons]
    exact h.append (RepL.flat h n)
theorem ok_rep : Ok2 rRep fRep := fun H F rv x y d e res Q hx hy he k => by
  cases d with
  | lst ds =>
    cases e with
    | int i =>
      simp only [fRep] at he
      split at he
      · rename_i hc
        cases he
        have hc := @of_decide_eq_true _ (Classical.propDecidable _) hc
        obtain ⟨a, xs, rfl, ha, hl⟩ := hx
        exact ⟨a, i, xs, rfl, pk_i hy, ha, hc.1, hc.2.1, by rw [hl.length, ← line_eq]; exact hc.2.2, fun p hp => k _ _ (.lst hp (hl.flat _))⟩
      · cases he
    | _ => cases he
  | _ => cases e <;> cases he
/-! ### sorted -/
def intsOf : List D → Option (List Int)
  | [] => some []
  | .int i :: ds => (intsOf ds).map (i :: ·)
  | _ => none
theorem intsOf_map : ∀ ns : List Int, intsOf (ns.map D.int) = some ns
  | [] => rfl
  | n :: ns => by simp [intsOf, intsOf_map ns]
theorem intsOf_eq : ∀ {ds : List D} {ns : List Int}, intsOf ds = some ns → ds = ns.map D.int
  | [], _, e => by simp [intsOf] at e; subst e; rfl
  | .int i :: ds, _, e => by
    simp only [intsOf] at e
    cases h : intsOf ds with
    | none => rw [h] at e; cases e
    | some ms =>
      rw [h] at e
      cases e
      rw [intsOf_eq h]
      rfl
  | .non :: _, _, e => by cases e
  | .bl _ :: _, _, e => by cases e
  | .str _ :: _, _, e => by cases e
  | .res :: _, _, e => by cases e
  | .tup _ :: _, _, e => by cases e
  | .lst _ :: _, _, e => by cases e
  | .dic _ _ :: _, _, e => by cases e
  | .dit _ _ :: _, _, e => by cases e
theorem ints_rep {H : Hp} {F : Gh} {rv : V} : ∀ {ns : List Int} {xs : List V}, RepL H F rv (ns.map D.int) xs → xs = ns.map V.int
  | [], _, h => by simpa [RepL] using h
  | n :: ns, _, h => by
    simp only [List.map_cons, RepL] at h
    obtain ⟨v, r, rfl, h1, h2⟩ := h
    simp only [Rep] at h1
    rw [h1, ints_rep h2]
    rfl
/-- in order -/
def srt (ns : List Int) : List Int := ns.mergeSort fun a b => decide (a ≤ b)
theorem srt_perm (ns : List Int) : (srt ns).Perm ns := List.mergeSort_perm _ _
theorem srt_le (ns : List Int) : (srt ns).Pairwise (· ≤ ·) := by
  have h := List.pairwise_mergeSort (le := fun (a b : Int) => decide (a ≤ b)) (fun a b c h1 h2 => by simp only [decide_eq_true_eq] at *; omega) (fun a b => by simp only [Bool.or_eq_true, decide_eq_true_eq]; omega) ns
  exact h.imp fun h => of_decide_eq_true h
theorem srt_uniq {ns ms : List Int} (h : ms.Perm ns) (h2 : ms.Pairwise (· ≤ ·)) : ms = srt ns :=
  List.Perm.eq_of_pairwise (le := (· ≤ ·)) (fun a b _ _ h1 h2 => by omega) h2 (srt_le ns) (h.trans (srt_perm ns).symm)
/-- tuples of ints, none of them empty -/
def intssOf : List D → Option (List (List Int))
  | [] => some []
  | .tup ds :: r => match intsOf ds with
    | none => none
    | some ns => if ns.isEmpty = true then none else match intssOf r with
      | none => none
      | some nss => some (ns :: nss)
  | _ :: _ => none
def ascL (nss : List (List Int)) : Prop := nss.Pairwise fun x y => lexL y x = false
instance (nss : List (List Int)) : Decidable (ascL nss) := by unfold ascL; infer_instance
theorem lexL_anti : ∀ {x y : List Int}, lexL x y = false → lexL y x = false → x = y
  | [], [], _, _ => rfl
  | [], _ :: _, h, _ => by simp [lexL] at h
  | _ :: _, [], _, h => by simp [lexL] at h
  | a :: x, b :: y, h1, h2 => by
    simp only [lexL] at h1 h2
    by_cases e : a = b
    · rw [if_pos e] at h1
      rw [if_pos e.symm] at h2
      rw [e, lexL_anti h1 h2]
    · rw [if_neg e] at h1
      rw [if_neg fun z => e z.symm] at h2
      have h1 := of_decide_eq_false h1
      have h2 := of_decide_eq_false h2
      omega
def srtLL (nss : List (List Int)) : List (List Int) := nss.mergeSort fun x y => !lexL y x
theorem srtLL_perm (nss : List (List Int)) : (srtLL nss).Perm nss := List.mergeSort_perm _ _
theorem srtLL_asc (nss : List (List Int)) : ascL (srtLL nss) := by
  have h := List.pairwise_mergeSort (le := fun x y => !lexL y x) (fun a b c h1 h2 => by
    simp only [Bool.not_eq_true'] at *
    exact lexL_tr a b c h1 h2) (fun a b => by
    cases h : lexL b a
    · rfl
    · simp [lexL_asym _ _ h]) nss
  exact h.imp fun h => by simpa using h
theorem srtLL_uniq {nss mss : List (List Int)} (h : mss.Perm nss) (h2 : ascL mss) : mss = srtLL nss :=
  List.Perm.eq_of_pairwise (le := fun x y => lexL y x = false) (fun a b _ _ h1 h2 => lexL_anti h2 h1) h2 (srtLL_asc nss) (h.trans (srtLL_perm nss).symm)
theorem srtLL_self {nss : List (List Int)} (h : ascL nss) : srtLL nss = nss := (srtLL_uniq (.refl _) h).symm
def fSorted : List D → Option R
  | [.lst ds] => match intsOf ds with
    | some ns => some (.new (.lst ((srt ns).map D.int)))
    | none => match intssOf ds with
      | some nss => some (.new (.lst ((srtLL nss).map fun ns => .tup (ns.map D.int))))
      | none => none
  | [.tup ds] => match intsOf ds with
    | some ns => some (.new (.lst ((srt ns).map D.int)))
    | none => none
  | _ => none
theorem intss_rep {H : Hp} {F : Gh} {rv : V} : ∀ {ds : List D} {nss : List (List Int)} {xs : List V}, intssOf ds = some nss → RepL H F rv ds xs → Paired (fun x ns => ns ≠ [] ∧ ∃ t, x = V.ref t ∧ TupAt H F t (ns.map V.int)) xs nss
  | [], _, _, e, h => by
    cases e
    simp only [RepL] at h
    subst h
    exact .nil
  | .tup ds :: r, _, _, e, h => by
    simp only [intssOf] at e
    cases hn : intsOf ds with
    | none => rw [hn] at e; cases e
    | some ns =>
      rw [hn] at e
      simp only at e
      split at e
      · cases e
      · rename_i hne
        cases hr : intssOf r with
        | none => rw [hr] at e; cases e
        | some nss =>
          rw [hr] at e
          cases e
          simp only [RepL, Rep] at h
          obtain ⟨v, xs, rfl, ⟨a, ys, rfl, ha, hl⟩, h2⟩ := h
          rw [intsOf_eq hn] at hl
          rw [ints_rep hl] at ha
          exact .cons ⟨fun z => hne (by rw [z]; rfl), a, rfl, ha⟩ (intss_rep hr h2)
  | .non :: _, _, _, e, _ => by cases e
  | .bl _ :: _, _, _, e, _ => by cases e
  | .int _ :: _, _, _, e, _ => by cases e
  | .str _ :: _, _, _, e, _ => by cases e
  | .res :: _, _, _, e, _ => by cases e
  | .loc _ :: _, _, _, e, _ => by cases e
  | .ins _ _ _ :: _, _, _, e, _ => by cases e
  | .lst _ :: _, _, _, e, _ => by cases e
  | .dic _ _ :: _, _, _, e, _ => by cases e
  | .dit _ _ :: _, _, _, e, _ => by cases e
theorem RepL.keyed {H : Hp} {F : Gh} {rv : V} {f : V → D} : ∀ {ys : List V}, (∀ y ∈ ys, Rep H F rv (f y) y) → RepL H F rv (ys.map f) ys
  | [], _ => .nil
  | y :: ys, h => .cons (h y List.mem_cons_self) (RepL.keyed fun z hz => h z (List.mem_cons_of_mem _ hz))
theorem paired_map {α γ : Type} {F : α → γ → Prop} {k : α → γ} : ∀ {xs : List α} {ys : List γ}, Paired F xs ys → (∀ x y, F x y → k x = y) → xs.map k = ys
  | _, _, .nil, _ => rfl
  | _, _, .cons h t, g => by rw [List.map_cons, g _ _ h, paired_map t g]
theorem paired_mem {α γ : Type} {F : α → γ → Prop} : ∀ {xs : List α} {ys : List γ}, Paired F xs ys → ∀ x ∈ xs, ∃ y, F x y
  | _, _, .nil, x, h => by simp at h
  | _, _, .cons h t, x, hm => by
    rcases List.mem_cons.mp hm with rfl | hm
    · exact ⟨_, h⟩
    · exact paired_mem t x hm
theorem vint_inj : ∀ {l m : List Int}, l.map V.int = m.map V.int → l = m
  | [], [], _ => rfl
  | [], _ :: _, h => by cases h
  | _ :: _, [], h => by cases h
  | a :: l, b :: m, h => by
    simp only [List.map_cons, List.cons.injEq, V.int.injEq] at h
    rw [h.1, vint_inj h.2]
theorem ok_sorted : OkC (rSortedA Wrt.K) fSorted := fun H F rv xs ds res Q hx he k => by
  unfold fSorted at he
  split at he
  · rename_i l
    split at he
    · rename_i ns hn
      cases he
      obtain ⟨v, rfl, h⟩ := pkl1 hx
      rw [intsOf_eq hn] at h
      obtain ⟨a, xs, rfl, ha, hl⟩ := h
      rw [ints_rep hl] at ha
      refine .inl ⟨a, ns, rfl, SqL.of ha, fun ns' p h1 h2 hp => ?_⟩
      rw [srt_uniq h1 h2]
      exact k _ _ (.lst hp RepL.ints)
    · split at he
      · rename_i nss hn
        cases he
        obtain ⟨v, rfl, h⟩ := pkl1 hx
        obtain ⟨a, xs, rfl, ha, hl⟩ := h
        have hp := intss_rep hn hl
        refine .inr (.inr ⟨a, xs, rfl, SqL.of ha, fun x hxm => ?_, fun kf hkf ys p h1 h2 hpn => ?_⟩)
        · obtain ⟨ns, hne, t, e, ht⟩ := paired_mem hp x hxm
          exact ⟨ns, hne, t, e, ht.sq⟩
        · have hm : xs.map kf = nss := paired_map hp fun x ns ⟨_, t, e, ht⟩ => by rw [e]; exact hkf ns t ht.sq
          have hm2 : ys.map kf = srtLL nss := srtLL_uniq (by rw [← hm]; exact h2.perm.map kf) (List.pairwise_map.mpr h1)
          rw [← hm2, List.map_map] at k
          refine k _ _ (.lst hpn (RepL.keyed fun y hy => ?_))
          obtain ⟨ns, hne, t, e, ht⟩ := paired_mem hp y (h2.perm.mem_iff.mp hy)
          have e2 : kf y = ns := by rw [e]; exact hkf ns t ht.sq
          show Rep H F rv (.tup ((kf y).map D.int)) y
          rw [e2, e]
          simp only [Rep]
          exact ⟨t, _, rfl, ht, RepL.ints⟩
      · cases he
  · rename_i l
    split at he
    · rename_i ns hn
      cases he
      obtain ⟨v, rfl, h⟩ := pkl1 hx
      rw [intsOf_eq hn] at h
      simp only [Pk, Rep] at h
      obtain ⟨a, xs, rfl, ha, hl⟩ := h
      rw [ints_rep hl] at ha
      refine .inr (.inl ⟨a, ns, rfl, ha.sq, fun ns' p h1 h2 hp => ?_⟩)
      rw [srt_uniq h1 h2]
      exact k _ _ (.lst hp RepL.ints)
    · cases he
  · cases he
@[simp] theorem fSorted_i (ns : List Int) : fSorted [.lst (ns.map D.int)] = some (.new (.lst ((srt ns).map D.int))) := by
  simp only [fSorted, intsOf_map]
@[simp] theorem fSorted_ti (ns : List Int) : fSorted [.tup (ns.map D.int)] = some (.new (.lst ((srt ns).map D.int))) := by
  simp only [fSorted, intsOf_map]
@[simp] theorem mDic0_ap (st : Sta β) : mDic0 st = some (.new (.dic [] []), st) := rfl
/-- tuple(range(n)) -/
noncomputable def mTR1 (a : Mn β R) : Mn β R := mBind a fun r st => match r with
  | .val (.int n) => if lrOk 0 n = true then some (.val (.tup (rgL 0 n.toNat)), st) else none
  | _ => none
theorem se_tr1 {X : Cx} {e : Expr} {a : Mn β R} {p p2 pos pos2 : Pos} (hc : X.calm = true) (hg : Gl X "tuple") (hm : X.mg "tuple" = none) (hg2 : Gl X "range") (hm2 : X.mg "range" = none) (ha : PE X e (tE a))
    (na : starEach [e] X.env = (false, eval e X.env) :: starEach [] X.env := by rfl) (na2 : starEach [.Call (.Name "range" p2) [e] [] pos2] X.env = (false, eval (.Call (.Name "range" p2) [e] [] pos2) X.env) :: starEach [] X.env := by rfl) :
    PE X (.Call (.Name "tuple" p) [.Call (.Name "range" p2) [e] [] pos2] [] pos) (tE (mTR1 a)) := by
  refine peI (pe_tupRg hc hg hm (prg_1 hg2 hm2 ha na) na2) fun σ H Q q => ?_
  obtain ⟨c, F, st, res, st', rl, e, k⟩ := q
  obtain ⟨r1, s1, e1, e⟩ := mBind_some e
  refine ⟨c, F, st, r1, s1, rl, e1, fun x H1 F1 t1 h1 => ?_⟩
  split at e
  · rename_i n
    split at e
    · rename_i hl
      simp only [Option.some.injEq, Prod.mk.injEq] at e
      obtain ⟨rfl, rfl⟩ := e
      have h1' : Rep H1 F1 c.R.val (.int n) x := h1
      simp only [Rep] at h1'
      unfold lrOk at hl
      rw [Bool.and_eq_true, Bool.and_eq_true] at hl
      obtain ⟨⟨g1, g2⟩, g3⟩ := hl
      refine ⟨n, h1', ⟨(rgOk_iff g1).1, (rgOk_iff g1).2, (rgOk_iff g2).1, (rgOk_iff g2).2, of_decide_eq_true g3⟩, fun p hp => ?_⟩
      have h0 : (n - 0).toNat = n.toNat := by rw [Int.sub_zero]
      obtain ⟨F3, t3, h3⟩ := out_ok t1.rel (Out.tup (rv := c.R.val) (ds := rgL 0 n.toNat) hp (by rw [← h0]; exact rgV_rep))
      exact k _ _ F3 (t1.trans t3) (h3.hs fun x hx => t1.gone hx)
    · cases e
  · cases e
end M

/-! MDit: dicts whose keys are tuples. -/
namespace M
open PySem PySem.Spec PyProof.Rows L2
variable [Wrt]
section
variable {κ α : Type} [DecidableEq κ]
def gHas (ks : List κ) (q : κ) : Bool := ks.any fun k => decide (k = q)
def gGet : List κ → List α → κ → Option α
  | k :: ks, x :: xs, q => if k = q then some x else gGet ks xs q
  | _, _, _ => none
def gPutV (ks : List κ) (xs : List α) (q : κ) (y : α) : List α := if gHas ks q = true then List.zipWith (fun k x => if k = q then y else x) ks xs else xs ++ [y]
theorem gPutV_len {ks : List κ} {xs : List α} {q : κ} {y : α} (h : ks.length = xs.length) : (gPutV ks xs q y).length = (if gHas ks q = true then ks.length else ks.length + 1) := by
  unfold gPutV
  split
  · rw [List.length_zipWith, h, Nat.min_self]
  · simp [h]
end
/-- the keys with their places behind d[k] = .. -/
def kaPut (kas : List (NestedKey × Addr)) (k : NestedKey) (b : Addr) : List (NestedKey × Addr) := if gHas (kas.map (·.1)) k = true then kas else kas ++ [(k, b)]
def kaItems (kas : List (NestedKey × Addr)) (vs : List Value) : List (NestedKey × Addr × Value) := List.zipWith (fun p v => (p.1, p.2, v)) kas vs
theorem kaItems_len {kas : List (NestedKey × Addr)} {vs : List Value} (h : vs.length = kas.length) : (kaItems kas vs).length = kas.length := by
  unfold kaItems
  rw [List.length_zipWith, h, Nat.min_self]
theorem kaItems_keys : ∀ {kas : List (NestedKey × Addr)} {vs : List Value}, vs.length = kas.length → (kaItems kas vs).map (·.1) = kas.map (·.1)
  | [], _, _ => rfl
  | _ :: _, [], h => by simp at h
  | p :: kas, v :: vs, h => by
    show _ :: (kaItems kas vs).map _ = _ :: _
    rw [kaItems_keys (by simpa using h)]
theorem kaItems_mem : ∀ {kas : List (NestedKey × Addr)} {vs : List Value} {x : NestedKey × Addr × Value}, x ∈ kaItems kas vs → (x.1, x.2.1) ∈ kas
  | [], _, _, h => by simp [kaItems] at h
  | _ :: _, [], _, h => by simp [kaItems] at h
  | p :: kas, v :: vs, x, h => by
    rcases List.mem_cons.mp (show x ∈ (p.1, p.2, v) :: kaItems kas vs from h) with h | h
    · subst h; exact List.mem_cons_self
    · exact List.mem_cons_of_mem _ (kaItems_mem h)
theorem kaItems_at {k : NestedKey} : ∀ {kas : List (NestedKey × Addr)} {vs : List Value}, vs.length = kas.length → (atKey (kaItems kas vs) k).map (·.2) = gGet (kas.map (·.1)) vs k
  | [], _, _ => by simp [kaItems, atKey, gGet]
  | _ :: _, [], h => by simp at h
  | p :: kas, v :: vs, h => by
    have ih := kaItems_at (k := k) (kas := kas) (vs := vs) (by simpa using h)
    show (atKey ((p.1, p.2, v) :: kaItems kas vs) k).map _ = gGet (p.1 :: kas.map (·.1)) (v :: vs) k
    by_cases e : p.1 = k
    · simp [atKey, gGet, e]
    · rw [gGet, if_neg e, ← ih]
      simp [atKey, List.find?_cons, e]
theorem gGet_some {κ α : Type} [DecidableEq κ] {q : κ} : ∀ {ks : List κ} {xs : List α}, ks.length = xs.length → (gGet ks xs q).isSome = gHas ks q
  | [], [], _ => rfl
  | k :: ks, x :: xs, h => by
    simp only [gGet, gHas, List.any_cons]
    by_cases e : k = q
    · simp [e]
    · rw [if_neg e, gGet_some (by simpa using h)]
      simp [e, gHas]
theorem kaItems_has {k : NestedKey} {kas : List (NestedKey × Addr)} {vs : List Value} (h : vs.length = kas.length) : (atKey (kaItems kas vs) k).isSome = gHas (kas.map (·.1)) k := by
  have := congrArg Option.isSome (kaItems_at (k := k) h)
  rw [Option.isSome_map] at this
  rw [this, gGet_some (by simp [h])]
theorem kaItems_put {k : NestedKey} {b : Addr} {r : Value} {kas : List (NestedKey × Addr)} {vs : List Value} (h : vs.length = kas.length) : storedH (kaItems kas vs) k b r = kaItems (kaPut kas k b) (gPutV (kas.map (·.1)) vs k r) := by
  unfold storedH kaPut gPutV
  rw [kaItems_has h]
  by_cases z : gHas (kas.map (·.1)) k = true
  · rw [if_pos z, if_pos z, if_pos z]
    clear z
    induction kas generalizing vs with
    | nil => cases vs with
      | nil => rfl
      | cons _ _ => simp at h
    | cons p kas ih =>
      cases vs with
      | nil => simp at h
      | cons v vs =>
        have ih := ih (vs := vs) (by simpa using h)
        show putAt k r (p.1, p.2, v) :: (kaItems kas vs).map (putAt k r) = (p.1, p.2, _) :: kaItems kas _
        rw [ih]
        by_cases e : p.1 = k
        · simp [putAt, e]
        · simp [putAt, e]
  · rw [if_neg z, if_neg z, if_neg z]
    unfold kaItems
    rw [List.zipWith_append h.symm]
    rfl
theorem kaItems_es {P : Program} {kas : List (NestedKey × Addr)} {vs : List Value} : (kaItems kas vs).map (entryOfKey (nestedKind P Wrt.w)) = List.zipWith (fun (p : NestedKey × Addr) v => (⟨p.1.hash Wrt.w, .ref p.2, v⟩ : DictEntry)) kas vs := by
  unfold kaItems
  rw [List.map_zipWith]
  rfl
/-- the value v is the key k -/
def KeyR (H : Hp) (k : NestedKey) (v : V) : Prop := ∃ (F : Gh) (rv : V) (d : D), nk d = some k ∧ Rep H F rv d v
section
variable {X : Cx} {pins : List (Addr × Obj)} {σ : L2.St} {H : Hp} {s : Shared} {F : Gh} {rv : V}
mutual
theorem Rep.isKey (hK : X.K = Wrt.K) (I : Inv X pins σ H s) : ∀ {d : D} {v : V} {k : NestedKey} {u : Value}, nk d = some k → Rep H F rv d v → RelV v u → NestedIs s.heap k u
  | .non, _, _, _, e, r, q => by
    simp only [nk, Option.some.injEq] at e; simp only [Rep] at r; subst e; subst r
    have q : _ = Value.none := q
    rw [q]; exact .none
  | .bl b, _, _, _, e, r, q => by
    simp only [nk, Option.some.injEq] at e; simp only [Rep] at r; subst e; subst r
    have q : _ = Value.bool b := q
    rw [q]; exact .bool rfl
  | .int i, _, _, _, e, r, q => by
    simp only [nk, Option.some.injEq] at e; simp only [Rep] at r; subst e; subst r
    obtain ⟨t, rfl⟩ := q
    exact .int i t
  | .str x, _, _, _, e, r, q => by
    simp only [nk, Option.some.injEq] at e; simp only [Rep] at r; subst e; subst r
    obtain ⟨t, rfl⟩ := q
    exact .text x t
  | .tup ds, _, _, _, e, r, q => by
    simp only [nk] at e
    cases h : nks ds with
    | none => rw [h] at e; cases e
    | some ks =>
      rw [h] at e
      cases e
      simp only [Rep] at r
      obtain ⟨a, xs, rfl, ha, hl⟩ := r
      have q : _ = Value.ref a := q
      rw [q]
      have hq : SqT X.K H a xs := by rw [hK]; exact ha.sq
      obtain ⟨its, rv', ⟨o, h1, h2, n, h3⟩, _⟩ := I.tuple hq
      exact .tup h1 h2 h3 (by simpa using RepL.isKeys hK I h hl rv')
  | .res, _, _, _, e, _, _ => by simp [nk] at e
  | .loc _, _, _, _, e, _, _ => by simp [nk] at e
  | .ins _ _ _, _, _, _, e, _, _ => by simp [nk] at e
  | .lst _, _, _, _, e, _, _ => by simp [nk] at e
  | .dic _ _, _, _, _, e, _, _ => by simp [nk] at e
  | .dit _ _, _, _, _, e, _, _ => by simp [nk] at e
theorem RepL.isKeys (hK : X.K = Wrt.K) (I : Inv X pins σ H s) : ∀ {ds : List D} {vs : List V} {ks : List NestedKey} {us : List Value}, nks ds = some ks → RepL H F rv ds vs → Vals vs us → NestedAll s.heap ks us
  | [], _, _, _, e, r, q => by
    simp only [nks, Option.some.injEq] at e; simp only [RepL] at r; subst e; subst r
    cases q
    exact .nil
  | d :: ds, _, _, _, e, r, q => by
    simp only [RepL] at r
    obtain ⟨v, t, rfl, h1, h2⟩ := r
    simp only [nks] at e
    cases e1 : nk d with
    | none => rw [e1] at e; cases e
    | some k =>
      cases e2 : nks ds with
      | none => rw [e1, e2] at e; cases e
      | some ks =>
        rw [e1, e2] at e
        cases e
        cases q with
        | cons q1 q2 => exact .cons (Rep.isKey hK I e1 h1 q1) (RepL.isKeys hK I e2 h2 q2)
end
theorem KeyR.is (hK : X.K = Wrt.K) (I : Inv X pins σ H s) {k : NestedKey} {b : Addr} (h : KeyR H k (.ref b)) (hd : k.depth ≤ 8) : (nestedKind X.prog X.w).is s.heap k b := by
  obtain ⟨F, rv, d, e, r⟩ := h
  exact ⟨Rep.isKey hK I e r rfl, hd⟩
/-- a dict at a, keys tuples -/
structure DitH (H : Hp) (a : Addr) (kas : List (NestedKey × Addr)) (xs : List V) : Prop where
  at_ : H a = some (ditO a kas xs) ∨ (kas = [] ∧ xs = [] ∧ H a = some (.dK []))
  key : ∀ p ∈ kas, KeyR H p.1 (.ref p.2)
  nd : (kas.map (·.1)).Nodup
  deep : ∀ p ∈ kas, p.1.depth ≤ 8
  len : kas.length ≤ sizeLine
theorem DitH.of (hw : X.w = Wrt.w) (hK : X.K = Wrt.K) (I : Inv X pins σ H s) {a : Addr} {kas : List (NestedKey × Addr)} {xs : List V} (h : DitH H a kas xs) : ∃ vs : List Value, Vals xs vs ∧ vs.length = kas.length ∧ s.heap.DictOfH (nestedKind X.prog X.w) a (kaItems kas vs) ∧ (a == sysModules) = false := by
  rcases h.at_ with e | ⟨rfl, rfl, e⟩
  · obtain ⟨⟨vs, o, es, ep, h1, h2, h3, h4, h5, h6, h7⟩, _⟩ := (show ObjOk X.prog X.w H s.heap a (ditO a kas xs) from I.hok a _ e)
    refine ⟨vs, h1, h2, ⟨o, es, ep, h3, h4, h5, ?_, fun x hx => ?_, ?_⟩, h7⟩
    · rw [h6, hw, kaItems_es]
    · have := kaItems_mem hx
      exact (h.key _ this).is hK I (h.deep _ this)
    · rw [kaItems_keys h2]
      exact h.nd
  · obtain ⟨z, hd, vs, rel, o, es, ep, h3, h4, h5, h6, h7, h8⟩ := dk_of I.hok e
    cases rel
    refine ⟨[], .nil, rfl, ⟨o, es, ep, h3, h4, h5, ?_, fun x hx => by simp [kaItems] at hx, by simp [kaItems]⟩, hd⟩
    cases hl : es.toList with
    | nil => rfl
    | cons _ _ => rw [hl] at h7; cases h7
theorem dit_new (hw : X.w = Wrt.w) {H' : Hp} {h' : Heap} {a : Addr} {kas : List (NestedKey × Addr)} {xs : List V} {vs : List Value} (r : Vals xs vs) (hl : vs.length = kas.length) (hn : (a == sysModules) = false) (dd : h'.DictOfH (nestedKind X.prog X.w) a (kaItems kas vs)) : ObjOk X.prog X.w H' h' a (ditO a kas xs) := by
  obtain ⟨o, es, ep, h3, h4, h5, h6, _, _⟩ := dd
  refine ⟨⟨vs, o, es, ep, r, hl, h3, h4, h5, ?_, hn⟩, ⟨o, h3⟩, fun h1 h2 ⟨vs, o, es, ep, r, hl, h3, h4, h5, h6⟩ k => ⟨vs, o, es, ep, r, hl, k o h3, h4, h5, h6⟩⟩
  rw [h6, hw, kaItems_es]
theorem Vals.zipW {k : NestedKey} {z : V} {r : Value} (hz : RelV z r) : ∀ {ks : List NestedKey} {xs : List V} {vs : List Value}, Vals xs vs → Vals (List.zipWith (fun q x => if q = k then z else x) ks xs) (List.zipWith (fun q x => if q = k then r else x) ks vs)
  | [], _, _, _ => by simpa using Paired.nil
  | _ :: _, _, _, .nil => by simpa using Paired.nil
  | q :: ks, _, _, .cons h1 h2 => by
    simp only [List.zipWith_cons_cons]
    refine .cons ?_ (Vals.zipW hz h2)
    split
    · exact hz
    · exact h1
theorem Vals.gPut {k : NestedKey} {z : V} {r : Value} (hz : RelV z r) {ks : List NestedKey} {xs : List V} {vs : List Value} (h : Vals xs vs) : Vals (gPutV ks xs k z) (gPutV ks vs k r) := by
  unfold gPutV
  split
  · exact Vals.zipW hz h
  · exact h.append (.cons hz .nil)
/-- d[k] = z -/
theorem dit_set (hw : X.w = Wrt.w) (hK : X.K = Wrt.K) (hu : X.A.units + 8 < cLine) (I : Inv X pins σ H s) {D b : Addr} {kas : List (NestedKey × Addr)} {xs : List V} {k : NestedKey} {z : V} {r : Value} {Q : Unit → Shared → Prop} {E : Value → Shared → Prop} (h : DitH H D kas xs) (hk : KeyR H k (.ref b)) (hd : k.depth ≤ 8) (rz : RelV z r)
    (q : ∀ s', Inv X pins σ (upd H D (ditO D (kaPut kas k b) (gPutV (kas.map (·.1)) xs k z))) s' → Q () s') : wpAny (model X.prog X.w) X.A (dictSet D (.ref b) r) Q E s := by
  obtain ⟨vs, h1, h2, dd, hn⟩ := h.of hw hK I
  refine wpAny_dictSet_heap (knd := nestedKind X.prog X.w) hu (hk.is hK I hd) dd (fun h' dd' hs => q _ ?_) (by rw [kaItems_len h2]; exact h.len)
  have he : ∃ q, h'.get? D = some q := let ⟨q, _, _, hq, _⟩ := dd'; ⟨q, hq⟩
  have hm : Mut (H D) := by
    rcases h.at_ with e | ⟨_, _, e⟩ <;> (rw [e]; exact True.intro)
  rw [kaItems_put h2] at dd'
  refine d_write I hm hs he (dit_new hw (Vals.gPut rz h1) ?_ hn dd')
  rw [gPutV_len (by simp [h2])]
  unfold kaPut
  simp only [List.length_map]
  split <;> simp
end
end M

/-! MDcomp: dict comprehensions, the store any. -/
namespace M
open PySem PySem.Spec PyProof.Rows L2
variable [Wrt]
/-- a store into a dict that is made: key, value, the dict, what is wanted behind it -/
abbrev PutT := V → V → Addr → Hp → (Hp → Prop) → Prop
def PutOk (X : Cx) (Put : PutT) : Prop := ∀ (pins : List (Addr × Obj)) (σ : L2.St) (H : Hp) (s : Shared) (y z : V) (u r : Value) (D : Addr) (N : Hp → Prop) (Q : Unit → Shared → Prop) (E : Value → Shared → Prop), Inv X pins σ H s → RelV y u → RelV z r → Put y z D H N →
  (∀ s' H', Inv X pins σ H' s' → N H' → Q () s') → wpAny (model X.prog X.w) X.A (dictSet D u r) Q E s
/-- one turn's element: the target, the tests, the key, the value, the store -/
def dgTurn (Put : PutT) (g : TG) (tt : TT) (tk tv : TE) (vs : List Nat) (D : Addr) (σ : L2.St) (x : V) (H : Hp) (N : Hp → Prop) : Prop := g x (wipe σ vs) H fun σa Ha => wipe σa vs = wipe σ vs ∧ tt σa Ha fun b Hb =>
  if b = true then tk σa Hb fun y Hc => tv σa Hc fun z Hd => Put y z D Hd N else N Hb
def tDg (Put : PutT) (wi : TI) (g : TG) (tt : TT) (tk tv : TE) (vs : List Nat) : TE := fun σ H Q => wi σ H fun J Ha => ∀ D, Ha D = none → ∃ W : Nat → Nat → Hp → Prop, (∃ m, W 0 m (upd Ha D (.dK []))) ∧
  ∀ i m Hb, W i m Hb → (J.stop i Hb ∧ Q (.ref D) Hb) ∨ (J.go i Hb ∧ ∃ N : Hp → Prop, (∀ Hc, N Hc → ∃ j, j < m ∧ W (i + 1) j Hc) ∧ ∀ x Hc, J.yld i Hb x Hc → dgTurn Put g tt tk tv vs D σ x Hc N)
section
variable {X : Cx} {kx vx tg iter : Expr} {ifs : List Expr} {scope : Scope} {own : List (Str × Nat)} {pos : Pos} {wi : TI} {g : TG} {tt : TT} {tk tv : TE} {Put : PutT}
theorem dg_core {pins : List (Addr × Obj)} {s : Shared} {σ : L2.St} {H : Hp} {Q : VK} {pos' : Pos} {use : Option (Value → Sem Unit)} {Qf : Value → Shared → Prop} (I : Inv X pins σ H s) (h : tDg Put wi g tt tk tv (own.map (·.2)) σ H Q)
    (fin : ∀ (D C : Addr) (sx : Shared) (m : Str → Option Value) (Hx : Hp), Inv X pins σ Hx sx → Q (.ref D) Hx → sx.heap.Ns C m → FpOk X pins Hx C → compPost (model X.prog X.w) X.A X.xe use Qf (.ref D) C (.ok .next) sx)
    (hc : X.calm = true) (hN : X.N.Nodup) (hi : PI X tg iter wi) (ok : BlkOk X.N X.env.scope scope own)
    (hg : ∀ (s : Shared) (H : Hp) (C : Addr) (cl : List (Str × Addr)) (fp : List Addr), PG (X.blk s H scope (compEnvC scope cl C X.env) fp) tg g ∧ PTs (X.blk s H scope (compEnvC scope cl C X.env) fp) ifs tt ∧ PE (X.blk s H scope (compEnvC scope cl C X.env) fp) kx tk ∧
      PE (X.blk s H scope (compEnvC scope cl C X.env) fp) vx tv ∧ PutOk (X.blk s H scope (compEnvC scope cl C X.env) fp) Put)
    (hs : ∀ x, foldedSetIterable iter X.env x = pure x) : wpAny (model X.prog X.w) X.A (comprehension (.DictComp kx vx [⟨tg, iter, ifs, 0⟩] scope pos) scope X.env pos' newDict false (eval iter X.env) use) Qf X.xe s := by
  have fr : ∀ nm ∈ scope.names, nm.2 = .free → ∃ c, X.env.cells.lookup nm.1 = some c := fun nm hm z => (ok.free nm hm z).elim (fun k => I.ok.has _ (.inl k)) fun k => I.ok.has _ (.inr k)
  refine wpAny_comprehension_free (use := use) rfl hs (closure_ok fr) ok.kind (fun nm hm z => by rw [ok.uniq nm hm, z]) (thn (hi.run pins s σ H _ I h) fun _ _ ha => thn ha fun itv t2 hb => ?_)
  obtain ⟨it, fp, tn, J, Ha, rfl, Ia, T, sta, fa, q⟩ := hb
  refine wpAny_newObj_type (newEnv_comp ?_)
  have nD : Ha t2.heap.objs.size = none := Ia.hok.fresh (Nat.le_refl _)
  obtain ⟨W, ⟨m0, w0⟩, turn⟩ := q _ nD
  -- the heap with the new dict
  generalize h3 : t2.heap.push { cls := .type "dict", data := .dict #[] } = hp3
  have k3 : ∀ b o, t2.heap.get? b = some o → hp3.get? b = some o := fun b o e => by rw [← h3]; exact Heap.get?_push_of_some _ e
  have sz3 : hp3.objs.size = t2.heap.objs.size + 1 := by rw [← h3]; exact Heap.size_push ..
  generalize hD : t2.heap.objs.size = D at nD w0 turn sz3
  have I3 : Inv X pins σ (upd Ha D (.dK [])) { t2 with heap := hp3 } := Ia.laid (t' := t2.toks) k3 (Nat.le_of_eq hD) (by
    have z := dk_empty (P := X.prog) (w := X.w) (H := upd Ha D (.dK [])) t2.heap Ia.big
    rw [h3, hD] at z
    exact z)
  have f3 : ∀ b ∈ fp, FpOk X pins (upd Ha D (.dK [])) b ∧ b < hp3.objs.size := fun b hb => by
    obtain ⟨o, e, _⟩ := T.obj _ _ sta b hb
    have lt := Heap.lt_size e
    rw [hD] at lt
    exact ⟨⟨by rw [upd_ne (Nat.ne_of_lt lt)]; exact (fa b hb).1, (fa b hb).2⟩, Nat.lt_of_lt_of_eq (Nat.lt_succ_of_lt lt) sz3.symm⟩
  have I4 := block_start I3 ok hN f3
  have st4 : tn 0 (pushCells (hp3.push { cls := .type "dict", data := .dict #[] }) scope.names) := T.keep _ _ _ sta fun b _ o e => pushCells_keeps _ _ _ _ (Heap.get?_push_of_some _ (k3 b o e))
  obtain ⟨pg, pt, pk, pv, pp⟩ := hg { t2 with heap := hp3 } (upd Ha D (.dK [])) hp3.objs.size (cellsFrom (hp3.objs.size + 1) scope.names (cloFrom X.env.cells scope.names [])) fp
  show codeAny _ _ (.compStart _ 0 (.ref it) (.ref D) (compEnvC scope (cellsFrom (hp3.objs.size + 1) scope.names (cloFrom X.env.cells scope.names [])) hp3.objs.size X.env)) (compPost (model X.prog X.w) X.A X.xe use Qf (.ref D) hp3.objs.size) { t2 with heap := pushCells (hp3.push { cls := .type "dict", data := .dict #[] }) scope.names }
  have no3 : ∀ b ∈ fp, (upd Ha D (.dK [])) b = none := fun b hb => (f3 b hb).1.1
  generalize hce : compEnvC scope (cellsFrom (hp3.objs.size + 1) scope.names (cloFrom X.env.cells scope.names [])) hp3.objs.size X.env = ce at I4 pg pt pk pv pp ⊢
  have cL : ce.locals = hp3.objs.size := by rw [← hce]; rfl
  generalize hH3 : upd Ha D (.dK []) = H3 at I3 I4 pg pt pk pv pp w0 no3 f3
  -- what an iterator's objects are to the block
  have sta' : ∀ {σx : L2.St} {Hx : Hp} {sx : Shared}, Inv (X.blk { t2 with heap := hp3 } H3 scope ce fp) [] σx Hx sx → (∀ b ∈ fp, Hx b = none) → ∀ b ∈ fp, FpOk (X.blk { t2 with heap := hp3 } H3 scope ce fp) [] Hx b := fun Ix nx b hb =>
    ⟨nx b hb, (Ix.ok.exf b hb).1, Ix.ok.exfs b hb, .inl hb, fun x c e => (Ix.ok.exf b hb).2 x c e, fun p hp => by simp [Cx.blk] at hp⟩
  generalize hvs : own.map (·.2) = vs at I4 turn
  refine (fun lp => codeAny_compStart_dict lp (T.self X.A 0 _ _ _ st4 lp)) ?_
  refine compLoop_anyD (fun n sx => ∃ i Hx, Inv (X.blk { t2 with heap := hp3 } H3 scope ce fp) [] (wipe σ vs) Hx sx ∧ tn i sx.heap ∧ (∀ b ∈ fp, Hx b = none) ∧ W i n Hx) ?_ m0 ⟨0, H3, I4, st4, no3, w0⟩
  rintro n s5 ⟨i, H5, I5, st5, n5, w5⟩
  rcases turn i n H5 w5 with ⟨stop, qq⟩ | ⟨go, N, hN', step⟩
  · refine thnF (T.done (X.blk { t2 with heap := hp3 } H3 scope ce fp) rfl rfl rfl hc i [] s5 _ H5 (fun _ _ => False) I5 (sta' I5 n5) st5 stop) fun r s6 ⟨hr, I6⟩ => ?_
    subst hr
    have I7 : Inv X pins σ H5 s6 := I3.call' (ch := fp) I6.os I6.base I6.hok I6.bare fun b hb => let z := (f3 b hb).1.2; ⟨z.2.2.1, z.1, z.2.2.2.1, z.2.2.2.2⟩
    have nC : H5 ce.locals = none := I6.free
    obtain ⟨m, hn, _⟩ := I6.loc
    have hn : s6.heap.Ns ce.locals m := hn
    rw [cL] at nC hn
    exact fin D _ s6 m H5 I7 qq hn (I3.fpOk (Nat.le_refl _) nC)
  · refine thnF (T.item (X.blk { t2 with heap := hp3 } H3 scope ce fp) rfl rfl rfl hc i [] s5 _ H5 (fun _ _ => False) I5 (sta' I5 n5) st5 go) fun r s6 ⟨u, hr, h6⟩ => ?_
    subst hr
    refine thnF h6 fun _ s7 ⟨x, H7, I7, r7, y7, st7, n7⟩ => ?_
    refine thnF (pg.run _ s7 _ H7 x u _ (I7.pinned (sta' I7 n7) (T.obj _ _ st7)) r7 (step x H7 y7)) fun _ s8 ⟨σ8, H8, I8, hw8, q8⟩ => thnF (pt.run _ s8 σ8 H8 _ I8 q8) fun b s9 ⟨H9, I9, q9⟩ => ?_
    have done : ∀ (sx : Shared) (Hx : Hp), Inv (X.blk { t2 with heap := hp3 } H3 scope ce fp) ([] ++ pinsAt fp s7.heap) σ8 Hx sx → N Hx → ∃ m, m < n ∧ ∃ i Hx, Inv (X.blk { t2 with heap := hp3 } H3 scope ce fp) [] (wipe σ vs) Hx sx ∧ tn i sx.heap ∧ (∀ b ∈ fp, Hx b = none) ∧ W i m Hx := fun sx Hx Ix nx => by
      obtain ⟨m', hm, w'⟩ := hN' Hx nx
      have pn : ∀ b ∈ fp, ∀ o, s7.heap.get? b = some o → sx.heap.get? b = some o ∧ Hx b = none := fun b hb o e => let z := Ix.pin (b, o) (List.mem_append_right _ (List.mem_append_right _ (mem_pinsAt hb e))); ⟨z.1, z.2.1⟩
      refine ⟨m', hm, i + 1, Hx, (Ix.unpinned (pins := [])).weak (by rw [← hw8, wipe_length]) (fun j v e => (wipe_some (by rw [hw8]; exact e)).1), T.keep _ _ _ st7 fun b hb o e => (pn b hb o e).1, fun b hb => ?_, w'⟩
      obtain ⟨o, e, _⟩ := T.obj _ _ st7 b hb
      exact (pn b hb o e).2
    cases b with
    | false => exact done _ _ I9 q9
    | true => exact thnF (pk.run _ s9 σ8 H9 _ I9 q9) fun ku s10 ⟨y, H10, I10, r10, q10⟩ => thnF (pv.run _ s10 σ8 H10 _ I10 q10) fun vu s11 ⟨z, H11, I11, r11, q11⟩ => pp _ σ8 H11 s11 y z ku vu D N _ _ I11 r10 r11 q11 done
theorem pe_dg (hc : X.calm = true) (hN : X.N.Nodup) (hi : PI X tg iter wi) (ok : BlkOk X.N X.env.scope scope own)
    (hg : ∀ (s : Shared) (H : Hp) (C : Addr) (cl : List (Str × Addr)) (fp : List Addr), PG (X.blk s H scope (compEnvC scope cl C X.env) fp) tg g ∧ PTs (X.blk s H scope (compEnvC scope cl C X.env) fp) ifs tt ∧ PE (X.blk s H scope (compEnvC scope cl C X.env) fp) kx tk ∧
      PE (X.blk s H scope (compEnvC scope cl C X.env) fp) vx tv ∧ PutOk (X.blk s H scope (compEnvC scope cl C X.env) fp) Put)
    (hs : ∀ x, foldedSetIterable iter X.env x = pure x) : PE X (.DictComp kx vx [⟨tg, iter, ifs, 0⟩] scope pos) (tDg Put wi g tt tk tv (own.map (·.2))) := by
  refine ⟨fun pins s σ H Q I h => ?_⟩
  rw [arm_eval_DictComp]
  exact dg_core (use := none) I h (fun D C s6 m H5 I7 qq hn ⟨f0, f1, f2, f4, f5, f6⟩ => ⟨m, hn, fun h'' sb => ⟨.ref D, H5, I7.turned (t' := s6.toks) (fun b o hb e => (sb.2 b hb).trans e) f0 f1 f4 f5 f6, rfl, qq⟩⟩) hc hN hi ok hg hs
/-- y = {..}, y a local name -/
theorem ps_setDg {i : Nat} {y : Str} {py spos : Pos} (hc : X.calm = true) (hN : X.N.Nodup) (hy : X.N[i]? = some y) (hyl : X.env.scope.names.lookup y = some .local) (hsw : swapsWith (.DictComp kx vx [⟨tg, iter, ifs, 0⟩] scope pos) (some (.Name y py)) spos.line X.env = pure true)
    (hi : PI X tg iter wi) (ok : BlkOk X.N X.env.scope scope own)
    (hg : ∀ (s : Shared) (H : Hp) (C : Addr) (cl : List (Str × Addr)) (fp : List Addr), PG (X.blk s H scope (compEnvC scope cl C X.env) fp) tg g ∧ PTs (X.blk s H scope (compEnvC scope cl C X.env) fp) ifs tt ∧ PE (X.blk s H scope (compEnvC scope cl C X.env) fp) kx tk ∧
      PE (X.blk s H scope (compEnvC scope cl C X.env) fp) vx tv ∧ PutOk (X.blk s H scope (compEnvC scope cl C X.env) fp) Put)
    (hs : ∀ x, foldedSetIterable iter X.env x = pure x) : PS X (.Assign [.Name y py] (.DictComp kx vx [⟨tg, iter, ifs, 0⟩] scope pos) spos) (tAsg (tDg Put wi g tt tk tv (own.map (·.2))) (gName i)) := by
  refine ⟨fun pins s σ H N I h => ?_⟩
  rw [exec_Assign_Name_used _ _ _ _ hsw]
  have h : tDg Put wi g tt tk tv (own.map (·.2)) σ H (fun x H1 => gName i x σ H1 N.nx) := h
  refine wpAny_bind (wpAny_standAt (wpAny_bind ?_))
  show wpAny _ X.A (comprehension _ scope X.env _ newDict false (eval iter X.env) (some (assign (.Name y py) X.env)) >>= _) _ _ s
  refine wpAny_bind (thn (dg_core (Qf := fun _ sx => SP X pins N .next sx) I h (fun D C sx m Hx Ix q hn f => ?_) hc hN hi ok hg hs) fun _ sx hq => wpAny_pure (wpAny_pure hq))
  obtain ⟨g0, g1, g2, g3, g4, g5⟩ := f
  refine (wpAny_assign_Name (store_ok2 (v := V.ref D) Ix hN hy (.inl hyl) rfl (fun s2 I2 ⟨a, sb, ha⟩ => ⟨m, hn.sameBut sb (ha.elim (fun z => by rw [z]; exact g1) fun z => fun e => g4 y a z e.symm), fun _ sb3 => ?_⟩) (.inr hyl)))
  exact ⟨_, Hx, I2.turned (t' := s2.toks) (fun b o hb e => (sb3.2 b hb).trans e) g0 g1 g3 g4 g5, q⟩
theorem sw_trueD {gs : List Comprehension} {py : Pos} {y : Str} {l : Nat} {env : Env} (hk : env.scope.kind = .function) (hy : env.scope.names.lookup y = some .local) (hl : (py.line == pos.line) = true)
    (ha : (scope.names.any fun (n, k) => n == y && (k == .local || k == .cell)) = false) : swapsWith (.DictComp kx vx gs scope pos) (some (.Name y py)) l env = pure true := by
  have hb : env.blockKind = .function := by simp [Env.blockKind, hk]
  have hq : env.kindOf y = some .local := hy
  unfold swapsWith
  simp only [ha, hq, hb, hl, Expr.pos]
  rfl
end
end M

/-! MDset: what a store leaves of a dict, keys any; the meaning of a dict comprehension. -/
namespace M
open PySem PySem.Spec PyProof.Rows L2
variable [Wrt]
/-- a tuple as a key -/
def tKey : D → Option NestedKey
  | .tup ds => match nk (.tup ds) with
    | some k => if k.depth ≤ 8 then some k else none
    | none => none
  | _ => none
def tPutK (ks : List D) (k : D) (q : NestedKey) : List D := if gHas (ks.map nk) (some q) = true then ks else ks ++ [k]
/-- what d[k] = x leaves -/
def dPutA : D → D → D → Option D
  | .dic ks ds, k, x => match keyOf k with
    | some q => if ks.length < line then some (.dic (dPutK ks q) (dPutV ks ds q x)) else none
    | none => match tKey k, ks with
      | some _, [] => some (.dit [k] [x])
      | _, _ => none
  | .dit ks ds, k, x => match tKey k with
    | some q => if ks.length < line then some (.dit (tPutK ks k q) (gPutV (ks.map nk) ds (some q) x)) else none
    | none => none
  | _, _, _ => none
theorem tKey_inv {k : D} {q : NestedKey} (h : tKey k = some q) : ∃ ds, k = .tup ds ∧ nk k = some q ∧ q.depth ≤ 8 := by
  cases k with
  | tup ds =>
    simp only [tKey] at h
    cases e : nk (.tup ds) with
    | none => rw [e] at h; cases h
    | some k =>
      rw [e] at h
      by_cases hd : k.depth ≤ 8
      · simp only [if_pos hd] at h
        cases h
        exact ⟨ds, rfl, rfl, hd⟩
      · simp only [if_neg hd] at h
        cases h
  | _ => cases h
def PutA : PutT := fun y z D H N => (∃ kvs q, y = kV q ∧ H D = some (.dK kvs) ∧ kvs.length < sizeLine ∧ N (upd H D (.dK (putK kvs q z)))) ∨
  ∃ kas xs q b, y = .ref b ∧ DitH H D kas xs ∧ KeyR H q y ∧ q.depth ≤ 8 ∧ N (upd H D (ditO D (kaPut kas q b) (gPutV (kas.map (·.1)) xs q z)))
theorem putA_sound {X : Cx} (hw : X.w = Wrt.w) (hK : X.K = Wrt.K) (hu : X.A.units + 8 < cLine) : PutOk X PutA := fun pins σ H s y z u r D N Q E I ry rz h q => by
  rcases h with ⟨kvs, k, rfl, hD, hl, n⟩ | ⟨kas, xs, k, b, rfl, hd, hk, hdp, n⟩
  · exact d_dictSet I hD hl ry rz fun s' I' => q _ _ I' n
  · obtain rfl : u = Value.ref b := ry
    exact dit_set hw hK hu I hd hk hdp rz fun s' I' => q _ _ I' n
section
variable {H : Hp} {F : Gh} {rv : V}
theorem keys_of : ∀ {kas : List (NestedKey × Addr)} {ks : List D}, ks.map nk = kas.map (fun p => some p.1) → RepL H F rv ks (kas.map fun p => V.ref p.2) → ∀ p ∈ kas, KeyR H p.1 (.ref p.2)
  | [], _, _, _, p, hp => by simp at hp
  | a :: kas, [], h, _, _, _ => by simp at h
  | a :: kas, d :: ks, h, r, p, hp => by
    simp only [List.map_cons, List.cons.injEq] at h
    simp only [List.map_cons, RepL] at r
    obtain ⟨v, t, e, h1, h2⟩ := r
    injection e with e1 e2
    subst e1
    subst e2
    rcases List.mem_cons.mp hp with rfl | hp
    · exact ⟨F, rv, d, h.1, h1⟩
    · exact keys_of h.2 h2 p hp
theorem gHas_some {l : List NestedKey} {q : NestedKey} : gHas (l.map some) (some q) = gHas l q := by
  unfold gHas
  rw [List.any_map]
  congr 1
  funext k
  simp
theorem gPut_some {α : Type} {l : List NestedKey} {q : NestedKey} {xs : List α} {y : α} : gPutV (l.map some) xs (some q) y = gPutV l xs q y := by
  unfold gPutV
  rw [gHas_some]
  congr 1
  rw [List.zipWith_map_left]
  congr 1
  funext k x
  simp
theorem gzip_rep {q : NestedKey} {d : D} {y : V} (hd : Rep H F rv d y) : ∀ {ks : List NestedKey} {ds : List D} {vs : List V}, RepL H F rv ds vs → RepL H F rv (List.zipWith (fun k x => if k = q then d else x) ks ds) (List.zipWith (fun k x => if k = q then y else x) ks vs)
  | [], _, _, _ => by simp [RepL]
  | _ :: _, [], _, r => by
    simp only [RepL] at r
    subst r
    simp [RepL]
  | k :: ks, e :: ds, _, r => by
    simp only [RepL] at r
    obtain ⟨v, t, rfl, h1, h2⟩ := r
    simp only [List.zipWith_cons_cons]
    refine .cons ?_ (gzip_rep hd h2)
    split
    · exact hd
    · exact h1
theorem gPut_rep {q : NestedKey} {d : D} {y : V} (hd : Rep H F rv d y) {ks : List NestedKey} {ds : List D} {vs : List V} (r : RepL H F rv ds vs) : RepL H F rv (gPutV ks ds q d) (gPutV ks vs q y) := by
  unfold gPutV
  split
  · exact gzip_rep hd r
  · exact r.append (.cons hd .nil)
theorem gHas_iff {κ : Type} [DecidableEq κ] {l : List κ} {q : κ} : gHas l q = true ↔ q ∈ l := by
  unfold gHas
  simp
theorem DitK.put {ks : List D} {kas : List (NestedKey × Addr)} (h : DitK ks kas) {k : D} {q : NestedKey} {b : Addr} (e : nk k = some q) (hd : q.depth ≤ 8) (hl : kas.length < sizeLine) : DitK (tPutK ks k q) (kaPut kas q b) := by
  have e0 : ks.map nk = (kas.map (·.1)).map some := by rw [h.ks, List.map_map]; rfl
  have eh : gHas (ks.map nk) (some q) = gHas (kas.map (·.1)) q := by rw [e0, gHas_some]
  unfold tPutK kaPut
  rw [eh]
  by_cases z : gHas (kas.map (·.1)) q = true
  · rw [if_pos z, if_pos z]; exact h
  · rw [if_neg z, if_neg z]
    refine ⟨by rw [List.map_append, List.map_append, h.ks]; simp [e], ?_, fun p hp => ?_, by rw [List.length_append]; exact hl⟩
    · rw [List.map_append]
      refine List.nodup_append.mpr ⟨h.nd, by simp, fun x hx y hy => ?_⟩
      simp only [List.map_cons, List.map_nil, List.mem_singleton] at hy
      subst hy
      intro e2
      subst e2
      exact z (gHas_iff.mpr hx)
    · rcases List.mem_append.mp hp with hp | hp
      · exact h.deep p hp
      · simp only [List.mem_singleton] at hp
        subst hp
        exact hd
theorem line_lt {n : Nat} (h : n < line) : n < sizeLine := by rw [← line_eq]; exact h
/-- a store, of what stands for what -/
theorem putA_ok {o k x o' : D} {a : Addr} {y z : V} (ro : RepO H F rv o a) (rk : Rep H F rv k y) (rx : Rep H F rv x z) (e : dPutA o k x = some o') :
    ∃ ob, (∀ N : Hp → Prop, N (upd H a ob) → PutA y z a H N) ∧ ∀ H' F', Kp H F H' F' → H' a = some ob → RepO H' F' rv o' a := by
  cases o with
  | dic ks ds =>
    obtain ⟨xs, h1, hk, hl⟩ := ro
    simp only [dPutA] at e
    cases q : keyOf k with
    | some q' =>
      rw [q] at e
      by_cases hlt : ks.length < line
      · simp only [if_pos hlt] at e
        cases e
        have hkx : ks.length = xs.length := by rw [hl.length]; exact hk
        refine ⟨.dK ((dPutK ks q').zip (dPutV ks xs q' z)), fun N n => .inl ⟨_, q', keyOf_rep rk q, h1, ?_, by rw [put_zip hkx]; exact n⟩, fun H' F' w h' => ⟨_, h', putV_len hk, (putV_rep rx hl).mono w⟩⟩
        rw [List.length_zip, ← hkx, Nat.min_self]
        exact line_lt hlt
      · simp only [if_neg hlt] at e
        cases e
    | none =>
      rw [q] at e
      cases t : tKey k with
      | none => rw [t] at e; cases e
      | some q' =>
        rw [t] at e
        cases ks with
        | cons _ _ => cases e
        | nil =>
          cases e
          obtain ⟨ks', rfl, e2, hd⟩ := tKey_inv t
          have rk' := rk
          simp only [Rep] at rk'
          obtain ⟨b, _, rfl, _, _⟩ := rk'
          have hds : ds = [] := by simpa using hk.symm
          subst hds
          simp only [RepL] at hl
          subst hl
          have dh : DitH H a [] [] := ⟨.inr ⟨rfl, rfl, h1⟩, fun p hp => by simp at hp, by simp, fun p hp => by simp at hp, by simp⟩
          refine ⟨_, fun N n => .inr ⟨[], [], q', b, rfl, dh, ⟨F, rv, _, e2, rk⟩, hd, n⟩, fun H' F' w h' => ⟨_, _, h', ⟨?_, by simp [kaPut, gHas], fun p hp => ?_, ?_⟩, rfl, ?_, ?_⟩⟩
          · simp [kaPut, gHas, e2]
          · have : p = (q', b) := by simpa [kaPut, gHas] using hp
            subst this
            exact hd
          · exact line_lt (n := 0) (by decide)
          · have := (rk.mono w)
            simp only [kaPut, gHas]
            exact .cons this .nil
          · exact .cons (rx.mono w) .nil
  | dit ks ds =>
    obtain ⟨kas, xs, h1, hk, hn, hl, hm⟩ := ro
    simp only [dPutA] at e
    cases t : tKey k with
    | none => rw [t] at e; cases e
    | some q' =>
      rw [t] at e
      by_cases hlt : ks.length < line
      · simp only [if_pos hlt] at e
        cases e
        obtain ⟨ks', rfl, e2, hd⟩ := tKey_inv t
        have rk' := rk
        simp only [Rep] at rk'
        obtain ⟨b, _, rfl, _, _⟩ := rk'
        have hlk : ks.length = kas.length := by have := congrArg List.length hk.ks; simpa using this
        have e0 : ks.map nk = (kas.map (·.1)).map some := by rw [hk.ks, List.map_map]; rfl
        have eh : gHas (ks.map nk) (some q') = gHas (kas.map (·.1)) q' := by rw [e0, gHas_some]
        refine ⟨_, fun N n => .inr ⟨kas, xs, q', b, rfl, ⟨.inl h1, keys_of hk.ks hl, hk.nd, hk.deep, hk.len⟩, ⟨F, rv, _, e2, rk⟩, hd, n⟩, fun H' F' w h' => ⟨_, _, h', hk.put e2 hd (by rw [← hlk]; exact line_lt hlt), ?_, ?_, ?_⟩⟩
        · rw [gPutV_len (by simpa using hn)]
          unfold tPutK
          split <;> simp
        · unfold tPutK kaPut
          rw [eh]
          split
          · exact hl.mono w
          · rw [List.map_append]
            exact (hl.mono w).append (.cons (rk.mono w) .nil)
        · rw [e0, gPut_some]
          exact (gPut_rep rx hm).mono w
      · simp only [if_neg hlt] at e
        cases e
  | _ => simp [dPutA] at e
end
end M

/-! MDc: dict comprehensions. -/
namespace M
open PySem PySem.Spec PyProof.Rows L2
variable [Wrt]
variable {β : Type} [Sto β] [Kind β]
def dcL (vs : List Nat) (e0 : List Sl) (tg : Tm β) (tt : Mn β Bool) (tk tv : Mn β D) : List D → D → Mn β D
  | [], acc, st => some (acc, st)
  | d :: ds, acc, st => match tg d { st with env := wipeE st.env vs } with
    | none => none
    | some s1 => match tt s1 with
      | none => none
      | some (false, s2) => dcL vs e0 tg tt tk tv ds acc { s2 with env := backE e0 s2.env vs }
      | some (true, s2) => match tk s2 with
        | none => none
        | some (k, s3) => match tv s3 with
          | none => none
          | some (x, s4) => match dPutA acc k x with
            | none => none
            | some acc' => dcL vs e0 tg tt tk tv ds acc' { s4 with env := backE e0 s4.env vs }
def mDcomp (vs : List Nat) (it : Mn β (List D)) (tg : Tm β) (tt : Mn β Bool) (tk tv : Mn β D) : Mn β R := mBind it fun ds st => if noOwn st.env vs = true then (match dcL vs st.env tg tt tk tv ds (.dic [] []) st with
  | some (acc, st') => some (.new acc, st')
  | none => none) else none
section
variable {X : Cx}
theorem dcomp_reads {it : Mn β (List D)} {vs is : List Nat} {tg : Tm β} {tt : Mn β Bool} {tk tv : Mn β D} (hv : ∀ i ∈ is, i ∈ vs) (hg : TgV tg) : ∀ σ H Q, tE (mDcomp vs it tg tt tk tv) σ H Q → tDg PutA (tIt it) (gTm tg is) (tTs tt) (tDt tk) (tDt tv) vs σ H Q := fun σ H Q q => by
  obtain ⟨c, F, st, res, st', rl, e, k⟩ := q
  obtain ⟨ds, s1, e1, e⟩ := mBind_some e
  split at e
  · rename_i no
    refine ⟨c, F, st, ds, s1, rl, e1, fun J H1 F1 G t1 w g1 Dd hD => ?_⟩
    split at e
    · rename_i acc s2 e2
      simp only [Option.some.injEq, Prod.mk.injEq] at e
      obtain ⟨rfl, rfl⟩ := e
      let Pv : Nat → Hp → Prop := fun i H' => ∃ F' s' ac, Stp c σ F1 s1 H1 F' s' H' ∧ RepO H' F' c.R.val ac Dd ∧ F' Dd ∧ ¬ Lcd F' Dd ∧ G F' H' ∧ dcL vs s1.env tg tt tk tv (ds.drop i) ac s' = some (acc, s2)
      have start : Pv 0 (upd H1 Dd (.dK [])) := by
        have hn : ∀ a, F1.add Dd a → F1 a ∨ (H1 a = none ∧ ∃ o, upd H1 Dd (.dK []) a = some o) := fun a h => by
          rcases h with h | h
          · exact .inl h
          · subst h; exact .inr ⟨hD, _, upd_same⟩
        refine ⟨F1.add Dd, s1, .dic [] [], .grow t1.rel (upd_keep hD) (fun _ h => .inl h) hn, ⟨[], upd_same, rfl, .nil⟩, .inr rfl, (fun z => t1.rel.nobsyA hD (.inr z)), ?_, by rw [List.drop_zero]; exact e2⟩
        refine w.stay F1 s1 s1 σ σ H1 _ _ t1.rel g1 (t1.rel.grow (upd_keep hD) (fun _ h => .inl h) hn) ⟨fun b o e hf => ⟨upd_keep hD b o e, fun z => ?_⟩, fun _ _ h => h⟩
        rcases z with z | z
        · exact hf z
        · subst z; rw [hD] at e; cases e
      have hnD : ¬ c.R.foot Dd := t1.rel.nofoot hD
      have hnO : ¬ Own s1 σ Dd := fun z => by
        obtain ⟨o, e⟩ := (t1.rel.own_f z).2.2
        rw [hD] at e
        cases e
      refine ⟨fun i m H' => i + m = ds.length ∧ Pv i H', ⟨ds.length, by omega, start⟩, ?_⟩
      rintro i m H' ⟨him, F', s', ac, t', hl, hFD, hND, g', e'⟩
      obtain ⟨ob, hx⟩ := hl.there
      by_cases hlt : i < ds.length
      · right
        have hd : ds[i]? = some ds[i] := List.getElem?_eq_getElem hlt
        obtain ⟨go, yl⟩ := w.go i ds[i] F' s' σ H' hd t'.rel g'
        refine ⟨go, fun H2 => (i + 1) + (m - 1) = ds.length ∧ Pv (i + 1) H2, fun H2 h2 => ⟨m - 1, by omega, h2⟩, fun x H2 y => ?_⟩
        obtain ⟨F2, t2, hx2⟩ := yl x H2 y
        rw [List.drop_eq_getElem_cons hlt] at e'
        simp only [dcL] at e'
        split at e'
        · cases e'
        · rename_i s3 q3
          have t12 := t'.trans t2
          have hB' : ¬ Bsy s' σ F' Dd := fun z => z.elim (fun z => hnO (t'.own _ z)) hND
          obtain ⟨hx3, hF3⟩ := t2.fr Dd _ hx hnD hB'
          have hND2 : ¬ Lcd F2 Dd := fun z => hB' (t2.bsy hx (.inr z))
          have hFD2 : F2 Dd := hF3.mpr hFD
          have hl3 : RepO H2 F2 c.R.val ac Dd := hl.mono (t2.pers t'.rel) fun o z => by rw [hx] at z; cases z; exact hx3
          have g2 : G F2 H2 := w.stay F' s' s' σ σ H' F2 H2 t'.rel g' t2.rel (t2.frs t'.rel)
          refine ⟨c, F2, { s' with env := wipeE s'.env vs }, ds[i], s3, t2.rel.wiped vs, hx2, q3, fun σ3 r3 ch => ⟨wipe_ext (by rw [ch.1, wipe_length]) (fun j hj => ?_), ?_⟩⟩
          · rw [ch.2 j (fun z => hj (hv j z)), wipe_get hj]
          · have hσl : σ3.length = σ.length := by rw [ch.1, wipe_length]
            have hσ : ∀ j, j ∉ vs → σ3[j]? = σ[j]? := fun j hj => by rw [ch.2 j (fun z => hj (hv j z)), wipe_get hj]
            have hs3 : ∀ (i : Nat) (d : D), s3.env[i]? = some (.own d) → i ∉ vs ∧ s'.env[i]? = some (.own d) := fun i d h => by
              have q := hg _ _ _ q3 i d h
              rcases wipeE_get q with z | z
              · cases z
              · exact z
            have o3 : ¬ Bsy s3 σ3 F2 Dd := fun z => z.elim (fun ⟨i, d, h, q⟩ => by
              obtain ⟨h1, h2⟩ := hs3 i d h
              rw [hσ i h1] at q
              exact hnO (t'.own _ ⟨i, d, h2, q⟩)) hND2
            split at e'
            · cases e'
            · rename_i s4 q4
              refine ⟨c, F2, s3, false, s4, r3, q4, fun H4 F4 u => iteF ⟨by omega, ?_⟩⟩
              obtain ⟨hx4, hF4⟩ := u.fr Dd _ hx3 hnD o3
              have tb := blk_stp t1.rel no t12 hs3 hσl hσ u
              exact ⟨F4, _, ac, tb, hl3.mono (u.pers r3) (fun o z => by rw [hx3] at z; cases z; exact hx4), hF4.mpr hFD2, (fun z => o3 (u.bsy hx3 (.inr z))), w.stay F2 s3 s4 σ3 σ3 H2 F4 H4 r3 g2 u.rel (u.frs r3), e'⟩
            · rename_i s4 q4
              refine ⟨c, F2, s3, true, s4, r3, q4, fun H4 F4 u => iteT ?_⟩
              split at e'
              · cases e'
              · rename_i dk s5 q5
                refine ⟨c, F4, s4, dk, s5, u.rel, q5, fun y H5 F5 u2 hy5 => ?_⟩
                split at e'
                · cases e'
                · rename_i dx s6 q6
                  refine ⟨c, F5, s5, dx, s6, u2.rel, q6, fun z H6 F6 u4 hz6 => ?_⟩
                  have u3 := (u.trans u2).trans u4
                  obtain ⟨hx5, hF5⟩ := u3.fr Dd _ hx3 hnD o3
                  have hl5 : RepO H6 F6 c.R.val ac Dd := hl3.mono (u3.pers r3) fun o z => by rw [hx3] at z; cases z; exact hx5
                  split at e'
                  · cases e'
                  · rename_i ac' q7
                    obtain ⟨ob', pa, pr⟩ := putA_ok hl5 (u4.rep u2.rel hy5) hz6 q7
                    refine pa _ ⟨by omega, ?_⟩
                    have tb := blk_stp t1.rel no t12 hs3 hσl hσ u3
                    have hND5 : ¬ Lcd F6 Dd := fun z => o3 (u3.bsy hx3 (.inr z))
                    have tu := tmp_upd (ob := ob') t1.rel tb hD (hF5.mpr hFD2) hND5
                    have fr5 : Kp H6 F6 (upd H6 Dd ob') F6 := ⟨fun b o e f => ⟨by rw [upd_ne (fun z => f (by rw [z]; exact hF5.mpr hFD2))]; exact e, f⟩, fun _ _ h => h⟩
                    exact ⟨F6, _, ac', tu, pr _ _ fr5 upd_same, hF5.mpr hFD2, hND5, w.stay F6 s6 _ σ3 σ H6 F6 _ u3.rel (w.stay F2 s3 s6 σ3 σ3 H2 F6 H6 r3 g2 u3.rel (u3.frs r3)) tu.rel fr5, e'⟩
      · left
        have hi : i = ds.length := by omega
        subst hi
        rw [List.drop_length] at e'
        simp only [dcL, Option.some.injEq, Prod.mk.injEq] at e'
        obtain ⟨rfl, rfl⟩ := e'
        refine ⟨w.stop F' s' σ H' t'.rel g', ?_⟩
        exact k (.ref Dd) H' F' (t1.trans t') ⟨Dd, rfl, hl, hFD, t1.gone hD, fun z => z.elim (fun z => hnO (t'.own _ z)) hND⟩
    · cases e
  · cases e
theorem se_dcomp {kx vx tg iter : Expr} {ifs : List Expr} {scope : Scope} {own : List (Str × Nat)} {pos : Pos} {it : Mn β (List D)} {is : List Nat} {mt : Tm β} {tt : Mn β Bool} {tk tv : Mn β R} (hc : X.calm = true) (hN : X.N.Nodup) (hu : X.A.units + 8 < cLine) (hi : PI X tg iter (tIt it)) (ok : BlkOk X.N X.env.scope scope own)
    (hv : ∀ i ∈ is, i ∈ own.map (·.2)) (hgv : TgV mt)
    (hg : ∀ (s : Shared) (H : Hp) (C : Addr) (cl : List (Str × Addr)) (fp : List Addr), PG (X.blk s H scope (compEnvC scope cl C X.env) fp) tg (gTm mt is)) (ht : ∀ (s : Shared) (H : Hp) (C : Addr) (cl : List (Str × Addr)) (fp : List Addr), PTs (X.blk s H scope (compEnvC scope cl C X.env) fp) ifs (tTs tt))
    (hk : ∀ (s : Shared) (H : Hp) (C : Addr) (cl : List (Str × Addr)) (fp : List Addr), PE (X.blk s H scope (compEnvC scope cl C X.env) fp) kx (tE tk))
    (he : ∀ (s : Shared) (H : Hp) (C : Addr) (cl : List (Str × Addr)) (fp : List Addr), PE (X.blk s H scope (compEnvC scope cl C X.env) fp) vx (tE tv)) (hs : ∀ x, foldedSetIterable iter X.env x = pure x := by intro _; rfl) (hw : X.w = Wrt.w := by rfl) (hK : X.K = Wrt.K := by rfl) :
    PE X (.DictComp kx vx [⟨tg, iter, ifs, 0⟩] scope pos) (tE (mDcomp (own.map (·.2)) it mt tt (mD tk) (mD tv))) :=
  peI (pe_dg (Put := PutA) hc hN hi ok (fun s H C cl fp => ⟨hg s H C cl fp, ht s H C cl fp, se_d (hk s H C cl fp), se_d (he s H C cl fp), putA_sound hw hK hu⟩) hs) (dcomp_reads hv hgv)
/-- y = {..}, y a local name -/
theorem ss_setDc {i : Nat} {y : Str} {py : Pos} {kx vx tg iter : Expr} {ifs : List Expr} {scope : Scope} {own : List (Str × Nat)} {pos spos : Pos} {it : Mn β (List D)} {is : List Nat} {mt : Tm β} {tt : Mn β Bool} {tk tv : Mn β R} (hc : X.calm = true) (hN : X.N.Nodup) (hy : X.N[i]? = some y) (hyl : X.env.scope.names.lookup y = some .local)
    (hsw : swapsWith (.DictComp kx vx [⟨tg, iter, ifs, 0⟩] scope pos) (some (.Name y py)) spos.line X.env = pure true) (hu : X.A.units + 8 < cLine) (hi : PI X tg iter (tIt it)) (ok : BlkOk X.N X.env.scope scope own)
    (hv : ∀ i ∈ is, i ∈ own.map (·.2)) (hgv : TgV mt)
    (hg : ∀ (s : Shared) (H : Hp) (C : Addr) (cl : List (Str × Addr)) (fp : List Addr), PG (X.blk s H scope (compEnvC scope cl C X.env) fp) tg (gTm mt is)) (ht : ∀ (s : Shared) (H : Hp) (C : Addr) (cl : List (Str × Addr)) (fp : List Addr), PTs (X.blk s H scope (compEnvC scope cl C X.env) fp) ifs (tTs tt))
    (hk : ∀ (s : Shared) (H : Hp) (C : Addr) (cl : List (Str × Addr)) (fp : List Addr), PE (X.blk s H scope (compEnvC scope cl C X.env) fp) kx (tE tk))
    (he : ∀ (s : Shared) (H : Hp) (C : Addr) (cl : List (Str × Addr)) (fp : List Addr), PE (X.blk s H scope (compEnvC scope cl C X.env) fp) vx (tE tv)) (hs : ∀ x, foldedSetIterable iter X.env x = pure x := by intro _; rfl) (hw : X.w = Wrt.w := by rfl) (hK : X.K = Wrt.K := by rfl) :
    PS X (.Assign [.Name y py] (.DictComp kx vx [⟨tg, iter, ifs, 0⟩] scope pos) spos) (tSt (mSet i (mDcomp (own.map (·.2)) it mt tt (mD tk) (mD tv)))) := by
  refine psI (ps_setDg (Put := PutA) hc hN hy hyl hsw hi ok (fun s H C cl fp => ⟨hg s H C cl fp, ht s H C cl fp, se_d (hk s H C cl fp), se_d (he s H C cl fp), putA_sound hw hK hu⟩) hs) fun D σ H q => ?_
  obtain ⟨c, F, st, o, st', rl, e, g⟩ := q
  obtain ⟨r, s1, e1, e⟩ := mBind_some e
  refine dcomp_reads hv hgv _ _ _ ⟨c, F, st, r, s1, rl, e1, fun v H1 F1 t1 h1 => ?_⟩
  cases q : setSl i r s1 with
  | none => rw [q] at e; cases e
  | some s2 =>
    rw [q] at e
    simp only [Option.some.injEq, Prod.mk.injEq] at e
    obtain ⟨rfl, rfl⟩ := e
    obtain ⟨F2, r2, f2⟩ := setSl_ok rl t1 h1 q
    exact g _ H1 F2 r2 f2
end
/-! ### evaluation -/
def dPuts : D → List (D × D) → Option D
  | acc, [] => some acc
  | acc, (k, x) :: r => (dPutA acc k x).bind fun acc' => dPuts acc' r
theorem dcL_pure {vs : List Nat} {tg : Tm β} {tt : Mn β Bool} {tk tv : Mn β D} (kf vf : D → D) (st1 : Sta β) : ∀ (ds : List D) (acc : D), (∀ d ∈ ds, ∃ s1 s2 s3 s4, tg d { st1 with env := wipeE st1.env vs } = some s1 ∧ tt s1 = some (true, s2) ∧ tk s2 = some (kf d, s3) ∧ tv s3 = some (vf d, s4) ∧ s4.bag = st1.bag ∧ backE st1.env s4.env vs = st1.env) →
    dcL vs st1.env tg tt tk tv ds acc st1 = (dPuts acc (ds.map fun d => (kf d, vf d))).map fun o => (o, st1)
  | [], acc, _ => rfl
  | d :: ds, acc, h => by
    obtain ⟨s1, s2, s3, s4, e1, e2, e3, e4, e5, e6⟩ := h d List.mem_cons_self
    simp only [dcL, e1, e2, e3, e4, List.map_cons, dPuts]
    cases q : dPutA acc (kf d) (vf d) with
    | none => rfl
    | some acc' =>
      have e7 : ({ s4 with env := backE st1.env s4.env vs } : Sta β) = st1 := by
        obtain ⟨en, bg⟩ := st1
        simp only at e5 e6 ⊢
        rw [e5, e6]
      simp only [Option.bind_some]
      rw [e7]
      exact dcL_pure kf vf st1 ds acc' fun d hd => h d (List.mem_cons_of_mem _ hd)
theorem mDcomp_pure {vs : List Nat} {it : Mn β (List D)} {tg : Tm β} {tt : Mn β Bool} {tk tv : Mn β D} {st st1 : Sta β} {ds : List D} (kf vf : D → D) (h0 : it st = some (ds, st1)) (no : noOwn st1.env vs = true)
    (h : ∀ d ∈ ds, ∃ s1 s2 s3 s4, tg d { st1 with env := wipeE st1.env vs } = some s1 ∧ tt s1 = some (true, s2) ∧ tk s2 = some (kf d, s3) ∧ tv s3 = some (vf d, s4) ∧ s4.bag = st1.bag ∧ backE st1.env s4.env vs = st1.env) :
    mDcomp vs it tg tt tk tv st = (dPuts (.dic [] []) (ds.map fun d => (kf d, vf d))).map fun o => (.new o, st1) := by
  have e : mDcomp vs it tg tt tk tv st = (it st).bind fun p => if noOwn p.2.env vs = true then (match dcL vs p.2.env tg tt tk tv p.1 (.dic [] []) p.2 with
    | some (acc, st') => some (.new acc, st')
    | none => none) else none := by
    unfold mDcomp mBind
    cases it st <;> rfl
  rw [e, h0, Option.bind_some]
  simp only
  rw [if_pos no, dcL_pure kf vf st1 ds _ h]
  cases dPuts (.dic [] []) (ds.map fun d => (kf d, vf d)) <;> rfl
end M

/-! MDsort: sorted of a dict whose keys are tuples of whole numbers. -/
namespace M
open PySem PySem.Spec PyProof.Rows L2 SrtO
section
variable {prog : Program} {w : World} {A : Around} {E : Value → Shared → Prop} {s : Shared}
theorem items_all : ∀ {l vs : List Value}, l.length = vs.length → (∀ (j : Nat) (v : Value), l[j]? = some v → vs[j]? = some v) → l = vs
  | [], [], _, _ => rfl
  | x :: l, y :: vs, hl, h => by
    have e := h 0 x rfl
    simp only [List.getElem?_cons_zero, Option.some.injEq] at e
    subst e
    exact congrArg (_ :: ·) (items_all (l := l) (vs := vs) (by simpa using hl) fun j v z => by simpa using h (j + 1) v (by simpa using z))
theorem sorted_ordD {a : Addr} {es : Array DictEntry} {ep : Nat} {vs : List Value} {ltv : Value → Value → Bool} {Q : Value → Shared → Prop} (O : Swo ltv) (hh : A.handled = none) (ha : (a == sysModules) = false) (hd : s.heap.DictRaw a es ep) (hv : es.toList.map (·.key) = vs) (hz : vs.length ≤ sizeLine)
    (hS : 2 ≤ vs.length → ∀ (h₁ : Heap) (tk : Nat) (l : Addr), h₁.get? l = some (seqObj "list" vs.toArray 0) → (∀ b o, s.heap.get? b = some o → b ≠ l ∧ h₁.get? b = some o) → SortableO prog w A.in1.in1 { s with heap := h₁, toks := tk } l vs ltv)
    (h : ∀ (out : List Value) (h1 h2 : Heap) (tk e : Nat), Srtd ltv out → Stb ltv out vs → (∀ b o, s.heap.get? b = some o → h1.get? b = some o) → (∀ b o, h1.get? b = some o → h2.get? b = some o) → h2.get? h1.objs.size = some { cls := .type "list", data := .seq out.toArray e } → Q (.ref h1.objs.size) { s with heap := h2, toks := tk }) :
    wpAny (model prog w) A (call (.builtin "sorted") [.ref a]) Q E s := by
  have hn : es.size = vs.length := by rw [← hv, List.length_map, Array.length_toList]
  refine (Calls.call_function_entry kind_sorted plain_sorted entry_sorted (args_sorted1 _) ?_)
  unfold Builtin.«sorted»
  refine wpAny_bind (m := checkCount "sorted" 1 1 _) (wpAny_pure (wpAny_bind (PySem.W.kdu_collect (A := A.in1) (PySem.KdlSrc.rawDict (es := es) (ep := ep) ha) hh hd (by rw [hn]; exact hz) fun h' tk acc hk hacc => ?_)))
  have e : acc.toList = vs := items_all (by rw [Array.length_toList, hacc.1, hn]) fun j v z => by
    obtain ⟨hi, hj⟩ := hacc.2 j v (by rw [← Array.getElem?_toList]; exact z)
    rw [← hv, List.getElem?_map, Array.getElem?_toList, Array.getElem?_eq_getElem hi, hj]
    rfl
  rw [e]
  refine wpAny_bind (wpAny_newList ?_ hz)
  have hoL : (h'.push (seqObj "list" vs.toArray 0)).get? h'.objs.size = some (seqObj "list" vs.toArray 0) := Heap.get?_push_size _ rfl
  have keep : ∀ b o, s.heap.get? b = some o → b ≠ h'.objs.size ∧ (h'.push (seqObj "list" vs.toArray 0)).get? b = some o := fun b o q => ⟨Nat.ne_of_lt (Heap.lt_size (hk b o q)), Heap.get?_push_of_some _ (hk b o q)⟩
  show wpAny _ _ _ _ _ { s with heap := h'.push (seqObj "list" vs.toArray 0), toks := tk }
  refine wpAny_bind (wpAny_holding (wpAny_call_entry slot_list_sort ⟨_, hoL, rfl⟩ entry_list_sort (list_sort_ord O (s := { s with heap := h'.push (seqObj "list" vs.toArray 0), toks := tk }) hoL hz (fun h2 => hS h2 _ tk _ hoL keep) fun out hs hb => ⟨_, rfl, wpAny_pure ⟨_, rfl, ?_⟩⟩) (args_list_sort _)))
  obtain ⟨ep', he'⟩ := PyProof.Rows.sortedHeap_at (vs := vs) (out := out.toArray) hoL
  refine h out h' _ tk ep' hs hb hk (fun b o q => ?_) he'
  have lt := Heap.lt_size q
  rw [PyProof.Rows.sortedHeap_old (Nat.ne_of_lt lt) (by rw [size_push']; exact Nat.lt_succ_of_lt lt)]
  exact Heap.get?_push_of_some _ q
end
variable [Wrt]
def rSortedDT (K : PySem.W.Frag) : List V → Hp → VK → Prop := fun vs H Q => ∃ (a : Addr) (kas : List (NestedKey × Addr)) (xs : List V), vs = [V.ref a] ∧ DitH H a kas xs ∧ (∀ p ∈ kas, ∃ ns : List Int, ns ≠ [] ∧ SqT K H p.2 (ns.map V.int)) ∧
  ∀ k : V → List Int, (∀ (ns : List Int) (t : Addr), SqT K H t (ns.map V.int) → k (V.ref t) = ns) → ∀ ys p, Srtd (fun x y => lexL (k x) (k y)) ys → Stb (fun x y => lexL (k x) (k y)) ys (kas.map fun p => V.ref p.2) → H p = none → Q (.ref p) (upd H p (.lst ys))
theorem es_keys {kas : List (NestedKey × Addr)} : ∀ {vs : List Value}, vs.length = kas.length → (List.zipWith (fun (p : NestedKey × Addr) v => (⟨p.1.hash Wrt.w, .ref p.2, v⟩ : DictEntry)) kas vs).map (·.key) = kas.map fun p => Value.ref p.2 := by
  induction kas with
  | nil => intro vs _; rfl
  | cons p kas ih =>
    intro vs h
    cases vs with
    | nil => simp at h
    | cons v vs =>
      simp only [List.zipWith_cons_cons, List.map_cons]
      rw [ih (by simpa using h)]
section
variable {X : Cx}
open Classical in
theorem cr_sortedDT (hc : X.calm = true) (hw : X.w = Wrt.w) (hK : X.K = Wrt.K) : CallR X (.builtin "sorted") (rSortedDT X.K) := by
  intro pins s σ H vs us Q I r h
  obtain ⟨a, kas, xs, rfl, hd, hx0, q0⟩ := h
  let k : V → List Int := fun x => if h : ∃ ns : List Int, ∃ t, x = V.ref t ∧ SqT X.K H t (ns.map V.int) then h.choose else []
  have hk : ∀ (ns : List Int) (t : Addr), SqT X.K H t (ns.map V.int) → k (V.ref t) = ns := fun ns t ht => by
    have hh : ∃ ns : List Int, ∃ t', V.ref t = V.ref t' ∧ SqT X.K H t' (ns.map V.int) := ⟨ns, t, rfl, ht⟩
    show (if h : ∃ ns : List Int, ∃ t', V.ref t = V.ref t' ∧ SqT X.K H t' (ns.map V.int) then h.choose else []) = ns
    rw [dif_pos hh]
    obtain ⟨t', e1, e2⟩ := hh.choose_spec
    cases e1
    exact vints_inj (sqt_uniq I e2 ht)
  have q := q0 k hk
  obtain ⟨u, rfl, ru⟩ := vals1 r
  obtain rfl : u = Value.ref a := ru
  obtain ⟨vs, h1, h2, ⟨o, es, ep, g1, g2, g3, g4, _, _⟩, hn⟩ := hd.of hw hK I
  rw [hw, kaItems_es] at g4
  have hp : ∀ v ∈ kas.map (fun p => Value.ref p.2), IsTupI s.heap v (k (backV v)) ∧ k (backV v) ≠ [] := fun v hv => by
    obtain ⟨p, hp, rfl⟩ := List.mem_map.mp hv
    obtain ⟨ns, hne, ht⟩ := hx0 p hp
    have e2 : k (backV (Value.ref p.2)) = ns := hk ns p.2 ht
    rw [e2]
    obtain ⟨its2, r2, ⟨o, ho, hc, n, hd⟩, _⟩ := I.tuple ht
    have hi : IntsAre its2.toArray.toList ns := by
      rw [show its2.toArray.toList = its2 by simp]
      exact r2.ints
    exact ⟨⟨p.2, o, its2.toArray, n, rfl, ho, hc, hd, hi⟩, hne⟩
  have hz : (kas.map fun p => Value.ref p.2).length ≤ sizeLine := by rw [List.length_map]; exact hd.len
  refine sorted_ordD (swo_lexL fun u => k (backV u)) (I.ok.hd hc) hn ⟨o, g1, g2, g3⟩ (by rw [g4, es_keys h2]) hz (fun h2 h₁ tk l ha kk => ?_) fun out hp1 hp2 tk e h3 h4 k1 k2 he => ?_
  · refine tupI_sortable (s := { s with heap := h₁, toks := tk }) (by omega) (fun v hm => ⟨(hp v hm).1.keeps fun b o e _ => (kk b o e).2, (hp v hm).2⟩) fun o e => ?_
    have e' := e.symm.trans ha
    cases e'
    intro c
    exact absurd (Value.type.inj c) (by decide)
  · have h5 : ∀ u ∈ out, ∃ a, u = Value.ref a := fun u hu => by
      obtain ⟨p, _, z⟩ := List.mem_map.mp (h4.perm.mem_iff.mp hu)
      exact ⟨p.2, z.symm⟩
    have e1 : (kas.map fun p => V.ref p.2) = (kas.map fun p => Value.ref p.2).map backV := by rw [List.map_map]; rfl
    have hb : Stb (fun x y => lexL (k x) (k y)) (out.map backV) (kas.map fun p => V.ref p.2) := by
      rw [e1]
      exact Stb.map (swo_lexL k) backV h4
    have I1 : Inv X pins σ H { s with heap := hp1, toks := tk } := I.kept k1
    exact ⟨.ref _, upd H hp1.objs.size (.lst (out.map backV)), I1.laid (t' := tk) k2 (Nat.le_refl _) ⟨by rw [hb.len, List.length_map]; exact hd.len, out, e, vals_back h5, he⟩, rfl, q _ _ (srtd_map h3) hb (I1.hok.fresh (Nat.le_refl _))⟩
def rSortedB (K : PySem.W.Frag) : List V → Hp → VK → Prop := fun vs H Q => rSortedA K vs H Q ∨ rSortedDT K vs H Q
theorem cr_sortedB (hc : X.calm = true) (hw : X.w = Wrt.w) (hK : X.K = Wrt.K) : CallR X (.builtin "sorted") (rSortedB X.K) := by
  intro pins s σ H vs us Q I r h
  rcases h with h | h
  · exact cr_sortedA pins s σ H vs us Q I r h
  · exact cr_sortedDT hc hw hK pins s σ H vs us Q I r h
end
/-- sorted, of a dict too -/
def fSortedB : List D → Option R
  | [.dit ks _] => match intssOf ks with
    | some nss => some (.new (.lst ((srtLL nss).map fun ns => .tup (ns.map D.int))))
    | none => none
  | [.dic [] _] => some (.new (.lst []))
  | ds => fSorted ds
@[simp] theorem fSortedB_l (l : List D) : fSortedB [.lst l] = fSorted [.lst l] := rfl
@[simp] theorem fSortedB_0 (l : List D) : fSortedB [.dic [] l] = some (.new (.lst [])) := rfl
@[simp] theorem fSortedB_t (l : List D) : fSortedB [.tup l] = fSorted [.tup l] := rfl
theorem ok_sortedB : OkC (rSortedB Wrt.K) fSortedB := fun H F rv xs ds res Q hx he k => by
  unfold fSortedB at he
  split at he
  · rename_i ks l
    split at he
    · rename_i nss hn
      cases he
      obtain ⟨v, rfl, h⟩ := pkl1 hx
      obtain ⟨a, kas, xs, rfl, h1, hk, hln, hl, hm⟩ := h
      have hp := intss_rep hn hl
      refine .inr ⟨a, kas, xs, rfl, ⟨.inl h1, keys_of hk.ks hl, hk.nd, hk.deep, hk.len⟩, fun p hpm => ?_, fun kf hkf ys p h1 h2 hpn => ?_⟩
      · obtain ⟨ns, hne, t, e, ht⟩ := paired_mem hp (V.ref p.2) (List.mem_map.mpr ⟨p, hpm, rfl⟩)
        cases e
        exact ⟨ns, hne, ht.sq⟩
      · have hm : (kas.map fun p => V.ref p.2).map kf = nss := paired_map hp fun x ns ⟨_, t, e, ht⟩ => by rw [e]; exact hkf ns t ht.sq
        have hm2 : ys.map kf = srtLL nss := srtLL_uniq (by rw [← hm]; exact h2.perm.map kf) (List.pairwise_map.mpr h1)
        rw [← hm2, List.map_map] at k
        refine k _ _ (.lst hpn (RepL.keyed fun y hy => ?_))
        obtain ⟨ns, hne, t, e, ht⟩ := paired_mem hp y (h2.perm.mem_iff.mp hy)
        have e2 : kf y = ns := by rw [e]; exact hkf ns t ht.sq
        show Rep H F rv (.tup ((kf y).map D.int)) y
        rw [e2, e]
        simp only [Rep]
        exact ⟨t, _, rfl, ht, RepL.ints⟩
    · cases he
  · rename_i l
    cases he
    obtain ⟨v, rfl, h⟩ := pkl1 hx
    obtain ⟨a, xs, rfl, h1, hk, hl⟩ := h
    refine .inr ⟨a, [], [], rfl, ⟨.inr ⟨rfl, rfl, h1⟩, fun p hp => by simp at hp, by simp, fun p hp => by simp at hp, by simp⟩, fun p hp => by simp at hp, fun kf hkf ys p h1 h2 hpn => ?_⟩
    have e : ys = [] := List.length_eq_zero_iff.mp (by simpa using h2.len)
    subst e
    exact k _ _ (.lst hpn .nil)
  · exact ok_sorted H F rv xs ds res (fun v H' => Q v H') hx he k |>.elim (fun h => .inl (.inl h)) fun h => .inl (.inr h)
end M

/-! MDit2: d[k], d.setdefault(k, x) where the keys are tuples. -/
namespace M
open PySem PySem.Spec PyProof.Rows L2
variable [Wrt]
variable {β : Type} [Sto β] [Kind β]
/-! ### d[k] -/
def rIxT : R2 := fun x y H Q => ∃ (D b : Addr) (kas : List (NestedKey × Addr)) (xs : List V) (k : NestedKey) (v : V), x = .ref D ∧ y = .ref b ∧ DitH H D kas xs ∧ KeyR H k (.ref b) ∧ k.depth ≤ 8 ∧ gGet (kas.map (·.1)) xs k = some v ∧ Q v H
theorem gGet_vals {k : NestedKey} : ∀ {ks : List NestedKey} {xs : List V} {vs : List Value} {v : V}, Vals xs vs → gGet ks xs k = some v → ∃ w, gGet ks vs k = some w ∧ RelV v w
  | [], _, _, _, _, e => by simp [gGet] at e
  | _ :: _, _, _, _, .nil, e => by simp [gGet] at e
  | q :: ks, _, _, v, .cons h1 h2, e => by
    simp only [gGet] at e ⊢
    by_cases z : q = k
    · rw [if_pos z] at e ⊢
      cases e
      exact ⟨_, rfl, h1⟩
    · rw [if_neg z] at e ⊢
      exact gGet_vals h2 e
theorem gGet_none {k : NestedKey} : ∀ {ks : List NestedKey} {xs : List V} {vs : List Value}, Vals xs vs → gGet ks xs k = none → gGet ks vs k = none
  | [], _, _, _, e => by simp [gGet]
  | _ :: _, _, _, .nil, e => by simp [gGet]
  | q :: ks, _, _, .cons h1 h2, e => by
    simp only [gGet] at e ⊢
    by_cases z : q = k
    · rw [if_pos z] at e; cases e
    · rw [if_neg z] at e ⊢
      exact gGet_none h2 e
theorem room_in1 {P : Program} {w : World} {A : Around} (hu : A.units + 9 < cLine) : (nestedKind P w).room A.in1 := hu
section
variable {X : Cx} {pins : List (Addr × Obj)} {σ : L2.St} {H : Hp} {s : Shared}
theorem DitH.ty (hw : X.w = Wrt.w) (hK : X.K = Wrt.K) (I : Inv X pins σ H s) {a : Addr} {kas : List (NestedKey × Addr)} {xs : List V} (h : DitH H a kas xs) : s.TypeIs (.ref a) "dict" ∧ (∀ b, Value.ref a = .ref b → ∃ ob, s.heap.get? b = some ob ∧ ob.dict = none) := by
  obtain ⟨vs, _, _, dd, _⟩ := h.of hw hK I
  refine ⟨dd.typeIs, fun b q => ?_⟩
  cases q
  obtain ⟨ob, _, _, h1, h2, _⟩ := dd
  exact ⟨ob, h1, h2.2.1⟩
theorem ix_dit (hw : X.w = Wrt.w) (hK : X.K = Wrt.K) (hu : X.A.units + 9 < cLine) : IxR X rIxT := by
  intro value slice pins s σ H x y v u Q I rx ry h hs
  obtain ⟨D, b, kas, xs, k, z, rfl, rfl, hd, hk, hdp, hg, q⟩ := h
  obtain rfl : v = Value.ref D := rx
  obtain rfl : u = Value.ref b := ry
  obtain ⟨vs, h1, h2, dd, hn⟩ := hd.of hw hK I
  obtain ⟨w, hw', rw'⟩ := gGet_vals h1 hg
  rw [← kaItems_at h2] at hw'
  obtain ⟨p, hp, hp2⟩ := Option.map_eq_some_iff.mp hw'
  refine tail_any dd.typeIs PySem.F.slot_dict_getitem.lookup (wpAny_getItem_heap (knd := nestedKind X.prog X.w) (room_in1 hu) (hk.is hK I hdp) dd hp ?_) hs
  rw [hp2]
  exact ⟨z, H, I.tok _, rw', q⟩
end
def fIxT : D → D → Option R
  | .dit ks ds, k => match tKey k with
    | some q => match gGet (ks.map nk) ds (some q) with
      | some d => some (.val d)
      | none => none
    | none => none
  | _, _ => none
section
variable {H : Hp} {F : Gh} {rv : V}
theorem gGet_some' {α : Type} {q : NestedKey} : ∀ {l : List NestedKey} {xs : List α}, gGet (l.map some) xs (some q) = gGet l xs q
  | [], _ => by simp [gGet]
  | k :: l, [] => by simp [gGet]
  | k :: l, x :: xs => by
    simp only [List.map_cons, gGet, Option.some.injEq]
    rw [gGet_some' (l := l)]
theorem gGet_rep {q : NestedKey} {d : D} : ∀ {ks : List NestedKey} {ds : List D} {vs : List V}, RepL H F rv ds vs → gGet ks ds q = some d → ∃ v, gGet ks vs q = some v ∧ Rep H F rv d v
  | [], _, _, _, e => by simp [gGet] at e
  | _ :: _, [], _, _, e => by simp [gGet] at e
  | k :: ks, e :: ds, _, r, h => by
    simp only [RepL] at r
    obtain ⟨v, t, rfl, h1, h2⟩ := r
    simp only [gGet] at h ⊢
    by_cases z : k = q
    · rw [if_pos z] at h ⊢
      cases h
      exact ⟨v, rfl, h1⟩
    · rw [if_neg z] at h ⊢
      exact gGet_rep h2 h
theorem gGet_repN {q : NestedKey} : ∀ {ks : List NestedKey} {ds : List D} {vs : List V}, RepL H F rv ds vs → gGet ks ds q = none → gGet ks vs q = none
  | [], _, _, _, _ => by simp [gGet]
  | _ :: _, [], _, r, _ => by simp only [RepL] at r; subst r; simp [gGet]
  | k :: ks, e :: ds, _, r, h => by
    simp only [RepL] at r
    obtain ⟨v, t, rfl, h1, h2⟩ := r
    simp only [gGet] at h ⊢
    by_cases z : k = q
    · rw [if_pos z] at h; cases h
    · rw [if_neg z] at h ⊢
      exact gGet_repN h2 h
theorem ok_ixT : Ok2 rIxT fIxT := fun H F rv x y d e res Q hx hy he k => by
  cases d with
  | dit ks ds =>
    simp only [fIxT] at he
    cases t : tKey e with
    | none => rw [t] at he; cases he
    | some q' =>
      rw [t] at he
      simp only at he
      cases g : gGet (ks.map nk) ds (some q') with
      | none => rw [g] at he; cases he
      | some d' =>
        rw [g] at he
        cases he
        obtain ⟨ds', rfl, e2, hd⟩ := tKey_inv t
        obtain ⟨a, kas, xs, rfl, h1, hk, hn, hl, hm⟩ := hx
        have hy' : Rep H F rv (.tup ds') y := hy
        have hy2 := hy'
        simp only [Rep] at hy2
        obtain ⟨b, _, rfl, _, _⟩ := hy2
        have e0 : ks.map nk = (kas.map (·.1)).map some := by rw [hk.ks, List.map_map]; rfl
        rw [e0, gGet_some'] at g
        obtain ⟨v, g2, hv⟩ := gGet_rep hm g
        exact ⟨a, b, kas, xs, q', v, rfl, rfl, ⟨.inl h1, keys_of hk.ks hl, hk.nd, hk.deep, hk.len⟩, ⟨F, rv, _, e2, hy'⟩, hd, g2, k _ _ (.same hv)⟩
  | _ => cases he
end
/-! ### d.setdefault(k, x) -/
def tDSetT (td ty tx : TE) : TE := fun σ H Q => td σ H fun x H1 => ∃ a, x = .ref a ∧ (∃ kas xs, DitH H1 a kas xs) ∧ ty σ H1 fun y H2 => tx σ H2 fun z H3 => ∃ (kas : List (NestedKey × Addr)) (xs : List V) (k : NestedKey) (b : Addr), DitH H3 a kas xs ∧ y = .ref b ∧ KeyR H3 k (.ref b) ∧ k.depth ≤ 8 ∧
  (∀ v, gGet (kas.map (·.1)) xs k = some v → Q v H3) ∧ (gGet (kas.map (·.1)) xs k = none → Q z (upd H3 a (ditO a (kaPut kas k b) (gPutV (kas.map (·.1)) xs k z))))
section
variable {X : Cx} {pins : List (Addr × Obj)} {σ : L2.St} {H : Hp} {s : Shared}
theorem dit_setd (hw : X.w = Wrt.w) (hK : X.K = Wrt.K) (hu : X.A.units + 9 < cLine) (I : Inv X pins σ H s) {D b : Addr} {kas : List (NestedKey × Addr)} {xs : List V} {k : NestedKey} {z : V} {r : Value} {Q : Value → Shared → Prop} {E : Value → Shared → Prop} (h : DitH H D kas xs) (hk : KeyR H k (.ref b)) (hd : k.depth ≤ 8) (rz : RelV z r)
    (q1 : ∀ v, gGet (kas.map (·.1)) xs k = some v → ∀ (w' : Value) (s' : Shared), Inv X pins σ H s' → RelV v w' → Q w' s')
    (q2 : gGet (kas.map (·.1)) xs k = none → ∀ (w' : Value) (s' : Shared), Inv X pins σ (upd H D (ditO D (kaPut kas k b) (gPutV (kas.map (·.1)) xs k z))) s' → RelV z w' → Q w' s') :
    wpAny (model X.prog X.w) X.A (call (.builtin "dict.setdefault") [.ref D, .ref b, r]) Q E s := by
  obtain ⟨vs, h1, h2, dd, hn⟩ := h.of hw hK I
  refine call_meetsIn PySem.F.slot_dict_setdefault dd.typeIs PySem.F.entry_dict_setdefault (PySem.F.args_dict_setdefault_3 _ _ _) (meetsH_dict_setdefault (nestedKind X.prog X.w) D b hn r)
    ⟨room_in1 hu, k, kaItems kas vs, hk.is hK I hd, dd, by rw [kaItems_len h2]; exact h.len, fun p hp => ?_, fun hno h' dd' hs => ?_⟩
  · have e := kaItems_at (k := k) h2
    rw [hp] at e
    cases g : gGet (kas.map (·.1)) xs k with
    | none => rw [gGet_none h1 g] at e; cases e
    | some v =>
      obtain ⟨w, e1, rw'⟩ := gGet_vals h1 g
      rw [e1] at e
      cases e
      exact q1 v g _ _ (I.tok _) rw'
  · have e := kaItems_at (k := k) h2
    rw [hno] at e
    have g : gGet (kas.map (·.1)) xs k = none := by
      cases g : gGet (kas.map (·.1)) xs k with
      | none => rfl
      | some v =>
        obtain ⟨w, e1, _⟩ := gGet_vals h1 g
        rw [e1] at e
        cases e
    have he : ∃ q, h'.get? D = some q := let ⟨q, _, _, hq, _⟩ := dd'; ⟨q, hq⟩
    have hm : Mut (H D) := by
      rcases h.at_ with e | ⟨_, _, e⟩ <;> (rw [e]; exact True.intro)
    rw [kaItems_put h2] at dd'
    refine q2 g r _ (d_write I hm hs he (dit_new hw (Vals.gPut rz h1) ?_ hn dd')) rz
    rw [gPutV_len (by simp [h2])]
    unfold kaPut
    simp only [List.length_map]
    split <;> simp
theorem pe_dsetT {o e f : Expr} {td ty tx : TE} {apos cpos : Pos} (hw : X.w = Wrt.w) (hK : X.K = Wrt.K) (hu : X.A.units + 9 < cLine) (ho : PE X o td) (he : PE X e ty) (hf : PE X f tx) (m : M2 X o "setdefault" apos e f cpos) : PE X (.Call (.Attribute o "setdefault" apos) [e, f] [] cpos) (tDSetT td ty tx) := by
  refine ⟨fun pins s σ H Q I h => ?_⟩
  refine wpAny_Call_method m.base m.few m.line PySem.F.plainAttrs_dict PySem.F.slot_dict_setdefault PySem.F.type_dict_setdefault (thn (ho.run pins s σ H _ I h) fun u s1 ⟨x, H1, I1, rx, a, ex, ⟨kas0, xs0, d⟩, q1⟩ => ?_)
  subst ex
  obtain rfl : u = Value.ref a := rx
  obtain ⟨t1, t2⟩ := d.ty hw hK I1
  refine ⟨t1, t2, ?_⟩
  rw [m.trees]
  refine Calls.callWith_builtin rfl (Calls.evalArgs_plain (Calls.spliced_cons (thn (he.run pins s1 σ H1 _ I1 q1) fun iv s2 ⟨y, H2, I2, ry, q2⟩ =>
    Calls.spliced_cons (thn (hf.run pins s2 σ H2 _ I2 q2) fun fv s3 ⟨z, H3, I3, rz, kas, xs, k, b, d3, ey, hk, hdp, q3, q4⟩ => Calls.spliced_nil ?_))))
  subst ey
  obtain rfl : iv = Value.ref b := ry
  exact dit_setd hw hK hu I3 d3 hk hdp rz (fun v hv w' s4 I4 rw' => ⟨v, _, I4, rw', q3 v hv⟩) fun hn w' s4 I4 rw' => ⟨z, _, I4, rw', q4 hn⟩
end
/-- (what it tells, what it leaves) -/
def dSetd : D → D → D → Option (D × D)
  | .dic ks ds, k, x => match tKey k, ks with
    | some _, [] => some (x, .dit [k] [x])
    | _, _ => none
  | .dit ks ds, k, x => match tKey k with
    | some q => match gGet (ks.map nk) ds (some q) with
      | some d => some (d, .dit ks ds)
      | none => if ks.length < line then some (x, .dit (ks ++ [k]) (ds ++ [x])) else none
    | none => none
  | _, _, _ => none
def isTd : D → Bool
  | .dic ks _ => ks.isEmpty
  | .dit _ _ => true
  | _ => false
def mSetd (i : Nat) (mk mv : Mn β D) : Mn β R := fun st => match st.env[i]? with
  | some (.own d0) => if isTd d0 = true then (match mk st with
    | some (k, s1) => match mv s1 with
      | some (x, s2) => match s2.env[i]? with
        | some (.own acc) => match dSetd acc k x with
          | some (d, acc') => some (.val d, { s2 with env := s2.env.set i (.own acc') })
          | none => none
        | _ => none
      | none => none
    | none => none) else none
  | _ => none
theorem isTd_ok {H : Hp} {F : Gh} {rv : V} {d : D} {a : Addr} (h : RepO H F rv d a) (e : isTd d = true) : ∃ kas xs, DitH H a kas xs := by
  cases d with
  | dic ks ds =>
    simp only [isTd, List.isEmpty_iff] at e
    subst e
    obtain ⟨xs, h1, hk, hl⟩ := h
    exact ⟨[], [], .inr ⟨rfl, rfl, h1⟩, fun p hp => by simp at hp, by simp, fun p hp => by simp at hp, by simp⟩
  | dit ks ds =>
    obtain ⟨kas, xs, h1, hk, hn, hl, hm⟩ := h
    exact ⟨kas, xs, .inl h1, keys_of hk.ks hl, hk.nd, hk.deep, hk.len⟩
  | _ => cases e
theorem setd_ok {H : Hp} {F : Gh} {rv : V} {o k x d o' : D} {a : Addr} {y z : V} (ro : RepO H F rv o a) (rk : Rep H F rv k y) (rx : Rep H F rv x z) (e : dSetd o k x = some (d, o')) :
    ∃ kas xs q b, DitH H a kas xs ∧ y = .ref b ∧ KeyR H q (.ref b) ∧ q.depth ≤ 8 ∧ (∀ v, gGet (kas.map (·.1)) xs q = some v → Rep H F rv d v ∧ o' = o) ∧
      (gGet (kas.map (·.1)) xs q = none → d = x ∧ ∀ H' F', Kp H F H' F' → H' a = some (ditO a (kaPut kas q b) (gPutV (kas.map (·.1)) xs q z)) → RepO H' F' rv o' a) := by
  cases o with
  | dic ks ds =>
    obtain ⟨xs, h1, hk, hl⟩ := ro
    simp only [dSetd] at e
    cases t : tKey k with
    | none => rw [t] at e; cases e
    | some q' =>
      rw [t] at e
      cases ks with
      | cons _ _ => cases e
      | nil =>
        simp only [Option.some.injEq, Prod.mk.injEq] at e
        obtain ⟨rfl, rfl⟩ := e
        obtain ⟨ks', rfl, e2, hd⟩ := tKey_inv t
        have rk' := rk
        simp only [Rep] at rk'
        obtain ⟨b, _, rfl, _, _⟩ := rk'
        have dh : DitH H a [] [] := ⟨.inr ⟨rfl, rfl, h1⟩, fun p hp => by simp at hp, by simp, fun p hp => by simp at hp, by simp⟩
        refine ⟨[], [], q', b, dh, rfl, ⟨F, rv, _, e2, rk⟩, hd, fun v hv => by simp [gGet] at hv, fun _ => ⟨rfl, fun H' F' w h' => ⟨_, _, h', ⟨?_, by simp [kaPut, gHas], fun p hp => ?_, ?_⟩, rfl, ?_, ?_⟩⟩⟩
        · simp [kaPut, gHas, e2]
        · have : p = (q', b) := by simpa [kaPut, gHas] using hp
          subst this
          exact hd
        · exact line_lt (n := 0) (by decide)
        · have := (rk.mono w)
          simp only [kaPut, gHas]
          exact .cons this .nil
        · exact .cons (rx.mono w) .nil
  | dit ks ds =>
    obtain ⟨kas, xs, h1, hk, hn, hl, hm⟩ := ro
    simp only [dSetd] at e
    cases t : tKey k with
    | none => rw [t] at e; cases e
    | some q' =>
      rw [t] at e
      obtain ⟨ks', rfl, e2, hd⟩ := tKey_inv t
      have rk' := rk
      simp only [Rep] at rk'
      obtain ⟨b, _, rfl, _, _⟩ := rk'
      have hlk : ks.length = kas.length := by have := congrArg List.length hk.ks; simpa using this
      have e0 : ks.map nk = (kas.map (·.1)).map some := by rw [hk.ks, List.map_map]; rfl
      have eh : gHas (ks.map nk) (some q') = gHas (kas.map (·.1)) q' := by rw [e0, gHas_some]
      have hlx : (kas.map (·.1)).length = xs.length := by rw [hm.length, ← hn, hlk, List.length_map]
      have dh : DitH H a kas xs := ⟨.inl h1, keys_of hk.ks hl, hk.nd, hk.deep, hk.len⟩
      have eg : gGet (ks.map nk) ds (some q') = gGet (kas.map (·.1)) ds q' := by rw [e0, gGet_some']
      simp only [eg] at e
      cases g : gGet (kas.map (·.1)) ds q' with
      | some d1 =>
        rw [g] at e
        simp only [Option.some.injEq, Prod.mk.injEq] at e
        obtain ⟨rfl, rfl⟩ := e
        obtain ⟨v1, g1, hv1⟩ := gGet_rep hm g
        refine ⟨kas, xs, q', b, dh, rfl, ⟨F, rv, _, e2, rk⟩, hd, fun v hv => ?_, fun hno => ?_⟩
        · rw [g1] at hv; cases hv; exact ⟨hv1, rfl⟩
        · rw [g1] at hno; cases hno
      | none =>
        rw [g] at e
        simp only at e
        split at e
        · rename_i hlt
          simp only [Option.some.injEq, Prod.mk.injEq] at e
          obtain ⟨rfl, rfl⟩ := e
          have g1 := gGet_repN hm g
          have hno : gHas (kas.map (·.1)) q' = false := by
            have := gGet_some (q := q') hlx
            rw [g1] at this
            exact this.symm
          have et : tPutK ks (.tup ks') q' = ks ++ [.tup ks'] := by
            unfold tPutK
            rw [eh, hno, if_neg (by decide)]
          refine ⟨kas, xs, q', b, dh, rfl, ⟨F, rv, _, e2, rk⟩, hd, fun v hv => (by rw [g1] at hv; cases hv), fun _ => ⟨rfl, fun H' F' w h' => ⟨_, _, h', et ▸ hk.put e2 hd (by rw [← hlk]; exact line_lt hlt), ?_, ?_, ?_⟩⟩⟩
          · simp [hn]
          · unfold kaPut
            rw [hno, if_neg (by decide), List.map_append]
            exact (hl.mono w).append (.cons (rk.mono w) .nil)
          · unfold gPutV
            rw [hno, if_neg (by decide)]
            exact (hm.mono w).append (.cons (rx.mono w) .nil)
        · cases e
  | _ => simp [dSetd] at e
section
variable {X : Cx}
theorem se_setd {i : Nat} {o e f : Expr} {mk mv : Mn β R} {apos cpos : Pos} (hu : X.A.units + 9 < cLine) (ho : PE X o (tVar i)) (he : PE X e (tE mk)) (hf : PE X f (tE mv)) (m : M2 X o "setdefault" apos e f cpos) (hw : X.w = Wrt.w := by rfl) (hK : X.K = Wrt.K := by rfl) :
    PE X (.Call (.Attribute o "setdefault" apos) [e, f] [] cpos) (tE (mSetd i (mD mk) (mD mv))) := by
  refine peI (pe_dsetT hw hK hu ho (se_d he) (se_d hf) m) fun σ H Q q => ?_
  obtain ⟨c, F, st, res, st', rl, e, k⟩ := q
  unfold mSetd at e
  split at e
  · rename_i d0 q0
    split at e
    · rename_i ht
      split at e
      · rename_i dk s1 e1
        split at e
        · rename_i dx s2 e2
          split at e
          · rename_i acc q1
            split at e
            · rename_i d acc' q2
              simp only [Option.some.injEq, Prod.mk.injEq] at e
              obtain ⟨rfl, rfl⟩ := e
              obtain ⟨a0, hσ, h0⟩ := own_at2 rl q0
              refine ⟨.ref a0, hσ, a0, rfl, isTd_ok h0 ht, c, F, st, dk, s1, rl, e1, fun y H1 F1 t1 h1 => ?_⟩
              refine ⟨c, F1, s1, dx, s2, t1.rel, e2, fun z H2 F2 t2 h2 => ?_⟩
              obtain ⟨a1, hσ1, h1a⟩ := own_at2 t2.rel q1
              rw [hσ] at hσ1
              cases hσ1
              obtain ⟨kas, xs, qk, b, dh, rfl, hk, hdp, g1, g2⟩ := setd_ok h1a (t2.rep t1.rel h1) h2 q2
              refine ⟨kas, xs, qk, b, dh, rfl, hk, hdp, fun v hv => ?_, fun hno => ?_⟩
              · obtain ⟨hr, rfl⟩ := g1 v hv
                have es : ({ s2 with env := s2.env.set i (.own acc') } : Sta β) = s2 := by
                  have : s2.env.set i (.own acc') = s2.env := by
                    refine List.ext_getElem? fun j => ?_
                    by_cases z : i = j
                    · subst z
                      rw [List.getElem?_set_self (List.getElem?_eq_some_iff.mp q1).1, q1]
                    · rw [List.getElem?_set_ne z]
                  rw [this]
                rw [es] at k
                exact k v H2 F2 (t1.trans t2) hr
              · obtain ⟨rfl, g3⟩ := g2 hno
                have t3 := own_upd2 (d' := acc') t2.rel q1 hσ fun H' w e => g3 H' F2 w e
                exact k z _ F2 ((t1.trans t2).trans t3) (t3.rep t2.rel h2)
            · cases e
          · cases e
        · cases e
      · cases e
    · cases e
  · cases e
end
end M

/-! MSortI: sorted of a dict with few whole numbers as keys. -/
namespace M
open PySem PySem.Spec PyProof.Rows L2
variable [Wrt]
def keysI : List Key → Option (List Int)
  | [] => some []
  | .inl i :: ks => match keysI ks with
    | some is => some (i :: is)
    | none => none
  | .inr _ :: _ => none
theorem keysI_eq : ∀ {ks : List Key} {is : List Int}, keysI ks = some is → ks = is.map Sum.inl
  | [], _, e => by cases e; rfl
  | .inl i :: ks, _, e => by
    simp only [keysI] at e
    cases q : keysI ks with
    | none => rw [q] at e; cases e
    | some js =>
      rw [q] at e
      cases e
      rw [List.map_cons, keysI_eq q]
  | .inr _ :: _, _, e => by cases e
@[simp] theorem keysI_map : ∀ is : List Int, keysI (is.map Sum.inl) = some is
  | [] => rfl
  | i :: is => by
    show (match keysI (is.map Sum.inl) with | some js => some (i :: js) | none => none) = _
    rw [keysI_map is]
def fSortedI : List D → Option R
  | [.dic ks _] => match keysI ks with
    | some is => if is.length < 64 then some (.new (.lst ((srt is).map .int))) else none
    | none => none
  | _ => none
def rSortedI : List V → Hp → VK → Prop := fun xs H Q => ∃ (a : Addr) (kvs : List (Key × V)) (ks : List Int), xs = [.ref a] ∧ Rd H a (.dK kvs) ∧ kvs.map (·.1) = ks.map Sum.inl ∧ ks.length < 64 ∧
    ∀ (ys : List Int) (p : Addr), ys.Perm ks → ys.Pairwise (· ≤ ·) → H p = none → Q (.ref p) (upd H p (.lst (ys.map V.int)))
theorem cr_sortedI {X : Cx} (hc : X.calm = true) : CallR X (.builtin "sorted") rSortedI := call_sortedDI hc
theorem ok_sortedI : OkC rSortedI fSortedI := fun H F rv xs ds res Q hx he k => by
  unfold fSortedI at he
  split at he
  · rename_i ks l
    split at he
    · rename_i is hi
      split at he
      · rename_i hlt
        cases he
        obtain ⟨v, rfl, h⟩ := pkl1 hx
        obtain ⟨a, vs, rfl, h1, hk, hl⟩ := h
        have hkl : ks.length = vs.length := by rw [hl.length]; exact hk
        refine ⟨a, ks.zip vs, is, rfl, .inl h1, ?_, hlt, fun ys p h2 h3 hp => ?_⟩
        · rw [← keysI_eq hi]
          exact List.map_fst_zip (Nat.le_of_eq hkl)
        · have e : ys = srt is := srt_uniq h2 h3
          subst e
          exact k _ _ (.lst hp RepL.ints)
      · cases he
    · cases he
  · cases he
end M

/-! MZip3: zip of a list and two tuples. -/
namespace M
open PySem PySem.Spec PyProof.Rows L2
variable [Wrt]
variable {β : Type} [Sto β] [Kind β]
/-- the items in new triples -/
def Itz3 (K : PySem.W.Frag) (a b d : Addr) : It :=
  ⟨fun i H => ∃ (xs ys zs : List V) (x y u : V), SqL K H a xs ∧ SqT K H b ys ∧ SqT K H d zs ∧ xs[i]? = some x ∧ ys[i]? = some y ∧ zs[i]? = some u,
    fun i H v H' => ∃ T x y u, v = .ref T ∧ H T = none ∧ H' = upd H T (.tup [x, y, u]) ∧ (∀ xs, SqL K H a xs → xs[i]? = some x) ∧ (∀ ys, SqT K H b ys → ys[i]? = some y) ∧ ∀ zs, SqT K H d zs → zs[i]? = some u,
    fun i H => ∃ xs ys zs : List V, SqL K H a xs ∧ SqT K H b ys ∧ SqT K H d zs ∧ i ≤ xs.length ∧ i ≤ ys.length ∧ i ≤ zs.length ∧ (i = xs.length ∨ i = ys.length ∨ i = zs.length)⟩
theorem turn_zip3 {P : Program} {w : World} {K : PySem.W.Frag} {elts : List Expr} {kk : Nat} {tpos : Pos} {a b d z TI TO i1 i2 i3 : Addr} (S : ZipSep3 z TI TO i1 i2 i3 [i1, a] [i2, b] [i3, d]) (ha : a ≠ i1) (hb : b ≠ i2) (hd : d ≠ i3) :
    Turn P w K (.Tuple elts kk tpos) (Itz3 K a b d) [z, TI, TO, i1, i2, i3] z (fun i h => IsZip h z TI TO .none ∧ IsTupOf3 h TI (.ref i1) (.ref i2) (.ref i3) ∧ (∃ x y u, IsTupOf3 h TO x y u) ∧ h.IsListIter i1 a i ∧ h.IsTupleIter i2 b i ∧ h.IsTupleIter i3 d i) where
  mem := by simp
  obj := fun i h st c hc => by
    obtain ⟨hz, hTI, ⟨x, y, u, hTO⟩, ⟨o1, e1, _, d1⟩, ⟨o2, e2, _, d2⟩, ⟨o3, e3, _, d3⟩⟩ := st
    have e' : c = z ∨ c = TI ∨ c = TO ∨ c = i1 ∨ c = i2 ∨ c = i3 := by simpa using hc
    rcases e' with q | q | q | q | q | q
    · rw [q]; exact ⟨_, hz, fun v q => nomatch q⟩
    · rw [q]; exact ⟨_, hTI, fun v q => nomatch q⟩
    · rw [q]; exact ⟨_, hTO, fun v q => nomatch q⟩
    · rw [q]; exact ⟨o1, e1, fun v q => by rw [d1] at q; cases q⟩
    · rw [q]; exact ⟨o2, e2, fun v q => by rw [d2] at q; cases q⟩
    · rw [q]; exact ⟨o3, e3, fun v q => by rw [d3] at q; cases q⟩
  keep := fun i h h' st k => by
    obtain ⟨hz, hTI, ⟨x, y, u, hTO⟩, h1, h2, h3⟩ := st
    exact ⟨k z (by simp) _ hz, k TI (by simp) _ hTI, ⟨x, y, u, k TO (by simp) _ hTO⟩, h1.at fun o q => k i1 (by simp) o q, h2.at fun o q => k i2 (by simp) o q, h3.at fun o q => k i3 (by simp) o q⟩
  item := by
    intro X hP hw hK hc i pins s σ H E I hf st hg
    subst hP hw hK
    obtain ⟨hz, hTI, ⟨x0, y0, u0, hTO⟩, h1, h2, h3⟩ := st
    obtain ⟨xs, ys, zs, x, y, u, hqx, hqy, hqz, hx, hy, hu⟩ := hg
    obtain ⟨its, rv, p, _⟩ := I.list hqx
    obtain ⟨its2, rv2, p2, _⟩ := I.tuple hqy
    obtain ⟨its3, rv3, p3, _⟩ := I.tuple hqz
    obtain ⟨v1, hv1, r1⟩ := rv.get hx
    obtain ⟨v2, hv2, r2⟩ := rv2.get hy
    obtain ⟨v3, hv3, r3⟩ := rv3.get hu
    have hh : X.A.in1.handled = none := I.ok.hd hc
    have hzl : z < s.heap.objs.size := Heap.lt_size hz
    have l1 : i < its.toArray.size := by simpa using (List.getElem?_eq_some_iff.mp hv1).1
    have l2 : i < its2.toArray.size := by simpa using (List.getElem?_eq_some_iff.mp hv2).1
    have l3 : i < its3.toArray.size := by simpa using (List.getElem?_eq_some_iff.mp hv3).1
    refine wpAny_pyNext_zipD3_item S (Draws.list hh i1 a ha its.toArray) (Draws.tuple hh i2 b hb its2.toArray) (Draws.tuple hh i3 d hd its3.toArray) hz hTI hTO ⟨h1, p.isList⟩ ⟨h2, p2⟩ ⟨h3, p3⟩ l1 l2 l3
      fun w1 w2 w3 h' tk g1 g2 g3 z' TO' st1 st2 st3 hT hsz hk => ?_
    have e1 : w1 = v1 := by have : its[i]? = some w1 := by simpa using g1
                            rw [hv1] at this; cases this; rfl
    have e2 : w2 = v2 := by have : its2[i]? = some w2 := by simpa using g2
                            rw [hv2] at this; cases this; rfl
    have e3 : w3 = v3 := by have : its3[i]? = some w3 := by simpa using g3
                            rw [hv3] at this; cases this; rfl
    subst e1 e2 e3
    refine ⟨_, rfl, wpAny_letOwnedTupleGo_zip (s := { s with heap := h', toks := tk }) z' fun h'' z'' sb => ?_⟩
    have hT2 : h''.get? s.heap.objs.size = some { cls := .type "tuple", data := .seq #[w1, w2, w3] } := (sb.2 _ (Nat.ne_of_gt hzl)).trans hT
    have new : ObjOk X.prog X.w (upd H s.heap.objs.size (.tup [x, y, u])) h'' s.heap.objs.size (.tup [x, y, u]) :=
      ⟨by show 3 ≤ sizeLine; decide, [w1, w2, w3], .cons r1 (.cons r2 (.cons r3 .nil)), ⟨_, hT2, rfl, _, rfl⟩⟩
    have I1 : Inv X pins σ (upd H s.heap.objs.size (.tup [x, y, u])) { s with heap := h'', toks := tk } :=
      I.turnedNew (t' := tk) (ch := [z, TI, TO, i1, i2, i3]) (fun c o hb q => (sb.2 c (fun q' => hb (by simp [q']))).trans (hk c o (fun q' => hb (by simp [q'])) (fun q' => hb (by simp [q'])) (fun q' => hb (by simp [q'])) (fun q' => hb (by simp [q'])) (fun q' => hb (by simp [q'])) q)) hf (Nat.le_refl _) new
    refine ⟨.ref s.heap.objs.size, _, I1, rfl, ⟨_, x, y, u, rfl, I.hok.fresh (Nat.le_refl _), rfl, fun l hl => by rw [I.list_inj hl hqx]; exact hx, fun l hl => by rw [I.tuple_inj hl hqy]; exact hy, fun l hl => by rw [I.tuple_inj hl hqz]; exact hu⟩, ⟨z'', ?_, ⟨w1, w2, w3, ?_⟩, ?_, ?_, ?_⟩, fun c hcm => ?_⟩
    · exact (sb.2 _ S.TIz).trans (hk _ _ S.TIz S.TITO S.TIi1 S.TIi2 S.TIi3 hTI)
    · exact (sb.2 _ S.TOz).trans TO'
    · exact st1.1.at fun o q => (sb.2 _ S.zi1.symm).trans q
    · exact st2.1.at fun o q => (sb.2 _ S.zi2.symm).trans q
    · exact st3.1.at fun o q => (sb.2 _ S.zi3.symm).trans q
    · have hlt : c < s.heap.objs.size := by
        have e' : c = z ∨ c = TI ∨ c = TO ∨ c = i1 ∨ c = i2 ∨ c = i3 := by simpa using hcm
        rcases e' with q | q | q | q | q | q
        · rw [q]; exact hzl
        · rw [q]; exact Heap.lt_size hTI
        · rw [q]; exact Heap.lt_size hTO
        · rw [q]; obtain ⟨_, e1, _⟩ := h1; exact Heap.lt_size e1
        · rw [q]; obtain ⟨_, e2, _⟩ := h2; exact Heap.lt_size e2
        · rw [q]; obtain ⟨_, e2, _⟩ := h3; exact Heap.lt_size e2
      rw [upd_ne (Nat.ne_of_lt hlt)]
      exact (hf c hcm).1
  done := by
    intro X hP hw hK hc i pins s σ H E I hf st hg
    subst hP hw hK
    obtain ⟨hz, hTI, ⟨x0, y0, u0, hTO⟩, h1, h2, h3⟩ := st
    obtain ⟨xs, ys, zs, hqx, hqy, hqz, le1, le2, le3, hend⟩ := hg
    obtain ⟨its, rv, p, _⟩ := I.list hqx
    obtain ⟨its2, rv2, p2, _⟩ := I.tuple hqy
    obtain ⟨its3, rv3, p3, _⟩ := I.tuple hqz
    have hh : X.A.in1.handled = none := I.ok.hd hc
    have l1 : xs.length = its.toArray.size := by rw [List.size_toArray]; exact rv.length
    have l2 : ys.length = its2.toArray.size := by rw [List.size_toArray]; exact rv2.length
    have l3 : zs.length = its3.toArray.size := by rw [List.size_toArray]; exact rv3.length
    refine wpAny_pyNext_zipD3_end S (Draws.list hh i1 a ha its.toArray) (Draws.tuple hh i2 b hb its2.toArray) (Draws.tuple hh i3 d hd its3.toArray) hz hTI hTO ⟨h1, p.isList⟩ ⟨h2, p2⟩ ⟨h3, p3⟩ (l1 ▸ le1) (l2 ▸ le2) (l3 ▸ le3) (by omega)
      fun h' tk hk => ⟨rfl, I.turnedL (t' := tk) (ch := [z, TI, TO, i1, i2, i3]) (fun c o hb q =>
      hk c o (fun q' => hb (by simp [q'])) (fun q' => hb (by simp [q'])) (fun q' => hb (by simp [q'])) (fun q' => hb (by simp [q'])) (fun q' => hb (by simp [q'])) q) hf⟩
  self := fun A i s Q E st h => wpAny_pyIter_zip st.1 h
theorem neA {a b : Nat} (h : a ≠ b) : (show Addr from a) ≠ (show Addr from b) := h
theorem nm2 {z x y : Addr} (h1 : z ≠ x) (h2 : z ≠ y) : z ∉ [x, y] := fun h => by
  rcases List.mem_cons.mp h with h | h
  · exact h1 h
  · exact h2 (by simpa using h)
theorem sep3_new {I a b d : Nat} (ha : a < I) (hb : b < I) (hd : d < I) : ZipSep3 (I + 5) (I + 3) (I + 4) I (I + 1) (I + 2) [I, a] [I + 1, b] [I + 2, d] := by
  constructor <;> first
    | exact List.mem_cons_self
    | exact neA (by omega)
    | exact nm2 (neA (by omega)) (neA (by omega))
def iZip3 (K : PySem.W.Frag) (ta : TA) : TI := fun σ H R => ta σ H fun vs H1 => ∃ a b d xs ys zs, vs = [.ref a, .ref b, .ref d] ∧ SqL K H1 a xs ∧ SqT K H1 b ys ∧ SqT K H1 d zs ∧ R (Itz3 K a b d) H1
theorem pi_zip3 {X : Cx} {e e2 e3 : Expr} {ta : TA} {p pos tpos : Pos} {elts : List Expr} {kk : Nat} (hg : Gl X "zip") (hm : X.mg "zip" = none) (ha : PA X [e, e2, e3] ta)
    (hs : starEach [e, e2, e3] X.env = (false, eval e X.env) :: starEach [e2, e3] X.env := by rfl) (hpl : (backTo pos (starEach [e2, e3] X.env)).any (·.1) = false := by rfl) :
    PI X (.Tuple elts kk tpos) (.Call (.Name "zip" p) [e, e2, e3] [] pos) (iZip3 X.K ta) := by
  refine ⟨fun pins s σ H R I h => ?_⟩
  refine Call_ (ld_blt I hg hm PyProof.Rows.boot_zip (PyProof.Rows.callWith_type1 (thn (ha.run pos pins s σ H _ I h) fun us s1 ⟨vs, H1, I1, r1, q1⟩ => ?_) hs hpl))
  obtain ⟨a, b, d, xs, ys, zs, ex, hqx, hqy, hqz, q⟩ := q1
  subst ex
  cases r1 with
  | cons r rr =>
    cases rr with
    | cons r' rr =>
      cases rr with
      | cons r'' rr =>
        cases rr
        cases r
        cases r'
        cases r''
        obtain ⟨its, rv, p1, _⟩ := I1.list hqx
        obtain ⟨its2, rv2, p2, _⟩ := I1.tuple hqy
        obtain ⟨its3, rv3, p3, _⟩ := I1.tuple hqz
        obtain ⟨o2, ho2, _⟩ := id p2
        obtain ⟨o3, ho3, _⟩ := id p3
        have la : a < s1.heap.objs.size := p1.lt
        have lb : b < s1.heap.objs.size := Heap.lt_size ho2
        have ld : d < s1.heap.objs.size := Heap.lt_size ho3
        refine zip_begins3 (begins_list a its.toArray) (begins_tuple b its2.toArray) (begins_tuple d its3.toArray) p1.isList p2 p3 fun h' hz hTI hTO h1 h2 h3 hsz hk => wpAny_pyIter_zip hz ?_
        have I2 : Inv X pins σ H1 { s1 with heap := h' } := I1.kept (t' := s1.toks) hk
        refine ⟨s1.heap.objs.size + 5, [s1.heap.objs.size + 5, s1.heap.objs.size + 3, s1.heap.objs.size + 4, s1.heap.objs.size, s1.heap.objs.size + 1, s1.heap.objs.size + 2], _, _, H1, rfl, I2, turn_zip3 (sep3_new la lb ld) (neA (Nat.ne_of_lt la)) (neA (Nat.ne_of_lt (Nat.lt_succ_of_lt lb))) (neA (Nat.ne_of_lt (Nat.lt_succ_of_lt (Nat.lt_succ_of_lt ld)))), ⟨hz, hTI, ⟨_, _, _, hTO⟩, ⟨_, h1, rfl, rfl⟩, ⟨_, h2, rfl, rfl⟩, ⟨_, h3, rfl, rfl⟩⟩, fun c hcm => ?_, q⟩
        have e' : c = s1.heap.objs.size + 5 ∨ c = s1.heap.objs.size + 3 ∨ c = s1.heap.objs.size + 4 ∨ c = s1.heap.objs.size ∨ c = s1.heap.objs.size + 1 ∨ c = s1.heap.objs.size + 2 := by simpa using hcm
        have hle : s1.heap.objs.size ≤ c := by
          rcases e' with z | z | z | z | z | z
          · rw [z]; exact Nat.le_add_right _ _
          · rw [z]; exact Nat.le_add_right _ _
          · rw [z]; exact Nat.le_add_right _ _
          · rw [z]; exact Nat.le_refl _
          · rw [z]; exact Nat.le_add_right _ _
          · rw [z]; exact Nat.le_add_right _ _
        exact I1.fpOk hle (I1.hok.fresh hle)
def zip3D : List D → List D → List D → List D
  | x :: xs, y :: ys, u :: us => .tup [x, y, u] :: zip3D xs ys us
  | _, _, _ => []
theorem zip3_get : ∀ {xs ys us : List D} {i : Nat} {d : D}, (zip3D xs ys us)[i]? = some d → ∃ x y u, xs[i]? = some x ∧ ys[i]? = some y ∧ us[i]? = some u ∧ d = .tup [x, y, u]
  | x :: xs, y :: ys, u :: us, 0, d, e => by
    simp only [zip3D, List.getElem?_cons_zero, Option.some.injEq] at e
    exact ⟨x, y, u, rfl, rfl, rfl, e.symm⟩
  | x :: xs, y :: ys, u :: us, i + 1, d, e => by
    simp only [zip3D, List.getElem?_cons_succ] at e
    exact zip3_get (xs := xs) (ys := ys) (us := us) e
  | [], _, _, _, _, e => by simp [zip3D] at e
  | _ :: _, [], _, _, _, e => by simp [zip3D] at e
  | _ :: _, _ :: _, [], _, _, e => by simp [zip3D] at e
theorem zip3_len : ∀ {xs ys us : List D}, (zip3D xs ys us).length = min (min xs.length ys.length) us.length
  | x :: xs, y :: ys, u :: us => by
    simp only [zip3D, List.length_cons, zip3_len (xs := xs) (ys := ys) (us := us)]
    omega
  | [], _, _ => by simp [zip3D]
  | _ :: _, [], _ => by simp [zip3D]
  | _ :: _, _ :: _, [] => by simp [zip3D]
theorem walks_zip3 {c : C β} {a b e : Addr} {l : List V} {d1 d2 d3 : List D} : Walks c (Itz3 Wrt.K a b e) (zip3D d1 d2 d3) (fun F H => (Held c F H a (.lst l) ∧ RepL H F c.R.val d1 l) ∧ Rep H F c.R.val (.tup d2) (.ref b) ∧ Rep H F c.R.val (.tup d3) (.ref e)) where
  go := fun i d F st σ H hd rl g => by
    obtain ⟨⟨g0, hl0⟩, g1, g2⟩ := g
    simp only [Rep] at g1 g2
    obtain ⟨a', xs, e1, ha, hl1⟩ := g1
    obtain ⟨b', ys, e2, hb, hl2⟩ := g2
    cases e1
    cases e2
    obtain ⟨x, y, u, q1, q2, q3, rfl⟩ := zip3_get hd
    obtain ⟨vx, ex, hx⟩ := hl0.get q1
    obtain ⟨vy, ey, hy⟩ := hl1.get q2
    obtain ⟨vu, eu, hu⟩ := hl2.get q3
    refine ⟨⟨l, xs, ys, vx, vy, vu, SqL.of g0.1, ha.sq, hb.sq, ex, ey, eu⟩, fun z H' yl => ?_⟩
    obtain ⟨T, x', y', u', rfl, hT, rfl, z1, z2, z3⟩ := yl
    have w1 := z1 l (SqL.of g0.1)
    have w2 := z2 xs ha.sq
    have w3 := z3 ys hb.sq
    rw [ex] at w1
    rw [ey] at w2
    rw [eu] at w3
    cases w1
    cases w2
    cases w3
    exact out_ok rl (Out.tup (ds := [x, y, u]) hT (.cons hx (.cons hy (.cons hu .nil))))
  stop := fun F st σ H rl g => by
    obtain ⟨⟨g0, hl0⟩, g1, g2⟩ := g
    simp only [Rep] at g1 g2
    obtain ⟨a', xs, e1, ha, hl1⟩ := g1
    obtain ⟨b', ys, e2, hb, hl2⟩ := g2
    cases e1
    cases e2
    have := hl0.length
    have := hl1.length
    have := hl2.length
    refine ⟨l, xs, ys, SqL.of g0.1, ha.sq, hb.sq, ?_, ?_, ?_, ?_⟩ <;> (rw [zip3_len]; omega)
  stay := fun F st st' σ σ' H F' H' r g r' f => ⟨⟨g.1.1.stay r r' f, g.1.2.mono f⟩, g.2.1.mono f, g.2.2.mono f⟩
def isNew : R → Bool
  | .new _ => true
  | _ => false
/-- the triples of a zip of a list that stands and two tuples -/
def mZip3 (a : Mn β (List R)) : Mn β (List D) := mBind a fun rs st => match rs with
  | [r, .val (.tup d2), .val (.tup d3)] => match isNew r, toD r st with
    | false, some (.lst d1, st') => some (zip3D d1 d2 d3, st')
    | _, _ => none
  | _ => none
theorem si_zip3 {X : Cx} {e e2 e3 : Expr} {a : Mn β (List R)} {p pos tpos : Pos} {elts : List Expr} {kk : Nat} (hg : Gl X "zip") (hm : X.mg "zip" = none) (he : PA X [e, e2, e3] (tRs a))
    (hs : starEach [e, e2, e3] X.env = (false, eval e X.env) :: starEach [e2, e3] X.env := by rfl) (hpl : (backTo pos (starEach [e2, e3] X.env)).any (·.1) = false := by rfl) (hK : X.K = Wrt.K := by rfl) :
    PI X (.Tuple elts kk tpos) (.Call (.Name "zip" p) [e, e2, e3] [] pos) (tIt (mZip3 a)) := piI (pi_zip3 hg hm he hs hpl) fun σ H R q => by
  rw [hK]
  obtain ⟨c, F, st, ds, st', rl, e, k⟩ := q
  obtain ⟨rs, s1, e1, e⟩ := mBind_some e
  refine ⟨c, F, st, rs, s1, rl, e1, fun vs H1 F1 t1 h1 => ?_⟩
  split at e
  · rename_i r d2 d3
    obtain ⟨v, t, rfl, h2, v2, t2, rfl, h3, v3, t3, rfl, h4, h5⟩ := h1
    have h5 : t3 = [] := h5
    subst h5
    split at e
    · rename_i d1 s2 hw q
      simp only [Option.some.injEq, Prod.mk.injEq] at e
      obtain ⟨rfl, rfl⟩ := e
      have h2' : RepR c σ H1 F1 H1 s1 r v := by
        cases r with
        | new d => cases hw
        | _ => exact h2
      obtain ⟨F2, u, hr⟩ := toD_ok t1.rel (Stp.refl t1.rel) h2' q
      have h3' : Rep H1 F2 c.R.val (.tup d2) v2 := u.rep t1.rel h3
      have h4' : Rep H1 F2 c.R.val (.tup d3) v3 := u.rep t1.rel h4
      have h3'' := h3'
      have h4'' := h4'
      simp only [Rep] at hr h3'' h4''
      obtain ⟨a0, xs, rfl, ha, hf, hl⟩ := hr
      obtain ⟨b, ys, rfl, hb, _⟩ := h3''
      obtain ⟨b2, zs, rfl, hb2, _⟩ := h4''
      exact ⟨a0, b, b2, xs, ys, zs, rfl, SqL.of ha, hb.sq, hb2.sq, k _ H1 F2 _ (t1.trans u) walks_zip3 ⟨⟨⟨ha, .inl hf⟩, hl⟩, h3', h4'⟩⟩
    · cases e
  · cases e
end M

/-! MOwn: comprehensions over a local's own list, that stays the local's own. -/
namespace M
open PySem PySem.Spec PyProof.Rows L2
variable [Wrt]
variable {β : Type} [Sto β] [Kind β]
open Classical in
noncomputable def compO (i : Nat) (d0 : List D) (vs : List Nat) (e0 : List Sl) (tg : Tm β) (tt : Mn β Bool) (te : Mn β D) : List D → List D → Mn β (List D)
  | [], acc, st => some (acc, st)
  | d :: ds, acc, st => match tg d { st with env := wipeE st.env vs } with
    | none => none
    | some s1 => match tt s1 with
      | none => none
      | some (false, s2) => if (backE e0 s2.env vs)[i]? = some (.own (.lst d0)) then compO i d0 vs e0 tg tt te ds acc { s2 with env := backE e0 s2.env vs } else none
      | some (true, s2) => match te s2 with
        | none => none
        | some (x, s3) => if acc.length < line ∧ (backE e0 s3.env vs)[i]? = some (.own (.lst d0)) then compO i d0 vs e0 tg tt te ds (acc ++ [x]) { s3 with env := backE e0 s3.env vs } else none
noncomputable def mCompO (i : Nat) (vs : List Nat) (tg : Tm β) (tt : Mn β Bool) (te : Mn β D) : Mn β R := fun st => match st.env[i]? with
  | some (.own (.lst d0)) => if noOwn st.env vs = true then (match compO i d0 vs st.env tg tt te d0 [] st with
    | some (acc, st') => some (.new (.lst acc), st')
    | none => none) else none
  | _ => none
section
variable {X : Cx}
theorem compO_reads {i : Nat} {vs is : List Nat} {tg : Tm β} {tt : Mn β Bool} {te : Mn β D} (hv : ∀ i ∈ is, i ∈ vs) (hg : TgV tg) (hK : X.K = Wrt.K) : ∀ σ H Q, tE (mCompO i vs tg tt te) σ H Q → tLc (iList X.K (tVar i)) (gTm tg is) (tTs tt) (tDt te) vs σ H Q := fun σ H Q q => by
  obtain ⟨c, F, st, res, st', rl, e, k⟩ := q
  unfold mCompO at e
  split at e
  · rename_i d0 hi0
    split at e
    · rename_i no
      split at e
      · rename_i acc s2 e2
        simp only [Option.some.injEq, Prod.mk.injEq] at e
        obtain ⟨rfl, rfl⟩ := e
        obtain ⟨a, hσ, ⟨xs0, hH, hl0⟩, hFa, h0a⟩ := rl.slot i _ hi0
        refine ⟨.ref a, hσ, a, rfl, ⟨xs0, SqL.of hH⟩, fun Dd hD => ?_⟩
        let Pv : Nat → Hp → Prop := fun j H' => ∃ F' s' ac xs, Stp c σ F st H F' s' H' ∧ H' Dd = some (.lst xs) ∧ RepL H' F' c.R.val ac xs ∧ F' Dd ∧ ¬ Lcd F' Dd ∧ s'.env[i]? = some (.own (.lst d0)) ∧ compO i d0 vs st.env tg tt te (d0.drop j) ac s' = some (acc, s2)
        have start : Pv 0 (upd H Dd (.lst [])) := by
          have hn : ∀ a, F.add Dd a → F a ∨ (H a = none ∧ ∃ o, upd H Dd (.lst []) a = some o) := fun a h => by
            rcases h with h | h
            · exact .inl h
            · subst h; exact .inr ⟨hD, _, upd_same⟩
          exact ⟨F.add Dd, st, [], [], .grow rl (upd_keep hD) (fun _ h => .inl h) hn, upd_same, .nil, .inr rfl, (fun z => rl.nobsyA hD (.inr z)), hi0, by rw [List.drop_zero]; exact e2⟩
        have hnD : ¬ c.R.foot Dd := rl.nofoot hD
        have hnO : ¬ Own st σ Dd := fun z => by
          obtain ⟨o, e⟩ := (rl.own_f z).2.2
          rw [hD] at e
          cases e
        have lst_at : ∀ {F' : Gh} {s' : Sta β} {H' : Hp}, Rel c F' s' σ H' → s'.env[i]? = some (.own (.lst d0)) → ∃ xs, H' a = some (.lst xs) ∧ RepL H' F' c.R.val d0 xs := fun r' h' => by
          obtain ⟨a', hσ', ⟨xs, h1, h2⟩, _⟩ := r'.slot i _ h'
          rw [hσ] at hσ'
          cases hσ'
          exact ⟨xs, h1, h2⟩
        refine ⟨fun j m H' => j + m = d0.length ∧ Pv j H', ⟨d0.length, by omega, start⟩, ?_⟩
        rintro j m H' ⟨him, F', s', ac, xs, t', hx, hl, hFD, hND, hsl, e'⟩
        obtain ⟨ys, hya, hyl⟩ := lst_at t'.rel hsl
        by_cases hlt : j < d0.length
        · right
          have hd : d0[j]? = some d0[j] := List.getElem?_eq_getElem hlt
          obtain ⟨v, hv1, hv2⟩ := hyl.get hd
          refine ⟨⟨ys, v, SqL.of hya, hv1⟩, fun H2 => (j + 1) + (m - 1) = d0.length ∧ Pv (j + 1) H2, fun H2 h2 => ⟨m - 1, by omega, h2⟩, fun x H2 y => ?_⟩
          obtain ⟨rfl, hxs⟩ := y
          have hxv : x = v := by
            have := hxs ys (SqL.of hya)
            rw [hv1] at this
            exact (Option.some.inj this).symm
          subst hxv
          rw [List.drop_eq_getElem_cons hlt] at e'
          simp only [compO] at e'
          split at e'
          · cases e'
          · rename_i s3 q3
            have hB' : ¬ Bsy s' σ F' Dd := fun z => z.elim (fun z => hnO (t'.own _ z)) hND
            refine ⟨c, F', { s' with env := wipeE s'.env vs }, d0[j], s3, t'.rel.wiped vs, hv2, q3, fun σ3 r3 ch => ⟨wipe_ext (by rw [ch.1, wipe_length]) (fun j hj => ?_), ?_⟩⟩
            · rw [ch.2 j (fun z => hj (hv j z)), wipe_get hj]
            · have hσl : σ3.length = σ.length := by rw [ch.1, wipe_length]
              have hσ3 : ∀ j, j ∉ vs → σ3[j]? = σ[j]? := fun j hj => by rw [ch.2 j (fun z => hj (hv j z)), wipe_get hj]
              have hs3 : ∀ (i : Nat) (d : D), s3.env[i]? = some (.own d) → i ∉ vs ∧ s'.env[i]? = some (.own d) := fun i d h => by
                have q := hg _ _ _ q3 i d h
                rcases wipeE_get q with z | z
                · cases z
                · exact z
              have o3 : ¬ Bsy s3 σ3 F' Dd := fun z => z.elim (fun ⟨i, d, h, q⟩ => by
                obtain ⟨h1, h2⟩ := hs3 i d h
                rw [hσ3 i h1] at q
                exact hnO (t'.own _ ⟨i, d, h2, q⟩)) hND
              split at e'
              · cases e'
              · rename_i s4 q4
                refine ⟨c, F', s3, false, s4, r3, q4, fun H4 F4 u => iteF ⟨by omega, ?_⟩⟩
                split at e'
                · rename_i hown
                  obtain ⟨hx4, hF4⟩ := u.fr Dd _ hx hnD o3
                  have tb := blk_stp rl no t' hs3 hσl hσ3 u
                  exact ⟨F4, _, ac, xs, tb, hx4, hl.mono (u.pers r3), hF4.mpr hFD, (fun z => o3 (u.bsy hx (.inr z))), hown, e'⟩
                · cases e'
              · rename_i s4 q4
                refine ⟨c, F', s3, true, s4, r3, q4, fun H4 F4 u => iteT ?_⟩
                split at e'
                · cases e'
                · rename_i dx s5 q5
                  refine ⟨c, F4, s4, dx, s5, u.rel, q5, fun v H5 F5 u2 hv5 => ?_⟩
                  have u3 := u.trans u2
                  obtain ⟨hx5, hF5⟩ := u3.fr Dd _ hx hnD o3
                  have hl5 := hl.mono (u3.pers r3)
                  split at e'
                  · rename_i hln
                    refine ⟨xs, hx5, by rw [hl.length, ← line_eq]; exact hln.1, by omega, ?_⟩
                    have tb := blk_stp rl no t' hs3 hσl hσ3 u3
                    have hl6 := hl5.append (.cons hv5 .nil)
                    have hND5 : ¬ Lcd F5 Dd := fun z => o3 (u3.bsy hx (.inr z))
                    have tu := tmp_upd (ob := .lst (xs ++ [v])) rl tb hD (hF5.mpr hFD) hND5
                    have fr5 : FrS F5 H5 F5 (upd H5 Dd (.lst (xs ++ [v]))) := ⟨fun b o e f => ⟨by rw [upd_ne (fun z => f (by rw [z]; exact hF5.mpr hFD))]; exact e, f⟩, fun _ _ h => h⟩
                    exact ⟨F5, _, ac ++ [dx], xs ++ [v], tu, upd_same, hl6.mono fr5, hF5.mpr hFD, hND5, hln.2, e'⟩
                  · cases e'
        · left
          have hj : j = d0.length := by omega
          subst hj
          rw [List.drop_length] at e'
          simp only [compO, Option.some.injEq, Prod.mk.injEq] at e'
          obtain ⟨rfl, rfl⟩ := e'
          refine ⟨⟨ys, SqL.of hya, by rw [hyl.length]; exact Nat.le_refl _⟩, ?_⟩
          exact k (.ref Dd) H' F' t' ⟨Dd, rfl, ⟨xs, hx, hl⟩, hFD, hD, fun z => z.elim (fun z => hnO (t'.own _ z)) hND⟩
      · cases e
    · cases e
  · cases e
theorem se_compO {i : Nat} {elt tg iter : Expr} {ifs : List Expr} {scope : Scope} {own : List (Str × Nat)} {pos : Pos} {is : List Nat} {mt : Tm β} {tt : Mn β Bool} {te : Mn β R} (hc : X.calm = true) (hN : X.N.Nodup) (hi : PE X iter (tVar i)) (ok : BlkOk X.N X.env.scope scope own)
    (hv : ∀ i ∈ is, i ∈ own.map (·.2)) (hgv : TgV mt)
    (hg : ∀ (s : Shared) (H : Hp) (C : Addr) (cl : List (Str × Addr)) (fp : List Addr), PG (X.blk s H scope (compEnvC scope cl C X.env) fp) tg (gTm mt is)) (ht : ∀ (s : Shared) (H : Hp) (C : Addr) (cl : List (Str × Addr)) (fp : List Addr), PTs (X.blk s H scope (compEnvC scope cl C X.env) fp) ifs (tTs tt))
    (he : ∀ (s : Shared) (H : Hp) (C : Addr) (cl : List (Str × Addr)) (fp : List Addr), PE (X.blk s H scope (compEnvC scope cl C X.env) fp) elt (tE te)) (hs : ∀ x, foldedSetIterable iter X.env x = pure x := by intro _; rfl) (hK : X.K = Wrt.K := by rfl) :
    PE X (.ListComp elt [⟨tg, iter, ifs, 0⟩] scope pos) (tE (mCompO i (own.map (·.2)) mt tt (mD te))) :=
  peI (pe_lc hc hN (pi_list hi) ok hg ht (fun s H C cl fp => se_d (he s H C cl fp)) hs) (compO_reads hv hgv hK)
end
/-! ### evaluation -/
theorem compO_pure {i : Nat} {d0 : List D} {vs : List Nat} {tg : Tm β} {tt : Mn β Bool} {te : Mn β D} (p : D → Bool) (f : D → D) (st1 : Sta β) (h0 : st1.env[i]? = some (.own (.lst d0))) : ∀ (ds acc : List D), (∀ d ∈ ds, ∃ s1 s2, tg d { st1 with env := wipeE st1.env vs } = some s1 ∧ tt s1 = some (p d, s2) ∧
      (p d = true → ∃ s3, te s2 = some (f d, s3) ∧ s3.bag = st1.bag ∧ backE st1.env s3.env vs = st1.env) ∧ (p d = false → s2.bag = st1.bag ∧ backE st1.env s2.env vs = st1.env)) → acc.length + ds.length ≤ line →
    compO i d0 vs st1.env tg tt te ds acc st1 = some (acc ++ (ds.filter p).map f, st1)
  | [], acc, _, _ => by simp [compO]
  | d :: ds, acc, h, hl => by
    obtain ⟨s1, s2, e1, e2, ht, hf⟩ := h d List.mem_cons_self
    simp only [compO, e1, e2]
    cases hp : p d with
    | false =>
      obtain ⟨b1, b2⟩ := hf hp
      simp only
      have e7 : ({ s2 with env := backE st1.env s2.env vs } : Sta β) = st1 := by
        obtain ⟨en, bg⟩ := st1
        simp only at b1 b2 ⊢
        rw [b1, b2]
      rw [e7, b2, if_pos h0, compO_pure p f st1 h0 ds acc (fun d hd => h d (List.mem_cons_of_mem _ hd)) (by simp only [List.length_cons] at hl; omega)]
      simp [hp]
    | true =>
      obtain ⟨s3, e3, b1, b2⟩ := ht hp
      simp only [e3]
      have e7 : ({ s3 with env := backE st1.env s3.env vs } : Sta β) = st1 := by
        obtain ⟨en, bg⟩ := st1
        simp only at b1 b2 ⊢
        rw [b1, b2]
      rw [e7, b2, if_pos ⟨by simp only [List.length_cons] at hl; omega, h0⟩, compO_pure p f st1 h0 ds (acc ++ [f d]) (fun d hd => h d (List.mem_cons_of_mem _ hd)) (by simp only [List.length_cons, List.length_append, List.length_nil] at hl ⊢; omega)]
      simp [hp]
theorem mCompO_pure {i : Nat} {d0 : List D} {vs : List Nat} {tg : Tm β} {tt : Mn β Bool} {te : Mn β D} {st1 : Sta β} (p : D → Bool) (f : D → D) (h0 : st1.env[i]? = some (.own (.lst d0))) (no : noOwn st1.env vs = true) (hl : d0.length ≤ line)
    (h : ∀ d ∈ d0, ∃ s1 s2, tg d { st1 with env := wipeE st1.env vs } = some s1 ∧ tt s1 = some (p d, s2) ∧ (p d = true → ∃ s3, te s2 = some (f d, s3) ∧ s3.bag = st1.bag ∧ backE st1.env s3.env vs = st1.env) ∧ (p d = false → s2.bag = st1.bag ∧ backE st1.env s2.env vs = st1.env)) :
    mCompO i vs tg tt te st1 = some (.new (.lst ((d0.filter p).map f)), st1) := by
  unfold mCompO
  rw [h0]
  simp only
  rw [if_pos no, compO_pure p f st1 h0 d0 [] h (by simpa using hl)]
  rfl
end M

/-! MSum: sum of a list of ints; pop at an index, evaluated. -/
namespace M
open PySem L2
variable [Wrt]
def fSum : List D → Option R
  | [.lst ds] => match intsOf ds with
    | some ns => some (.val (.int ns.sum))
    | none => none
  | _ => none
theorem ok_sum {K : PySem.W.Frag} : OkC (rSum K) fSum := fun H F rv xs ds res Q hx he k => by
  unfold fSum at he
  split at he
  · rename_i l
    split at he
    · rename_i ns hn
      simp only [Option.some.injEq] at he
      subst he
      obtain ⟨v, rfl, h⟩ := pkl1 hx
      rw [intsOf_eq hn] at h
      obtain ⟨a, xs, rfl, ha, hl⟩ := h
      rw [ints_rep hl] at ha
      exact ⟨a, ns, rfl, SqL.of ha, k _ _ (.same (by simp [Rep]))⟩
    · cases he
  · cases he
@[simp] theorem fSum_i (ns : List Int) : fSum [.lst (ns.map D.int)] = some (.val (.int ns.sum)) := by
  simp only [fSum, intsOf_map]
theorem seqIx_nat {j n : Nat} (h : j < n) : seqIndex? (j : Int) n = some j := by
  unfold seqIndex?
  have h0 : ¬ (j : Int) < 0 := by omega
  simp [h, h0]
theorem fPopAt_nat (ds : List D) (j : Nat) (h : j < ds.length) (hl : ds.length < 1000000) (d : D) (hd : ds[j]? = some d) : fPopAt ds [.int (j : Int)] = some (d, ds.eraseIdx j) := by
  have h1 : -(2 ^ 63 : Int) ≤ (j : Int) ∧ (j : Int) < 2 ^ 63 := by omega
  simp only [fPopAt]
  rw [if_pos h1, seqIx_nat h]
  simp only [hd]
end M

/-! MPar: a, b = x, y: new lists stay the names' own. -/
namespace M
open PySem PySem.Spec PyProof.Rows L2
variable [Wrt]
variable {β : Type} [Sto β] [Kind β]
def mH (a : Mn β R) : Mn β R := mBind a fun r st => match r with
  | .at i => match toD (.at i) st with
    | some (d, st') => some (.val d, st')
    | none => none
  | r => some (r, st)
def noAt : List R → Bool
  | [] => true
  | .at _ :: _ => false
  | _ :: rs => noAt rs
def Apart : List R → List V → Prop
  | r :: rs, v :: vs => (∀ d, r = .new d → ∀ (j : Nat) (d' : D) (v' : V), rs[j]? = some (.new d') → vs[j]? = some v' → v' ≠ v) ∧ Apart rs vs
  | _, _ => True
theorem noAt_ne {r : R} {rs : List R} (h : noAt (r :: rs) = true) : (∀ k, r ≠ .at k) ∧ noAt rs = true := by
  cases r with
  | val d => exact ⟨fun _ z => (nomatch z), h⟩
  | new d => exact ⟨fun _ z => (nomatch z), h⟩
  | «at» k => exact (Bool.noConfusion h)
  | loc n => exact ⟨fun _ z => (nomatch z), h⟩
section
variable {c : C β} {F F' : Gh} {st st' : Sta β} {σ σ' : L2.St} {H H' Hs : Hp}
theorem RepRs.get : ∀ {rs : List R} {vs : List V}, RepRs c σ Hs F H st rs vs → ∀ {i : Nat} {r : R}, rs[i]? = some r → ∃ v, vs[i]? = some v ∧ RepR c σ Hs F H st r v
  | [], _, _, _, _, e => by simp at e
  | x :: rs, _, h, i, r, e => by
    obtain ⟨v, t, ev, h1, h2⟩ := h
    subst ev
    cases i with
    | zero =>
      have e2 : x = r := Option.some.inj e
      subst e2
      exact ⟨v, rfl, h1⟩
    | succ i => exact RepRs.get h2 (i := i) e
end
def tRa (m : Mn β (List R)) : TA := fun σ H Q => ∃ (c : C β) (F : Gh) (st : Sta β) (rs : List R) (st' : Sta β), Rel c F st σ H ∧ m st = some (rs, st') ∧
  ∀ vs H' F', Stp c σ F st H F' st' H' → RepRs c σ H F' H' st' rs vs → Apart rs vs → Q vs H'
section
variable {X : Cx}
theorem se_h {e : Expr} {a : Mn β R} (h : PE X e (tE a)) : PE X e (tE (mH a)) := peI h fun σ H Q q => by
  obtain ⟨c, F, st, res, st', rl, e, k⟩ := q
  obtain ⟨r, s1, e1, e⟩ := mBind_some e
  refine ⟨c, F, st, r, s1, rl, e1, fun v H1 F1 t1 h1 => ?_⟩
  cases r with
  | val d => simp only [Option.some.injEq, Prod.mk.injEq] at e; obtain ⟨rfl, rfl⟩ := e; exact k v H1 F1 t1 h1
  | new d => simp only [Option.some.injEq, Prod.mk.injEq] at e; obtain ⟨rfl, rfl⟩ := e; exact k v H1 F1 t1 h1
  | loc n => simp only [Option.some.injEq, Prod.mk.injEq] at e; obtain ⟨rfl, rfl⟩ := e; exact k v H1 F1 t1 h1
  | «at» i =>
    simp only at e
    cases q : toD (.at i) s1 with
    | none => rw [q] at e; cases e
    | some p =>
      rw [q] at e
      simp only [Option.some.injEq, Prod.mk.injEq] at e
      obtain ⟨rfl, rfl⟩ := e
      obtain ⟨F2, t2, hd⟩ := toD_ok rl t1 h1 q
      exact k v H1 F2 t2 hd
theorem sra_nil : PA X [] (tRa (mNil (β := β))) := paI pa_nil fun σ H Q q => by
  obtain ⟨c, F, st, res, st', rl, e, k⟩ := q
  simp only [mNil, Option.some.injEq, Prod.mk.injEq] at e
  obtain ⟨rfl, rfl⟩ := e
  exact k [] H F (.refl rl) rfl trivial
theorem sra_cons {e : Expr} {es : List Expr} {a : Mn β R} {b : Mn β (List R)} (ha : PE X e (tE a)) (hb : PA X es (tRa b)) (hs : starEach (e :: es) X.env = (false, eval e X.env) :: starEach es X.env := by rfl) : PA X (e :: es) (tRa (mCons (mH a) b)) := by
  refine paI (pa_cons (se_h ha) hb hs) fun σ H Q q => ?_
  obtain ⟨c, F, st, res, st', rl, e, k⟩ := q
  obtain ⟨r1, s1, e1, e⟩ := mBind_some e
  obtain ⟨rs, s2, e2, e⟩ := mBind_some e
  simp only [Option.some.injEq, Prod.mk.injEq] at e
  obtain ⟨rfl, rfl⟩ := e
  refine ⟨c, F, st, r1, s1, rl, e1, fun x H1 F1 t1 h1 => ?_⟩
  refine ⟨c, F1, s1, rs, s2, t1.rel, e2, fun xs H2 F2 t2 h2 ap => ?_⟩
  refine k (x :: xs) H2 F2 (t1.trans t2) ⟨x, xs, rfl, h1.stp t1.rel t2 (fun x => rl.nofoot), h2.hs fun x hx => t1.gone hx⟩ ⟨fun d ed j d' v' ej ev z => ?_, ap⟩
  subst ed
  obtain ⟨a, ea, ho, _⟩ := h1
  obtain ⟨w, ew, b, eb, _, _, hn, _⟩ := RepRs.get h2 ej
  rw [ev] at ew
  cases ew
  rw [z, ea] at eb
  cases eb
  obtain ⟨o, q⟩ := ho.there
  rw [hn] at q
  cases q
end
def setL : List Nat → List R → Sta β → Option (Sta β)
  | i :: is, r :: rs, st => match setSl i r st with
    | some st1 => setL is rs st1
    | none => none
  | [], [], st => some st
  | _, _, _ => none
def sigL : L2.St → List Nat → List V → L2.St
  | σ, i :: is, v :: vs => sigL (σ.set i (some v)) is vs
  | σ, _, _ => σ
theorem setL_ok {c : C β} {F : Gh} {H Hs : Hp} (hs : ∀ x, Hs x = none → c.H0 x = none) : ∀ {is : List Nat} {rs : List R} {vs : List V} {st st' : Sta β} {σ : L2.St}, Rel c F st σ H → RepRs c σ Hs F H st rs vs → Apart rs vs → noAt rs = true → setL is rs st = some st' →
    is.length = rs.length ∧ Rel c F st' (sigL σ is vs) H
  | [], [], vs, st, st', σ, rl, _, _, _, e => by
    simp only [setL, Option.some.injEq] at e
    subst e
    exact ⟨rfl, by cases vs <;> exact rl⟩
  | [], _ :: _, _, _, _, _, _, _, _, _, e => by simp [setL] at e
  | _ :: _, [], _, _, _, _, _, _, _, _, e => by simp [setL] at e
  | i :: is, r :: rs, vs, st, st', σ, rl, hr, ap, na, e => by
    obtain ⟨v, t, ev, h1, h2⟩ := hr
    subst ev
    obtain ⟨nat, na2⟩ := noAt_ne na
    simp only [setL] at e
    cases q : setSl i r st with
    | none => rw [q] at e; cases e
    | some s1 =>
      rw [q] at e
      have env1 := setSl_env nat q
      have r1 : Rel c F s1 (σ.set i (some v)) H := by
        cases r with
        | val d =>
          simp only [setSl, Option.some.injEq] at q
          subst q
          exact rl.set ⟨v, rfl, h1⟩ (fun _ z => nomatch z)
        | new d =>
          simp only [setSl, Option.some.injEq] at q
          subst q
          obtain ⟨a, ea, ho, hf, hn, hw⟩ := h1
          subst ea
          exact rl.set ⟨a, rfl, ho, hf, hs a hn⟩ (fun _ _ b eb => by cases eb; exact hw)
        | «at» k => exact absurd rfl (nat k)
        | loc n =>
          simp only [setSl, Option.some.injEq] at q
          subst q
          exact rl.set ⟨v, rfl, h1⟩ (fun _ z => nomatch z)
      have h2' : RepRs c (σ.set i (some v)) Hs F H s1 rs t := by
        have : ∀ (rs' : List R) (t' : List V), RepRs c σ Hs F H st rs' t' → noAt rs' = true → (∀ d, r = .new d → ∀ (j : Nat) (d' : D) (v' : V), rs'[j]? = some (.new d') → t'[j]? = some v' → v' ≠ v) → RepRs c (σ.set i (some v)) Hs F H s1 rs' t' := by
          intro rs'
          induction rs' with
          | nil => intro t' h _ _; exact h
          | cons x rs' ih =>
            intro t' h hna hap
            obtain ⟨u, t2, eu, g1, g2⟩ := h
            subst eu
            obtain ⟨hx, hna2⟩ := noAt_ne hna
            refine ⟨u, t2, rfl, ?_, ih t2 g2 hna2 fun d ed j d' v' ej ev => hap d ed (j + 1) d' v' ej ev⟩
            cases x with
            | val d => exact g1
            | «at» k => exact absurd rfl (hx k)
            | loc n => exact g1
            | new d =>
              obtain ⟨a, ea, ho, hf, hn, hw⟩ := g1
              refine ⟨a, ea, ho, hf, hn, fun z => z.elim (fun ⟨k, dk, hk, hσ⟩ => ?_) fun z => hw (.inr z)⟩
              rw [env1] at hk
              by_cases e : i = k
              · subst e
                by_cases hl : i < st.env.length
                · rw [List.getElem?_set_self hl] at hk
                  have hlσ : i < σ.length := by have := rl.len; omega
                  rw [List.getElem?_set_self hlσ] at hσ
                  have hv : v = .ref a := by simpa using hσ
                  cases r with
                  | val d1 => simp [slOf] at hk
                  | new d1 => exact hap d1 rfl 0 d u rfl rfl (by rw [ea, hv])
                  | «at» k => exact absurd rfl (nat k)
                  | loc n => simp [slOf] at hk
                · rw [List.getElem?_eq_none (by simpa using hl)] at hk
                  cases hk
              · rw [List.getElem?_set_ne e] at hk hσ
                exact hw (.inl ⟨k, dk, hk, hσ⟩)
        exact this rs t h2 na2 ap.1
      obtain ⟨l, r2⟩ := setL_ok hs r1 h2' ap.2 na2 e
      exact ⟨by simp [l], r2⟩
def gNs : List Nat → TGs
  | [] => gNil
  | i :: is => gCons (gName i) (gNs is)
theorem gNs_reads : ∀ {is : List Nat} {vs : List V} {σ : L2.St} {H : Hp} {Q : L2.St → Hp → Prop}, is.length = vs.length → Q (sigL σ is vs) H → gNs is vs σ H Q
  | [], [], _, _, _, _, q => ⟨rfl, q⟩
  | i :: is, v :: vs, _, _, _, h, q => ⟨v, vs, rfl, gNs_reads (by simpa using h) q⟩
def mPars (is : List Nat) (a : Mn β (List R)) : Ms β := mBind a fun rs st => if noAt rs = true then (match setL is rs st with
  | some st' => some (.nx, st')
  | none => none) else none
section
variable {X : Cx}
/-- by the tuple that is made and taken apart -/
theorem ss_parT {es ts : List Expr} {is : List Nat} {a : Mn β (List R)} {kt k2 : Nat} {pt pt2 pos : Pos} (hc : X.calm = true) (ha : PA X es (tRa a)) (hg : PGs X ts (gNs is)) (hl : is.length ≤ 1000) (hn : (assignEach ts X.env).length = is.length) (hst : (assignEach ts X.env).findIdx? (·.1) = none := by rfl)
    (hs : swapsWithSole [.Tuple ts kt pt] (.Tuple es k2 pt2) pos.line X.env = pure false := by rfl) (hw : swappedStores [.Tuple ts kt pt] (.Tuple es k2 pt2) X.env = pure none := by rfl)
    (h1 : (assignEach [.Tuple ts kt pt] X.env).map (·.2) = [assign (.Tuple ts kt pt) X.env] := by rfl) : PS X (.Assign [.Tuple ts kt pt] (.Tuple es k2 pt2) pos) (tSt (mPars is a)) := by
  refine psI (ps_asg (pe_tup ha) (pg_tup hc hg hn hst) hs hw h1) fun D σ H q => ?_
  obtain ⟨c, F, st, o, st', rl, e, g⟩ := q
  obtain ⟨rs, s1, e1, e⟩ := mBind_some e
  split at e
  · rename_i hna
    split at e
    · rename_i s2 q1
      simp only [Option.some.injEq, Prod.mk.injEq] at e
      obtain ⟨rfl, rfl⟩ := e
      refine ⟨c, F, st, rs, s1, rl, e1, fun vs H1 F1 t1 h1 ap => ?_⟩
      have hlen : is.length = rs.length := (setL_ok (fun x => rl.h0) t1.rel h1 ap hna q1).1
      have hvl := h1.length
      have hle : vs.length ≤ sizeLine := by rw [hvl, ← hlen]; exact Nat.le_of_lt (small1000 hl)
      refine ⟨hle, fun p hp => ?_⟩
      have t2 : Stp c σ F1 s1 H1 F1 s1 (upd H1 p (.tup vs)) := .grow t1.rel (upd_keep hp) (fun _ h => h) fun _ h => .inl h
      have h1' := h1.stp t1.rel t2 (fun x => rl.nofoot)
      have r3 := (setL_ok (fun x => rl.h0) t2.rel h1' ap hna q1).2
      exact ⟨p, vs, rfl, SqT.of upd_same, by rw [hvl, hlen], gNs_reads (by rw [hvl, hlen]) (g _ _ F1 r3 ((t1.trans t2).frs rl))⟩
    · cases e
  · cases e
theorem ss_par2 {i j : Nat} {x y : Str} {a b : Expr} {ma : Mn β (List R)} {px py pt pos : Pos} {kt k2 : Nat} {pt2 : Pos} (hc : X.calm = true) (hN : X.N.Nodup) (hi : X.N[i]? = some x) (hj : X.N[j]? = some y) (hij : i ≠ j) (hx : X.env.scope.names.lookup x = some .local) (hy : X.env.scope.names.lookup y = some .local)
    (ha : PA X [a, b] (tRa ma)) (hw : swappedStores [.Tuple [.Name x px, .Name y py] kt pt] (.Tuple [a, b] k2 pt2) X.env = pure (some [x, y])) (hs : swapsWithSole [.Tuple [.Name x px, .Name y py] kt pt] (.Tuple [a, b] k2 pt2) pos.line X.env = pure false := by rfl) :
    PS X (.Assign [.Tuple [.Name x px, .Name y py] kt pt] (.Tuple [a, b] k2 pt2) pos) (tSt (mPars [i, j] ma)) := by
  refine psI (ps_par hc hN hi hj hij hx hy ha hw hs) fun D σ H q => ?_
  obtain ⟨c, F, st, o, st', rl, e, g⟩ := q
  obtain ⟨rs, s1, e1, e⟩ := mBind_some e
  split at e
  · rename_i hna
    split at e
    · rename_i s2 q1
      simp only [Option.some.injEq, Prod.mk.injEq] at e
      obtain ⟨rfl, rfl⟩ := e
      refine ⟨c, F, st, rs, s1, rl, e1, fun vs H1 F1 t1 h1 ap => ?_⟩
      obtain ⟨hlen, r3⟩ := setL_ok (fun x => rl.h0) t1.rel h1 ap hna q1
      have hvl := h1.length
      obtain ⟨v, w, rfl⟩ : ∃ v w, vs = [v, w] := by
        match vs, hvl.trans hlen.symm with
        | [v, w], _ => exact ⟨v, w, rfl⟩
      exact ⟨v, w, rfl, g _ _ F1 r3 (t1.frs rl)⟩
    · cases e
  · cases e
end
end M

/-! MPar3: three names stored at once. -/
namespace M
open PySem L2
variable [Wrt]
variable {β : Type} [Sto β] [Kind β]
theorem ss_par3 {X : Cx} {i j l : Nat} {x y z : Str} {a b c' : Expr} {ma : Mn β (List R)} {px py pz pt pos : Pos} {kt k2 : Nat} {pt2 : Pos} (hc : X.calm = true) (hN : X.N.Nodup) (hi : X.N[i]? = some x) (hj : X.N[j]? = some y) (hl : X.N[l]? = some z) (hij : i ≠ j) (hil : i ≠ l) (hjl : j ≠ l)
    (hx : X.env.scope.names.lookup x = some .local) (hy : X.env.scope.names.lookup y = some .local) (hz : X.env.scope.names.lookup z = some .local)
    (ha : PA X [a, b, c'] (tRa ma)) (hw : swappedStores [.Tuple [.Name x px, .Name y py, .Name z pz] kt pt] (.Tuple [a, b, c'] k2 pt2) X.env = pure (some [x, y, z])) (hs : swapsWithSole [.Tuple [.Name x px, .Name y py, .Name z pz] kt pt] (.Tuple [a, b, c'] k2 pt2) pos.line X.env = pure false := by rfl) :
    PS X (.Assign [.Tuple [.Name x px, .Name y py, .Name z pz] kt pt] (.Tuple [a, b, c'] k2 pt2) pos) (tSt (mPars [i, j, l] ma)) := by
  refine psI (ps_par3 hc hN hi hj hl hij hil hjl hx hy hz ha hw hs) fun D σ H q => ?_
  obtain ⟨c, F, st, o, st', rl, e, g⟩ := q
  obtain ⟨rs, s1, e1, e⟩ := mBind_some e
  split at e
  · rename_i hna
    split at e
    · rename_i s2 q1
      simp only [Option.some.injEq, Prod.mk.injEq] at e
      obtain ⟨rfl, rfl⟩ := e
      refine ⟨c, F, st, rs, s1, rl, e1, fun vs H1 F1 t1 h1 ap => ?_⟩
      obtain ⟨hlen, r3⟩ := setL_ok (fun x => rl.h0) t1.rel h1 ap hna q1
      have hvl := h1.length
      obtain ⟨u, v, w, rfl⟩ : ∃ u v w, vs = [u, v, w] := by
        match vs, hvl.trans hlen.symm with
        | [u, v, w], _ => exact ⟨u, v, w, rfl⟩
      exact ⟨u, v, w, rfl, g _ _ F1 r3 (t1.frs rl)⟩
    · cases e
  · cases e
end M

/-! MEnd: defs of a text with their meanings; the bag of draws. -/
namespace M
open PySem PySem.Spec PyProof.Rows L2
variable [Wrt]
/-! ### more operations -/
theorem ok_mod : Ok2 (rI (fun _ j => 0 < j) fun i j => .int (i % j)) fMod := ok_I fun _ _ h => of_decide_eq_true h
theorem hu1 {k : Nat} {A : Around} (r : Room k A) : A.units + 1 < cLine := by have := r.un; omega
theorem hu65 {k : Nat} {A : Around} (r : Room k A) : A.units + 65 < cLine := by have := r.un; omega

/-! ### defs -/
/-- the def x of the text stands behind the top -/
def Dn (K : PySem.W.Frag) (mg : Str → Option Value) (x : Str) (st : Stmt) : Prop := ∃ f fd, mg x = some (.ref f) ∧ Fun K x x st f fd
/-- .. and its meaning is F -/
def Ok {β : Type} [Sto β] [Kind β] (P : Program) (w : World) (K : PySem.W.Frag) (mg : Str → Option Value) (base : Heap) (k : Nat) (x : Str) (st : Stmt) (ps : List Str) (F : Fn β) : Prop :=
  ∃ f fd, mg x = some (.ref f) ∧ Fun K x x st f fd ∧ FnOk P w K mg base CX0 k f fd ps (spF F)
section
variable {β : Type} [Sto β] [Kind β] {P : Program} {w : World} {K : PySem.W.Frag} {mg : Str → Option Value} {base : Heap}
theorem Ok.zero {k : Nat} {x : Str} {st : Stmt} {ps : List Str} (d : Dn K mg x st) : Ok P w K mg base k x st ps (fun _ (_ : β) => none) := by
  obtain ⟨f, fd, g, F⟩ := d
  exact ⟨f, fd, g, F, fn_none⟩
theorem Ok.of {k : Nat} {x : Str} {st : Stmt} {N ps : List Str} {m : Ms β} (d : Dn K mg x st) (S : FnScope N ps (defScope st))
    (h : ∀ (f : Addr) (fd : FuncData) (cdv : Value) (A : Around) (outer : List Env) (s : Shared) (H : Hp) (E : XK), Room k (A.deeper (envOfC x (defScope st) s.heap.objs.size f cdv)) →
      PSs (cxOf CX0 P w K mg base N x (defScope st) f cdv A outer s H E).nox (defBody st) (tSt m)) : Ok P w K mg base (k + 1) x st ps (runF ps.length N.length m) := by
  obtain ⟨f, fd, g, F⟩ := d
  exact ⟨f, fd, g, F, fn_ok F S fun cdv A outer s H E hr => h f fd cdv A outer s H E hr⟩
/-- the def holds generator expressions: its code object is at c, that one's table at tb -/
def Dt (K : PySem.W.Frag) (mg : Str → Option Value) (x : Str) (st : Stmt) (base : Heap) (ts : List Addr) : Prop := ∃ f fd c tb, mg x = some (.ref f) ∧ Fun K x x st f fd ∧ fd.code = .ref c ∧ GxR.TabB base mg c tb ∧ tb ∈ ts
theorem fun_okC {x : Str} {st : Stmt} {f : Addr} {fd : FuncData} {N ps : List Str} {k : Nat} {sp : Sp} (F : Fun K x x st f fd) (S : FnScope N ps (defScope st)) (len : ∀ vs H Q E, sp vs H Q E → vs.length = ps.length)
    (hbody : ∀ (cdv : Value) (A : Around) (outer : List Env) (s : Shared) (H : Hp) (vs : List V) (Q : VK) (E : XK), fd.code = cdv → Room k (A.deeper (envOfC x (defScope st) s.heap.objs.size f cdv)) → sp vs H Q E →
      ∃ t, PSs (cxOf CX0 P w K mg base N x (defScope st) f cdv A outer s H E).nox (defBody st) t ∧ t { nx := fun _ H' => Q .non H', rt := Q } (start N vs) H) : FnOk P w K mg base CX0 (k + 1) f fd ps sp := by
  obtain ⟨oc, od, kV, doc, pm, an, cdv, ct, osl, e, lk, hcd⟩ := F.ex
  have ec : fd.code = cdv := by rw [e]
  subst e
  refine fn_of lk hcd S len fun A outer s H vs Q E hr hsp => ?_
  obtain ⟨t, h, q⟩ := hbody cdv A outer s H vs Q E ec hr hsp
  exact ⟨t, h.nox, q⟩
theorem fn_okC {x : Str} {st : Stmt} {f : Addr} {fd : FuncData} {N ps : List Str} {k : Nat} {m : Ms β} (F : Fun K x x st f fd) (S : FnScope N ps (defScope st))
    (hbody : ∀ (cdv : Value) (A : Around) (outer : List Env) (s : Shared) (H : Hp) (E : XK), fd.code = cdv → Room k (A.deeper (envOfC x (defScope st) s.heap.objs.size f cdv)) →
      PSs (cxOf CX0 P w K mg base N x (defScope st) f cdv A outer s H E).nox (defBody st) (tSt m)) : FnOk P w K mg base CX0 (k + 1) f fd ps (spF (runF ps.length N.length m)) := by
  refine fun_okC F S (fun vs H Q E h => ?_) (fun cdv A outer s H vs Q E hc hr h => ⟨tSt m, hbody cdv A outer s H E hc hr, ?_⟩)
  · obtain ⟨Sr, F, args, b, r, b', _, _, _, _, _, ha, e, _⟩ := h
    unfold runF at e
    split at e
    · rename_i hl; rw [ha.length, hl]
    · cases e
  · obtain ⟨Sr, Fb, args, b, r, b', hkd, hfs, hft, hb, hst, ha, e, q⟩ := h
    unfold runF at e
    split at e
    · rename_i hl
      have hvl := ha.length
      let c : C β := ⟨Sr, hkd, H, Fb, hfs, hft, fun a z => z.2⟩
      let st0 : Sta β := ⟨args ++ List.replicate (N.length - args.length) .no, b⟩
      have rl : Rel c Fb st0 (start N vs) H := by
        have own_no : ∀ (i : Nat) (d : D), st0.env[i]? ≠ some (.own d) := fun i d z => by
          rw [List.getElem?_append] at z
          split at z
          · obtain ⟨v, _, h⟩ := ha.get z
            exact h.elim
          · rw [List.getElem?_replicate] at z
            split at z <;> cases z
        refine ⟨?_, fun i s hi => ?_, fun i j d e' hi => absurd hi (own_no i d), fun a o h _ => h, hb, fun a h => h, hfs, fun a ⟨i, d, z, _⟩ => absurd z (own_no i d), fun _ _ h => h, fun _ h => .inl h, hst⟩
        · show (args ++ List.replicate (N.length - args.length) Sl.no).length = (vs.map some ++ List.replicate (N.length - vs.length) none).length
          simp [hvl]
        · have hi' : (args ++ List.replicate (N.length - args.length) Sl.no)[i]? = some s := hi
          show RelSl c Fb H s (vs.map some ++ List.replicate (N.length - vs.length) none)[i]?
          rw [List.getElem?_append] at hi'
          split at hi'
          · obtain ⟨v, e1, h1⟩ := ha.get hi'
            have hlt : i < (vs.map some).length := by rw [List.length_map, hvl]; assumption
            rw [List.getElem?_append_left hlt, List.getElem?_map, e1]
            exact argR_slot (c := c) rfl h1
          · rw [List.getElem?_replicate] at hi'
            split at hi'
            · cases hi'; trivial
            · cases hi'
      split at e
      · rename_i r' st' em
        simp only [Option.some.injEq, Prod.mk.injEq] at e
        obtain ⟨rfl, rfl⟩ := e
        exact ⟨c, Fb, st0, .rt r', st', rl, em, fun v H' F' h => q v H' F' h.1 h.2⟩
      · rename_i st' em
        simp only [Option.some.injEq, Prod.mk.injEq] at e
        obtain ⟨rfl, rfl⟩ := e
        exact ⟨c, Fb, st0, .nx, st', rl, em, fun σ' H' F' r' _ => q .non H' _ (ret_post r' none fun a h => nomatch h).1 (by simp [ResR, Rep])⟩
      · cases e
    · cases e
theorem Ok.ofT {k : Nat} {x : Str} {st : Stmt} {N ps : List Str} {m : Ms β} {ts : List Addr} (d : Dt K mg x st base ts) (S : FnScope N ps (defScope st))
    (h : ∀ (f : Addr) (fd : FuncData) (c tb : Addr) (A : Around) (outer : List Env) (s : Shared) (H : Hp) (E : XK), GxR.TabB base mg c tb → tb ∈ ts → Room k (A.deeper (envOfC x (defScope st) s.heap.objs.size f (.ref c))) →
      PSs (cxOf CX0 P w K mg base N x (defScope st) f (.ref c) A outer s H E).nox (defBody st) (tSt m)) : Ok P w K mg base (k + 1) x st ps (runF ps.length N.length m) := by
  obtain ⟨f, fd, c, tb, g, F, hc, TB, ht⟩ := d
  refine ⟨f, fd, g, F, fn_okC F S fun cdv A outer s H E ec hr => ?_⟩
  rw [hc] at ec
  subst ec
  exact h f fd c tb A outer s H E TB ht hr
end

/-- no resource -/
instance : Sto Unit := ⟨fun _ => []⟩
instance : Kind Unit := ⟨fun _ => True⟩
def noRes : Res Unit := ⟨.non, fun _ => False, fun _ _ => True, fun _ _ _ _ _ => trivial, fun _ _ _ _ h => h.elim⟩

/-! ### the bag -/
structure BagT where
  c0 : Int
  c1 : Int
  great : List Int
  cells : List Int
  /-- the objects that are changed in place -/
  sto : List Ob
def bagL (b : BagT) (ag ac : Addr) : List V := [.int b.c0, .int b.c1, .ref ag, .ref ac]
/-- the tables of code objects of the defs that hold generator expressions -/
class Tabs where
  ts : List Addr
def bagRes (ts : List Addr) (ab ag ac : Addr) : Res BagT where
  val := .ref ab
  foot a := a = ab ∨ a = ag ∨ a = ac ∨ a ∈ ts
  rel b H := (H ab = some (.lst (bagL b ag ac)) ∧ H ag = some (.lst (b.great.map V.int)) ∧ H ac = some (.lst (b.cells.map V.int)) ∧ ab ≠ ag ∧ ag ≠ ac ∧ ab ≠ ac) ∧ ∀ P ∈ ts, GxR.TabG H P
  keep b H H' r k := ⟨⟨k _ _ (.inl rfl) r.1.1, k _ _ (.inr (.inl rfl)) r.1.2.1, k _ _ (.inr (.inr (.inl rfl))) r.1.2.2.1, r.1.2.2.2⟩, fun P hP => by
    obtain ⟨ps, e, t⟩ := r.2 P hP
    exact ⟨ps, k _ _ (.inr (.inr (.inr hP))) e, t⟩⟩
  there b H a r h := by
    rcases h with h | h | h | h
    · subst h; exact ⟨_, r.1.1⟩
    · subst h; exact ⟨_, r.1.2.1⟩
    · subst h; exact ⟨_, r.1.2.2.1⟩
    · obtain ⟨ps, e, _⟩ := r.2 a h
      exact ⟨_, e⟩
instance : Sto BagT := ⟨BagT.sto⟩
instance : SPut BagT := ⟨fun b s => { b with sto := s }, fun _ _ => rfl⟩
instance [Tabs] : Kind BagT := ⟨fun R => ∃ ab ag ac, R = bagRes Tabs.ts ab ag ac⟩
/-- the resource alone has changed -/
theorem post_same {β : Type} [Sto β] [Kind β] {S : Res β} {F : Gh} {H H' : Hp} {b b' : β} (hfs : ∀ a, F a → ∃ o, H a = some o) (hft : ∀ a, S.foot a → F a) (hst : StoR S F H (Sto.sto b)) (k : ∀ a o, H a = some o → ¬ S.foot a → H' a = some o) (hb : S.rel b' H') (hs : Sto.sto b' = Sto.sto b) : Post S F H F H' b' :=
  ⟨fun a o h n => k a o h fun z => n (.inl z), fun _ h => h, fun _ h => .inl h, fun _ _ h => h, fun _ h => .inl h, fun a h => by
    obtain ⟨o, e⟩ := hfs a h
    by_cases z : S.foot a
    · exact S.there _ _ _ hb z
    · exact ⟨o, k a o e z⟩, hb, by
    rw [hs]
    exact hst.mono ⟨fun a o h nf => ⟨k a o h fun z => nf (hft a z), nf⟩, fun _ _ h => h⟩ rfl (fun a z => z.2) (fun a o h => by
      by_cases z : S.foot a
      · exact S.there _ _ _ hb z
      · exact ⟨o, k a o h z⟩) fun a o ⟨⟨n, z⟩, _⟩ h => k a o h (hst.f n a z)⟩
/-- the table at P is the resource's own -/
def TabFoot {β : Type} (R : Res β) (P : Addr) : Prop := R.foot P ∧ (∀ b H, R.rel b H → GxR.TabG H P) ∧ ∀ b H H', R.rel b H → GxR.Tabbed P H H' → R.rel b H'
theorem tabFoot_bag [Tabs] {P : Addr} (hP : P ∈ Tabs.ts) : ∀ R : Res BagT, Kind.kd R → TabFoot R P := fun R ⟨ab, ag, ac, e⟩ => by
  subst e
  refine ⟨.inr (.inr (.inr hP)), fun b H r => r.2 P hP, fun b H H' r t => ?_⟩
  obtain ⟨ps, e, _⟩ := r.2 P hP
  have ne : ∀ {a : Addr} {xs : List V}, H a = some (.lst xs) → H' a = some (.lst xs) := fun {a xs} h => by
    rw [t.2 a (fun z => by rw [z, e] at h; cases h)]
    exact h
  refine ⟨⟨ne r.1.1, ne r.1.2.1, ne r.1.2.2.1, r.1.2.2.2⟩, fun P' hP' => ?_⟩
  by_cases z : P' = P
  · rw [z]; exact t.1
  · obtain ⟨ps', e', t'⟩ := r.2 P' hP'
    exact ⟨ps', by rw [t.2 P' z]; exact e', t'⟩
/-- the great cell at hand, the great cells behind it -/
def drawA (b : BagT) : Int × List Int := if b.c0 = 0 ∧ 0 < b.great.length then (b.great.getD (b.great.length - 1) 0, b.great.dropLast) else (b.c0, b.great)
def mixed (cell c1 : Int) : Int := (cell * 48271 + c1 * 69621 + 1) % 2147483647
def drawN (b : BagT) (m : Int) : Int := (mixed (b.cells.getD ((b.c1 + 1) % (b.cells.length : Int)).toNat 0) (b.c1 + 1) * mixed (b.cells.getD ((b.c1 + 1) % (b.cells.length : Int)).toNat 0) (b.c1 + 1) + mixed (b.cells.getD ((b.c1 + 1) % (b.cells.length : Int)).toNat 0) (b.c1 + 1) * 16807 + (b.c1 + 1) * 40014) % 2147483629 / 32 % m
def draw (b : BagT) (m : Int) : Int × BagT := if 0 < (drawA b).1 then ((drawA b).1 % m, ⟨(drawA b).1 / m, b.c1 + 1, (drawA b).2, b.cells, b.sto⟩) else (drawN b m, ⟨(drawA b).1, b.c1 + 1, (drawA b).2, b.cells, b.sto⟩)
theorem draw_lt (b : BagT) {m : Int} (h : 0 < m) : 0 ≤ (draw b m).1 ∧ (draw b m).1 < m := by
  unfold draw
  split
  · exact ⟨Int.emod_nonneg _ (by omega), Int.emod_lt_of_pos _ h⟩
  · exact ⟨Int.emod_nonneg _ (by omega), Int.emod_lt_of_pos _ h⟩
theorem draw_cells (b : BagT) (m : Int) : (draw b m).2.cells = b.cells := by
  unfold draw
  split <;> rfl
theorem draw_sto (b : BagT) (m : Int) : (draw b m).2.sto = b.sto := by
  unfold draw
  split <;> rfl
def mOk (m : Int) : Bool := decide (0 < m) && decide (m.natAbs.log2 < 9000)
def F_draw : Fn BagT := fun args b => match args with
  | [.val .res, .val (.int m)] => if (mOk m && !b.cells.isEmpty) = true then some (.val (.int (draw b m).1), (draw b m).2) else none
  | _ => none
end M

/-! MObj: objects that are changed in place: instances, their attributes, lists that they hold; made, read, stored, handed on as data. -/
namespace M
open PySem PySem.Spec PyProof.Rows L2
variable [Wrt]
/-- where the classes stand -/
class Clss where
  cl : Str → Addr
class KPut (β : Type) [Sto β] [Kind β] [SPut β] : Prop where
  rel : ∀ (R : Res β) (b : β) (s : List Ob) (H : Hp), Kind.kd R → R.rel b H → R.rel (SPut.put b s) H
instance [Tabs] : KPut BagT := ⟨fun R b s H ⟨_, _, _, e⟩ h => by subst e; exact h⟩
variable {β : Type} [Sto β] [Kind β] [SPut β] [KPut β]
def putS (st : Sta β) (s : List Ob) : Sta β := { st with bag := SPut.put st.bag s }
def stoS (st : Sta β) : List Ob := Sto.sto st.bag
theorem sto_putS (st : Sta β) (s : List Ob) : Sto.sto (putS st s).bag = s := SPut.sto_put _ _
section
variable {c : C β} {F F1 F' : Gh} {st st1 : Sta β} {σ : L2.St} {H H1 H' Hs : Hp}
/-- the objects that are changed in place have changed, nothing else -/
theorem Stp.objs (rl : Rel c F st σ H) {s' : List Ob} (k : ∀ a o, H a = some o → ¬ Lcd F a → H' a = some o ∧ (F' a ↔ F a)) (m : ∀ n a, F.mu n = some a → F'.mu n = some a) (lo : ∀ a, Lcd F' a → Lcd F a ∨ H a = none)
    (d : ∀ a o, H a = some o → ∃ o', H' a = some o') (fn : ∀ a, F' a → F a ∨ (H a = none ∧ ∃ o, H' a = some o)) (f0 : ∀ a, c.F0 a → F' a) (so : StoR c.R F' H' s') : Stp c σ F st H F' (putS st s') H' := by
  have wk : Kp H F H' F' := ⟨fun a o e hf => by
    obtain ⟨h1, h2⟩ := k a o e fun z => hf z.2
    exact ⟨h1, fun z => hf (h2.mp z)⟩, m⟩
  refine ⟨⟨rl.len, fun i sl hi => ?_, rl.uniq, fun a o e hf => (k a o (rl.base a o e hf) (rl.lock_loc hf ⟨o, e⟩)).1, KPut.rel _ _ _ _ c.kd (c.R.keep _ _ _ rl.bag fun a o hf e => (k a o e fun z => (rl.loc_f z).2.1 hf).1), f0, fun a h => ?_, fun a h z => ?_, fun n a h => m n a (rl.mu0 n a h), fun a z => ?_, by rw [sto_putS]; exact so⟩,
    fun a o e _ hw => k a o e fun z => hw (.inr z), fun _ h => h, d, m, fun a z => (lo a z).elim .inl fun z => .inr (.inr z)⟩
  · have q := rl.slot i sl hi
    cases sl with
    | no => trivial
    | val d => obtain ⟨v, e, hr⟩ := q; exact ⟨v, e, hr.mono wk⟩
    | own d =>
      obtain ⟨x, e, hr, hx, h0⟩ := q
      have ow : Own st σ x := ⟨i, d, hi, e⟩
      obtain ⟨o, ho⟩ := (rl.own_f ow).2.2
      exact ⟨x, e, hr.mono wk (fun o z => (k x o z (rl.nl x ow)).1), (k x o ho (rl.nl x ow)).2.mpr hx, h0⟩
    | lock d =>
      obtain ⟨x, e, hr, hx, h0⟩ := q
      exact ⟨x, e, hr.mono wk (fun o z => (k x o z (rl.lock_loc hx h0)).1), hx, h0⟩
  · rcases fn a h with z | z
    · obtain ⟨o, e⟩ := rl.fs a z
      exact d a o e
    · exact z.2
  · have h : Own st σ a := h
    rcases lo a z with z | z
    · exact rl.nl a h z
    · obtain ⟨o, e⟩ := (rl.own_f h).2.2
      rw [z] at e; cases e
  · rcases lo a z with z | z
    · exact rl.ln a z
    · exact .inr (rl.h0 z)
def Gh.loc (G : Gh) (n : Nat) (p : Addr) : Gh := ⟨fun b => G.F b ∨ b = p, fun m => if m = n then some p else G.mu m⟩
theorem sto_none (rl : Rel c F st σ H) {n : Nat} (h : (stoS st).length ≤ n) : F.mu n = none := rl.sto.out n h
/-- a new object -/
theorem Stp.alloc (rl : Rel c F st σ H) {p : Addr} {ob : Ob} (hp : H p = none) (k : ∀ a o, H a = some o → H' a = some o) (hq : ∃ o, H' p = some o) (ho : ObR c.R.val (F.loc (stoS st).length p) H' ob p) :
    Stp c σ F st H (F.loc (stoS st).length p) (putS st (stoS st ++ [ob])) H' := by
  have mm : ∀ m a, F.mu m = some a → (F.loc (stoS st).length p).mu m = some a := fun m a e => by
    show (if m = (stoS st).length then some p else F.mu m) = some a
    rw [if_neg fun z => by rw [sto_none rl (by rw [z]; exact Nat.le_refl _)] at e; cases e]
    exact e
  have fn : ∀ a, (F.loc (stoS st).length p) a → F a ∨ (H a = none ∧ ∃ o, H' a = some o) := fun a h => by
    rcases h with h | h
    · exact .inl h
    · rw [h]; exact .inr ⟨hp, hq⟩
  have mu_inv : ∀ m a, (F.loc (stoS st).length p).mu m = some a → (m = (stoS st).length ∧ a = p) ∨ (m ≠ (stoS st).length ∧ F.mu m = some a) := fun m a e => by
    have e : (if m = (stoS st).length then some p else F.mu m) = some a := e
    by_cases z : m = (stoS st).length
    · rw [if_pos z] at e; cases e; exact .inl ⟨z, rfl⟩
    · rw [if_neg z] at e; exact .inr ⟨z, e⟩
  have kp : Kp H F H' (F.loc (stoS st).length p) := ⟨fun a o e hf => ⟨k a o e, fun z => by
    rcases fn a z with z | ⟨z, _⟩
    · exact hf z
    · rw [e] at z; cases z⟩, mm⟩
  refine Stp.objs rl (fun a o e _ => ⟨k a o e, fun z => ?_, .inl⟩) mm (fun a z => ?_) (fun a o e => ⟨o, k a o e⟩) fn (fun a h => .inl (rl.f0 a h)) ⟨fun m o e => ?_, fun m hm => ?_, fun m m' a e e' => ?_, fun m a e => ?_, fun m a e => ?_⟩
  · rcases fn a z with z | ⟨z, _⟩
    · exact z
    · rw [e] at z; cases z
  · obtain ⟨⟨m, z⟩, hf⟩ := z
    rcases mu_inv m a z with ⟨_, rfl⟩ | ⟨_, z⟩
    · exact .inr hp
    · rcases fn a hf with hf | ⟨hf, _⟩
      · exact .inl ⟨⟨m, z⟩, hf⟩
      · exact .inr hf
  · by_cases z : m < (stoS st).length
    · rw [List.getElem?_append_left z] at e
      obtain ⟨a, e1, e2, e3⟩ := rl.sto.at_ m o e
      exact ⟨a, mm m a e1, e2.mono kp fun _ u hu => k a u hu, fun hg => .inl (e3 hg)⟩
    · rw [List.getElem?_append_right (by omega)] at e
      obtain ⟨hz, e⟩ := List.getElem?_eq_some_iff.mp e
      have : m = (stoS st).length := by simp at hz; omega
      subst this
      simp only [Nat.sub_self, List.getElem_cons_zero] at e
      subst e
      refine ⟨p, ?_, ho, fun _ => .inr rfl⟩
      show (if (stoS st).length = (stoS st).length then some p else _) = some p
      rw [if_pos rfl]
  · rw [List.length_append, List.length_singleton] at hm
    show (if m = (stoS st).length then some p else F.mu m) = none
    rw [if_neg (by omega)]
    exact sto_none rl (by omega)
  · rcases mu_inv m a e with ⟨h1, h2⟩ | ⟨h1, h2⟩
    · rcases mu_inv m' a e' with ⟨g1, g2⟩ | ⟨g1, g2⟩
      · rw [h1, g1]
      · rw [h2] at g2; exact absurd g2 (rl.nomu hp m')
    · rcases mu_inv m' a e' with ⟨g1, g2⟩ | ⟨g1, g2⟩
      · rw [g2] at h2; exact absurd h2 (rl.nomu hp m)
      · exact rl.sto.inj m m' a h2 g2
  · rcases mu_inv m a e with ⟨_, rfl⟩ | ⟨_, z⟩
    · exact rl.nofoot hp
    · exact rl.sto.f m a z
  · rcases mu_inv m a e with ⟨_, rfl⟩ | ⟨_, z⟩
    · exact hq
    · obtain ⟨o, h⟩ := rl.sto.th m a z
      exact ⟨o, k a o h⟩
/-- an object changes -/
theorem Stp.upd_loc (rl : Rel c F st σ H) {n : Nat} {a : Addr} {ob ob' : Ob} {ho : HO} (hs : (stoS st)[n]? = some ob) (hg : ob ≠ .gone) (hm : F.mu n = some a) (hg' : ob' ≠ .gone) (hl : Kp H F (upd H a ho) F → ObR c.R.val F (upd H a ho) ob' a) :
    Stp c σ F st H F (putS st ((stoS st).set n ob')) (upd H a ho) := by
  obtain ⟨b, e1, e2, e3⟩ := rl.sto.at_ n ob hs
  rw [hm] at e1
  cases e1
  have hF : F a := e3 hg
  have la : Lcd F a := ⟨⟨n, hm⟩, hF⟩
  have wk : Kp H F (upd H a ho) F := ⟨fun b o e f => ⟨by rw [upd_ne (fun z => f (by rw [z]; exact hF))]; exact e, f⟩, fun _ _ h => h⟩
  refine Stp.objs rl (fun b o e hb => ⟨by rw [upd_ne (fun (z : b = a) => hb (z ▸ la))]; exact e, Iff.rfl⟩) (fun _ _ h => h) (fun _ h => .inl h) (fun b o e => upd_dom e) (fun _ h => .inl h) rl.f0 ⟨fun m o e => ?_, fun m hm' => ?_, rl.sto.inj, rl.sto.f, fun m b e => ?_⟩
  · by_cases z : n = m
    · subst z
      have hlt : n < (stoS st).length := (List.getElem?_eq_some_iff.mp hs).1
      rw [List.getElem?_set_self hlt] at e
      cases e
      exact ⟨a, hm, hl wk, fun _ => hF⟩
    · rw [List.getElem?_set_ne z] at e
      obtain ⟨b, f1, f2, f3⟩ := rl.sto.at_ m o e
      refine ⟨b, f1, f2.mono wk fun _ u hu => ?_, f3⟩
      rw [upd_ne (fun y => z (rl.sto.inj n m a hm (by rw [f1, y])))]
      exact hu
  · rw [List.length_set] at hm'
    exact rl.sto.out m hm'
  · obtain ⟨o, h⟩ := rl.sto.th m b e
    exact upd_dom h
/-- an object told otherwise -/
theorem Stp.retell (rl : Rel c F st σ H) {n : Nat} {a : Addr} {ob ob' : Ob} (hs : (stoS st)[n]? = some ob) (hm : F.mu n = some a) (hF : F a) (hl : ObR c.R.val F H ob' a) :
    Stp c σ F st H F (putS st ((stoS st).set n ob')) H := by
  refine Stp.objs rl (fun b o e hb => ⟨e, Iff.rfl⟩) (fun _ _ h => h) (fun _ h => .inl h) (fun b o e => ⟨o, e⟩) (fun _ h => .inl h) rl.f0 ⟨fun m o e => ?_, fun m hm' => ?_, rl.sto.inj, rl.sto.f, rl.sto.th⟩
  · by_cases z : n = m
    · subst z
      have hlt : n < (stoS st).length := (List.getElem?_eq_some_iff.mp hs).1
      rw [List.getElem?_set_self hlt] at e
      cases e
      exact ⟨a, hm, hl, fun _ => hF⟩
    · rw [List.getElem?_set_ne z] at e
      exact rl.sto.at_ m o e
  · rw [List.length_set] at hm'
    exact rl.sto.out m hm'
/-- an object is handed on as data -/
theorem Stp.frz (rl : Rel c F st σ H) {n : Nat} {a : Addr} {ob : Ob} (hs : (stoS st)[n]? = some ob) (hg : ob ≠ .gone) (hm : F.mu n = some a) (h0 : c.H0 a = none) :
    Stp c σ F st H (F.del a) (putS st ((stoS st).set n .gone)) H ∧ ObR c.R.val (F.del a) H ob a := by
  obtain ⟨b, e1, e2, e3⟩ := rl.sto.at_ n ob hs
  rw [hm] at e1
  cases e1
  have hF : F a := e3 hg
  have la : Lcd F a := ⟨⟨n, hm⟩, hF⟩
  have wk : Kp H F H (F.del a) := ⟨fun b o e f => ⟨e, fun z => f z.1⟩, fun _ _ h => h⟩
  refine ⟨Stp.objs rl (fun b o e hb => ⟨e, fun z => z.1, fun z => ⟨z, fun y => hb (y ▸ la)⟩⟩) (fun _ _ h => h) (fun b h => .inl ⟨h.1, h.2.1⟩) (fun b o e => ⟨o, e⟩) (fun _ h => .inl h.1) (fun b h => ⟨rl.f0 b h, fun y => ?_⟩) ⟨fun m o e => ?_, fun m hm' => ?_, rl.sto.inj, rl.sto.f, rl.sto.th⟩, e2.mono wk fun _ u hu => hu⟩
  · obtain ⟨o, e⟩ := c.fs b h
    rw [y, h0] at e
    cases e
  · by_cases z : n = m
    · subst z
      have hlt : n < (stoS st).length := (List.getElem?_eq_some_iff.mp hs).1
      rw [List.getElem?_set_self hlt] at e
      cases e
      exact ⟨a, hm, trivial, fun h => absurd rfl h⟩
    · rw [List.getElem?_set_ne z] at e
      obtain ⟨b, f1, f2, f3⟩ := rl.sto.at_ m o e
      exact ⟨b, f1, f2.mono wk fun _ u hu => hu, fun hg => ⟨f3 hg, fun y => z (rl.sto.inj n m a hm (by rw [f1, y]))⟩⟩
  · rw [List.length_set] at hm'
    exact rl.sto.out m hm'
end
end M

/-! MLoc: lists that are changed in place wherever they are held; at a def's end they are data. -/
namespace M
open PySem PySem.Spec PyProof.Rows L2
variable [Wrt]
variable {β : Type} [Sto β] [Kind β] [SPut β] [KPut β]
/-- a new list (a dict), changed in place from now on -/
def mNew (a : Mn β R) : Mn β R := mBind a fun r st => match r with
  | .new d => some (.val (.loc (stoS st).length), putS st (stoS st ++ [.dat d]))
  | _ => none
/-- a new object of no one's -/
theorem Stp.keep_loc {c : C β} {F F1 : Gh} {st st1 : Sta β} {σ : L2.St} {H H1 : Hp} (rl : Rel c F st σ H) (s : Stp c σ F st H F1 st1 H1) {p : Addr} {d : D} (hn : H p = none) (ho : RepO H1 F1 c.R.val d p) (hF : F1 p) (hw : ¬ Bsy st1 σ F1 p) :
    Stp c σ F st H ⟨F1.F, (F1.loc (stoS st1).length p).mu⟩ (putS st1 (stoS st1 ++ [.dat d])) H1 ∧ Rep H1 ⟨F1.F, (F1.loc (stoS st1).length p).mu⟩ c.R.val (.loc (stoS st1).length) (.ref p) := by
  have r := s.rel
  have h0 : c.H0 p = none := rl.h0 hn
  have mm : ∀ m a, F1.mu m = some a → (F1.loc (stoS st1).length p).mu m = some a := fun m a e => by
    show (if m = (stoS st1).length then some p else F1.mu m) = some a
    rw [if_neg fun z => by rw [sto_none r (by rw [z]; exact Nat.le_refl _)] at e; cases e]
    exact e
  have mu_inv : ∀ m a, (F1.loc (stoS st1).length p).mu m = some a → (m = (stoS st1).length ∧ a = p) ∨ (m ≠ (stoS st1).length ∧ F1.mu m = some a) := fun m a e => by
    have e : (if m = (stoS st1).length then some p else F1.mu m) = some a := e
    by_cases z : m = (stoS st1).length
    · rw [if_pos z] at e; cases e; exact .inl ⟨z, rfl⟩
    · rw [if_neg z] at e; exact .inr ⟨z, e⟩
  have nm : ∀ m, F1.mu m ≠ some p := fun m z => hw (.inr ⟨⟨m, z⟩, hF⟩)
  have kp : Kp H1 F1 H1 ⟨F1.F, (F1.loc (stoS st1).length p).mu⟩ := ⟨fun a o e hf => ⟨e, hf⟩, mm⟩
  have lc : ∀ a, Lcd ⟨F1.F, (F1.loc (stoS st1).length p).mu⟩ a → Lcd F1 a ∨ a = p := fun a ⟨⟨m, z⟩, hf⟩ => by
    rcases mu_inv m a z with ⟨_, e⟩ | ⟨_, e⟩
    · exact .inr e
    · exact .inl ⟨⟨m, e⟩, hf⟩
  have so : StoR c.R ⟨F1.F, (F1.loc (stoS st1).length p).mu⟩ H1 (stoS st1 ++ [.dat d]) := by
    refine ⟨fun m o e => ?_, fun m hm => ?_, fun m m' a e e' => ?_, fun m a e => ?_, fun m a e => ?_⟩
    · by_cases z : m < (stoS st1).length
      · rw [List.getElem?_append_left z] at e
        obtain ⟨a, e1, e2, e3⟩ := r.sto.at_ m o e
        exact ⟨a, mm m a e1, e2.mono kp fun _ u hu => hu, e3⟩
      · rw [List.getElem?_append_right (by omega)] at e
        obtain ⟨hz, e⟩ := List.getElem?_eq_some_iff.mp e
        have : m = (stoS st1).length := by simp at hz; omega
        subst this
        simp only [Nat.sub_self, List.getElem_cons_zero] at e
        subst e
        refine ⟨p, ?_, ho.mono kp fun _ z => z, fun _ => hF⟩
        show (if (stoS st1).length = (stoS st1).length then some p else _) = some p
        rw [if_pos rfl]
    · rw [List.length_append, List.length_singleton] at hm
      show (if m = (stoS st1).length then some p else F1.mu m) = none
      rw [if_neg (by omega)]
      exact sto_none r (by omega)
    · rcases mu_inv m a e with ⟨h1, h2⟩ | ⟨h1, h2⟩
      · rcases mu_inv m' a e' with ⟨g1, g2⟩ | ⟨g1, g2⟩
        · rw [h1, g1]
        · rw [h2] at g2; exact absurd g2 (nm m')
      · rcases mu_inv m' a e' with ⟨g1, g2⟩ | ⟨g1, g2⟩
        · rw [g2] at h2; exact absurd h2 (nm m)
        · exact r.sto.inj m m' a h2 g2
    · rcases mu_inv m a e with ⟨_, rfl⟩ | ⟨_, z⟩
      · exact rl.nofoot hn
      · exact r.sto.f m a z
    · rcases mu_inv m a e with ⟨_, rfl⟩ | ⟨_, z⟩
      · exact ho.there
      · exact r.sto.th m a z
  refine ⟨⟨⟨r.len, fun i sl hi => ?_, r.uniq, r.base, KPut.rel _ _ _ _ c.kd r.bag, r.f0, r.fs, fun a h z => ?_, fun n a h => mm n a (r.mu0 n a h), fun a z => ?_, by rw [sto_putS]; exact so⟩, fun a o e hf hb => s.fr a o e hf hb, s.own, s.dom, fun n a h => mm n a (s.mus n a h), fun a z => ?_⟩, ?_⟩
  · have q := r.slot i sl hi
    cases sl with
    | no => trivial
    | val d => obtain ⟨v, e, hr⟩ := q; exact ⟨v, e, hr.mono kp⟩
    | own d => obtain ⟨x, e, hr, hx, h0⟩ := q; exact ⟨x, e, hr.mono kp fun _ z => z, hx, h0⟩
    | lock d => obtain ⟨x, e, hr, hx⟩ := q; exact ⟨x, e, hr.mono kp (fun _ z => z), hx⟩
  · rcases lc a z with z | z
    · exact r.nl a h z
    · exact hw (.inl (z ▸ h))
  · rcases lc a z with z | z
    · exact r.ln a z
    · exact .inr (z ▸ h0)
  · rcases lc a z with z | z
    · exact s.lo a z
    · exact .inr (.inr (z ▸ hn))
  · simp only [Rep]
    refine ⟨p, rfl, ?_⟩
    show (if (stoS st1).length = (stoS st1).length then some p else _) = some p
    rw [if_pos rfl]
section
variable {X : Cx}
theorem se_new {e : Expr} {a : Mn β R} (ha : PE X e (tE a)) : PE X e (tE (mNew a)) := peI ha fun σ H Q q => by
  obtain ⟨c, F, st, res, st', rl, e, k⟩ := q
  obtain ⟨r, s1, e1, e⟩ := mBind_some e
  refine ⟨c, F, st, r, s1, rl, e1, fun v H1 F1 t1 h1 => ?_⟩
  split at e
  · rename_i d
    simp only [Option.some.injEq, Prod.mk.injEq] at e
    obtain ⟨rfl, rfl⟩ := e
    obtain ⟨p, rfl, ho, hF, hn, hw⟩ := h1
    obtain ⟨t2, h2⟩ := Stp.keep_loc rl t1 hn ho hF hw
    exact k _ H1 _ t2 h2
  · cases e
/-- to be looked into -/
def mLk (a : Mn β R) : Mn β R := mBind a fun r st => match r with
  | .val (.loc n) => some (.loc n, st)
  | r => some (r, st)
theorem se_lk {e : Expr} {a : Mn β R} (ha : PE X e (tE a)) : PE X e (tE (mLk a)) := peI ha fun σ H Q q => by
  obtain ⟨c, F, st, res, st', rl, e, k⟩ := q
  obtain ⟨r, s1, e1, e⟩ := mBind_some e
  refine ⟨c, F, st, r, s1, rl, e1, fun v H1 F1 t1 h1 => ?_⟩
  split at e
  · simp only [Option.some.injEq, Prod.mk.injEq] at e
    obtain ⟨rfl, rfl⟩ := e
    exact k v H1 F1 t1 h1
  · simp only [Option.some.injEq, Prod.mk.injEq] at e
    obtain ⟨rfl, rfl⟩ := e
    exact k v H1 F1 t1 h1
/-- o[i] = .., o a list changed in place -/
def tmLoc (mo a : Mn β R) : Tm β := fun d st => match mo st with
  | some (.val (.loc n), s1) => match a s1 with
    | some (.val (.int i), s2) => match (stoS s2)[n]? with
      | some (.dat (.lst ds)) => match ixN ds.length i with
        | some j => some (putS s2 ((stoS s2).set n (.dat (.lst (ds.set j d)))))
        | none => none
      | _ => none
    | _ => none
  | _ => none
theorem sg_loc {o e : Expr} {mo a : Mn β R} {pos : Pos} (hu : X.A.units + 1 < cLine) (ho : PE X o (tE mo)) (ha : PE X e (tE a))
    (hs : ∀ v, assign (.Subscript o e pos) X.env v = (do
      let ov ← holding [v] (eval o X.env)
      let iv ← holding [v, ov] (eval e X.env)
      standAt pos
      holding [v, ov, iv] (setItem ov iv v)
      release [v, ov, iv] []) := by intro _; rfl) : PG X (.Subscript o e pos) (gSb (tmLoc mo a)) :=
  pgI (pg_sub ho ha (set_any hu) hs) fun v σ H Q q => by
    obtain ⟨c, F, st, d, st', rl, hd, e, k⟩ := q
    unfold tmLoc at e
    split at e
    · rename_i n s1 e1
      refine ⟨c, F, st, .val (.loc n), s1, rl, e1, fun y H1 F1 t1 h1 => ?_⟩
      split at e
      · rename_i i s2 e2
        refine ⟨c, F1, s1, .val (.int i), s2, t1.rel, e2, fun x H2 F2 t2 h2 => ?_⟩
        have h1' : Rep H2 F2 c.R.val (.loc n) y := t2.rep t1.rel h1
        have h2' : Rep H2 F2 c.R.val (.int i) x := h2
        have hd2 := t2.rep t1.rel (t1.rep rl hd)
        simp only [Rep] at h1' h2'
        obtain ⟨p, rfl, hm⟩ := h1'
        split at e
        · rename_i ds q
          split at e
          · rename_i j q3
            cases e
            obtain ⟨b, f1, ⟨xs, f2, hl⟩, _⟩ := t2.rel.sto.at_ n _ q
            rw [hm] at f1
            cases f1
            refine .inl ⟨p, xs, i, j, rfl, h2', f2, by rw [hl.length]; exact q3, ?_⟩
            have t3 := Stp.upd_loc t2.rel q (ob' := .dat (.lst (ds.set j d))) (ho := .lst (xs.set j v)) (fun z => nomatch z) hm (fun z => nomatch z) fun wk => ⟨_, upd_same, (hl.set j hd2).mono wk⟩
            exact k _ F2 t3.rel (((t1.trans t2).trans t3).frs rl)
          · cases e
        · cases e
      · cases e
    · cases e
end
/-! ### at a def's end -/
mutual
/-- nothing in it is changed in place -/
def nlo : D → Bool
  | .loc _ => false
  | .tup ds => nloL ds
  | .lst ds => nloL ds
  | .dic _ ds => nloL ds
  | .dit ks ds => nloL ks && nloL ds
  | .ins _ _ ds => nloL ds
  | .non => true
  | .bl _ => true
  | .int _ => true
  | .str _ => true
  | .res => true
def nloL : List D → Bool
  | [] => true
  | d :: ds => nlo d && nloL ds
end
mutual
/-- as data -/
def fz (s : List Ob) : D → Option D
  | .loc n => match s[n]? with
    | some (.dat d) => if nlo d = true then some d else none
    | _ => none
  | .tup ds => (fzL s ds).map .tup
  | .lst ds => (fzL s ds).map .lst
  | d => if nlo d = true then some d else none
def fzL (s : List Ob) : List D → Option (List D)
  | [] => some []
  | d :: ds => match fz s d, fzL s ds with
    | some d', some ds' => some (d' :: ds')
    | _, _ => none
end
def fzR (s : List Ob) : R → Option R
  | .val d => (fz s d).map .val
  | .new (.lst ds) => (fzL s ds).map fun ds => .new (.lst ds)
  | .new d => if nlo d = true then some (.new d) else none
  | _ => none
section
variable {H : Hp} {F G : Gh} {rv : V}
mutual
theorem Rep.nlo (h : ∀ a, ¬ F a → ¬ G a) : ∀ {d : D} {v : V}, M.nlo d = true → Rep H F rv d v → Rep H G rv d v
  | .non, _, _, r => by simpa only [Rep] using r
  | .bl _, _, _, r => by simpa only [Rep] using r
  | .int _, _, _, r => by simpa only [Rep] using r
  | .str _, _, _, r => by simpa only [Rep] using r
  | .res, _, _, r => by simpa only [Rep] using r
  | .loc n, _, e, _ => by simp [M.nlo] at e
  | .ins C ns ds, _, e, r => by
    simp only [Rep] at r ⊢
    obtain ⟨a, dx, xs, e1, ha, hf, hk, hl⟩ := r
    exact ⟨a, dx, xs, e1, ha, h a hf, hk, RepL.nlo h (by simpa [M.nlo] using e) hl⟩
  | .tup ds, _, e, r => by
    simp only [Rep] at r ⊢
    obtain ⟨a, xs, e1, ha, hl⟩ := r
    exact ⟨a, xs, e1, ha.elim (fun z => .inl ⟨z.1, h a z.2⟩) .inr, RepL.nlo h (by simpa [M.nlo] using e) hl⟩
  | .lst ds, _, e, r => by
    simp only [Rep] at r ⊢
    obtain ⟨a, xs, e1, ha, hf, hl⟩ := r
    exact ⟨a, xs, e1, ha, h a hf, RepL.nlo h (by simpa [M.nlo] using e) hl⟩
  | .dic ks ds, _, e, r => by
    simp only [Rep] at r ⊢
    obtain ⟨a, xs, e1, ha, hf, hk, hl⟩ := r
    exact ⟨a, xs, e1, ha, h a hf, hk, RepL.nlo h (by simpa [M.nlo] using e) hl⟩
  | .dit ks ds, _, e, r => by
    simp only [Rep] at r ⊢
    simp only [M.nlo, Bool.and_eq_true] at e
    obtain ⟨a, kas, xs, e1, ha, hf, hk, hn, hl, hm⟩ := r
    exact ⟨a, kas, xs, e1, ha, h a hf, hk, hn, RepL.nlo h e.1 hl, RepL.nlo h e.2 hm⟩
theorem RepL.nlo (h : ∀ a, ¬ F a → ¬ G a) : ∀ {ds : List D} {vs : List V}, nloL ds = true → RepL H F rv ds vs → RepL H G rv ds vs
  | [], _, _, r => by simpa only [RepL] using r
  | d :: ds, _, e, r => by
    simp only [RepL] at r ⊢
    simp only [nloL, Bool.and_eq_true] at e
    obtain ⟨v, t, e1, hd, hl⟩ := r
    exact ⟨v, t, e1, Rep.nlo h e.1 hd, RepL.nlo h e.2 hl⟩
end
theorem RepO.nlo (h : ∀ a, ¬ F a → ¬ G a) {d : D} {a : Addr} (e : M.nlo d = true) (r : RepO H F rv d a) : RepO H G rv d a := by
  cases d with
  | lst ds =>
    obtain ⟨xs, q, l⟩ := r
    exact ⟨xs, q, l.nlo h (by simpa [M.nlo] using e)⟩
  | dic ks ds =>
    obtain ⟨xs, q, hk, l⟩ := r
    exact ⟨xs, q, hk, l.nlo h (by simpa [M.nlo] using e)⟩
  | dit ks ds =>
    simp only [M.nlo, Bool.and_eq_true] at e
    obtain ⟨kas, xs, q, hk, hn, l, m⟩ := r
    exact ⟨kas, xs, q, hk, hn, l.nlo h e.1, m.nlo h e.2⟩
  | _ => exact r.elim
end
/-- the ghost behind a def's end -/
def Gh.trim (G : Gh) : Gh := ⟨fun a => G.F a ∧ ∀ n, G.mu n ≠ some a, fun _ => none⟩
section
variable {S : Res β} {H : Hp} {F : Gh} {s : List Ob}
theorem trim_sub : ∀ a, ¬ F a → ¬ F.trim a := fun a h z => h z.1
theorem loc_fz (st : StoR S F H s) {n : Nat} {d : D} {v : V} (q : s[n]? = some (.dat d)) (hn : nlo d = true) (r : Rep H F S.val (.loc n) v) : Rep H F.trim S.val d v := by
  simp only [Rep] at r
  obtain ⟨a, rfl, hm⟩ := r
  obtain ⟨b, e1, e2, _⟩ := st.at_ n _ q
  rw [hm] at e1
  cases e1
  exact (RepO.nlo trim_sub hn e2).rep fun z => z.2 n hm
mutual
theorem Rep.fz (st : StoR S F H s) : ∀ {d d' : D} {v : V}, M.fz s d = some d' → Rep H F S.val d v → Rep H F.trim S.val d' v
  | .loc n, d', v, e, r => by
    simp only [M.fz] at e
    split at e
    · rename_i d q
      split at e
      · rename_i hn
        cases e
        exact loc_fz st q hn r
      · cases e
    · cases e
  | .tup ds, d', v, e, r => by
    simp only [M.fz] at e
    cases q : fzL s ds with
    | none => rw [q] at e; cases e
    | some ds' =>
      rw [q] at e
      cases e
      simp only [Rep] at r ⊢
      obtain ⟨a, xs, e1, ha, hl⟩ := r
      exact ⟨a, xs, e1, ha.elim (fun z => .inl ⟨z.1, trim_sub a z.2⟩) .inr, RepL.fz st q hl⟩
  | .lst ds, d', v, e, r => by
    simp only [M.fz] at e
    cases q : fzL s ds with
    | none => rw [q] at e; cases e
    | some ds' =>
      rw [q] at e
      cases e
      simp only [Rep] at r ⊢
      obtain ⟨a, xs, e1, ha, hf, hl⟩ := r
      exact ⟨a, xs, e1, ha, trim_sub a hf, RepL.fz st q hl⟩
  | .non, d', v, e, r => by simp only [M.fz] at e; split at e <;> cases e; exact r.nlo trim_sub (by assumption)
  | .bl _, d', v, e, r => by simp only [M.fz] at e; split at e <;> cases e; exact r.nlo trim_sub (by assumption)
  | .int _, d', v, e, r => by simp only [M.fz] at e; split at e <;> cases e; exact r.nlo trim_sub (by assumption)
  | .str _, d', v, e, r => by simp only [M.fz] at e; split at e <;> cases e; exact r.nlo trim_sub (by assumption)
  | .res, d', v, e, r => by simp only [M.fz] at e; split at e <;> cases e; exact r.nlo trim_sub (by assumption)
  | .ins _ _ _, d', v, e, r => by simp only [M.fz] at e; split at e <;> cases e; exact r.nlo trim_sub (by assumption)
  | .dic _ _, d', v, e, r => by simp only [M.fz] at e; split at e <;> cases e; exact r.nlo trim_sub (by assumption)
  | .dit _ _, d', v, e, r => by simp only [M.fz] at e; split at e <;> cases e; exact r.nlo trim_sub (by assumption)
theorem RepL.fz (st : StoR S F H s) : ∀ {ds ds' : List D} {vs : List V}, fzL s ds = some ds' → RepL H F S.val ds vs → RepL H F.trim S.val ds' vs
  | [], _, _, e, r => by
    simp only [fzL, Option.some.injEq] at e
    subst e
    simpa only [RepL] using r
  | d :: ds, _, _, e, r => by
    simp only [fzL] at e
    split at e
    · rename_i d' ds' q1 q2
      cases e
      simp only [RepL] at r ⊢
      obtain ⟨v, t, e1, hd, hl⟩ := r
      exact ⟨v, t, e1, Rep.fz st q1 hd, RepL.fz st q2 hl⟩
    · cases e
end
end
/-- what it changed in place is data -/
def trimF (f : Fn β) : Fn β := fun args b => match Sto.sto b with
  | [] => match f args b with
    | some (r, b') => match fzR (Sto.sto b') r with
      | some r' => some (r', SPut.put b' [])
      | none => none
    | none => none
  | _ :: _ => none
theorem trim_sp {f : Fn β} {vs : List V} {H : Hp} {Q : VK} {E : XK} (h : spF (trimF f) vs H Q E) : spF f vs H Q E := by
  obtain ⟨S, F, args, b, r, b', hkd, hfs, hft, hb, hst, ha, e, q⟩ := h
  unfold trimF at e
  split at e
  · rename_i hs0
    split at e
    · rename_i r0 b0 e0
      split at e
      · rename_i r' q1
        simp only [Option.some.injEq, Prod.mk.injEq] at e
        obtain ⟨rfl, rfl⟩ := e
        refine ⟨S, F, args, b, r0, b0, hkd, hfs, hft, hb, hst, ha, e0, fun v H' F' P hr => ?_⟩
        have mu0 : ∀ n, F.mu n = none := fun n => hst.out n (by rw [hs0]; exact Nat.zero_le _)
        have nl : ∀ a, ¬ Lcd F a := fun a ⟨⟨n, z⟩, _⟩ => by rw [mu0] at z; cases z
        have up : ∀ a, F a → F'.trim a := fun a z => ⟨P.gF a z, fun n y => by
          rcases P.ln a ⟨⟨n, y⟩, P.gF a z⟩ with w | w
          · exact nl a w
          · obtain ⟨o, e⟩ := hfs a z
            rw [w] at e; cases e⟩
        refine q v H' F'.trim ⟨P.base, up, fun a z => P.gn a z.1, fun n a z => (by rw [mu0] at z; cases z), fun a ⟨⟨n, z⟩, _⟩ => (by cases z), fun a z => P.fs a z.1, KPut.rel _ _ _ _ hkd P.bag, ?_⟩ ?_
        · rw [SPut.sto_put]
          exact ⟨fun n o e => by simp at e, fun _ _ => rfl, fun n m a z => (by cases z), fun n a z => (by cases z), fun n a z => (by cases z)⟩
        · cases r0 with
          | val d =>
            simp only [fzR] at q1
            cases q2 : fz (Sto.sto b0) d with
            | none => rw [q2] at q1; cases q1
            | some d' =>
              rw [q2] at q1
              cases q1
              exact Rep.fz P.sto q2 hr
          | new d =>
            obtain ⟨a, e1, h0, ho, hF, hL⟩ := hr
            have hF' : F'.trim a := ⟨hF, fun n z => hL ⟨⟨n, z⟩, hF⟩⟩
            have hL' : ¬ Lcd F'.trim a := fun ⟨⟨n, z⟩, _⟩ => by cases z
            unfold fzR at q1
            split at q1
            · rename_i z; cases z
            · rename_i ds z
              cases z
              cases q2 : fzL (Sto.sto b0) ds with
              | none => rw [q2] at q1; cases q1
              | some ds' =>
                rw [q2] at q1
                cases q1
                obtain ⟨xs, h1, h2⟩ := ho
                exact ⟨a, e1, h0, ⟨xs, h1, RepL.fz P.sto q2 h2⟩, hF', hL'⟩
            · rename_i d z
              cases z
              split at q1
              · rename_i hn
                cases q1
                exact ⟨a, e1, h0, ho.nlo trim_sub hn, hF', hL'⟩
              · cases q1
            · cases q1
          | _ => exact hr.elim
      · cases e
    · cases e
  · cases e
section
variable {P : Program} {w : World} {K : PySem.W.Frag} {mg : Str → Option Value} {base : Heap}
theorem Ok.trim {k : Nat} {x : Str} {st : Stmt} {ps : List Str} {F : Fn β} (h : Ok P w K mg base k x st ps F) : Ok P w K mg base k x st ps (trimF F) := by
  obtain ⟨f, fd, e, hf, ok⟩ := h
  exact ⟨f, fd, e, hf, ok.imp fun _ _ _ _ => trim_sp⟩
end
theorem hu9 {k : Nat} {A : Around} (r : Room k A) : A.units + 9 < cLine := by have := r.un; omega
end M

/-! MMeth: insert, index; written tuples by name. -/
namespace M
open PySem PySem.Spec PyProof.Rows L2
variable [Wrt]
theorem hu8 {k : Nat} {A : Around} (r : Room k A) : A.units + 8 < cLine := by have := r.un; omega
/-! ### insert -/
def fInsert : List D → List D → Option (D × List D) := fun ds as => match as with
  | [.int i, d] => if ds.length < line ∧ 0 ≤ i ∧ i < 2 ^ 63 then some (.non, ds.take i.toNat ++ [d] ++ ds.drop i.toNat) else none
  | _ => none
def rInsert : V → List V → Hp → VK → Prop := fun x vs H Q => ∃ (l : Addr) (xs : List V) (i : Int) (y : V), x = .ref l ∧ vs = [.int i, y] ∧ H l = some (.lst xs) ∧ xs.length < sizeLine ∧ 0 ≤ i ∧ i < 2 ^ 63 ∧ Q .non (upd H l (.lst (xs.take i.toNat ++ [y] ++ xs.drop i.toNat)))
theorem mt_insert' {X : Cx} : MtR X "list.insert" rInsert := mt_insert
theorem ok_insert : OkM rInsert fInsert := fun H F rv l xs vs ds as d ds' Q h hl ha e k => by
  unfold fInsert at e
  split at e
  · rename_i i d1
    split at e
    · rename_i hi
      simp only [Option.some.injEq, Prod.mk.injEq] at e
      obtain ⟨rfl, rfl⟩ := e
      simp only [RepL] at ha
      obtain ⟨v, r, rfl, h1, v2, r2, rfl, h2, rfl⟩ := ha
      simp only [Rep] at h1
      subst h1
      exact ⟨l, xs, i, v2, rfl, rfl, h, by rw [hl.length, ← line_eq]; exact hi.1, hi.2.1, hi.2.2, k .non _ (((hl.take _).append (.cons h2 .nil)).append (hl.drop _)) fun _ _ _ => by simp [Rep]⟩
    · cases e
  · cases e
/-! ### index -/
def dIdx (d : D) : List D → Nat → Option Nat
  | [], _ => none
  | x :: xs, j => if deq x d = true then some j else dIdx d xs (j + 1)
def fIndex : List D → List D → Option (D × List D) := fun ds as => match as with
  | [d] => if (okq d && okq (.lst ds)) = true then (match dIdx d ds 0 with
    | some j => some (.int (j : Int), ds)
    | none => none) else none
  | _ => none
theorem dIdx_spec {d : D} : ∀ {ds : List D} {s j : Nat}, dIdx d ds s = some j → ∃ m x, j = s + m ∧ ds[m]? = some x ∧ deq x d = true ∧ ∀ n y, n < m → ds[n]? = some y → deq y d = false
  | [], _, _, e => by cases e
  | x :: xs, s, j, e => by
    unfold dIdx at e
    split at e
    · rename_i h
      cases e
      exact ⟨0, x, rfl, rfl, h, fun n y hn => absurd hn (Nat.not_lt_zero n)⟩
    · rename_i h
      obtain ⟨m, z, e1, e2, e3, e4⟩ := dIdx_spec e
      refine ⟨m + 1, z, by omega, e2, e3, fun n y hn hy => ?_⟩
      cases n with
      | zero => cases hy; simpa using h
      | succ n => exact e4 n y (by omega) hy
theorem pyL_get : ∀ {ds : List D} {i : Nat}, (pyL ds)[i]? = (ds[i]?).map py
  | [], _ => by simp [pyL]
  | d :: ds, 0 => by simp [pyL]
  | d :: ds, i + 1 => by simp only [pyL, List.getElem?_cons_succ]; exact pyL_get
theorem fineL_get : ∀ {ds : List D} {i : Nat} {d : D}, fineL ds = true → ds[i]? = some d → fine d = true
  | [], _, _, _, e => by simp at e
  | x :: ds, 0, d, h, e => by
    simp only [fineL, Bool.and_eq_true] at h
    cases e
    exact h.1
  | x :: ds, i + 1, d, h, e => by
    simp only [fineL, Bool.and_eq_true] at h
    exact fineL_get h.2 (by simpa using e)
theorem upd_id {H : Hp} {l : Addr} {o : HO} (h : H l = some o) : upd H l o = H := by
  funext b
  by_cases e : b = l
  · subst e; rw [upd_same, h]
  · rw [upd_ne e]
theorem ok_index : OkM (rIndexD Wrt.K) fIndex := fun H F rv l xs vs ds as d ds' Q h hl ha e k => by
  unfold fIndex at e
  split at e
  · rename_i d1
    split at e
    · rename_i hq
      rw [Bool.and_eq_true] at hq
      split at e
      · rename_i j hj
        simp only [Option.some.injEq, Prod.mk.injEq] at e
        obtain ⟨rfl, rfl⟩ := e
        simp only [RepL] at ha
        obtain ⟨v, r, rfl, h1, rfl⟩ := ha
        obtain ⟨m, x, e1, e2, e3, e4⟩ := dIdx_spec hj
        have f1 := okq_fine hq.1
        have f2 : fineL ds = true := by simpa [fine] using okq_fine hq.2
        have hsl : SeqAt.shaped (.list (pyL ds)) = true := by simpa [py] using shaped_py hq.2
        refine ⟨l, v, py d1, pyL ds, m, py x, rfl, rfl, .lst (SqL.of h) (RepL.dp f2 hl), Rep.dp f1 h1, hsl, shaped_py hq.1, by rw [pyL_get, e2]; rfl, by rw [eqv_py _ _ (fineL_get f2 e2) f1]; exact e3, fun n z hn hz => ?_, ?_⟩
        · rw [pyL_get] at hz
          cases hy : ds[n]? with
          | none => rw [hy] at hz; cases hz
          | some y =>
            rw [hy] at hz
            cases hz
            rw [eqv_py _ _ (fineL_get f2 hy) f1]
            exact e4 n y hn hy
        · have := k (.int (j : Int)) xs hl fun _ _ _ => by simp [Rep]
          rw [upd_id h] at this
          rw [e1, Nat.zero_add] at this
          exact this
      · cases e
    · cases e
  · cases e
/-! ### a written tuple, by its name -/
theorem se_globT {β : Type} [Sto β] [Kind β] {X : Cx} {x : Str} {a : Addr} {ds : List D} {xs : List V} {pos : Pos} (hg : Gl X x) (hm : X.mg x = some (.ref a)) (hw : Wr a xs) (hr : ∀ H F rv, RepL H F rv ds xs) (hd : (x == ("__debug__" : Str)) = false := by decide) : PE X (.Name x pos) (tE (mC (β := β) (.tup ds))) :=
  se_c (pe_glob (v := .ref a) hg hm rfl hd) fun _ _ _ => by
    simp only [Rep]
    exact ⟨a, xs, rfl, .inr hw, hr _ _ _⟩
end M

/-! MGenM: the meaning of all(test for .. in ..). -/
namespace M
open PySem PySem.Spec PyProof.Rows L2
variable [Wrt]
variable {β : Type} [Sto β] [Kind β]
def allL (vs : List Nat) (e0 : List Sl) (tg : Tm β) (te : Mn β D) : List D → Mn β Bool
  | [], st => some (true, st)
  | d :: ds, st => match tg d { st with env := wipeE st.env vs } with
    | none => none
    | some s1 => match te s1 with
      | some (.bl true, s2) => allL vs e0 tg te ds { s2 with env := backE e0 s2.env vs }
      | some (.bl false, s2) => some (false, { s2 with env := backE e0 s2.env vs })
      | _ => none
def mAll (vs : List Nat) (it : Mn β (List D)) (tg : Tm β) (te : Mn β D) : Mn β R := mBind it fun ds st => if noOwn st.env vs = true then (match allL vs st.env tg te ds st with
  | some (b, st') => some (.val (.bl b), st')
  | none => none) else none
section
variable {c : C β} {F : Gh} {st : Sta β} {σ : L2.St} {H H' : Hp} {P : Addr}
/-- the resource's table has grown -/
theorem tab_stp (r : Rel c F st σ H) (hP : TabFoot c.R P) (t : GxR.Tabbed P H H') : Stp c σ F st H F st H' := by
  have fP : F P := r.f0 P (c.foot P hP.1)
  have at_ : ∀ a, a ≠ P → H' a = H a := t.2
  have wk : Kp H F H' F := ⟨fun a o e hf => ⟨by rw [at_ a (fun z => hf (by rw [z]; exact fP))]; exact e, hf⟩, fun _ _ h => h⟩
  have nf : ∀ a, ¬ c.R.foot a → a ≠ P := fun a h z => h (by rw [z]; exact hP.1)
  refine ⟨⟨r.len, fun i sl hi => ?_, r.uniq, fun a o e hf => by rw [at_ a (nf a fun z => hf (.inl z))]; exact r.base a o e hf, hP.2.2 _ _ _ r.bag t, r.f0, fun a h => ?_, r.nl, r.mu0, r.ln, r.sto.mono wk rfl (fun b hb => (r.loc_f hb).1) (fun b o e => by
    by_cases z : b = P
    · obtain ⟨ps, e', _⟩ := t.1
      exact ⟨_, z ▸ e'⟩
    · exact ⟨o, (at_ b z).trans e⟩) fun b o hb e => (at_ b (fun (z : b = P) => (r.loc_f hb).2.1 (z ▸ hP.1))).trans e⟩, fun a o e hf _ => ⟨by rw [at_ a (nf a hf)]; exact e, Iff.rfl⟩, fun _ h => h, fun a o e => ?_, fun _ _ h => h, fun _ h => .inl h⟩
  · have q := r.slot i sl hi
    cases sl with
    | no => trivial
    | val d => obtain ⟨v, e, hr⟩ := q; exact ⟨v, e, hr.mono wk⟩
    | own d =>
      obtain ⟨x, e, hr, hx, h0⟩ := q
      have hnf := r.own_foot ⟨i, d, hi, e⟩
      exact ⟨x, e, hr.mono wk (fun o z => by rw [at_ x (nf x hnf)]; exact z), hx, h0⟩
    | lock d => obtain ⟨x, e, hr, hx⟩ := q; exact ⟨x, e, hr.mono wk (fun o z => by rw [at_ x (nf x fun z => hx.1 (.inl z))]; exact z), hx⟩
  · by_cases z : a = P
    · obtain ⟨ps, e, _⟩ := t.1
      rw [z]; exact ⟨_, e⟩
    · rw [at_ a z]; exact r.fs a h
  · by_cases z : a = P
    · obtain ⟨ps, e, _⟩ := t.1
      rw [z]; exact ⟨_, e⟩
    · exact ⟨o, by rw [at_ a z]; exact e⟩
end
theorem all_reads {P : Addr} (hK : ∀ R : Res β, Kind.kd R → TabFoot R P) {it : Mn β (List D)} {vs is : List Nat} {tg : Tm β} {te : Mn β D} (hv : ∀ i ∈ is, i ∈ vs) (hg : TgV tg) : ∀ σ H Q, tE (mAll vs it tg te) σ H Q → tAllG P (tIt it) (gTm tg is) (tDt te) vs σ H Q := fun σ H Q q => by
  obtain ⟨c, F, st, res, st', rl, e, k⟩ := q
  obtain ⟨ds, s1, e1, e⟩ := mBind_some e
  split at e
  · rename_i no
    refine ⟨c, F, st, ds, s1, rl, e1, fun J H1 F1 G t1 w g1 => ?_⟩
    split at e
    · rename_i bb s2 e2
      simp only [Option.some.injEq, Prod.mk.injEq] at e
      obtain ⟨rfl, rfl⟩ := e
      have tf := hK c.R c.kd
      refine ⟨tf.2.1 _ _ t1.rel.bag, fun H2 tb => ?_⟩
      have t2 := tab_stp t1.rel tf tb
      -- what holds at a turn
      let Pv : Nat → Hp → Prop := fun i H' => ∃ F' s', Stp c σ F1 s1 H1 F' s' H' ∧ G F' H' ∧ allL vs s1.env tg te (ds.drop i) s' = some (bb, s2)
      have start : Pv 0 H2 := ⟨F1, s1, t2, w.stay F1 s1 s1 σ σ H1 F1 H2 t1.rel g1 t2.rel (t2.frs t1.rel), by rw [List.drop_zero]; exact e2⟩
      refine ⟨fun i m H' => i + m = ds.length ∧ Pv i H', ⟨ds.length, by omega, start⟩, ?_⟩
      rintro i m H' ⟨him, F', s', t', g', e'⟩
      by_cases hlt : i < ds.length
      · right
        have hd : ds[i]? = some ds[i] := List.getElem?_eq_getElem hlt
        obtain ⟨go, yl⟩ := w.go i ds[i] F' s' σ H' hd t'.rel g'
        refine ⟨go, fun H2 => (i + 1) + (m - 1) = ds.length ∧ Pv (i + 1) H2, fun H2 h2 => ⟨m - 1, by omega, h2⟩, fun x H2 y => ?_⟩
        obtain ⟨F2, t2, hx2⟩ := yl x H2 y
        rw [List.drop_eq_getElem_cons hlt] at e'
        simp only [allL] at e'
        split at e'
        · cases e'
        · rename_i s3 q3
          have t12 := t'.trans t2
          have g2 : G F2 H2 := w.stay F' s' s' σ σ H' F2 H2 t'.rel g' t2.rel (t2.frs t'.rel)
          refine ⟨c, F2, { s' with env := wipeE s'.env vs }, ds[i], s3, t2.rel.wiped vs, hx2, q3, fun σ3 r3 ch => ⟨wipe_ext (by rw [ch.1, wipe_length]) (fun j hj => ?_), ?_⟩⟩
          · rw [ch.2 j (fun z => hj (hv j z)), wipe_get hj]
          · have hσl : σ3.length = σ.length := by rw [ch.1, wipe_length]
            have hσ : ∀ j, j ∉ vs → σ3[j]? = σ[j]? := fun j hj => by rw [ch.2 j (fun z => hj (hv j z)), wipe_get hj]
            have hs3 : ∀ (i : Nat) (d : D), s3.env[i]? = some (.own d) → i ∉ vs ∧ s'.env[i]? = some (.own d) := fun i d h => by
              have q := hg _ _ _ q3 i d h
              rcases wipeE_get q with z | z
              · cases z
              · exact z
            split at e'
            · rename_i s4 q4
              refine ⟨c, F2, s3, .bl true, s4, r3, q4, fun v H4 F4 u hv4 => ⟨true, by simpa [Rep] using hv4, iteT ⟨by omega, ?_⟩⟩⟩
              have tb := blk_stp t1.rel no t12 hs3 hσl hσ u
              exact ⟨F4, _, tb, w.stay F2 s3 s4 σ3 σ3 H2 F4 H4 r3 g2 u.rel (u.frs r3), e'⟩
            · rename_i s4 q4
              refine ⟨c, F2, s3, .bl false, s4, r3, q4, fun v H4 F4 u hv4 => ⟨false, by simpa [Rep] using hv4, iteF ?_⟩⟩
              simp only [Option.some.injEq, Prod.mk.injEq] at e'
              obtain ⟨rfl, rfl⟩ := e'
              have tb := blk_stp t1.rel no t12 hs3 hσl hσ u
              exact k (.bl false) H4 F4 (t1.trans tb) (by simp [RepR, Rep])
            · cases e'
      · left
        have hi : i = ds.length := by omega
        subst hi
        rw [List.drop_length] at e'
        simp only [allL, Option.some.injEq, Prod.mk.injEq] at e'
        obtain ⟨rfl, rfl⟩ := e'
        exact ⟨w.stop F' s' σ H' t'.rel g', k (.bl true) H' F' (t1.trans t') (by simp [RepR, Rep])⟩
    · cases e
  · cases e
section
variable {X : Cx}
theorem se_all {c P : Addr} {elt tg iter : Expr} {scope : Scope} {own : List (Str × Nat)} {p pos gpos : Pos} {it : Mn β (List D)} {is : List Nat} {mt : Tm β} {te : Mn β R} {k : Nat} (hK : ∀ R : Res β, Kind.kd R → TabFoot R P) (hr : Room (k + 1) X.A) (hc : X.calm = true) (hN : X.N.Nodup) (hgl : Gl X "all") (hm : X.mg "all" = none)
    (TB : GxR.TabB X.base X.mg c P) (hcode : X.env.code = .ref c) (ok : GenOk X.N X.env.scope scope own) (hi : PI X tg iter (tIt it)) (hv : ∀ i ∈ is, i ∈ own.map (·.2)) (hgv : TgV mt)
    (hg : ∀ (s : Shared) (H : Hp) (C : Addr) (cl : List (Str × Addr)) (code : Value) (fp : List Addr), PG (gCx X (X.A.in1.in1.deeper (genEnv scope cl C code builtinsNs X.env)) s H (genEnv scope cl C code builtinsNs X.env) fp) tg (gTm mt is))
    (he : ∀ (s : Shared) (H : Hp) (C : Addr) (cl : List (Str × Addr)) (code : Value) (fp : List Addr), Room k (X.A.in1.in1.deeper (genEnv scope cl C code builtinsNs X.env)) → PE (gCx X (X.A.in1.in1.deeper (genEnv scope cl C code builtinsNs X.env)) s H (genEnv scope cl C code builtinsNs X.env) fp) elt (tE te))
    (hs : ∀ v, genFold iter X.env v = pure v := by intro _; rfl)
    (hst : starEach [.GeneratorExp elt [⟨tg, iter, [], 0⟩] scope gpos] X.env = (false, eval (.GeneratorExp elt [⟨tg, iter, [], 0⟩] scope gpos) X.env) :: starEach [] X.env := by rfl) :
    PE X (.Call (.Name "all" p) [.GeneratorExp elt [⟨tg, iter, [], 0⟩] scope gpos] [] pos) (tE (mAll (own.map (·.2)) it mt (mD te))) :=
  peI (pe_allG hr hc hN hgl hm TB hcode ok hi hg (fun s H C cl code fp => se_d (he s H C cl code fp (Room.gx hr _))) hs (by decide +kernel) hst) (all_reads hK hv hgv)
end
end M

/-! MPure: the meanings evaluated. -/
namespace M
open PySem L2
variable [Wrt]
/-- for texts about meanings alone -/
instance (priority := 10) noTabs : Tabs := ⟨[]⟩
section
variable {β : Type} [Sto β] [Kind β] {α γ : Type}
@[simp] theorem mBind_ap (m : Mn β α) (k : α → Mn β γ) (st : Sta β) : mBind m k st = (m st).bind fun p => k p.1 p.2 := by
  unfold mBind
  cases m st <;> rfl
@[simp] theorem mC_ap (d : D) (st : Sta β) : mC d st = some (.val d, st) := rfl
@[simp] theorem mNil_ap (st : Sta β) : (mNil : Mn β (List α)) st = some ([], st) := rfl
@[simp] theorem mCons_ap (a : Mn β α) (b : Mn β (List α)) (st : Sta β) : mCons a b st = (a st).bind fun p => (b p.2).bind fun q => some (p.1 :: q.1, q.2) := by
  simp [mCons]
def slR : Option Sl → Nat → Option R
  | some (.val d), _ => some (.val d)
  | some (.own _), i => some (.at i)
  | some (.lock _), i => some (.at i)
  | _, _ => none
@[simp] theorem slR_val (d : D) (i : Nat) : slR (some (.val d)) i = some (.val d) := rfl
@[simp] theorem slR_own (d : D) (i : Nat) : slR (some (.own d)) i = some (.at i) := rfl
@[simp] theorem slR_lock (d : D) (i : Nat) : slR (some (.lock d)) i = some (.at i) := rfl
@[simp] theorem mV_ap (i : Nat) (st : Sta β) : mV i st = (slR st.env[i]? i).map fun r => (r, st) := by
  unfold mV slR
  cases st.env[i]? with
  | none => rfl
  | some s => cases s <;> rfl
def slD : Option Sl → Option D
  | some (.val d) => some d
  | some (.own d) => some d
  | some (.lock d) => some d
  | _ => none
@[simp] theorem slD_val (d : D) : slD (some (.val d)) = some d := rfl
@[simp] theorem slD_own (d : D) : slD (some (.own d)) = some d := rfl
@[simp] theorem slD_lock (d : D) : slD (some (.lock d)) = some d := rfl
@[simp] theorem pk_val (d : D) (st : Sta β) : pk (.val d) st = some d := rfl
@[simp] theorem pk_new (d : D) (st : Sta β) : pk (.new d) st = some d := rfl
@[simp] theorem pk_at (i : Nat) (st : Sta β) : pk (.at i) st = slD st.env[i]? := by
  simp only [pk]
  cases st.env[i]? with
  | none => rfl
  | some s => cases s <;> rfl
@[simp] theorem pk_loc (n : Nat) (st : Sta β) : pk (.loc n) st = match (Sto.sto st.bag)[n]? with
    | some (.dat d) => some d
    | _ => none := rfl
@[simp] theorem pkL_nil (st : Sta β) : pkL [] st = some [] := rfl
@[simp] theorem pkL_cons (r : R) (rs : List R) (st : Sta β) : pkL (r :: rs) st = (pk r st).bind fun d => (pkL rs st).bind fun ds => some (d :: ds) := by
  simp only [pkL]
  cases pk r st with
  | none => rfl
  | some d => cases pkL rs st <;> rfl
@[simp] theorem toD_val (d : D) (st : Sta β) : toD (.val d) st = some (d, st) := rfl
@[simp] theorem toD_new (d : D) (st : Sta β) : toD (.new d) st = some (d, st) := rfl
def slTo : Option Sl → Nat → Sta β → Option (D × Sta β)
  | some (.val d), _, st => some (d, st)
  | some (.own d), i, st => some (d, { st with env := st.env.set i (.val d) })
  | _, _, _ => none
@[simp] theorem slTo_val (d : D) (i : Nat) (st : Sta β) : slTo (some (.val d)) i st = some (d, st) := rfl
@[simp] theorem slTo_own (d : D) (i : Nat) (st : Sta β) : slTo (some (.own d)) i st = some (d, { st with env := st.env.set i (.val d) }) := rfl
@[simp] theorem toD_at (i : Nat) (st : Sta β) : toD (.at i) st = slTo st.env[i]? i st := by
  simp only [toD]
  cases st.env[i]? with
  | none => rfl
  | some s => cases s <;> rfl
@[simp] theorem toD_loc (n : Nat) (st : Sta β) : toD (.loc n) st = some (.loc n, st) := rfl
@[simp] theorem mD_ap (a : Mn β R) (st : Sta β) : mD a st = (a st).bind fun p => toD p.1 p.2 := by simp [mD]
@[simp] theorem mOp2_ap (f : D → D → Option R) (a b : Mn β R) (st : Sta β) : mOp2 f a b st = (a st).bind fun p => (b p.2).bind fun q => (pk p.1 q.2).bind fun d => (pk q.1 q.2).bind fun e => (f d e).map fun r => (r, q.2) := by
  simp only [mOp2, mBind_ap]
  congr; funext p; congr; funext q
  cases pk p.1 q.2 with
  | none => rfl
  | some d => cases pk q.1 q.2 with
    | none => rfl
    | some e => show (match f d e with | none => none | some r => some (r, q.2)) = (f d e).map _; cases f d e <;> rfl
@[simp] theorem mOp1_ap (f : D → Option R) (a : Mn β R) (st : Sta β) : mOp1 f a st = (a st).bind fun p => (pk p.1 p.2).bind fun d => (f d).map fun r => (r, p.2) := by
  simp only [mOp1, mBind_ap]
  congr; funext p
  cases pk p.1 p.2 with
  | none => rfl
  | some d => show (match f d with | none => none | some r => some (r, p.2)) = (f d).map _; cases f d <;> rfl
@[simp] theorem mBi_ap (f : List D → Option R) (a : Mn β (List R)) (st : Sta β) : mBi f a st = (a st).bind fun p => (pkL p.1 p.2).bind fun ds => (f ds).map fun r => (r, p.2) := by
  simp only [mBi, mBind_ap]
  congr; funext p
  cases pkL p.1 p.2 with
  | none => rfl
  | some ds => show (match f ds with | none => none | some r => some (r, p.2)) = (f ds).map _; cases f ds <;> rfl
@[simp] theorem mTup_ap (a : Mn β (List D)) (st : Sta β) : mTup a st = (a st).bind fun p => if p.1.length ≤ line then some (.val (.tup p.1), p.2) else none := by simp [mTup]
@[simp] theorem mLst_ap (a : Mn β (List D)) (st : Sta β) : mLst a st = (a st).bind fun p => if p.1.length ≤ line then some (.new (.lst p.1), p.2) else none := by simp [mLst]
@[simp] theorem mTr_ap (a : Mn β R) (st : Sta β) : mTr a st = (a st).bind fun p => (pk p.1 p.2).bind fun d => (truth d).map fun b => (b, p.2) := by
  simp only [mTr, mBind_ap]
  congr; funext p
  cases pk p.1 p.2 with
  | none => rfl
  | some d => show (match truth d with | none => none | some b => some (b, p.2)) = (truth d).map _; cases truth d <;> rfl
def rBl : R → Option Bool
  | .val (.bl b) => some b
  | _ => none
@[simp] theorem rBl_bl (b : Bool) : rBl (.val (.bl b)) = some b := rfl
@[simp] theorem mBl_ap (a : Mn β R) (st : Sta β) : mBl a st = (a st).bind fun p => (rBl p.1).map fun b => (b, p.2) := by
  simp only [mBl, mBind_ap]
  congr; funext p
  cases p.1 with
  | val d => cases d <;> rfl
  | new d => rfl
  | «at» i => rfl
  | loc n => rfl
@[simp] theorem truth_bl (b : Bool) : truth (.bl b) = some b := rfl
@[simp] theorem truth_int (i : Int) : truth (.int i) = some (i != 0) := rfl
@[simp] theorem truth_lst (ds : List D) : truth (.lst ds) = some (!ds.isEmpty) := rfl
@[simp] theorem truth_tup (ds : List D) : truth (.tup ds) = some (!ds.isEmpty) := rfl
@[simp] theorem truth_non : truth .non = some false := rfl
@[simp] theorem mAnd_ap (a b : Mn β Bool) (st : Sta β) : mAnd a b st = (a st).bind fun p => if p.1 = true then b p.2 else some (false, p.2) := by
  simp only [mAnd, mBind_ap]
  congr; funext p
  split <;> rfl
@[simp] theorem mOr_ap (a b : Mn β Bool) (st : Sta β) : mOr a b st = (a st).bind fun p => if p.1 = true then some (true, p.2) else b p.2 := by
  simp only [mOr, mBind_ap]
  congr; funext p
  split <;> rfl
@[simp] theorem mNot_ap (a : Mn β Bool) (st : Sta β) : mNot a st = (a st).map fun p => (!p.1, p.2) := by
  simp only [mNot, mBind_ap]
  cases a st <;> rfl
@[simp] theorem mAndV_ap (a b : Mn β R) (st : Sta β) : mAndV a b st = (mBl a st).bind fun p => if p.1 = true then b p.2 else some (.val (.bl false), p.2) := by
  simp only [mAndV]
  rw [mBind_ap]
  congr; funext p
  split <;> rfl
@[simp] theorem mOrV_ap (a b : Mn β R) (st : Sta β) : mOrV a b st = (mBl a st).bind fun p => if p.1 = true then some (.val (.bl true), p.2) else b p.2 := by
  simp only [mOrV]
  rw [mBind_ap]
  congr; funext p
  split <;> rfl
@[simp] theorem mNotV_ap (a : Mn β R) (st : Sta β) : mNotV a st = (mBl a st).map fun p => (.val (.bl !p.1), p.2) := by
  simp only [mNotV]
  rw [mBind_ap]
  cases mBl a st <;> rfl
@[simp] theorem mIfE_ap (t : Mn β Bool) (a b : Mn β R) (st : Sta β) : mIfE t a b st = (t st).bind fun p => if p.1 = true then a p.2 else b p.2 := by
  simp only [mIfE, mBind_ap]
  congr; funext p
  split <;> rfl
@[simp] theorem mIf_ap (t : Mn β Bool) (a b : Ms β) (st : Sta β) : mIf t a b st = (t st).bind fun p => if p.1 = true then a p.2 else b p.2 := by
  simp only [mIf, mBind_ap]
  congr; funext p
  split <;> rfl
@[simp] theorem mChain_ap (f g : D → D → Option R) (a b d : Mn β R) (st : Sta β) : mChain f g a b d st = (a st).bind fun p => (b p.2).bind fun q => (pk p.1 q.2).bind fun x => (pk q.1 q.2).bind fun y => ((f x y).bind rBl).bind fun k =>
    if k = true then (d q.2).bind fun u => (pk q.1 u.2).bind fun y' => (pk u.1 u.2).bind fun z => (g y' z).map fun r => (r, u.2) else some (.val (.bl false), q.2) := by
  simp only [mChain, mBind_ap]
  congr; funext p; congr; funext q
  cases pk p.1 q.2 with
  | none => rfl
  | some x => cases pk q.1 q.2 with
    | none => rfl
    | some y =>
      simp only [Option.bind_some]
      cases f x y with
      | none => rfl
      | some r =>
        cases r with
        | val v =>
          cases v with
          | bl k =>
            cases k with
            | false => rfl
            | true =>
              simp only [Option.bind_some, rBl_bl, if_true]
              congr; funext u
              cases pk q.1 u.2 with
              | none => rfl
              | some y' => cases pk u.1 u.2 with
                | none => rfl
                | some z => show (match g y' z with | none => none | some r => some (r, u.2)) = (g y' z).map _; cases g y' z <;> rfl
          | _ => rfl
        | _ => rfl
@[simp] theorem mNo_ap (st : Sta β) : (mNo : Mn β (Option Int)) st = some (none, st) := rfl
def rInt : R → Option Int
  | .val (.int i) => some i
  | _ => none
@[simp] theorem rInt_int (i : Int) : rInt (.val (.int i)) = some i := rfl
@[simp] theorem mSo_ap (a : Mn β R) (st : Sta β) : mSo a st = (a st).bind fun p => (rInt p.1).map fun i => (some i, p.2) := by
  simp only [mSo, mBind_ap]
  congr; funext p
  cases p.1 with
  | val d => cases d <;> rfl
  | new d => rfl
  | «at» i => rfl
  | loc n => rfl
@[simp] theorem mSl_ap (f : D → Option Int → Option Int → Option R) (a : Mn β R) (lo hi : Mn β (Option Int)) (st : Sta β) : mSl f a lo hi st = (a st).bind fun p => (lo p.2).bind fun l => (hi l.2).bind fun h => (pk p.1 h.2).bind fun d => (f d l.1 h.1).map fun r => (r, h.2) := by
  simp only [mSl, mBind_ap]
  congr; funext p; congr; funext l; congr; funext h
  cases pk p.1 h.2 with
  | none => rfl
  | some d => show (match f d l.1 h.1 with | none => none | some r => some (r, h.2)) = (f d l.1 h.1).map _; cases f d l.1 h.1 <;> rfl
/-! statements -/
@[simp] theorem mSkip_ap (st : Sta β) : (mSkip : Ms β) st = some (.nx, st) := rfl
@[simp] theorem mBk_ap (st : Sta β) : (mBk : Ms β) st = some (.bk, st) := rfl
@[simp] theorem mCt_ap (st : Sta β) : (mCt : Ms β) st = some (.ct, st) := rfl
@[simp] theorem mRetN_ap (st : Sta β) : (mRetN : Ms β) st = some (.rt (.val .non), st) := rfl
def thn (b : Ms β) : O × Sta β → Option (O × Sta β)
  | (.nx, st) => b st
  | p => some p
@[simp] theorem thn_nx (b : Ms β) (st : Sta β) : M.thn b (.nx, st) = b st := rfl
@[simp] theorem thn_bk (b : Ms β) (st : Sta β) : M.thn b (.bk, st) = some (.bk, st) := rfl
@[simp] theorem thn_ct (b : Ms β) (st : Sta β) : M.thn b (.ct, st) = some (.ct, st) := rfl
@[simp] theorem thn_rt (b : Ms β) (r : R) (st : Sta β) : M.thn b (.rt r, st) = some (.rt r, st) := rfl
@[simp] theorem mSeq_ap (a b : Ms β) (st : Sta β) : mSeq a b st = (a st).bind (M.thn b) := by
  simp only [mSeq, mBind_ap]
  congr; funext p
  obtain ⟨o, s⟩ := p
  cases o <;> rfl
@[simp] theorem mEx_ap (a : Mn β R) (st : Sta β) : mEx a st = (a st).map fun p => (.nx, p.2) := by
  simp only [mEx, mBind_ap]
  cases a st <;> rfl
def slRes : Option Sl → Option R
  | some (.val d) => some (.val d)
  | some (.own d) => some (.new d)
  | _ => none
@[simp] theorem slRes_val (d : D) : slRes (some (.val d)) = some (.val d) := rfl
@[simp] theorem slRes_own (d : D) : slRes (some (.own d)) = some (.new d) := rfl
@[simp] theorem toRes_val (d : D) (st : Sta β) : toRes (.val d) st = some (.val d) := rfl
@[simp] theorem toRes_new (d : D) (st : Sta β) : toRes (.new d) st = some (.new d) := rfl
@[simp] theorem toRes_loc (n : Nat) (st : Sta β) : toRes (.loc n) st = some (.val (.loc n)) := rfl
@[simp] theorem toRes_at (i : Nat) (st : Sta β) : toRes (.at i) st = slRes st.env[i]? := by
  simp only [toRes]
  cases st.env[i]? with
  | none => rfl
  | some s => cases s <;> rfl
@[simp] theorem mRet_ap (a : Mn β R) (st : Sta β) : mRet a st = (a st).bind fun p => (toRes p.1 p.2).map fun r => (.rt r, p.2) := by
  simp only [mRet, mBind_ap]
  congr; funext p
  show (match toRes p.1 p.2 with | none => none | some r => some (O.rt r, p.2)) = (toRes p.1 p.2).map _
  cases toRes p.1 p.2 <;> rfl
@[simp] theorem setSl_val (i : Nat) (d : D) (st : Sta β) : setSl i (.val d) st = some { st with env := st.env.set i (.val d) } := rfl
@[simp] theorem setSl_new (i : Nat) (d : D) (st : Sta β) : setSl i (.new d) st = some { st with env := st.env.set i (.own d) } := rfl
@[simp] theorem setSl_loc (i n : Nat) (st : Sta β) : setSl i (.loc n) st = some { st with env := st.env.set i (.val (.loc n)) } := rfl
@[simp] theorem setSl_at (i j : Nat) (st : Sta β) : setSl i (.at j) st = (toD (.at j) st).map fun p => { p.2 with env := p.2.env.set i (.val p.1) } := by
  simp only [setSl]
  cases toD (.at j) st <;> rfl
@[simp] theorem mSet_ap (i : Nat) (a : Mn β R) (st : Sta β) : mSet i a st = (a st).bind fun p => (setSl i p.1 p.2).map fun s => (.nx, s) := by
  simp only [mSet, mBind_ap]
  congr; funext p
  show (match setSl i p.1 p.2 with | none => none | some s => some (O.nx, s)) = (setSl i p.1 p.2).map _
  cases setSl i p.1 p.2 <;> rfl
@[simp] theorem tmN_ap (i : Nat) (d : D) (st : Sta β) : tmN i d st = some { st with env := st.env.set i (.val d) } := rfl
@[simp] theorem tmNil_nil (st : Sta β) : tmNil [] st = some st := rfl
@[simp] theorem tmCons_cons (m : Tm β) (n : Tms β) (d : D) (ds : List D) (st : Sta β) : tmCons m n (d :: ds) st = (m d st).bind (n ds) := by
  simp only [tmCons]
  cases m d st <;> rfl
@[simp] theorem tmT_tup (m : Tms β) (n : Nat) (ds : List D) (st : Sta β) : tmT m n (.tup ds) st = if ds.length = n then m ds st else none := rfl
@[simp] theorem mUnp_ap (a : Mn β R) (m : Tm β) (st : Sta β) : mUnp a m st = (mD a st).bind fun p => (m p.1 p.2).map fun s => (.nx, s) := by
  simp only [mUnp]
  rw [mBind_ap]
  congr; funext p
  show (match m p.1 p.2 with | none => none | some s => some (O.nx, s)) = (m p.1 p.2).map _
  cases m p.1 p.2 <;> rfl
@[simp] theorem mPut_ap (a : Mn β R) (m : Tm β) (st : Sta β) : mPut a m st = (mD a st).bind fun p => (m p.1 p.2).map fun s => (.nx, s) := mUnp_ap a m st
/-- the slot's own list -/
def slOwn : Option Sl → Option (List D)
  | some (.own (.lst ds)) => some ds
  | _ => none
@[simp] theorem slOwn_own (ds : List D) : slOwn (some (.own (.lst ds))) = some ds := rfl
def isOwn : Option Sl → Bool
  | some (.own _) => true
  | _ => false
@[simp] theorem isOwn_own (d : D) : isOwn (some (.own d)) = true := rfl
def isOwnL : Option Sl → Bool
  | some (.own (.lst _)) => true
  | _ => false
@[simp] theorem isOwnL_own (ds : List D) : isOwnL (some (.own (.lst ds))) = true := rfl
def rVal : R → Option D
  | .val d => some d
  | _ => none
@[simp] theorem rVal_val (d : D) : rVal (.val d) = some d := rfl
def slOwnD : Option Sl → Option D
  | some (.own d) => some d
  | _ => none
@[simp] theorem slOwnD_own (d : D) : slOwnD (some (.own d)) = some d := rfl
@[simp] theorem fPutI_l (ds : List D) (i : Int) (d : D) : fPutI (.lst ds) (.int i) d = (ixN ds.length i).map fun j => .lst (ds.set j d) := by
  simp only [fPutI]
  cases ixN ds.length i <;> rfl
@[simp] theorem fPutI_d (ks : List Key) (ds : List D) (k d : D) : fPutI (.dic ks ds) k d = (keyOf k).bind fun q => if ks.length < line then some (.dic (dPutK ks q) (dPutV ks ds q d)) else none := by
  simp only [fPutI]
  cases keyOf k <;> rfl
@[simp] theorem keyOf_int (i : Int) : keyOf (.int i) = some (.inl i) := rfl
@[simp] theorem keyOf_str (x : Str) : keyOf (.str x) = some (.inr x) := rfl
@[simp] theorem tmSub_ap (i : Nat) (a : Mn β R) (d : D) (st : Sta β) : tmSub i a d st = if isOwn st.env[i]? = true then (a st).bind fun p => (rVal p.1).bind fun k => (slOwnD p.2.env[i]?).bind fun o => (fPutI o k d).map fun o' => { p.2 with env := p.2.env.set i (.own o') } else none := by
  simp only [tmSub]
  cases h0 : st.env[i]? with
  | none => rfl
  | some s =>
    cases s with
    | own o =>
      simp only [isOwn_own, if_true]
      cases a st with
      | none => rfl
      | some p =>
        obtain ⟨r, s1⟩ := p
        simp only [Option.bind_some]
        cases r with
        | new _ => rfl
        | «at» _ => rfl
        | loc _ => rfl
        | val k =>
          simp only [rVal_val, Option.bind_some]
          cases h1 : s1.env[i]? with
          | none => rfl
          | some t =>
            cases t with
            | own o2 =>
              simp only [slOwnD_own, Option.bind_some]
              cases fPutI o2 k d <;> rfl
            | _ => rfl
    | _ => rfl
@[simp] theorem mOwn_ap (i : Nat) (f : List D → List D → Option (D × List D)) (a : Mn β (List D)) (st : Sta β) : mOwn i f a st = if isOwnL st.env[i]? = true then (a st).bind fun p => (slOwn p.2.env[i]?).bind fun ds => (f ds p.1).map fun q => (.val q.1, { p.2 with env := p.2.env.set i (.own (.lst q.2)) }) else none := by
  simp only [mOwn]
  cases h0 : st.env[i]? with
  | none => rfl
  | some s =>
    cases s with
    | own o =>
      cases o with
      | lst ds0 =>
        simp only [isOwnL_own, if_true]
        rw [mBind_ap]
        congr; funext p
        cases h1 : p.2.env[i]? with
        | none => simp [slOwn]
        | some t =>
          cases t with
          | own o' =>
            cases o' with
            | lst ds => simp only [slOwn_own, Option.bind_some]; cases f ds p.1 <;> rfl
            | _ => rfl
          | _ => rfl
      | _ => rfl
    | _ => rfl
@[simp] theorem fAppend_1 (ds : List D) (d : D) : fAppend ds [d] = if ds.length < line then some (.non, ds ++ [d]) else none := rfl
@[simp] theorem fPop_0 (ds : List D) : fPop ds [] = (ds[ds.length - 1]?).map fun d => (d, ds.dropLast) := by
  simp only [fPop]
  cases ds[ds.length - 1]? <;> rfl
@[simp] theorem fReverse_0 (ds : List D) : fReverse ds [] = some (.non, ds.reverse) := rfl
/-! walks -/
def slIt : Option Sl → Nat → Sta β → Option (List D × Sta β)
  | some (.val (.lst ds)), _, st => some (ds, st)
  | some (.val (.tup ds)), _, st => some (ds, st)
  | some (.own (.lst ds)), i, st => some (ds, { st with env := st.env.set i (.val (.lst ds)) })
  | some (.lock (.lst ds)), _, st => some (ds, st)
  | _, _, _ => none
@[simp] theorem slIt_vl (ds : List D) (i : Nat) (st : Sta β) : slIt (some (.val (.lst ds))) i st = some (ds, st) := rfl
@[simp] theorem slIt_vt (ds : List D) (i : Nat) (st : Sta β) : slIt (some (.val (.tup ds))) i st = some (ds, st) := rfl
@[simp] theorem slIt_o (ds : List D) (i : Nat) (st : Sta β) : slIt (some (.own (.lst ds))) i st = some (ds, { st with env := st.env.set i (.val (.lst ds)) }) := rfl
@[simp] theorem slIt_l (ds : List D) (i : Nat) (st : Sta β) : slIt (some (.lock (.lst ds))) i st = some (ds, st) := rfl
@[simp] theorem toIt_vl (ds : List D) (st : Sta β) : toIt (.val (.lst ds)) st = some (ds, st) := rfl
@[simp] theorem toIt_vt (ds : List D) (st : Sta β) : toIt (.val (.tup ds)) st = some (ds, st) := rfl
@[simp] theorem toIt_n (ds : List D) (st : Sta β) : toIt (.new (.lst ds)) st = some (ds, st) := rfl
@[simp] theorem toIt_at (i : Nat) (st : Sta β) : toIt (.at i) st = slIt st.env[i]? i st := by
  simp only [toIt]
  cases st.env[i]? with
  | none => rfl
  | some s =>
    cases s with
    | no => rfl
    | val d => cases d <;> rfl
    | own d => cases d <;> rfl
    | lock d => cases d <;> rfl
@[simp] theorem mIt_ap (a : Mn β R) (st : Sta β) : mIt a st = (a st).bind fun p => toIt p.1 p.2 := by simp [mIt]
@[simp] theorem mRng_ap (f : List D → Option (List D)) (a : Mn β (List R)) (st : Sta β) : mRng f a st = (a st).bind fun p => (pkL p.1 p.2).bind fun ds => (f ds).map fun xs => (xs, p.2) := by
  simp only [mRng, mBind_ap]
  congr; funext p
  cases pkL p.1 p.2 with
  | none => rfl
  | some ds => show (match f ds with | none => none | some r => some (r, p.2)) = (f ds).map _; cases f ds <;> rfl
@[simp] theorem mFor_ap (it : Mn β (List D)) (tg : Tm β) (body : Ms β) (st : Sta β) : mFor it tg body st = (it st).bind fun p => forL tg body p.1 p.2 := by simp [mFor]
@[simp] theorem forL_nil (tg : Tm β) (body : Ms β) (st : Sta β) : forL tg body [] st = some (.nx, st) := rfl
/-- behind a turn -/
def nxt (tg : Tm β) (body : Ms β) (ds : List D) : O × Sta β → Option (O × Sta β)
  | (.nx, st) => forL tg body ds st
  | (.ct, st) => forL tg body ds st
  | (.bk, st) => some (.nx, st)
  | (.rt r, st) => some (.rt r, st)
@[simp] theorem nxt_nx (tg : Tm β) (body : Ms β) (ds : List D) (st : Sta β) : nxt tg body ds (.nx, st) = forL tg body ds st := rfl
@[simp] theorem nxt_ct (tg : Tm β) (body : Ms β) (ds : List D) (st : Sta β) : nxt tg body ds (.ct, st) = forL tg body ds st := rfl
@[simp] theorem nxt_bk (tg : Tm β) (body : Ms β) (ds : List D) (st : Sta β) : nxt tg body ds (.bk, st) = some (.nx, st) := rfl
@[simp] theorem nxt_rt (tg : Tm β) (body : Ms β) (ds : List D) (r : R) (st : Sta β) : nxt tg body ds (.rt r, st) = some (.rt r, st) := rfl
theorem forL_cons (tg : Tm β) (body : Ms β) (d : D) (ds : List D) (st : Sta β) : forL tg body (d :: ds) st = ((tg d st).bind body).bind (nxt tg body ds) := by
  simp only [forL]
  cases tg d st with
  | none => rfl
  | some s1 =>
    simp only [Option.bind_some]
    cases body s1 with
    | none => rfl
    | some p => obtain ⟨o, s⟩ := p; cases o <;> rfl
/-- calls -/
def slA : Option Sl → Option Sl
  | some (.val d) => some (.val d)
  | some (.own d) => some (.lock d)
  | some (.lock d) => some (.lock d)
  | _ => none
@[simp] theorem slA_val (d : D) : slA (some (.val d)) = some (.val d) := rfl
@[simp] theorem slA_own (d : D) : slA (some (.own d)) = some (.lock d) := rfl
@[simp] theorem slA_lock (d : D) : slA (some (.lock d)) = some (.lock d) := rfl
@[simp] theorem toSl_val (d : D) (st : Sta β) : toSl (.val d) st = some (.val d) := rfl
@[simp] theorem toSl_new (d : D) (st : Sta β) : toSl (.new d) st = some (.lock d) := rfl
@[simp] theorem toSl_at (i : Nat) (st : Sta β) : toSl (.at i) st = slA st.env[i]? := by
  simp only [toSl]
  cases st.env[i]? with
  | none => rfl
  | some s => cases s <;> rfl
@[simp] theorem toSlL_nil (st : Sta β) : toSlL [] st = some [] := rfl
@[simp] theorem toSlL_cons (r : R) (rs : List R) (st : Sta β) : toSlL (r :: rs) st = (toSl r st).bind fun d => (toSlL rs st).bind fun ds => some (d :: ds) := by
  simp only [toSlL]
  cases toSl r st with
  | none => rfl
  | some d => cases toSlL rs st <;> rfl
@[simp] theorem mCall_ap (f : Fn β) (a : Mn β (List R)) (st : Sta β) : mCall f a st = (a st).bind fun p => (toSlL p.1 p.2).bind fun as => (f as p.2.bag).map fun q => (q.1, { p.2 with bag := q.2 }) := by
  simp only [mCall, mBind_ap]
  congr; funext p
  cases toSlL p.1 p.2 with
  | none => rfl
  | some as =>
    simp only [Option.bind_some]
    cases f as p.2.bag <;> rfl
@[simp] theorem mCallK_ap (f : Fn β) (is : List Nat) (n m : Nat) (a k : Mn β (List R)) (st : Sta β) : mCallK f is n m a k st = (a st).bind fun p => (k p.2).bind fun q => if p.1.length = n ∧ q.1.length = m then (toSlL (p.1 ++ q.1) q.2).bind fun as => (f (pickL is as) q.2.bag).map fun u => (u.1, { q.2 with bag := u.2 }) else none := by
  simp only [mCallK, mBind_ap]
  congr; funext p; congr; funext q
  split
  · cases toSlL (p.1 ++ q.1) q.2 with
    | none => rfl
    | some as =>
      simp only [Option.bind_some]
      cases f (pickL is as) q.2.bag <;> rfl
  · rfl
/-- what a body hands back -/
def outF : Option (O × Sta β) → Option (R × β)
  | some (.rt r, st) => some (r, st.bag)
  | some (.nx, st) => some (.val .non, st.bag)
  | _ => none
@[simp] theorem outF_rt (r : R) (st : Sta β) : outF (some (.rt r, st)) = some (r, st.bag) := rfl
@[simp] theorem outF_nx (st : Sta β) : outF (some (.nx, st)) = some (.val .non, st.bag) := rfl
theorem runF_ap (np n : Nat) (m : Ms β) (args : List Sl) (b : β) (h : args.length = np) : runF np n m args b = outF (m ⟨args ++ List.replicate (n - args.length) .no, b⟩) := by
  unfold runF
  rw [if_pos h]
  cases m ⟨args ++ List.replicate (n - args.length) .no, b⟩ with
  | none => rfl
  | some p => obtain ⟨o, s⟩ := p; cases o <;> rfl
@[simp] theorem runF_eq (np n : Nat) (m : Ms β) (args : List Sl) (b : β) : runF np n m args b = if args.length = np then outF (m ⟨args ++ List.replicate (n - args.length) .no, b⟩) else none := by
  by_cases h : args.length = np
  · rw [runF_ap np n m args b h, if_pos h]
  · unfold runF
    rw [if_neg h, if_neg h]
end
end M

/-! MLib: facts of the operations; loops by invariants. -/
namespace M
open PySem L2
variable [Wrt]
/-! ### isinstance -/
section
variable (i : Int) (b : Bool) (x : Str) (ds : List D)
@[simp] theorem isi_1 : isi "int" (.int i) = some true := by show kitB "int" "int" = some true; decide +kernel
@[simp] theorem isi_2 : isi "int" (.bl b) = some true := by show kitB "bool" "int" = some true; decide +kernel
@[simp] theorem isi_3 : isi "int" .non = some false := by show kitB "NoneType" "int" = some false; decide +kernel
@[simp] theorem isi_4 : isi "int" (.str x) = some false := by show kitB "str" "int" = some false; decide +kernel
@[simp] theorem isi_5 : isi "int" (.tup ds) = some false := by show kitB "tuple" "int" = some false; decide +kernel
@[simp] theorem isi_6 : isi "int" (.lst ds) = some false := by show kitB "list" "int" = some false; decide +kernel
@[simp] theorem isi_7 : isi "bool" (.int i) = some false := by show kitB "int" "bool" = some false; decide +kernel
@[simp] theorem isi_8 : isi "bool" (.bl b) = some true := by show kitB "bool" "bool" = some true; decide +kernel
@[simp] theorem isi_9 : isi "bool" .non = some false := by show kitB "NoneType" "bool" = some false; decide +kernel
@[simp] theorem isi_10 : isi "bool" (.str x) = some false := by show kitB "str" "bool" = some false; decide +kernel
@[simp] theorem isi_11 : isi "bool" (.tup ds) = some false := by show kitB "tuple" "bool" = some false; decide +kernel
@[simp] theorem isi_12 : isi "bool" (.lst ds) = some false := by show kitB "list" "bool" = some false; decide +kernel
@[simp] theorem isi_13 : isi "tuple" (.int i) = some false := by show kitB "int" "tuple" = some false; decide +kernel
@[simp] theorem isi_14 : isi "tuple" (.bl b) = some false := by show kitB "bool" "tuple" = some false; decide +kernel
@[simp] theorem isi_15 : isi "tuple" .non = some false := by show kitB "NoneType" "tuple" = some false; decide +kernel
@[simp] theorem isi_16 : isi "tuple" (.str x) = some false := by show kitB "str" "tuple" = some false; decide +kernel
@[simp] theorem isi_17 : isi "tuple" (.tup ds) = some true := by show kitB "tuple" "tuple" = some true; decide +kernel
@[simp] theorem isi_18 : isi "tuple" (.lst ds) = some false := by show kitB "list" "tuple" = some false; decide +kernel
@[simp] theorem isi_19 : isi "str" (.int i) = some false := by show kitB "int" "str" = some false; decide +kernel
@[simp] theorem isi_20 : isi "str" (.bl b) = some false := by show kitB "bool" "str" = some false; decide +kernel
@[simp] theorem isi_21 : isi "str" .non = some false := by show kitB "NoneType" "str" = some false; decide +kernel
@[simp] theorem isi_22 : isi "str" (.str x) = some true := by show kitB "str" "str" = some true; decide +kernel
@[simp] theorem isi_23 : isi "str" (.tup ds) = some false := by show kitB "tuple" "str" = some false; decide +kernel
@[simp] theorem isi_24 : isi "str" (.lst ds) = some false := by show kitB "list" "str" = some false; decide +kernel
end
theorem fIsi_eq (T : String) (d : D) : fIsi T d = (isi T d).map fun b => .val (.bl b) := by
  unfold fIsi
  cases isi T d <;> rfl
/-! ### numbers -/
section
variable (i j : Int)
@[simp] theorem fSub_i : fSub (.int i) (.int j) = some (.val (.int (i - j))) := rfl
@[simp] theorem fAdd_i : fAdd (.int i) (.int j) = some (.val (.int (i + j))) := rfl
@[simp] theorem fMul_i : fMul (.int i) (.int j) = if cMul i j = true then some (.val (.int (i * j))) else none := rfl
@[simp] theorem fDiv_i : fDiv (.int i) (.int j) = if cDiv i j = true then some (.val (.int (i / j))) else none := rfl
@[simp] theorem fMod_i : fMod (.int i) (.int j) = if cMod i j = true then some (.val (.int (i % j))) else none := rfl
@[simp] theorem fLt_i : fLt (.int i) (.int j) = some (.val (.bl (decide (i < j)))) := rfl
@[simp] theorem fLe_i : fLe (.int i) (.int j) = some (.val (.bl (decide (i ≤ j)))) := rfl
@[simp] theorem fGt_i : fGt (.int i) (.int j) = some (.val (.bl (decide (j < i)))) := rfl
@[simp] theorem fGe_i : fGe (.int i) (.int j) = some (.val (.bl (decide (j ≤ i)))) := rfl
@[simp] theorem fNeg_i : fNeg (.int i) = some (.val (.int (-i))) := rfl
@[simp] theorem fEq_i : fEq (.int i) (.int j) = some (.val (.bl (i == j))) := by simp [fEq, okq, fine, deep, deq]
@[simp] theorem fNe_i : fNe (.int i) (.int j) = some (.val (.bl (i != j))) := by simp [fNe, okq, fine, deep, deq, bne]
@[simp] theorem fEq_b (a b : Bool) : fEq (.bl a) (.bl b) = some (.val (.bl (a == b))) := by simp [fEq, okq, fine, deep, deq]
@[simp] theorem fInt_i : fInt [.int i] = some (.val (.int i)) := rfl
@[simp] theorem fAbs_i : fAbs [.int i] = some (.val (.int (if i < 0 then -i else i))) := rfl
@[simp] theorem fGcd_i : fGcd [.int i, .int j] = some (.val (.int ((Nat.gcd i.natAbs j.natAbs : Nat) : Int))) := rfl
@[simp] theorem fLen_l (ds : List D) : fLen [.lst ds] = some (.val (.int (ds.length : Int))) := rfl
@[simp] theorem fLen_t (ds : List D) : fLen [.tup ds] = some (.val (.int (ds.length : Int))) := rfl
@[simp] theorem fTuple_l (ds : List D) : fTuple [.lst ds] = some (.val (.tup ds)) := rfl
@[simp] theorem fTuple_t (ds : List D) : fTuple [.tup ds] = some (.val (.tup ds)) := rfl
@[simp] theorem fList_l (ds : List D) : fList [.lst ds] = some (.new (.lst ds)) := rfl
@[simp] theorem fList_t (ds : List D) : fList [.tup ds] = some (.new (.lst ds)) := rfl
@[simp] theorem fIs_non (neg : Bool) (d : D) (h : d ≠ .res) : fIs neg d .non = some (.val (.bl (if neg then !isNon d else isNon d))) := by
  cases d <;> first | rfl | exact absurd rfl h
end
theorem cMod_pos {i j : Int} (h : 0 < j) : cMod i j = true := decide_eq_true h
theorem log_small {n : Nat} (h : n < 2 ^ 64) : n.log2 < 9000 := by
  by_cases h0 : n = 0
  · subst h0; decide
  · have : n.log2 < 64 := (Nat.log2_lt h0).mpr h
    omega
theorem cDiv_pos {i j : Int} (h : 0 < j) (h2 : j < 18446744073709551616) : cDiv i j = true := by
  unfold cDiv
  rw [Bool.and_eq_true]
  exact ⟨decide_eq_true h, decide_eq_true (log_small (by omega))⟩
theorem cMul_l {i j : Int} (h : i.natAbs < 18446744073709551616) : cMul i j = true := by
  unfold cMul
  rw [decide_eq_true h, Bool.true_or]
theorem cMul_r {i j : Int} (h : j.natAbs < 18446744073709551616) : cMul i j = true := by
  unfold cMul
  rw [decide_eq_true h, Bool.or_true]
theorem rgOk_small {i : Int} (h : -1000000 ≤ i) (h2 : i ≤ 1000000) : rgOk i = true := rgOk_of ⟨by omega, by omega⟩
/-! ### places -/
@[simp] theorem atI_nc {α : Type} (ds : List α) (n : Nat) : atI ds (n : Int) = ds[n]? := by
  cases h : ds[n]? with
  | some d => exact atI_nat h
  | none =>
    have hn := List.getElem?_eq_none_iff.mp h
    unfold atI ixN
    rw [if_pos (by omega), if_neg (by omega)]
    rfl
@[simp] theorem atI_0 {α : Type} (ds : List α) : atI ds 0 = ds[0]? := atI_nc ds 0
@[simp] theorem atI_1 {α : Type} (ds : List α) : atI ds 1 = ds[1]? := atI_nc ds 1
@[simp] theorem atI_2 {α : Type} (ds : List α) : atI ds 2 = ds[2]? := atI_nc ds 2
@[simp] theorem atI_3 {α : Type} (ds : List α) : atI ds 3 = ds[3]? := atI_nc ds 3
@[simp] theorem fIx_l (ds : List D) (i : Int) : fIx (.lst ds) (.int i) = (atI ds i).map R.val := by
  simp only [fIx]
  cases atI ds i <;> rfl
@[simp] theorem fIx_t (ds : List D) (i : Int) : fIx (.tup ds) (.int i) = (atI ds i).map R.val := by
  simp only [fIx]
  cases atI ds i <;> rfl
@[simp] theorem fIx_d (ks : List Key) (ds : List D) (k : D) : fIx (.dic ks ds) k = (keyOf k).bind fun q => (dGet ks ds q).map R.val := by
  simp only [fIx]
  cases keyOf k with
  | none => rfl
  | some q =>
    simp only [Option.bind_some]
    cases dGet ks ds q <;> rfl
@[simp] theorem fLen_d (ks : List Key) (ds : List D) : fLen [.dic ks ds] = some (.val (.int (ks.length : Int))) := rfl
@[simp] theorem fInB_d (neg : Bool) (d : D) (ks : List Key) (ds : List D) : fInB neg d (.dic ks ds) = (keyOf d).map fun q => .val (.bl (if neg then !dHas ks q else dHas ks q)) := by
  cases d <;> rfl
theorem ixN_nc {n k : Nat} (h : k < n) : ixN n (k : Int) = some k := by
  unfold ixN
  rw [if_pos (by omega), if_pos (by omega)]
  simp
@[simp] theorem fCut_l (ds : List D) (lo hi : Option Int) : fCut (.lst ds) lo hi = some (.new (.lst (cutD ds lo hi))) := rfl
@[simp] theorem fCut_t (ds : List D) (lo hi : Option Int) : fCut (.tup ds) lo hi = some (.val (.tup (cutD ds lo hi))) := rfl
theorem cut_from (ds : List D) (k : Nat) : cutD ds (some (k : Int)) none = ds.drop k := by
  unfold cutD
  rw [HT.sIx_nat, HT.sIx_none]
  by_cases h : k ≤ ds.length
  · rw [Nat.min_eq_left h]
    exact List.take_of_length_le (by simp)
  · rw [Nat.min_eq_right (by omega)]
    rw [List.drop_of_length_le (Nat.le_refl _), List.drop_of_length_le (by omega)]
    exact List.take_nil
/-! ### loops -/
section
variable {β : Type} [Sto β] [Kind β]
/-- a for that never leaves -/
theorem forL_inv {tg : Tm β} {body : Ms β} (I : Nat → Sta β → Prop) : ∀ (ds : List D) (k : Nat) (st : Sta β), I k st →
    (∀ (i : Nat) (d : D) (s : Sta β), ds[i]? = some d → I (k + i) s → ∃ s1 o s2, tg d s = some s1 ∧ body s1 = some (o, s2) ∧ (o = .nx ∨ o = .ct) ∧ I (k + i + 1) s2) → ∃ st', forL tg body ds st = some (.nx, st') ∧ I (k + ds.length) st'
  | [], k, st, h, _ => ⟨st, rfl, h⟩
  | d :: ds, k, st, h, hs => by
    obtain ⟨s1, o, s2, e1, e2, ho, h2⟩ := hs 0 d st rfl h
    obtain ⟨st', e3, h3⟩ := forL_inv I ds (k + 1) s2 h2 fun i d' s hd hi => by
      have := hs (i + 1) d' s (by simpa using hd) (by rw [show k + (i + 1) = k + 1 + i by omega]; exact hi)
      rw [show k + (i + 1) + 1 = k + 1 + i + 1 by omega] at this
      exact this
    refine ⟨st', ?_, by rw [List.length_cons, show k + (ds.length + 1) = k + 1 + ds.length by omega]; exact h3⟩
    rw [forL_cons, e1, Option.bind_some, e2, Option.bind_some]
    rcases ho with rfl | rfl
    · exact e3
    · exact e3
/-- a comprehension that changes nothing: p which items, f what of them -/
theorem compL_pure {vs : List Nat} {e0 : List Sl} {tg : Tm β} {tt : Mn β Bool} {te : Mn β D} (p : D → Bool) (f : D → D) (st : Sta β) : ∀ (ds acc : List D),
    (∀ d ∈ ds, ∃ s1 s2, tg d { st with env := wipeE st.env vs } = some s1 ∧ tt s1 = some (p d, s2) ∧ (p d = true → ∃ s3, te s2 = some (f d, s3) ∧ s3.bag = st.bag ∧ backE e0 s3.env vs = st.env) ∧ (p d = false → s2.bag = st.bag ∧ backE e0 s2.env vs = st.env)) →
    acc.length + ds.length ≤ line → compL vs e0 tg tt te ds acc st = some (acc ++ (ds.filter p).map f, st)
  | [], acc, _, _ => by simp [compL]
  | d :: ds, acc, h, hl => by
    obtain ⟨s1, s2, e1, e2, ht, hf⟩ := h d List.mem_cons_self
    have hl' : acc.length + ds.length + 1 ≤ line := by simpa [Nat.add_assoc] using hl
    simp only [compL]
    rw [e1]
    simp only
    rw [e2]
    cases hp : p d with
    | true =>
      obtain ⟨s3, e3, hb, he⟩ := ht hp
      simp only
      rw [e3]
      simp only
      rw [if_pos (by omega)]
      have es : ({ s3 with env := backE e0 s3.env vs } : Sta β) = st := by
        cases st; cases s3; simp only at hb he ⊢; rw [hb, he]
      rw [es, compL_pure p f st ds (acc ++ [f d]) (fun d' hd => h d' (List.mem_cons_of_mem _ hd)) (by rw [List.length_append, List.length_singleton]; omega)]
      rw [List.filter_cons_of_pos hp, List.map_cons, List.append_assoc]
      rfl
    | false =>
      obtain ⟨hb, he⟩ := hf hp
      simp only
      have es : ({ s2 with env := backE e0 s2.env vs } : Sta β) = st := by
        cases st; cases s2; simp only at hb he ⊢; rw [hb, he]
      rw [es, compL_pure p f st ds acc (fun d' hd => h d' (List.mem_cons_of_mem _ hd)) (by omega)]
      rw [List.filter_cons_of_neg (by simp [hp])]
theorem mComp_ap (vs : List Nat) (it : Mn β (List D)) (tg : Tm β) (tt : Mn β Bool) (te : Mn β D) (st : Sta β) : mComp vs it tg tt te st = (it st).bind fun p => if noOwn p.2.env vs = true then (compL vs p.2.env tg tt te p.1 [] p.2).map fun q => (.new (.lst q.1), q.2) else none := by
  simp only [mComp, mBind_ap]
  congr; funext p
  split
  · cases compL vs p.2.env tg tt te p.1 [] p.2 with
    | none => rfl
    | some q => rfl
  · rfl
theorem mComp_pure {vs : List Nat} {it : Mn β (List D)} {tg : Tm β} {tt : Mn β Bool} {te : Mn β D} {st st1 : Sta β} {ds : List D} (p : D → Bool) (f : D → D) (h0 : it st = some (ds, st1)) (no : noOwn st1.env vs = true) (hl : ds.length ≤ line)
    (h : ∀ d ∈ ds, ∃ s1 s2, tg d { st1 with env := wipeE st1.env vs } = some s1 ∧ tt s1 = some (p d, s2) ∧ (p d = true → ∃ s3, te s2 = some (f d, s3) ∧ s3.bag = st1.bag ∧ backE st1.env s3.env vs = st1.env) ∧ (p d = false → s2.bag = st1.bag ∧ backE st1.env s2.env vs = st1.env)) :
    mComp vs it tg tt te st = some (.new (.lst ((ds.filter p).map f)), st1) := by
  rw [mComp_ap, h0, Option.bind_some]
  simp only
  rw [if_pos no, compL_pure p f st1 ds [] h (by simpa using hl)]
  rfl
/-- a comprehension by an invariant: what is made, the state -/
theorem compL_inv {vs : List Nat} {e0 : List Sl} {tg : Tm β} {tt : Mn β Bool} {te : Mn β D} (I : Nat → List D → Sta β → Prop) : ∀ (ds : List D) (k : Nat) (acc : List D) (st : Sta β), I k acc st →
    (∀ (i : Nat) (d : D) (a : List D) (s : Sta β), ds[i]? = some d → I (k + i) a s → ∃ s1 c s2, tg d { s with env := wipeE s.env vs } = some s1 ∧ tt s1 = some (c, s2) ∧
      (c = true → ∃ x s3, te s2 = some (x, s3) ∧ a.length < line ∧ I (k + i + 1) (a ++ [x]) { s3 with env := backE e0 s3.env vs }) ∧ (c = false → I (k + i + 1) a { s2 with env := backE e0 s2.env vs })) →
    ∃ acc' st', compL vs e0 tg tt te ds acc st = some (acc', st') ∧ I (k + ds.length) acc' st'
  | [], k, acc, st, h, _ => ⟨acc, st, rfl, h⟩
  | d :: ds, k, acc, st, h, hs => by
    obtain ⟨s1, c, s2, e1, e2, ht, hf⟩ := hs 0 d acc st rfl h
    have hs' : ∀ (i : Nat) (d : D) (a : List D) (s : Sta β), ds[i]? = some d → I (k + 1 + i) a s → ∃ s1 c s2, tg d { s with env := wipeE s.env vs } = some s1 ∧ tt s1 = some (c, s2) ∧
      (c = true → ∃ x s3, te s2 = some (x, s3) ∧ a.length < line ∧ I (k + 1 + i + 1) (a ++ [x]) { s3 with env := backE e0 s3.env vs }) ∧ (c = false → I (k + 1 + i + 1) a { s2 with env := backE e0 s2.env vs }) := fun i d' a s hd hi => by
      have := hs (i + 1) d' a s (by simpa using hd) (by rw [show k + (i + 1) = k + 1 + i by omega]; exact hi)
      rw [show k + (i + 1) + 1 = k + 1 + i + 1 by omega] at this
      exact this
    have hlen : k + (d :: ds).length = k + 1 + ds.length := by rw [List.length_cons]; omega
    rw [hlen]
    simp only [compL]
    rw [e1]
    simp only
    rw [e2]
    cases c with
    | true =>
      obtain ⟨x, s3, e3, hl, h3⟩ := ht rfl
      simp only
      rw [e3]
      simp only
      rw [if_pos hl]
      exact compL_inv I ds (k + 1) _ _ h3 hs'
    | false =>
      simp only
      exact compL_inv I ds (k + 1) _ _ (hf rfl) hs'
@[simp] theorem mYes_ap (st : Sta β) : (mYes : Mn β Bool) st = some (true, st) := rfl
end
end M

/-! MNat: lists of whole numbers from 0 on; tuples assigned; ranges. -/
namespace M
open PySem L2
variable [Wrt]
section
variable {β : Type} [Sto β] [Kind β]
@[simp] theorem mH_ap (a : Mn β R) (st : Sta β) : mH a st = (a st).bind fun p => match p.1 with
  | .at i => (slTo p.2.env[i]? i p.2).map fun q => (.val q.1, q.2)
  | r => some (r, p.2) := by
  simp only [mH, mBind_ap]
  congr; funext p
  cases p.1 with
  | val d => rfl
  | new d => rfl
  | loc n => rfl
  | «at» i =>
    simp only
    rw [← toD_at]
    cases toD (.at i) p.2 <;> rfl
@[simp] theorem noAt_nil : noAt [] = true := rfl
@[simp] theorem noAt_val (d : D) (rs : List R) : noAt (.val d :: rs) = noAt rs := rfl
@[simp] theorem noAt_loc (n : Nat) (rs : List R) : noAt (.loc n :: rs) = noAt rs := rfl
@[simp] theorem noAt_new (d : D) (rs : List R) : noAt (.new d :: rs) = noAt rs := rfl
@[simp] theorem setL_nil (st : Sta β) : setL [] [] st = some st := rfl
@[simp] theorem setL_cons (i : Nat) (is : List Nat) (r : R) (rs : List R) (st : Sta β) : setL (i :: is) (r :: rs) st = (setSl i r st).bind (setL is rs) := by
  simp only [setL]
  cases setSl i r st <;> rfl
@[simp] theorem mPars_ap (is : List Nat) (a : Mn β (List R)) (st : Sta β) : mPars is a st = (a st).bind fun p => if noAt p.1 = true then (setL is p.1 p.2).map fun s => (.nx, s) else none := by
  simp only [mPars, mBind_ap]
  congr; funext p
  split
  · show (match setL is p.1 p.2 with | some s => some (O.nx, s) | none => none) = (setL is p.1 p.2).map _
    cases setL is p.1 p.2 <;> rfl
  · rfl
@[simp] theorem mLR1_ap (a : Mn β R) (st : Sta β) : mLR1 a st = (a st).bind fun p => (rInt p.1).bind fun n => if lrOk 0 n = true then some (.new (.lst (rgL 0 n.toNat)), p.2) else none := by
  simp only [mLR1, mBind_ap]
  congr; funext p
  cases p.1 with
  | val d => cases d <;> rfl
  | new d => rfl
  | «at» i => rfl
  | loc n => rfl
end
@[simp] theorem fR1_i (j : Int) : fR1 [.int j] = if rgOk j = true then some (rgL 0 j.toNat) else none := rfl
@[simp] theorem fR2_i (i j : Int) : fR2 [.int i, .int j] = if (rgOk i && rgOk j) = true then some (rgL i (j - i).toNat) else none := rfl
@[simp] theorem fR3_i (i j s : Int) : fR3 [.int i, .int j, .int s] = if (decide (s = -1) && (rgOk i && rgOk j)) = true then some (rgLC i s (i - j).toNat) else none := rfl
/-! ### lists of numbers -/
def ni (s : List Nat) : List D := s.map fun (n : Nat) => D.int (n : Int)
@[simp] theorem ni_length (s : List Nat) : (ni s).length = s.length := by simp [ni]
@[simp] theorem ni_get (s : List Nat) (k : Nat) : (ni s)[k]? = (s[k]?).map fun (n : Nat) => D.int (n : Int) := by simp [ni]
theorem ni_set (s : List Nat) (k v : Nat) : (ni s).set k (.int (v : Int)) = ni (s.set k v) := by
  unfold ni
  rw [List.map_set]
theorem ni_append (s t : List Nat) : ni s ++ ni t = ni (s ++ t) := by simp [ni]
theorem ni_single (k : Nat) : [D.int (k : Int)] = ni [k] := rfl
theorem ni_nil : ([] : List D) = ni [] := rfl
theorem rgL_ni (n : Nat) : rgL 0 n = ni (List.range n) := by
  unfold rgL ni
  apply List.map_congr_left
  intro a _
  rw [Int.zero_add]
theorem fineL_ni (s : List Nat) : fineL (ni s) = true := by
  induction s with
  | nil => rfl
  | cons a s ih => simpa [ni, fineL, fine] using ih
theorem deepL_ni (s : List Nat) : deepL (ni s) = 0 := by
  induction s with
  | nil => rfl
  | cons a s ih => simpa [ni, deepL, deep] using ih
@[simp] theorem okq_int (i : Int) : okq (.int i) = true := by simp [okq, fine, deep]
@[simp] theorem okq_bl (b : Bool) : okq (.bl b) = true := by simp [okq, fine, deep]
@[simp] theorem okq_lni (s : List Nat) : okq (.lst (ni s)) = true := by simp [okq, fine, deep, fineL_ni, deepL_ni]
@[simp] theorem okq_tni (s : List Nat) : okq (.tup (ni s)) = true := by simp [okq, fine, deep, fineL_ni, deepL_ni]
@[simp] theorem okq_lnil : okq (.lst []) = true := by simp [okq, fine, deep, fineL, deepL]
@[simp] theorem okq_tnil : okq (.tup []) = true := by simp [okq, fine, deep, fineL, deepL]
theorem dIn_ni (k : Nat) (s : List Nat) : dIn (.int (k : Int)) (ni s) = decide (k ∈ s) := by
  unfold dIn ni
  rw [List.any_map]
  induction s with
  | nil => rfl
  | cons a s ih =>
    rw [List.any_cons, ih]
    simp only [Function.comp, deq, List.mem_cons]
    by_cases h : k = a
    · subst h; simp
    · have h2 : ¬ (a : Int) = (k : Int) := by omega
      simp [h, h2]
@[simp] theorem fInB_l (neg : Bool) (d : D) (ds : List D) : fInB neg d (.lst ds) = if (okq d && okq (.lst ds)) = true then some (.val (.bl (if neg then !dIn d ds else dIn d ds))) else none := by
  cases d <;> rfl
@[simp] theorem fInB_t (neg : Bool) (d : D) (ds : List D) : fInB neg d (.tup ds) = if (okq d && okq (.tup ds)) = true then some (.val (.bl (if neg then !dIn d ds else dIn d ds))) else none := by
  cases d <;> rfl
theorem deqL_ni : ∀ (s t : List Nat), deqL (ni s) (ni t) = decide (s = t)
  | [], [] => rfl
  | [], _ :: _ => rfl
  | _ :: _, [] => rfl
  | a :: s, b :: t => by
    have ih := deqL_ni s t
    simp only [ni, List.map_cons, deqL, deq] at ih ⊢
    rw [ih]
    by_cases h : a = b
    · subst h; simp
    · have h2 : ¬ (a : Int) = (b : Int) := by omega
      simp [h, h2]
theorem ni_inj : ∀ {s t : List Nat}, ni s = ni t → s = t
  | [], [], _ => rfl
  | [], _ :: _, h => by simp [ni] at h
  | _ :: _, [], h => by simp [ni] at h
  | a :: s, b :: t, h => by
    simp only [ni, List.map_cons, List.cons.injEq, D.int.injEq] at h
    rw [ni_inj (s := s) (t := t) h.2]
    congr 1
    omega
/-- x is read as the row of numbers s -/
def Row (x : D) (s : List Nat) : Prop := x = .lst (ni s) ∨ x = .tup (ni s)
theorem row_l (s : List Nat) : Row (.lst (ni s)) s := .inl rfl
theorem row_t (s : List Nat) : Row (.tup (ni s)) s := .inr rfl
/-- an argument that is such -/
def RowA (x : Sl) (s : List Nat) : Prop := x = .val (.tup (ni s)) ∨ x = .lock (.lst (ni s)) ∨ x = .val (.lst (ni s))
theorem rowa_t (s : List Nat) : RowA (.val (.tup (ni s))) s := .inl rfl
theorem rowa_l (s : List Nat) : RowA (.lock (.lst (ni s))) s := .inr (.inl rfl)
theorem Row.arg {x : D} {s : List Nat} (h : Row x s) : RowA (.val x) s := by
  rcases h with rfl | rfl
  · exact .inr (.inr rfl)
  · exact .inl rfl
theorem Row.ix {x : D} {s : List Nat} (h : Row x s) (k : Nat) : fIx x (.int (k : Int)) = (s[k]?).map fun (n : Nat) => R.val (.int (n : Int)) := by
  rcases h with rfl | rfl <;> simp [Option.map_map, Function.comp_def]
theorem Row.len {x : D} {s : List Nat} (h : Row x s) : fLen [x] = some (.val (.int (s.length : Int))) := by
  rcases h with rfl | rfl <;> simp
theorem getD_of {s : List Nat} {k n d : Nat} (h : s[k]? = some n) : s.getD k d = n := by
  rw [List.getD_eq_getElem?_getD, h]; rfl
theorem get_of {s : List Nat} {k : Nat} (h : k < s.length) : s[k]? = some (s.getD k 0) := by
  rw [List.getD_eq_getElem?_getD, List.getElem?_eq_getElem h]; rfl
/-! ### draws -/
theorem mOk_small {m : Int} (h : 0 < m) (h2 : m < 18446744073709551616) : mOk m = true := by
  unfold mOk
  rw [Bool.and_eq_true]
  exact ⟨decide_eq_true h, decide_eq_true (log_small (by omega))⟩
theorem F_draw_eq {m : Int} (b : BagT) (hb : b.cells ≠ []) (h : 0 < m) (h2 : m < 18446744073709551616) : F_draw [.val .res, .val (.int m)] b = some (.val (.int (draw b m).1), (draw b m).2) := by
  simp only [F_draw]
  rw [mOk_small h h2]
  cases hc : b.cells with
  | nil => exact absurd hc hb
  | cons x r => rfl
/-- a draw below m: a number and a bag -/
theorem draw_nat (b : BagT) (m : Nat) (h : 0 < m) : ∃ (j : Nat) (b' : BagT), draw b (m : Int) = ((j : Int), b') ∧ j < m ∧ b'.cells = b.cells := by
  obtain ⟨h1, h2⟩ := draw_lt b (m := (m : Int)) (by omega)
  refine ⟨(draw b m).1.toNat, (draw b m).2, ?_, by omega, draw_cells b m⟩
  rw [Int.toNat_of_nonneg h1]
theorem F_draw_nat (b : BagT) (hb : b.cells ≠ []) (m : Nat) (h : 0 < m) (h2 : m < 18446744073709551616) : ∃ (j : Nat) (b' : BagT), F_draw [.val .res, .val (.int (m : Int))] b = some (.val (.int (j : Int)), b') ∧ j < m ∧ b'.cells ≠ [] := by
  obtain ⟨j, b', e, hj, hc⟩ := draw_nat b m h
  refine ⟨j, b', ?_, hj, by rw [hc]; exact hb⟩
  rw [F_draw_eq b hb (by omega) (by omega), e]
end M

/-! MAll: all of the layer. -/

set_option maxHeartbeats 0
/-! The defs of the linked text: their meanings, and that the model's run follows them (printed by gen.py). -/
namespace W
open PySem PySem.Spec PyProof.Rows L2 M
variable [Wrt] [Tabs]
abbrev topS (i : Nat) : Stmt := PySem.Challenge.pw_blockedshots_k49_whole_same_squares.main.body.getD i (.Pass ⟨0, 0, 0, 0⟩)
abbrev s_ends_at : Stmt := topS 1
abbrev s_first_marks : Stmt := topS 3
abbrev s_least_alike : Stmt := topS 5
abbrev s_lots_by : Stmt := topS 4
abbrev s_least_board : Stmt := topS 6
abbrev s_same_square : Stmt := topS 7
abbrev s_law_bag : Stmt := topS 9
abbrev s_law_draw : Stmt := topS 10
abbrev s_law_pick : Stmt := topS 11
abbrev s_law_same : Stmt := topS 12
abbrev s_law_is_int : Stmt := topS 13
abbrev s_law_back : Stmt := topS 14
abbrev s_law_turn_of : Stmt := topS 15
abbrev s_law_ends : Stmt := topS 16
abbrev s_law_reached : Stmt := topS 17
abbrev s_law_shuffle : Stmt := topS 18
abbrev s_law_board_of : Stmt := topS 19
abbrev s_law_board : Stmt := topS 20
abbrev s_law_mark : Stmt := topS 21
abbrev s_law_is_alike : Stmt := topS 22
abbrev s_law_cover : Stmt := topS 23
abbrev s_law_covers : Stmt := topS 24
abbrev s_law : Stmt := topS 25
/-- what the top has left -/
structure Txt [Wrt] (K : PySem.W.Frag) (mg : Str → Option Value) : Prop where
  d_ends_at : Dn K mg "ends_at" s_ends_at
  d_first_marks : Dn K mg "first_marks" s_first_marks
  d_least_alike : Dn K mg "least_alike" s_least_alike
  d_lots_by : Dn K mg "lots_by" s_lots_by
  d_least_board : Dn K mg "least_board" s_least_board
  d_same_square : Dn K mg "same_square" s_same_square
  d_law_bag : Dn K mg "_law_bag" s_law_bag
  d_law_draw : Dn K mg "_law_draw" s_law_draw
  d_law_pick : Dn K mg "_law_pick" s_law_pick
  d_law_same : Dn K mg "_law_same" s_law_same
  d_law_is_int : Dn K mg "_law_is_int" s_law_is_int
  d_law_back : Dn K mg "_law_back" s_law_back
  d_law_turn_of : Dn K mg "_law_turn_of" s_law_turn_of
  d_law_ends : Dn K mg "_law_ends" s_law_ends
  d_law_reached : Dn K mg "_law_reached" s_law_reached
  d_law_shuffle : Dn K mg "_law_shuffle" s_law_shuffle
  d_law_board_of : Dn K mg "_law_board_of" s_law_board_of
  d_law_board : Dn K mg "_law_board" s_law_board
  d_law_mark : Dn K mg "_law_mark" s_law_mark
  d_law_is_alike : Dn K mg "_law_is_alike" s_law_is_alike
  d_law_cover : Dn K mg "_law_cover" s_law_cover
  d_law_covers : Dn K mg "_law_covers" s_law_covers
  d_law : Dn K mg "law" s_law
  b_abs : mg "abs" = none
  b_bool : mg "bool" = none
  b_enumerate : mg "enumerate" = none
  b_int : mg "int" = none
  b_isinstance : mg "isinstance" = none
  b_len : mg "len" = none
  b_list : mg "list" = none
  b_range : mg "range" = none
  b_sorted : mg "sorted" = none
  b_str : mg "str" = none
  b_tuple : mg "tuple" = none
  b_zip : mg "zip" = none
/-! ends_at -/
theorem S_ends_at : FnScope ["board", "square"] ["board", "square"] (defScope s_ends_at) := ⟨rfl, rfl, rfl, by decide +kernel, rfl, by decide +kernel, by decide +kernel⟩
noncomputable def F_ends_at : Fn BagT := runF 2 2 (mRet (mOp2 (fInB false) (mV 1) (mOp2 fIx (mV 0) (mC (.int 2)))))
section
variable {P : Program} {mg : Str → Option Value} {base : Heap}
theorem W_ends_at (T : Txt Wrt.K mg)  : M.Ok P Wrt.w Wrt.K mg base 1 "ends_at" s_ends_at ["board", "square"] F_ends_at := M.Ok.of T.d_ends_at S_ends_at fun f fd cdv A outer s H E hr => by
  have S := S_ends_at
  exact (ss_one (ss_ret (se_cmp (f := (fInB false)) (op_inC (hu65 hr)) ok_in (se_v (pv 1)) (se_ix (f := fIx) (ix_any (hu1 hr)) ok_ix (se_v (pv 0)) se_int (fun _ _ => rfl)) (by rfl))))
end
/-! first_marks -/
theorem S_first_marks : FnScope ["labelled", "board", "rights", "tops", "square"] ["labelled"] (defScope s_first_marks) := ⟨rfl, rfl, rfl, by decide +kernel, rfl, by decide +kernel, by decide +kernel⟩
noncomputable def F_first_marks : Fn BagT := runF 1 5 (mSeq (mUnp (mV 0) (tmT (tmCons (tmN 1) (tmCons (tmN 2) (tmCons (tmN 3) (tmNil)))) 3))
    (mRet (mComp [4] (mRng fR1 (mCons (mBi fLen (mCons (mOp2 fIx (mV 1) (mC (.int 0))) (mNil))) (mNil))) (tmN 4) (mYes) (mD (mTup (mCons (mD (mOp2 fIx (mV 2) (mV 4))) (mCons (mD (mOp2 fIx (mV 3) (mV 4))) (mCons (mD (mCall F_ends_at (mCons (mV 1) (mCons (mV 4) (mNil))))) (mNil)))))))))
section
variable {P : Program} {mg : Str → Option Value} {base : Heap}
theorem W_first_marks (T : Txt Wrt.K mg) (D_ends_at : M.Ok P Wrt.w Wrt.K mg base 1 "ends_at" s_ends_at ["board", "square"] F_ends_at) : M.Ok P Wrt.w Wrt.K mg base 2 "first_marks" s_first_marks ["labelled"] F_first_marks := M.Ok.of T.d_first_marks S_first_marks fun f fd cdv A outer s H E hr => by
  have S := S_first_marks
  obtain ⟨_, _, mg_ends_at, fn_ends_at, ok_ends_at⟩ := D_ends_at
  exact (ss_cons (ss_unp (se_v (pv 0)) (sg_tup rfl (sg_cons (sg_n (i := 1) S.nd rfl (by first | exact Or.inl rfl | exact Or.inr rfl)) (sg_cons (sg_n (i := 2) S.nd rfl (by first | exact Or.inl rfl | exact Or.inr rfl)) (sg_cons (sg_n (i := 3) S.nd rfl (by first | exact Or.inl rfl | exact Or.inr rfl)) sg_nil)))))
    (ss_one (ss_ret (se_comp (own := [("square", 4)]) rfl S.nd (si_rng1 (by rfl) T.b_range (sr_cons (se_bi (f := fLen) call_lenA ok_len (by rfl) T.b_len (by decide +kernel) (sr_cons (se_ix (f := fIx) (ix_any (hu1 hr)) ok_ix (se_v (pv 1)) se_int (fun _ _ => rfl)) sr_nil)) sr_nil)) (blkOk_by (own := [("square", 4)]) (N := ["labelled", "board", "rights", "tops", "square"]) (sc := defScope s_first_marks) (by decide +kernel)) (by decide) tgv_n (fun _ _ _ _ _ => (sg_n (i := 4) S.nd rfl (by first | exact Or.inl rfl | exact Or.inr rfl))) (fun _ _ _ _ _ => sts_nil) (fun _ _ _ _ _ => (se_tup (sd_cons (se_ix (f := fIx) (ix_any (hu1 hr)) ok_ix (se_v (pv 2)) (se_v (pv 4)) (fun _ _ => rfl)) (sd_cons (se_ix (f := fIx) (ix_any (hu1 hr)) ok_ix (se_v (pv 3)) (se_v (pv 4)) (fun _ _ => rfl)) (sd_cons (se_call (ok_ends_at.mono (by first | omega | (simp only [Nat.add_eq]; omega))) hr rfl mg_ends_at fn_ends_at.kp (fn_ends_at.binds (ps := ["board", "square"]) fun _ _ _ _ _ _ us hl => match us, hl with | [_, _], _ => rfl) (sr_cons (se_v (pv 1)) (sr_cons (se_v (pv 4)) sr_nil))) sd_nil)))))))))
end
/-! least_alike -/
theorem S_least_alike : FnScope ["keys", "first", "place", "key"] ["keys"] (defScope s_least_alike) := ⟨rfl, rfl, rfl, by decide +kernel, rfl, by decide +kernel, by decide +kernel⟩
noncomputable def F_least_alike : Fn BagT := runF 1 4 (mSeq (mSet 1 (mDic0))
    (mSeq (mFor (mEnum (mV 0)) (tmT (tmCons (tmN 2) (tmCons (tmN 3) (tmNil))) 2) (mEx (mSetd 1 (mD (mV 3)) (mD (mV 2)))))
    (mRet (mComp [3] (mIt (mV 0)) (tmN 3) (mYes) (mD (mOp2 fIxT (mV 1) (mV 3)))))))
section
variable {P : Program} {mg : Str → Option Value} {base : Heap}
theorem W_least_alike (T : Txt Wrt.K mg)  : M.Ok P Wrt.w Wrt.K mg base 1 "least_alike" s_least_alike ["keys"] F_least_alike := M.Ok.of T.d_least_alike S_least_alike fun f fd cdv A outer s H E hr => by
  have S := S_least_alike
  exact (ss_cons (ss_set (i := 1) S.nd rfl (by first | exact Or.inl rfl | exact Or.inr rfl) se_dic0)
    (ss_cons (ss_for PassesOwn.never rfl (si_enum (by rfl) T.b_enumerate (se_v (pv 0))) (sg_tup rfl (sg_cons (sg_n (i := 2) S.nd rfl (by first | exact Or.inl rfl | exact Or.inr rfl)) (sg_cons (sg_n (i := 3) S.nd rfl (by first | exact Or.inl rfl | exact Or.inr rfl)) sg_nil))) (ss_one (ss_ex (se_setd (i := 1) (hu9 hr) (pv 1) (se_v (pv 3)) (se_v (pv 2)) ⟨rfl, rfl, rfl, rfl⟩))))
    (ss_one (ss_ret (se_comp (own := [("key", 3)]) rfl S.nd (si_seq (se_v (pv 0))) (blkOk_by (own := [("key", 3)]) (N := ["keys", "first", "place", "key"]) (sc := defScope s_least_alike) (by decide +kernel)) (by decide) tgv_n (fun _ _ _ _ _ => (sg_n (i := 3) S.nd rfl (by first | exact Or.inl rfl | exact Or.inr rfl))) (fun _ _ _ _ _ => sts_nil) (fun _ _ _ _ _ => (se_ix (f := fIxT) (ix_dit rfl rfl (hu9 hr)) ok_ixT (se_v (pv 1)) (se_v (pv 3)) (fun _ _ => rfl))))))))
end
/-! lots_by -/
theorem S_lots_by : FnScope ["marks", "rights", "tops", "lots", "many", "lot", "right", "top"] ["marks", "rights", "tops"] (defScope s_lots_by) := ⟨rfl, rfl, rfl, by decide +kernel, rfl, by decide +kernel, by decide +kernel⟩
noncomputable def F_lots_by : Fn BagT := runF 3 8 (mSeq (mPars [3, 4] (mCons (mH (mCall F_least_alike (mCons (mV 0) (mNil)))) (mCons (mH (mC (.int 0))) (mNil))))
    (mSeq (mWhile (mBl (mOp2 fGt (mBi fLen (mCons (mDcomp [5] (mIt (mV 3)) (tmN 5) (mYes) (mD (mV 5)) (mD (mC (.bl true)))) (mNil))) (mV 4))) (mSeq (mSet 4 (mBi fLen (mCons (mDcomp [5] (mIt (mV 3)) (tmN 5) (mYes) (mD (mV 5)) (mD (mC (.bl true)))) (mNil))))
    (mSet 3 (mCall F_least_alike (mCons (mComp [5, 6, 7] (mZip3 (mCons (mV 3) (mCons (mV 1) (mCons (mV 2) (mNil))))) (tmT (tmCons (tmN 5) (tmCons (tmN 6) (tmCons (tmN 7) (tmNil)))) 3) (mYes) (mD (mTup (mCons (mD (mV 5)) (mCons (mD (mOp2 fIx (mV 3) (mV 6))) (mCons (mD (mOp2 fIx (mV 3) (mV 7))) (mNil))))))) (mNil))))))
    (mRet (mV 3))))
section
variable {P : Program} {mg : Str → Option Value} {base : Heap}
theorem W_lots_by (T : Txt Wrt.K mg) (D_least_alike : M.Ok P Wrt.w Wrt.K mg base 1 "least_alike" s_least_alike ["keys"] F_least_alike) : M.Ok P Wrt.w Wrt.K mg base 2 "lots_by" s_lots_by ["marks", "rights", "tops"] F_lots_by := M.Ok.of T.d_lots_by S_lots_by fun f fd cdv A outer s H E hr => by
  have S := S_lots_by
  obtain ⟨_, _, mg_least_alike, fn_least_alike, ok_least_alike⟩ := D_least_alike
  exact (ss_cons (ss_parT (is := [3, 4]) rfl (sra_cons (se_call (ok_least_alike.mono (by first | omega | (simp only [Nat.add_eq]; omega))) hr rfl mg_least_alike fn_least_alike.kp (fn_least_alike.binds (ps := ["keys"]) fun _ _ _ _ _ _ us hl => match us, hl with | [_], _ => rfl) (sr_cons (se_v (pv 0)) sr_nil)) (sra_cons se_int sra_nil)) (pgs_cons (pg_name (i := 3) S.nd rfl (by first | exact Or.inl rfl | exact Or.inr rfl)) (pgs_cons (pg_name (i := 4) S.nd rfl (by first | exact Or.inl rfl | exact Or.inr rfl)) pgs_nil)) (by decide) rfl)
    (ss_cons (ss_while PassesOwn.never (st_cmp (f := fGt) op_gt ok_CmpI (se_bi (f := fLen) call_lenA ok_len (by rfl) T.b_len (by decide +kernel) (sr_cons (se_dcomp (own := [("lot", 5)]) rfl S.nd (hu8 hr) (si_seq (se_v (pv 3))) (blkOk_by (own := [("lot", 5)]) (N := ["marks", "rights", "tops", "lots", "many", "lot", "right", "top"]) (sc := defScope s_lots_by) (by decide +kernel)) (by decide) tgv_n (fun _ _ _ _ _ => (sg_n (i := 5) S.nd rfl (by first | exact Or.inl rfl | exact Or.inr rfl))) (fun _ _ _ _ _ => sts_nil) (fun _ _ _ _ _ => (se_v (pv 5))) (fun _ _ _ _ _ => se_bl)) sr_nil)) (se_v (pv 4)) (nomark _)) (ss_cons (ss_set (i := 4) S.nd rfl (by first | exact Or.inl rfl | exact Or.inr rfl) (se_bi (f := fLen) call_lenA ok_len (by rfl) T.b_len (by decide +kernel) (sr_cons (se_dcomp (own := [("lot", 5)]) rfl S.nd (hu8 hr) (si_seq (se_v (pv 3))) (blkOk_by (own := [("lot", 5)]) (N := ["marks", "rights", "tops", "lots", "many", "lot", "right", "top"]) (sc := defScope s_lots_by) (by decide +kernel)) (by decide) tgv_n (fun _ _ _ _ _ => (sg_n (i := 5) S.nd rfl (by first | exact Or.inl rfl | exact Or.inr rfl))) (fun _ _ _ _ _ => sts_nil) (fun _ _ _ _ _ => (se_v (pv 5))) (fun _ _ _ _ _ => se_bl)) sr_nil)))
    (ss_one (ss_set (i := 3) S.nd rfl (by first | exact Or.inl rfl | exact Or.inr rfl) (se_call (ok_least_alike.mono (by first | omega | (simp only [Nat.add_eq]; omega))) hr rfl mg_least_alike fn_least_alike.kp (fn_least_alike.binds (ps := ["keys"]) fun _ _ _ _ _ _ us hl => match us, hl with | [_], _ => rfl) (sr_cons (se_comp (own := [("lot", 5), ("right", 6), ("top", 7)]) rfl S.nd (si_zip3 (by rfl) T.b_zip (sr_cons (se_v (pv 3)) (sr_cons (se_v (pv 1)) (sr_cons (se_v (pv 2)) sr_nil)))) (blkOk_by (own := [("lot", 5), ("right", 6), ("top", 7)]) (N := ["marks", "rights", "tops", "lots", "many", "lot", "right", "top"]) (sc := defScope s_lots_by) (by decide +kernel)) (by decide) (tgv_t (tgsv_cons tgv_n (tgsv_cons tgv_n (tgsv_cons tgv_n tgsv_nil)))) (fun _ _ _ _ _ => (sg_tup rfl (sg_cons (sg_n (i := 5) S.nd rfl (by first | exact Or.inl rfl | exact Or.inr rfl)) (sg_cons (sg_n (i := 6) S.nd rfl (by first | exact Or.inl rfl | exact Or.inr rfl)) (sg_cons (sg_n (i := 7) S.nd rfl (by first | exact Or.inl rfl | exact Or.inr rfl)) sg_nil))))) (fun _ _ _ _ _ => sts_nil) (fun _ _ _ _ _ => (se_tup (sd_cons (se_v (pv 5)) (sd_cons (se_ix (f := fIx) (ix_any (hu1 hr)) ok_ix (se_v (pv 3)) (se_v (pv 6)) (fun _ _ => rfl)) (sd_cons (se_ix (f := fIx) (ix_any (hu1 hr)) ok_ix (se_v (pv 3)) (se_v (pv 7)) (fun _ _ => rfl)) sd_nil)))))) sr_nil))))))
    (ss_one (ss_ret (se_v (pv 3))))))
end
/-! least_board -/
theorem S_least_board : FnScope ["labelled", "board", "rights", "tops", "lots", "heads", "number_of", "names", "steps", "ends", "made", "lot", "number", "head", "step"] ["labelled"] (defScope s_least_board) := ⟨rfl, rfl, rfl, by decide +kernel, rfl, by decide +kernel, by decide +kernel⟩
noncomputable def F_least_board : Fn BagT := runF 1 15 (mSeq (mUnp (mV 0) (tmT (tmCons (tmN 1) (tmCons (tmN 2) (tmCons (tmN 3) (tmNil)))) 3))
    (mSeq (mSet 4 (mCall F_lots_by (mCons (mCall F_first_marks (mCons (mV 0) (mNil))) (mCons (mOp2 fIx (mV 1) (mC (.int 0))) (mCons (mOp2 fIx (mV 1) (mC (.int 1))) (mNil))))))
    (mSeq (mSet 5 (mBi fSortedI (mCons (mDcomp [11] (mIt (mV 4)) (tmN 11) (mYes) (mD (mV 11)) (mD (mC (.bl true)))) (mNil))))
    (mSeq (mSet 6 (mDcomp [12, 13] (mEnum (mV 5)) (tmT (tmCons (tmN 12) (tmCons (tmN 13) (tmNil))) 2) (mYes) (mD (mV 13)) (mD (mV 12))))
    (mSeq (mSet 7 (mBi fTuple (mCons (mComp [11] (mIt (mV 4)) (tmN 11) (mYes) (mD (mOp2 fIx (mV 6) (mV 11)))) (mNil))))
    (mSeq (mSet 8 (mComp [14] (mIt (mSl fCut (mV 1) (mNo) (mSo (mC (.int 2))))) (tmN 14) (mYes) (mD (mBi fTuple (mCons (mComp [13] (mIt (mV 5)) (tmN 13) (mYes) (mD (mOp2 fIx (mV 7) (mOp2 fIx (mV 14) (mV 13))))) (mNil))))))
    (mSeq (mSet 9 (mBi fTuple (mCons (mComp [12, 13] (mEnum (mV 5)) (tmT (tmCons (tmN 12) (tmCons (tmN 13) (tmNil))) 2) (mTr (mCall F_ends_at (mCons (mV 1) (mCons (mV 13) (mNil))))) (mD (mV 12))) (mNil))))
    (mSeq (mSet 10 (mTup (mCons (mD (mOp2 fIx (mV 8) (mC (.int 0)))) (mCons (mD (mOp2 fIx (mV 8) (mC (.int 1)))) (mCons (mD (mV 9)) (mNil))))))
    (mRet (mTup (mCons (mD (mTup (mCons (mD (mV 10)) (mCons (mD (mBi fTuple (mCons (mComp [13] (mIt (mV 5)) (tmN 13) (mYes) (mD (mOp2 fIx (mV 2) (mV 13)))) (mNil)))) (mCons (mD (mBi fTuple (mCons (mComp [13] (mIt (mV 5)) (tmN 13) (mYes) (mD (mOp2 fIx (mV 3) (mV 13)))) (mNil)))) (mNil)))))) (mCons (mD (mV 7)) (mNil)))))))))))))
section
variable {P : Program} {mg : Str → Option Value} {base : Heap}
theorem W_least_board (T : Txt Wrt.K mg) (D_lots_by : M.Ok P Wrt.w Wrt.K mg base 2 "lots_by" s_lots_by ["marks", "rights", "tops"] F_lots_by) (D_first_marks : M.Ok P Wrt.w Wrt.K mg base 2 "first_marks" s_first_marks ["labelled"] F_first_marks) (D_ends_at : M.Ok P Wrt.w Wrt.K mg base 1 "ends_at" s_ends_at ["board", "square"] F_ends_at) : M.Ok P Wrt.w Wrt.K mg base 3 "least_board" s_least_board ["labelled"] F_least_board := M.Ok.of T.d_least_board S_least_board fun f fd cdv A outer s H E hr => by
  have S := S_least_board
  obtain ⟨_, _, mg_lots_by, fn_lots_by, ok_lots_by⟩ := D_lots_by
  obtain ⟨_, _, mg_first_marks, fn_first_marks, ok_first_marks⟩ := D_first_marks
  obtain ⟨_, _, mg_ends_at, fn_ends_at, ok_ends_at⟩ := D_ends_at
  exact (ss_cons (ss_unp (se_v (pv 0)) (sg_tup rfl (sg_cons (sg_n (i := 1) S.nd rfl (by first | exact Or.inl rfl | exact Or.inr rfl)) (sg_cons (sg_n (i := 2) S.nd rfl (by first | exact Or.inl rfl | exact Or.inr rfl)) (sg_cons (sg_n (i := 3) S.nd rfl (by first | exact Or.inl rfl | exact Or.inr rfl)) sg_nil)))))
    (ss_cons (ss_set (i := 4) S.nd rfl (by first | exact Or.inl rfl | exact Or.inr rfl) (se_call (ok_lots_by.mono (by first | omega | (simp only [Nat.add_eq]; omega))) hr rfl mg_lots_by fn_lots_by.kp (fn_lots_by.binds (ps := ["marks", "rights", "tops"]) fun _ _ _ _ _ _ us hl => match us, hl with | [_, _, _], _ => rfl) (sr_cons (se_call (ok_first_marks.mono (by first | omega | (simp only [Nat.add_eq]; omega))) hr rfl mg_first_marks fn_first_marks.kp (fn_first_marks.binds (ps := ["labelled"]) fun _ _ _ _ _ _ us hl => match us, hl with | [_], _ => rfl) (sr_cons (se_v (pv 0)) sr_nil)) (sr_cons (se_ix (f := fIx) (ix_any (hu1 hr)) ok_ix (se_v (pv 1)) se_int (fun _ _ => rfl)) (sr_cons (se_ix (f := fIx) (ix_any (hu1 hr)) ok_ix (se_v (pv 1)) se_int (fun _ _ => rfl)) sr_nil)))))
    (ss_cons (ss_set (i := 5) S.nd rfl (by first | exact Or.inl rfl | exact Or.inr rfl) (se_bi (f := fSortedI) (cr_sortedI rfl) ok_sortedI (by rfl) T.b_sorted (by decide +kernel) (sr_cons (se_dcomp (own := [("lot", 11)]) rfl S.nd (hu8 hr) (si_seq (se_v (pv 4))) (blkOk_by (own := [("lot", 11)]) (N := ["labelled", "board", "rights", "tops", "lots", "heads", "number_of", "names", "steps", "ends", "made", "lot", "number", "head", "step"]) (sc := defScope s_least_board) (by decide +kernel)) (by decide) tgv_n (fun _ _ _ _ _ => (sg_n (i := 11) S.nd rfl (by first | exact Or.inl rfl | exact Or.inr rfl))) (fun _ _ _ _ _ => sts_nil) (fun _ _ _ _ _ => (se_v (pv 11))) (fun _ _ _ _ _ => se_bl)) sr_nil)))
    (ss_cons (ss_set (i := 6) S.nd rfl (by first | exact Or.inl rfl | exact Or.inr rfl) (se_dcomp (own := [("number", 12), ("head", 13)]) rfl S.nd (hu8 hr) (si_enum (by rfl) T.b_enumerate (se_v (pv 5))) (blkOk_by (own := [("number", 12), ("head", 13)]) (N := ["labelled", "board", "rights", "tops", "lots", "heads", "number_of", "names", "steps", "ends", "made", "lot", "number", "head", "step"]) (sc := defScope s_least_board) (by decide +kernel)) (by decide) (tgv_t (tgsv_cons tgv_n (tgsv_cons tgv_n tgsv_nil))) (fun _ _ _ _ _ => (sg_tup rfl (sg_cons (sg_n (i := 12) S.nd rfl (by first | exact Or.inl rfl | exact Or.inr rfl)) (sg_cons (sg_n (i := 13) S.nd rfl (by first | exact Or.inl rfl | exact Or.inr rfl)) sg_nil)))) (fun _ _ _ _ _ => sts_nil) (fun _ _ _ _ _ => (se_v (pv 13))) (fun _ _ _ _ _ => (se_v (pv 12)))))
    (ss_cons (ss_set (i := 7) S.nd rfl (by first | exact Or.inl rfl | exact Or.inr rfl) (se_ty (f := fTuple) call_tuple_of ok_tuple (by rfl) T.b_tuple (by decide +kernel) (sr_cons (se_comp (own := [("lot", 11)]) rfl S.nd (si_seq (se_v (pv 4))) (blkOk_by (own := [("lot", 11)]) (N := ["labelled", "board", "rights", "tops", "lots", "heads", "number_of", "names", "steps", "ends", "made", "lot", "number", "head", "step"]) (sc := defScope s_least_board) (by decide +kernel)) (by decide) tgv_n (fun _ _ _ _ _ => (sg_n (i := 11) S.nd rfl (by first | exact Or.inl rfl | exact Or.inr rfl))) (fun _ _ _ _ _ => sts_nil) (fun _ _ _ _ _ => (se_ix (f := fIx) (ix_any (hu1 hr)) ok_ix (se_v (pv 6)) (se_v (pv 11)) (fun _ _ => rfl)))) sr_nil)))
    (ss_cons (ss_setLc (i := 8) (own := [("step", 14)]) rfl S.nd rfl rfl (sw_true rfl rfl rfl (by decide +kernel)) (si_seq (se_sl sl_cut ok_cut (se_v (pv 1)) so_no (so_so se_int))) (blkOk_by (own := [("step", 14)]) (N := ["labelled", "board", "rights", "tops", "lots", "heads", "number_of", "names", "steps", "ends", "made", "lot", "number", "head", "step"]) (sc := defScope s_least_board) (by decide +kernel)) (by decide) tgv_n (fun _ _ _ _ _ => (sg_n (i := 14) S.nd rfl (by first | exact Or.inl rfl | exact Or.inr rfl))) (fun _ _ _ _ _ => sts_nil) (fun _ _ _ _ _ => (se_ty (f := fTuple) call_tuple_of ok_tuple (by rfl) T.b_tuple (by decide +kernel) (sr_cons (se_comp (own := [("head", 13)]) rfl S.nd (si_seq (se_v (pv 5))) (blkOk_by (own := [("head", 13)]) (N := ["labelled", "board", "rights", "tops", "lots", "heads", "number_of", "names", "steps", "ends", "made", "lot", "number", "head", "step"]) (sc := relS _ (defScope s_least_board)) (by decide +kernel)) (by decide) tgv_n (fun _ _ _ _ _ => (sg_n (i := 13) S.nd rfl (by first | exact Or.inl rfl | exact Or.inr rfl))) (fun _ _ _ _ _ => sts_nil) (fun _ _ _ _ _ => (se_ix (f := fIx) (ix_any (hu1 hr)) ok_ix (se_v (pv 7)) (se_ix (f := fIx) (ix_any (hu1 hr)) ok_ix (se_v (pv 14)) (se_v (pv 13)) (fun _ _ => rfl)) (fun _ _ => rfl)))) sr_nil))))
    (ss_cons (ss_set (i := 9) S.nd rfl (by first | exact Or.inl rfl | exact Or.inr rfl) (se_ty (f := fTuple) call_tuple_of ok_tuple (by rfl) T.b_tuple (by decide +kernel) (sr_cons (se_comp (own := [("number", 12), ("head", 13)]) rfl S.nd (si_enum (by rfl) T.b_enumerate (se_v (pv 5))) (blkOk_by (own := [("number", 12), ("head", 13)]) (N := ["labelled", "board", "rights", "tops", "lots", "heads", "number_of", "names", "steps", "ends", "made", "lot", "number", "head", "step"]) (sc := defScope s_least_board) (by decide +kernel)) (by decide) (tgv_t (tgsv_cons tgv_n (tgsv_cons tgv_n tgsv_nil))) (fun _ _ _ _ _ => (sg_tup rfl (sg_cons (sg_n (i := 12) S.nd rfl (by first | exact Or.inl rfl | exact Or.inr rfl)) (sg_cons (sg_n (i := 13) S.nd rfl (by first | exact Or.inl rfl | exact Or.inr rfl)) sg_nil)))) (fun _ _ _ _ _ => (sts_one (st_tr (se_call (ok_ends_at.mono (by first | omega | (simp only [Nat.add_eq]; omega))) hr rfl mg_ends_at fn_ends_at.kp (fn_ends_at.binds (ps := ["board", "square"]) fun _ _ _ _ _ _ us hl => match us, hl with | [_, _], _ => rfl) (sr_cons (se_v (pv 1)) (sr_cons (se_v (pv 13)) sr_nil))) (by intro _; rfl)))) (fun _ _ _ _ _ => (se_v (pv 12)))) sr_nil)))
    (ss_cons (ss_set (i := 10) S.nd rfl (by first | exact Or.inl rfl | exact Or.inr rfl) (se_tup (sd_cons (se_ix (f := fIx) (ix_any (hu1 hr)) ok_ix (se_v (pv 8)) se_int (fun _ _ => rfl)) (sd_cons (se_ix (f := fIx) (ix_any (hu1 hr)) ok_ix (se_v (pv 8)) se_int (fun _ _ => rfl)) (sd_cons (se_v (pv 9)) sd_nil)))))
    (ss_one (ss_ret (se_tup (sd_cons (se_tup (sd_cons (se_v (pv 10)) (sd_cons (se_ty (f := fTuple) call_tuple_of ok_tuple (by rfl) T.b_tuple (by decide +kernel) (sr_cons (se_comp (own := [("head", 13)]) rfl S.nd (si_seq (se_v (pv 5))) (blkOk_by (own := [("head", 13)]) (N := ["labelled", "board", "rights", "tops", "lots", "heads", "number_of", "names", "steps", "ends", "made", "lot", "number", "head", "step"]) (sc := defScope s_least_board) (by decide +kernel)) (by decide) tgv_n (fun _ _ _ _ _ => (sg_n (i := 13) S.nd rfl (by first | exact Or.inl rfl | exact Or.inr rfl))) (fun _ _ _ _ _ => sts_nil) (fun _ _ _ _ _ => (se_ix (f := fIx) (ix_any (hu1 hr)) ok_ix (se_v (pv 2)) (se_v (pv 13)) (fun _ _ => rfl)))) sr_nil)) (sd_cons (se_ty (f := fTuple) call_tuple_of ok_tuple (by rfl) T.b_tuple (by decide +kernel) (sr_cons (se_comp (own := [("head", 13)]) rfl S.nd (si_seq (se_v (pv 5))) (blkOk_by (own := [("head", 13)]) (N := ["labelled", "board", "rights", "tops", "lots", "heads", "number_of", "names", "steps", "ends", "made", "lot", "number", "head", "step"]) (sc := defScope s_least_board) (by decide +kernel)) (by decide) tgv_n (fun _ _ _ _ _ => (sg_n (i := 13) S.nd rfl (by first | exact Or.inl rfl | exact Or.inr rfl))) (fun _ _ _ _ _ => sts_nil) (fun _ _ _ _ _ => (se_ix (f := fIx) (ix_any (hu1 hr)) ok_ix (se_v (pv 3)) (se_v (pv 13)) (fun _ _ => rfl)))) sr_nil)) sd_nil)))) (sd_cons (se_v (pv 7)) sd_nil)))))))))))))
end
/-! same_square -/
theorem S_same_square : FnScope ["labelled", "i", "j", "names"] ["labelled", "i", "j"] (defScope s_same_square) := ⟨rfl, rfl, rfl, by decide +kernel, rfl, by decide +kernel, by decide +kernel⟩
noncomputable def F_same_square : Fn BagT := runF 3 4 (mSeq (mSet 3 (mOp2 fIx (mCall F_least_board (mCons (mV 0) (mNil))) (mC (.int 1))))
    (mRet (mOp2 fEq (mOp2 fIx (mV 3) (mV 1)) (mOp2 fIx (mV 3) (mV 2)))))
section
variable {P : Program} {mg : Str → Option Value} {base : Heap}
theorem W_same_square (T : Txt Wrt.K mg) (D_least_board : M.Ok P Wrt.w Wrt.K mg base 3 "least_board" s_least_board ["labelled"] F_least_board) : M.Ok P Wrt.w Wrt.K mg base 4 "same_square" s_same_square ["labelled", "i", "j"] F_same_square := M.Ok.of T.d_same_square S_same_square fun f fd cdv A outer s H E hr => by
  have S := S_same_square
  obtain ⟨_, _, mg_least_board, fn_least_board, ok_least_board⟩ := D_least_board
  exact (ss_cons (ss_set (i := 3) S.nd rfl (by first | exact Or.inl rfl | exact Or.inr rfl) (se_ix (f := fIx) (ix_any (hu1 hr)) ok_ix (se_call (ok_least_board.mono (by first | omega | (simp only [Nat.add_eq]; omega))) hr rfl mg_least_board fn_least_board.kp (fn_least_board.binds (ps := ["labelled"]) fun _ _ _ _ _ _ us hl => match us, hl with | [_], _ => rfl) (sr_cons (se_v (pv 0)) sr_nil)) se_int (fun _ _ => rfl)))
    (ss_one (ss_ret (se_cmp (f := fEq) (op_eqD hr.units) ok_eq (se_ix (f := fIx) (ix_any (hu1 hr)) ok_ix (se_v (pv 3)) (se_v (pv 1)) (fun _ _ => rfl)) (se_ix (f := fIx) (ix_any (hu1 hr)) ok_ix (se_v (pv 3)) (se_v (pv 2)) (fun _ _ => rfl)) (nomark _)))))
end
/-! _law_bag -/
theorem S_law_bag : FnScope ["script", "cells", "great", "cell"] ["script"] (defScope s_law_bag) := ⟨rfl, rfl, rfl, by decide +kernel, rfl, by decide +kernel, by decide +kernel⟩
abbrev tail_law_bag : List Stmt := match defBody s_law_bag with
  | _ :: r => r
  | [] => []
noncomputable def F_law_bag : Ms Unit :=
    mSeq (mSet 2 (mLst (mNil)))
    (mSeq (mIf (mBl (mOp2 fEq (mOp2 fMod (mBi fInt (mCons (mOp2 fIx (mV 1) (mC (.int 0))) (mNil))) (mC (.int 2))) (mC (.int 0)))) (mSeq (mSet 2 (mComp [3] (mIt (mV 1)) (tmN 3) (mBl (mOp2 fGe (mV 3) (mOp2 fPow (mC (.int 10)) (mC (.int 18))))) (mD (mOp2 fDiv (mV 3) (mC (.int 2))))))
    (mEx (mOwn 2 fReverse mNil))) (mSkip))
    (mRet (mLst (mCons (mD (mC (.int 0))) (mCons (mD (mC (.int 0))) (mCons (mD (mV 2)) (mCons (mD (mComp [3] (mIt (mV 1)) (tmN 3) (mYes) (mD (mOp2 fMod (mBi fInt (mCons (mV 3) (mNil))) (mC (.int 2147483647)))))) (mNil))))))))
section
variable {P : Program} {mg : Str → Option Value} {base : Heap}
theorem rest_law_bag (T : Txt Wrt.K mg)  {cdv : Value} {A : Around} {outer : List Env} {s : Shared} {H : Hp} {E : XK} {f : Addr} (hr : Room 0 (A.deeper (envOfC "_law_bag" (defScope s_law_bag) s.heap.objs.size f cdv))) :
    PSs (cxOf CX0 P Wrt.w Wrt.K mg base ["script", "cells", "great", "cell"] "_law_bag" (defScope s_law_bag) f cdv A outer s H E).nox tail_law_bag (tSt F_law_bag) := by
  have S := S_law_bag
  exact (ss_cons (ss_set (i := 2) S.nd rfl (by first | exact Or.inl rfl | exact Or.inr rfl) (se_lst sd_nil))
    (ss_cons (ss_if (st_cmp (f := fEq) (op_eqD hr.units) ok_eq (se_op2 (f := fMod) op_mod ok_mod (se_ty (f := fInt) call_int1 ok_int (by rfl) T.b_int (by decide +kernel) (sr_cons (se_ix (f := fIx) (ix_any (hu1 hr)) ok_ix (se_v (pv 1)) se_int (fun _ _ => rfl)) sr_nil)) se_int) se_int (nomark _)) (ss_cons (ss_setLc (i := 2) (own := [("cell", 3)]) rfl S.nd rfl rfl (sw_true rfl rfl rfl (by decide +kernel)) (si_seq (se_v (pv 1))) (blkOk_by (own := [("cell", 3)]) (N := ["script", "cells", "great", "cell"]) (sc := defScope s_law_bag) (by decide +kernel)) (by decide) tgv_n (fun _ _ _ _ _ => (sg_n (i := 3) S.nd rfl (by first | exact Or.inl rfl | exact Or.inr rfl))) (fun _ _ _ _ _ => (sts_one (st_cmp (f := fGe) op_ge ok_CmpI (se_v (pv 3)) (se_op2 (f := fPow) op_pow (ok_I cPow_ok) se_int se_int) (nomark _)))) (fun _ _ _ _ _ => (se_op2 (f := fDiv) op_fdivW (ok_I cDiv_ok) (se_v (pv 3)) se_int)))
    (ss_one (ss_ex (se_m0 (f := fReverse) ok_reverse mt_reverse PySem.F.slot_list_reverse PySem.F.type_list_reverse (pv 2))))) ss_nil)
    (ss_one (ss_ret (se_lst (sd_cons se_int (sd_cons se_int (sd_cons (se_v (pv 2)) (sd_cons (se_comp (own := [("cell", 3)]) rfl S.nd (si_seq (se_v (pv 1))) (blkOk_by (own := [("cell", 3)]) (N := ["script", "cells", "great", "cell"]) (sc := defScope s_law_bag) (by decide +kernel)) (by decide) tgv_n (fun _ _ _ _ _ => (sg_n (i := 3) S.nd rfl (by first | exact Or.inl rfl | exact Or.inr rfl))) (fun _ _ _ _ _ => sts_nil) (fun _ _ _ _ _ => (se_op2 (f := fMod) op_mod ok_mod (se_ty (f := fInt) call_int1 ok_int (by rfl) T.b_int (by decide +kernel) (sr_cons (se_v (pv 3)) sr_nil)) se_int))) sd_nil)))))))))
end
/-! _law_pick -/
theorem S_law_pick : FnScope ["bag", "some"] ["bag", "some"] (defScope s_law_pick) := ⟨rfl, rfl, rfl, by decide +kernel, rfl, by decide +kernel, by decide +kernel⟩
noncomputable def F_law_pick : Fn BagT := runF 2 2 (mRet (mOp2 fIx (mV 1) (mCall F_draw (mCons (mV 0) (mCons (mBi fLen (mCons (mV 1) (mNil))) (mNil))))))
section
variable {P : Program} {mg : Str → Option Value} {base : Heap}
theorem W_law_pick (T : Txt Wrt.K mg) (D_law_draw : M.Ok P Wrt.w Wrt.K mg base 1 "_law_draw" s_law_draw ["bag", "many"] F_draw) : M.Ok P Wrt.w Wrt.K mg base 2 "_law_pick" s_law_pick ["bag", "some"] F_law_pick := M.Ok.of T.d_law_pick S_law_pick fun f fd cdv A outer s H E hr => by
  have S := S_law_pick
  obtain ⟨_, _, mg_law_draw, fn_law_draw, ok_law_draw⟩ := D_law_draw
  exact (ss_one (ss_ret (se_ix (f := fIx) (ix_any (hu1 hr)) ok_ix (se_v (pv 1)) (se_call (ok_law_draw.mono (by first | omega | (simp only [Nat.add_eq]; omega))) hr rfl mg_law_draw fn_law_draw.kp (fn_law_draw.binds (ps := ["bag", "many"]) fun _ _ _ _ _ _ us hl => match us, hl with | [_, _], _ => rfl) (sr_cons (se_v (pv 0)) (sr_cons (se_bi (f := fLen) call_lenA ok_len (by rfl) T.b_len (by decide +kernel) (sr_cons (se_v (pv 1)) sr_nil)) sr_nil))) (fun _ _ => rfl))))
end
/-! _law_same -/
theorem S_law_same : FnScope ["found", "due", "k"] ["found", "due"] (defScope s_law_same) := ⟨rfl, rfl, rfl, by decide +kernel, rfl, by decide +kernel, by decide +kernel⟩
noncomputable def F_law_same : Nat → Fn BagT
  | 0 => fun _ _ => none
  | k + 1 => runF 2 3 (mSeq (mIf (mBl (mOp2 (fIs false) (mV 1) (mC .non))) (mRet (mOp2 (fIs false) (mV 0) (mC .non))) (mSkip))
    (mSeq (mIf (mOr (mTr (mOp1 (fIsi "bool") (mV 1))) (mTr (mOp1 (fIsi "bool") (mV 0)))) (mRet (mAndV (mOp1 (fIsi "bool") (mV 1)) (mAndV (mOp1 (fIsi "bool") (mV 0)) (mOp2 fEq (mV 0) (mV 1))))) (mSkip))
    (mSeq (mIf (mTr (mOp1 (fIsi "int") (mV 1))) (mRet (mAndV (mOp1 (fIsi "int") (mV 0)) (mOp2 fEq (mV 0) (mV 1)))) (mSkip))
    (mSeq (mIf (mTr (mOp1 (fIsi "str") (mV 1))) (mRet (mAndV (mOp1 (fIsi "str") (mV 0)) (mOp2 fEq (mV 0) (mV 1)))) (mSkip))
    (mSeq (mIf (mOr (mNot (mTr (mOp1 (fIsi "tuple") (mV 1)))) (mOr (mNot (mTr (mOp1 (fIsi "tuple") (mV 0)))) (mBl (mOp2 fNe (mBi fLen (mCons (mV 0) (mNil))) (mBi fLen (mCons (mV 1) (mNil))))))) (mRet (mC (.bl false))) (mSkip))
    (mSeq (mFor (mRng fR1 (mCons (mBi fLen (mCons (mV 1) (mNil))) (mNil))) (tmN 2) (mIf (mNot (mTr (mCall (F_law_same k) (mCons (mOp2 fIx (mV 0) (mV 2)) (mCons (mOp2 fIx (mV 1) (mV 2)) (mNil)))))) (mRet (mC (.bl false))) (mSkip)))
    (mRet (mC (.bl true)))))))))
section
variable {P : Program} {mg : Str → Option Value} {base : Heap}
theorem W_law_same (T : Txt Wrt.K mg)  : ∀ k : Nat, M.Ok P Wrt.w Wrt.K mg base (k + 0) "_law_same" s_law_same ["found", "due"] (F_law_same k)
  | 0 => M.Ok.zero T.d_law_same
  | k + 1 => M.Ok.of T.d_law_same S_law_same fun f fd cdv A outer s H E hr => by
    have D_law_same := W_law_same T  k
    have S := S_law_same
    obtain ⟨_, _, mg_law_same, fn_law_same, ok_law_same⟩ := D_law_same
    exact (ss_cons (ss_if (st_cmp (f := (fIs false)) op_isN ok_is (se_v (pv 1)) se_non (nomark _)) (ss_one (ss_ret (se_cmp (f := (fIs false)) op_isN ok_is (se_v (pv 0)) se_non (nomark _)))) ss_nil)
    (ss_cons (ss_if (PW.pt (sw_or (st_tr (se_isi (Ts := "bool") (by rfl) T.b_isinstance (by rfl) T.b_bool (by decide +kernel) (se_v (pv 1))) (by intro _; rfl)) (sw_or1 (st_tr (se_isi (Ts := "bool") (by rfl) T.b_isinstance (by rfl) T.b_bool (by decide +kernel) (se_v (pv 0))) (by intro _; rfl))))) (ss_one (ss_ret (se_and (se_isi (Ts := "bool") (by rfl) T.b_isinstance (by rfl) T.b_bool (by decide +kernel) (se_v (pv 1))) (se_and (se_isi (Ts := "bool") (by rfl) T.b_isinstance (by rfl) T.b_bool (by decide +kernel) (se_v (pv 0))) (se_one (se_cmp (f := fEq) (op_eqD hr.units) ok_eq (se_v (pv 0)) (se_v (pv 1)) (nomark _))))))) ss_nil)
    (ss_cons (ss_if (st_tr (se_isi (Ts := "int") (by rfl) T.b_isinstance (by rfl) T.b_int (by decide +kernel) (se_v (pv 1))) (by intro _; rfl)) (ss_one (ss_ret (se_and (se_isi (Ts := "int") (by rfl) T.b_isinstance (by rfl) T.b_int (by decide +kernel) (se_v (pv 0))) (se_one (se_cmp (f := fEq) (op_eqD hr.units) ok_eq (se_v (pv 0)) (se_v (pv 1)) (nomark _)))))) ss_nil)
    (ss_cons (ss_if (st_tr (se_isi (Ts := "str") (by rfl) T.b_isinstance (by rfl) T.b_str (by decide +kernel) (se_v (pv 1))) (by intro _; rfl)) (ss_one (ss_ret (se_and (se_isi (Ts := "str") (by rfl) T.b_isinstance (by rfl) T.b_str (by decide +kernel) (se_v (pv 0))) (se_one (se_cmp (f := fEq) (op_eqD hr.units) ok_eq (se_v (pv 0)) (se_v (pv 1)) (nomark _)))))) ss_nil)
    (ss_cons (ss_if (PW.pt (sw_or (st_not (st_tr (se_isi (Ts := "tuple") (by rfl) T.b_isinstance (by rfl) T.b_tuple (by decide +kernel) (se_v (pv 1))) (by intro _; rfl))) (sw_or (st_not (st_tr (se_isi (Ts := "tuple") (by rfl) T.b_isinstance (by rfl) T.b_tuple (by decide +kernel) (se_v (pv 0))) (by intro _; rfl))) (sw_or1 (st_cmp (f := fNe) (op_neD hr.units) ok_ne (se_bi (f := fLen) call_lenA ok_len (by rfl) T.b_len (by decide +kernel) (sr_cons (se_v (pv 0)) sr_nil)) (se_bi (f := fLen) call_lenA ok_len (by rfl) T.b_len (by decide +kernel) (sr_cons (se_v (pv 1)) sr_nil)) (nomark _)))))) (ss_one (ss_ret se_bl)) ss_nil)
    (ss_cons (ss_for PassesOwn.never rfl (si_rng1 (by rfl) T.b_range (sr_cons (se_bi (f := fLen) call_lenA ok_len (by rfl) T.b_len (by decide +kernel) (sr_cons (se_v (pv 1)) sr_nil)) sr_nil)) (sg_n (i := 2) S.nd rfl (by first | exact Or.inl rfl | exact Or.inr rfl)) (ss_one (ss_if (st_not (st_tr (se_call (ok_law_same.mono (by first | omega | (simp only [Nat.add_eq]; omega))) hr rfl mg_law_same fn_law_same.kp (fn_law_same.binds (ps := ["found", "due"]) fun _ _ _ _ _ _ us hl => match us, hl with | [_, _], _ => rfl) (sr_cons (se_ix (f := fIx) (ix_any (hu1 hr)) ok_ix (se_v (pv 0)) (se_v (pv 2)) (fun _ _ => rfl)) (sr_cons (se_ix (f := fIx) (ix_any (hu1 hr)) ok_ix (se_v (pv 1)) (se_v (pv 2)) (fun _ _ => rfl)) sr_nil))) (by intro _; rfl))) (ss_one (ss_ret se_bl)) ss_nil)))
    (ss_one (ss_ret se_bl))))))))
end
/-! _law_is_int -/
theorem S_law_is_int : FnScope ["value"] ["value"] (defScope s_law_is_int) := ⟨rfl, rfl, rfl, by decide +kernel, rfl, by decide +kernel, by decide +kernel⟩
noncomputable def F_law_is_int : Fn BagT := runF 1 1 (mRet (mAndV (mOp1 (fIsi "int") (mV 0)) (mNotV (mOp1 (fIsi "bool") (mV 0)))))
section
variable {P : Program} {mg : Str → Option Value} {base : Heap}
theorem W_law_is_int (T : Txt Wrt.K mg)  : M.Ok P Wrt.w Wrt.K mg base 1 "_law_is_int" s_law_is_int ["value"] F_law_is_int := M.Ok.of T.d_law_is_int S_law_is_int fun f fd cdv A outer s H E hr => by
  have S := S_law_is_int
  exact (ss_one (ss_ret (se_and (se_isi (Ts := "int") (by rfl) T.b_isinstance (by rfl) T.b_int (by decide +kernel) (se_v (pv 0))) (se_one (se_not (se_isi (Ts := "bool") (by rfl) T.b_isinstance (by rfl) T.b_bool (by decide +kernel) (se_v (pv 0))))))))
end
/-! _law_back -/
theorem S_law_back : FnScope ["steps", "out", "k"] ["steps"] (defScope s_law_back) := ⟨rfl, rfl, rfl, by decide +kernel, rfl, by decide +kernel, by decide +kernel⟩
noncomputable def F_law_back : Fn BagT := runF 1 3 (mSeq (mSet 1 (mComp [2] (mIt (mV 0)) (tmN 2) (mYes) (mD (mC (.int 0)))))
    (mSeq (mFor (mRng fR1 (mCons (mBi fLen (mCons (mV 0) (mNil))) (mNil))) (tmN 2) (mPut (mV 2) (tmSub 1 (mOp2 fIx (mV 0) (mV 2)))))
    (mRet (mBi fTuple (mCons (mV 1) (mNil))))))
section
variable {P : Program} {mg : Str → Option Value} {base : Heap}
theorem W_law_back (T : Txt Wrt.K mg)  : M.Ok P Wrt.w Wrt.K mg base 1 "_law_back" s_law_back ["steps"] F_law_back := M.Ok.of T.d_law_back S_law_back fun f fd cdv A outer s H E hr => by
  have S := S_law_back
  exact (ss_cons (ss_setLc (i := 1) (own := [("k", 2)]) rfl S.nd rfl rfl (sw_true rfl rfl rfl (by decide +kernel)) (si_seq (se_v (pv 0))) (blkOk_by (own := [("k", 2)]) (N := ["steps", "out", "k"]) (sc := defScope s_law_back) (by decide +kernel)) (by decide) tgv_n (fun _ _ _ _ _ => (sg_n (i := 2) S.nd rfl (by first | exact Or.inl rfl | exact Or.inr rfl))) (fun _ _ _ _ _ => sts_nil) (fun _ _ _ _ _ => se_int))
    (ss_cons (ss_for PassesOwn.never rfl (si_rng1 (by rfl) T.b_range (sr_cons (se_bi (f := fLen) call_lenA ok_len (by rfl) T.b_len (by decide +kernel) (sr_cons (se_v (pv 0)) sr_nil)) sr_nil)) (sg_n (i := 2) S.nd rfl (by first | exact Or.inl rfl | exact Or.inr rfl)) (ss_one (ss_put (se_v (pv 2)) (sg_sub (i := 1) (hu1 hr) (pv 1) (se_ix (f := fIx) (ix_any (hu1 hr)) ok_ix (se_v (pv 0)) (se_v (pv 2)) (fun _ _ => rfl))))))
    (ss_one (ss_ret (se_ty (f := fTuple) call_tuple_of ok_tuple (by rfl) T.b_tuple (by decide +kernel) (sr_cons (se_v (pv 1)) sr_nil))))))
end
/-! _law_turn_of -/
theorem S_law_turn_of : FnScope ["right", "above", "square"] ["right", "above", "square"] (defScope s_law_turn_of) := ⟨rfl, rfl, rfl, by decide +kernel, rfl, by decide +kernel, by decide +kernel⟩
noncomputable def F_law_turn_of : Fn BagT := runF 3 3 (mRet (mOp2 fIx (mV 1) (mOp2 fIx (mV 0) (mOp2 fIx (mCall F_law_back (mCons (mV 1) (mNil))) (mOp2 fIx (mCall F_law_back (mCons (mV 0) (mNil))) (mV 2))))))
section
variable {P : Program} {mg : Str → Option Value} {base : Heap}
theorem W_law_turn_of (T : Txt Wrt.K mg) (D_law_back : M.Ok P Wrt.w Wrt.K mg base 1 "_law_back" s_law_back ["steps"] F_law_back) : M.Ok P Wrt.w Wrt.K mg base 2 "_law_turn_of" s_law_turn_of ["right", "above", "square"] F_law_turn_of := M.Ok.of T.d_law_turn_of S_law_turn_of fun f fd cdv A outer s H E hr => by
  have S := S_law_turn_of
  obtain ⟨_, _, mg_law_back, fn_law_back, ok_law_back⟩ := D_law_back
  exact (ss_one (ss_ret (se_ix (f := fIx) (ix_any (hu1 hr)) ok_ix (se_v (pv 1)) (se_ix (f := fIx) (ix_any (hu1 hr)) ok_ix (se_v (pv 0)) (se_ix (f := fIx) (ix_any (hu1 hr)) ok_ix (se_call (ok_law_back.mono (by first | omega | (simp only [Nat.add_eq]; omega))) hr rfl mg_law_back fn_law_back.kp (fn_law_back.binds (ps := ["steps"]) fun _ _ _ _ _ _ us hl => match us, hl with | [_], _ => rfl) (sr_cons (se_v (pv 1)) sr_nil)) (se_ix (f := fIx) (ix_any (hu1 hr)) ok_ix (se_call (ok_law_back.mono (by first | omega | (simp only [Nat.add_eq]; omega))) hr rfl mg_law_back fn_law_back.kp (fn_law_back.binds (ps := ["steps"]) fun _ _ _ _ _ _ us hl => match us, hl with | [_], _ => rfl) (sr_cons (se_v (pv 0)) sr_nil)) (se_v (pv 2)) (fun _ _ => rfl)) (fun _ _ => rfl)) (fun _ _ => rfl)) (fun _ _ => rfl))))
end
/-! _law_ends -/
theorem S_law_ends : FnScope ["right", "above", "k"] ["right", "above"] (defScope s_law_ends) := ⟨rfl, rfl, rfl, by decide +kernel, rfl, by decide +kernel, by decide +kernel⟩
noncomputable def F_law_ends : Fn BagT := runF 2 3 (mRet (mBi fTuple (mCons (mComp [2] (mRng fR1 (mCons (mBi fLen (mCons (mV 0) (mNil))) (mNil))) (tmN 2) (mBl (mOp2 fNe (mCall F_law_turn_of (mCons (mV 0) (mCons (mV 1) (mCons (mV 2) (mNil))))) (mV 2))) (mD (mV 2))) (mNil))))
section
variable {P : Program} {mg : Str → Option Value} {base : Heap}
theorem W_law_ends (T : Txt Wrt.K mg) (D_law_turn_of : M.Ok P Wrt.w Wrt.K mg base 2 "_law_turn_of" s_law_turn_of ["right", "above", "square"] F_law_turn_of) : M.Ok P Wrt.w Wrt.K mg base 3 "_law_ends" s_law_ends ["right", "above"] F_law_ends := M.Ok.of T.d_law_ends S_law_ends fun f fd cdv A outer s H E hr => by
  have S := S_law_ends
  obtain ⟨_, _, mg_law_turn_of, fn_law_turn_of, ok_law_turn_of⟩ := D_law_turn_of
  exact (ss_one (ss_ret (se_ty (f := fTuple) call_tuple_of ok_tuple (by rfl) T.b_tuple (by decide +kernel) (sr_cons (se_comp (own := [("k", 2)]) rfl S.nd (si_rng1 (by rfl) T.b_range (sr_cons (se_bi (f := fLen) call_lenA ok_len (by rfl) T.b_len (by decide +kernel) (sr_cons (se_v (pv 0)) sr_nil)) sr_nil)) (blkOk_by (own := [("k", 2)]) (N := ["right", "above", "k"]) (sc := defScope s_law_ends) (by decide +kernel)) (by decide) tgv_n (fun _ _ _ _ _ => (sg_n (i := 2) S.nd rfl (by first | exact Or.inl rfl | exact Or.inr rfl))) (fun _ _ _ _ _ => (sts_one (st_cmp (f := fNe) (op_neD hr.units) ok_ne (se_call (ok_law_turn_of.mono (by first | omega | (simp only [Nat.add_eq]; omega))) hr rfl mg_law_turn_of fn_law_turn_of.kp (fn_law_turn_of.binds (ps := ["right", "above", "square"]) fun _ _ _ _ _ _ us hl => match us, hl with | [_, _, _], _ => rfl) (sr_cons (se_v (pv 0)) (sr_cons (se_v (pv 1)) (sr_cons (se_v (pv 2)) sr_nil)))) (se_v (pv 2)) (nomark _)))) (fun _ _ _ _ _ => (se_v (pv 2)))) sr_nil))))
end
/-! _law_reached -/
theorem S_law_reached : FnScope ["right", "above", "found", "lap", "at", "to"] ["right", "above"] (defScope s_law_reached) := ⟨rfl, rfl, rfl, by decide +kernel, rfl, by decide +kernel, by decide +kernel⟩
noncomputable def F_law_reached : Fn BagT := runF 2 6 (mSeq (mSet 2 (mLst (mCons (mD (mC (.int 0))) (mNil))))
    (mSeq (mFor (mRng fR1 (mCons (mBi fLen (mCons (mLk (mV 0)) (mNil))) (mNil))) (tmN 3) (mFor (mIt (mBi fList (mCons (mV 2) (mNil)))) (tmN 4) (mSet 2 (mOp2 fAdd (mV 2) (mComp [5] (mIt (mIfE (mBl (mOp2 fEq (mOp2 fIx (mLk (mV 0)) (mV 4)) (mOp2 fIx (mLk (mV 1)) (mV 4)))) (mTup (mCons (mD (mOp2 fIx (mLk (mV 0)) (mV 4))) (mNil))) (mTup (mCons (mD (mOp2 fIx (mLk (mV 0)) (mV 4))) (mCons (mD (mOp2 fIx (mLk (mV 1)) (mV 4))) (mNil)))))) (tmN 5) (mBl (mOp2 (fInB true) (mV 5) (mV 2))) (mD (mV 5)))))))
    (mRet (mV 2))))
section
variable {P : Program} {mg : Str → Option Value} {base : Heap}
theorem W_law_reached (T : Txt Wrt.K mg)  : M.Ok P Wrt.w Wrt.K mg base 1 "_law_reached" s_law_reached ["right", "above"] F_law_reached := M.Ok.of T.d_law_reached S_law_reached fun f fd cdv A outer s H E hr => by
  have S := S_law_reached
  exact (ss_cons (ss_set (i := 2) S.nd rfl (by first | exact Or.inl rfl | exact Or.inr rfl) (se_lst (sd_cons se_int sd_nil)))
    (ss_cons (ss_for PassesOwn.never rfl (si_rng1 (by rfl) T.b_range (sr_cons (se_bi (f := fLen) call_lenA ok_len (by rfl) T.b_len (by decide +kernel) (sr_cons (se_lk (se_v (pv 0))) sr_nil)) sr_nil)) (sg_n (i := 3) S.nd rfl (by first | exact Or.inl rfl | exact Or.inr rfl)) (ss_one (ss_for PassesOwn.never rfl (si_seq (se_ty (f := fList) call_list_of ok_list (by rfl) T.b_list (by decide +kernel) (sr_cons (se_v (pv 2)) sr_nil))) (sg_n (i := 4) S.nd rfl (by first | exact Or.inl rfl | exact Or.inr rfl)) (ss_one (ss_set (i := 2) S.nd rfl (by first | exact Or.inl rfl | exact Or.inr rfl) (se_op2 (f := fAdd) op_addA ok_add (se_v (pv 2)) (se_comp (own := [("to", 5)]) rfl S.nd (si_seq (se_ifE (st_cmp (f := fEq) (op_eqD hr.units) ok_eq (se_ix (f := fIx) (ix_any (hu1 hr)) ok_ix (se_lk (se_v (pv 0))) (se_v (pv 4)) (fun _ _ => rfl)) (se_ix (f := fIx) (ix_any (hu1 hr)) ok_ix (se_lk (se_v (pv 1))) (se_v (pv 4)) (fun _ _ => rfl)) (nomark _)) (se_tup (sd_cons (se_ix (f := fIx) (ix_any (hu1 hr)) ok_ix (se_lk (se_v (pv 0))) (se_v (pv 4)) (fun _ _ => rfl)) sd_nil)) (se_tup (sd_cons (se_ix (f := fIx) (ix_any (hu1 hr)) ok_ix (se_lk (se_v (pv 0))) (se_v (pv 4)) (fun _ _ => rfl)) (sd_cons (se_ix (f := fIx) (ix_any (hu1 hr)) ok_ix (se_lk (se_v (pv 1))) (se_v (pv 4)) (fun _ _ => rfl)) sd_nil))))) (blkOk_by (own := [("to", 5)]) (N := ["right", "above", "found", "lap", "at", "to"]) (sc := defScope s_law_reached) (by decide +kernel)) (by decide) tgv_n (fun _ _ _ _ _ => (sg_n (i := 5) S.nd rfl (by first | exact Or.inl rfl | exact Or.inr rfl))) (fun _ _ _ _ _ => (sts_one (st_cmp (f := (fInB true)) (op_notInC (hu65 hr)) ok_in (se_v (pv 5)) (se_v (pv 2)) (by rfl)))) (fun _ _ _ _ _ => (se_v (pv 5))))))))))
    (ss_one (ss_ret (se_v (pv 2))))))
end
/-! _law_shuffle -/
theorem S_law_shuffle : FnScope ["bag", "many", "out", "k", "j"] ["bag", "many"] (defScope s_law_shuffle) := ⟨rfl, rfl, rfl, by decide +kernel, rfl, by decide +kernel, by decide +kernel⟩
noncomputable def F_law_shuffle : Fn BagT := runF 2 5 (mSeq (mSet 2 (mLR1 (mV 1)))
    (mSeq (mFor (mRng fR3 (mCons (mOp2 fSub (mV 1) (mC (.int 1))) (mCons (mC (.int 0)) (mCons (mOp1 fNeg (mC (.int 1))) (mNil))))) (tmN 3) (mSeq (mSet 4 (mCall F_draw (mCons (mV 0) (mCons (mOp2 fAdd (mV 3) (mC (.int 1))) (mNil)))))
    (mPut (mTup (mCons (mD (mOp2 fIx (mV 2) (mV 4))) (mCons (mD (mOp2 fIx (mV 2) (mV 3))) (mNil)))) (tmT (tmCons (tmSub 2 (mV 3)) (tmCons (tmSub 2 (mV 4)) (tmNil))) 2))))
    (mRet (mV 2))))
section
variable {P : Program} {mg : Str → Option Value} {base : Heap}
theorem W_law_shuffle (T : Txt Wrt.K mg) (D_law_draw : M.Ok P Wrt.w Wrt.K mg base 1 "_law_draw" s_law_draw ["bag", "many"] F_draw) : M.Ok P Wrt.w Wrt.K mg base 2 "_law_shuffle" s_law_shuffle ["bag", "many"] F_law_shuffle := M.Ok.of T.d_law_shuffle S_law_shuffle fun f fd cdv A outer s H E hr => by
  have S := S_law_shuffle
  obtain ⟨_, _, mg_law_draw, fn_law_draw, ok_law_draw⟩ := D_law_draw
  exact (ss_cons (ss_set (i := 2) S.nd rfl (by first | exact Or.inl rfl | exact Or.inr rfl) (se_lr1 rfl (by rfl) T.b_list (by rfl) T.b_range (se_v (pv 1))))
    (ss_cons (ss_for PassesOwn.never rfl (si_rng3 (by rfl) T.b_range (sr_cons (se_op2 (f := fSub) op_sub ok_I0 (se_v (pv 1)) se_int) (sr_cons se_int (sr_cons (se_un un_neg ok_neg se_int) sr_nil)))) (sg_n (i := 3) S.nd rfl (by first | exact Or.inl rfl | exact Or.inr rfl)) (ss_cons (ss_set (i := 4) S.nd rfl (by first | exact Or.inl rfl | exact Or.inr rfl) (se_call (ok_law_draw.mono (by first | omega | (simp only [Nat.add_eq]; omega))) hr rfl mg_law_draw fn_law_draw.kp (fn_law_draw.binds (ps := ["bag", "many"]) fun _ _ _ _ _ _ us hl => match us, hl with | [_, _], _ => rfl) (sr_cons (se_v (pv 0)) (sr_cons (se_op2 (f := fAdd) op_addA ok_add (se_v (pv 3)) se_int) sr_nil))))
    (ss_one (ss_put (se_tup (sd_cons (se_ix (f := fIx) (ix_any (hu1 hr)) ok_ix (se_v (pv 2)) (se_v (pv 4)) (fun _ _ => rfl)) (sd_cons (se_ix (f := fIx) (ix_any (hu1 hr)) ok_ix (se_v (pv 2)) (se_v (pv 3)) (fun _ _ => rfl)) sd_nil))) (sgs_tup rfl (sgs_cons (sg_sub (i := 2) (hu1 hr) (pv 2) (se_v (pv 3))) (sgs_cons (sg_sub (i := 2) (hu1 hr) (pv 2) (se_v (pv 4))) sgs_nil)))))))
    (ss_one (ss_ret (se_v (pv 2))))))
end
/-! _law_board_of -/
theorem S_law_board_of : FnScope ["right", "above", "flats", "ends", "k"] ["right", "above", "flats"] (defScope s_law_board_of) := ⟨rfl, rfl, rfl, by decide +kernel, rfl, by decide +kernel, by decide +kernel⟩
noncomputable def F_law_board_of : Fn BagT := runF 3 5 (mSeq (mSet 3 (mCall F_law_ends (mCons (mV 0) (mCons (mV 1) (mNil)))))
    (mRet (mTup (mCons (mD (mBi fTuple (mCons (mV 0) (mNil)))) (mCons (mD (mBi fTuple (mCons (mV 1) (mNil)))) (mCons (mD (mBi fTuple (mCons (mComp [4] (mRng fR1 (mCons (mBi fLen (mCons (mV 0) (mNil))) (mNil))) (tmN 4) (mOr (mBl (mOp2 (fInB false) (mV 4) (mV 3))) (mBl (mOp2 (fInB false) (mV 4) (mV 2)))) (mD (mV 4))) (mNil)))) (mNil)))))))
section
variable {P : Program} {mg : Str → Option Value} {base : Heap}
theorem W_law_board_of (T : Txt Wrt.K mg) (D_law_ends : M.Ok P Wrt.w Wrt.K mg base 3 "_law_ends" s_law_ends ["right", "above"] F_law_ends) : M.Ok P Wrt.w Wrt.K mg base 4 "_law_board_of" s_law_board_of ["right", "above", "flats"] F_law_board_of := M.Ok.of T.d_law_board_of S_law_board_of fun f fd cdv A outer s H E hr => by
  have S := S_law_board_of
  obtain ⟨_, _, mg_law_ends, fn_law_ends, ok_law_ends⟩ := D_law_ends
  exact (ss_cons (ss_set (i := 3) S.nd rfl (by first | exact Or.inl rfl | exact Or.inr rfl) (se_call (ok_law_ends.mono (by first | omega | (simp only [Nat.add_eq]; omega))) hr rfl mg_law_ends fn_law_ends.kp (fn_law_ends.binds (ps := ["right", "above"]) fun _ _ _ _ _ _ us hl => match us, hl with | [_, _], _ => rfl) (sr_cons (se_v (pv 0)) (sr_cons (se_v (pv 1)) sr_nil))))
    (ss_one (ss_ret (se_tup (sd_cons (se_ty (f := fTuple) call_tuple_of ok_tuple (by rfl) T.b_tuple (by decide +kernel) (sr_cons (se_v (pv 0)) sr_nil)) (sd_cons (se_ty (f := fTuple) call_tuple_of ok_tuple (by rfl) T.b_tuple (by decide +kernel) (sr_cons (se_v (pv 1)) sr_nil)) (sd_cons (se_ty (f := fTuple) call_tuple_of ok_tuple (by rfl) T.b_tuple (by decide +kernel) (sr_cons (se_comp (own := [("k", 4)]) rfl S.nd (si_rng1 (by rfl) T.b_range (sr_cons (se_bi (f := fLen) call_lenA ok_len (by rfl) T.b_len (by decide +kernel) (sr_cons (se_v (pv 0)) sr_nil)) sr_nil)) (blkOk_by (own := [("k", 4)]) (N := ["right", "above", "flats", "ends", "k"]) (sc := defScope s_law_board_of) (by decide +kernel)) (by decide) tgv_n (fun _ _ _ _ _ => (sg_n (i := 4) S.nd rfl (by first | exact Or.inl rfl | exact Or.inr rfl))) (fun _ _ _ _ _ => (sts_one (PW.pt (sw_or (st_cmp (f := (fInB false)) (op_inC (hu65 hr)) ok_in (se_v (pv 4)) (se_v (pv 3)) (by rfl)) (sw_or1 (st_cmp (f := (fInB false)) (op_inC (hu65 hr)) ok_in (se_v (pv 4)) (se_v (pv 2)) (by rfl))))))) (fun _ _ _ _ _ => (se_v (pv 4)))) sr_nil)) sd_nil)))))))
end
/-! _law_board -/
theorem S_law_board : FnScope ["bag", "most", "many", "right", "above", "lap", "apart", "flats", "k"] ["bag", "most"] (defScope s_law_board) := ⟨rfl, rfl, rfl, by decide +kernel, rfl, by decide +kernel, by decide +kernel⟩
noncomputable def F_law_board : Fn BagT := runF 2 9 (mSeq (mSet 2 (mOp2 fAdd (mC (.int 1)) (mCall F_draw (mCons (mV 0) (mCons (mV 1) (mNil))))))
    (mSeq (mPars [3, 4] (mCons (mH (mCall F_law_shuffle (mCons (mV 0) (mCons (mV 2) (mNil))))) (mCons (mH (mCall F_law_shuffle (mCons (mV 0) (mCons (mV 2) (mNil))))) (mNil))))
    (mSeq (mFor (mRng fR1 (mCons (mV 2) (mNil))) (tmN 5) (mSeq (mSet 6 (mComp [8] (mRng fR1 (mCons (mV 2) (mNil))) (tmN 8) (mBl (mOp2 (fInB true) (mV 8) (mCall F_law_reached (mCons (mV 3) (mCons (mV 4) (mNil)))))) (mD (mV 8))))
    (mIf (mBl (mOp2 fNe (mV 6) (mLst (mNil)))) (mPut (mTup (mCons (mD (mOp2 fIx (mV 4) (mC (.int 0)))) (mCons (mD (mOp2 fIx (mV 4) (mOp2 fIx (mV 6) (mC (.int 0))))) (mNil)))) (tmT (tmCons (tmSub 4 (mOp2 fIx (mV 6) (mC (.int 0)))) (tmCons (tmSub 4 (mC (.int 0))) (tmNil))) 2)) (mSkip))))
    (mSeq (mSet 7 (mIfE (mBl (mOp2 fEq (mCall F_draw (mCons (mV 0) (mCons (mC (.int 4)) (mNil)))) (mC (.int 0)))) (mComp [8] (mRng fR1 (mCons (mV 2) (mNil))) (tmN 8) (mBl (mOp2 fEq (mCall F_draw (mCons (mV 0) (mCons (mC (.int 2)) (mNil)))) (mC (.int 0)))) (mD (mV 8))) (mLst (mNil))))
    (mRet (mCall F_law_board_of (mCons (mV 3) (mCons (mV 4) (mCons (mV 7) (mNil))))))))))
section
variable {P : Program} {mg : Str → Option Value} {base : Heap}
theorem W_law_board (T : Txt Wrt.K mg) (D_law_draw : M.Ok P Wrt.w Wrt.K mg base 1 "_law_draw" s_law_draw ["bag", "many"] F_draw) (D_law_shuffle : M.Ok P Wrt.w Wrt.K mg base 2 "_law_shuffle" s_law_shuffle ["bag", "many"] F_law_shuffle) (D_law_reached : M.Ok P Wrt.w Wrt.K mg base 1 "_law_reached" s_law_reached ["right", "above"] F_law_reached) (D_law_board_of : M.Ok P Wrt.w Wrt.K mg base 4 "_law_board_of" s_law_board_of ["right", "above", "flats"] F_law_board_of) : M.Ok P Wrt.w Wrt.K mg base 5 "_law_board" s_law_board ["bag", "most"] F_law_board := M.Ok.of T.d_law_board S_law_board fun f fd cdv A outer s H E hr => by
  have S := S_law_board
  obtain ⟨_, _, mg_law_draw, fn_law_draw, ok_law_draw⟩ := D_law_draw
  obtain ⟨_, _, mg_law_shuffle, fn_law_shuffle, ok_law_shuffle⟩ := D_law_shuffle
  obtain ⟨_, _, mg_law_reached, fn_law_reached, ok_law_reached⟩ := D_law_reached
  obtain ⟨_, _, mg_law_board_of, fn_law_board_of, ok_law_board_of⟩ := D_law_board_of
  exact (ss_cons (ss_set (i := 2) S.nd rfl (by first | exact Or.inl rfl | exact Or.inr rfl) (se_op2 (f := fAdd) op_addA ok_add se_int (se_call (ok_law_draw.mono (by first | omega | (simp only [Nat.add_eq]; omega))) hr rfl mg_law_draw fn_law_draw.kp (fn_law_draw.binds (ps := ["bag", "many"]) fun _ _ _ _ _ _ us hl => match us, hl with | [_, _], _ => rfl) (sr_cons (se_v (pv 0)) (sr_cons (se_v (pv 1)) sr_nil)))))
    (ss_cons (ss_parT (is := [3, 4]) rfl (sra_cons (se_call (ok_law_shuffle.mono (by first | omega | (simp only [Nat.add_eq]; omega))) hr rfl mg_law_shuffle fn_law_shuffle.kp (fn_law_shuffle.binds (ps := ["bag", "many"]) fun _ _ _ _ _ _ us hl => match us, hl with | [_, _], _ => rfl) (sr_cons (se_v (pv 0)) (sr_cons (se_v (pv 2)) sr_nil))) (sra_cons (se_call (ok_law_shuffle.mono (by first | omega | (simp only [Nat.add_eq]; omega))) hr rfl mg_law_shuffle fn_law_shuffle.kp (fn_law_shuffle.binds (ps := ["bag", "many"]) fun _ _ _ _ _ _ us hl => match us, hl with | [_, _], _ => rfl) (sr_cons (se_v (pv 0)) (sr_cons (se_v (pv 2)) sr_nil))) sra_nil)) (pgs_cons (pg_name (i := 3) S.nd rfl (by first | exact Or.inl rfl | exact Or.inr rfl)) (pgs_cons (pg_name (i := 4) S.nd rfl (by first | exact Or.inl rfl | exact Or.inr rfl)) pgs_nil)) (by decide) rfl)
    (ss_cons (ss_for PassesOwn.never rfl (si_rng1 (by rfl) T.b_range (sr_cons (se_v (pv 2)) sr_nil)) (sg_n (i := 5) S.nd rfl (by first | exact Or.inl rfl | exact Or.inr rfl)) (ss_cons (ss_setLc (i := 6) (own := [("k", 8)]) rfl S.nd rfl rfl (sw_true rfl rfl rfl (by decide +kernel)) (si_rng1 (by rfl) T.b_range (sr_cons (se_v (pv 2)) sr_nil)) (blkOk_by (own := [("k", 8)]) (N := ["bag", "most", "many", "right", "above", "lap", "apart", "flats", "k"]) (sc := defScope s_law_board) (by decide +kernel)) (by decide) tgv_n (fun _ _ _ _ _ => (sg_n (i := 8) S.nd rfl (by first | exact Or.inl rfl | exact Or.inr rfl))) (fun _ _ _ _ _ => (sts_one (st_cmp (f := (fInB true)) (op_notInC (hu65 hr)) ok_in (se_v (pv 8)) (se_call (ok_law_reached.mono (by first | omega | (simp only [Nat.add_eq]; omega))) hr rfl mg_law_reached fn_law_reached.kp (fn_law_reached.binds (ps := ["right", "above"]) fun _ _ _ _ _ _ us hl => match us, hl with | [_, _], _ => rfl) (sr_cons (se_v (pv 3)) (sr_cons (se_v (pv 4)) sr_nil))) (by rfl)))) (fun _ _ _ _ _ => (se_v (pv 8))))
    (ss_one (ss_if (st_cmp (f := fNe) (op_neD hr.units) ok_ne (se_v (pv 6)) (se_lst sd_nil) (nomark _)) (ss_one (ss_put (se_tup (sd_cons (se_ix (f := fIx) (ix_any (hu1 hr)) ok_ix (se_v (pv 4)) se_int (fun _ _ => rfl)) (sd_cons (se_ix (f := fIx) (ix_any (hu1 hr)) ok_ix (se_v (pv 4)) (se_ix (f := fIx) (ix_any (hu1 hr)) ok_ix (se_v (pv 6)) se_int (fun _ _ => rfl)) (fun _ _ => rfl)) sd_nil))) (sgs_tup rfl (sgs_cons (sg_sub (i := 4) (hu1 hr) (pv 4) (se_ix (f := fIx) (ix_any (hu1 hr)) ok_ix (se_v (pv 6)) se_int (fun _ _ => rfl))) (sgs_cons (sg_sub (i := 4) (hu1 hr) (pv 4) se_int) sgs_nil))))) ss_nil))))
    (ss_cons (ss_set (i := 7) S.nd rfl (by first | exact Or.inl rfl | exact Or.inr rfl) (se_ifE (st_cmp (f := fEq) (op_eqD hr.units) ok_eq (se_call (ok_law_draw.mono (by first | omega | (simp only [Nat.add_eq]; omega))) hr rfl mg_law_draw fn_law_draw.kp (fn_law_draw.binds (ps := ["bag", "many"]) fun _ _ _ _ _ _ us hl => match us, hl with | [_, _], _ => rfl) (sr_cons (se_v (pv 0)) (sr_cons se_int sr_nil))) se_int (nomark _)) (se_comp (own := [("k", 8)]) rfl S.nd (si_rng1 (by rfl) T.b_range (sr_cons (se_v (pv 2)) sr_nil)) (blkOk_by (own := [("k", 8)]) (N := ["bag", "most", "many", "right", "above", "lap", "apart", "flats", "k"]) (sc := defScope s_law_board) (by decide +kernel)) (by decide) tgv_n (fun _ _ _ _ _ => (sg_n (i := 8) S.nd rfl (by first | exact Or.inl rfl | exact Or.inr rfl))) (fun _ _ _ _ _ => (sts_one (st_cmp (f := fEq) (op_eqD hr.units) ok_eq (se_call (ok_law_draw.mono (by first | omega | (simp only [Nat.add_eq]; omega))) hr rfl mg_law_draw fn_law_draw.kp (fn_law_draw.binds (ps := ["bag", "many"]) fun _ _ _ _ _ _ us hl => match us, hl with | [_, _], _ => rfl) (sr_cons (se_v (pv 0)) (sr_cons se_int sr_nil))) se_int (nomark _)))) (fun _ _ _ _ _ => (se_v (pv 8)))) (se_lst sd_nil)))
    (ss_one (ss_ret (se_call (ok_law_board_of.mono (by first | omega | (simp only [Nat.add_eq]; omega))) hr rfl mg_law_board_of fn_law_board_of.kp (fn_law_board_of.binds (ps := ["right", "above", "flats"]) fun _ _ _ _ _ _ us hl => match us, hl with | [_, _, _], _ => rfl) (sr_cons (se_v (pv 3)) (sr_cons (se_v (pv 4)) (sr_cons (se_v (pv 7)) sr_nil))))))))))
end
/-! _law_mark -/
theorem S_law_mark : FnScope ["labelled", "square"] ["labelled", "square"] (defScope s_law_mark) := ⟨rfl, rfl, rfl, by decide +kernel, rfl, by decide +kernel, by decide +kernel⟩
noncomputable def F_law_mark : Fn BagT := runF 2 2 (mRet (mTup (mCons (mD (mOp2 fIx (mOp2 fIx (mV 0) (mC (.int 1))) (mV 1))) (mCons (mD (mOp2 fIx (mOp2 fIx (mV 0) (mC (.int 2))) (mV 1))) (mCons (mD (mOp2 (fInB false) (mV 1) (mOp2 fIx (mOp2 fIx (mV 0) (mC (.int 0))) (mC (.int 2))))) (mNil))))))
section
variable {P : Program} {mg : Str → Option Value} {base : Heap}
theorem W_law_mark (T : Txt Wrt.K mg)  : M.Ok P Wrt.w Wrt.K mg base 1 "_law_mark" s_law_mark ["labelled", "square"] F_law_mark := M.Ok.of T.d_law_mark S_law_mark fun f fd cdv A outer s H E hr => by
  have S := S_law_mark
  exact (ss_one (ss_ret (se_tup (sd_cons (se_ix (f := fIx) (ix_any (hu1 hr)) ok_ix (se_ix (f := fIx) (ix_any (hu1 hr)) ok_ix (se_v (pv 0)) se_int (fun _ _ => rfl)) (se_v (pv 1)) (fun _ _ => rfl)) (sd_cons (se_ix (f := fIx) (ix_any (hu1 hr)) ok_ix (se_ix (f := fIx) (ix_any (hu1 hr)) ok_ix (se_v (pv 0)) se_int (fun _ _ => rfl)) (se_v (pv 1)) (fun _ _ => rfl)) (sd_cons (se_cmp (f := (fInB false)) (op_inC (hu65 hr)) ok_in (se_v (pv 1)) (se_ix (f := fIx) (ix_any (hu1 hr)) ok_ix (se_ix (f := fIx) (ix_any (hu1 hr)) ok_ix (se_v (pv 0)) se_int (fun _ _ => rfl)) se_int (fun _ _ => rfl)) (by rfl)) sd_nil))))))
end
/-! _law_is_alike -/
theorem S_law_is_alike : FnScope ["one", "square", "other", "square2", "pairs", "k", "a", "b", "to"] ["one", "square", "other", "square2"] (defScope s_law_is_alike) := ⟨rfl, rfl, rfl, by decide +kernel, rfl, by decide +kernel, by decide +kernel⟩
noncomputable def F_law_is_alike : Fn BagT := runF 4 9 (mSeq (mSet 4 (mLst (mCons (mD (mTup (mCons (mD (mV 1)) (mCons (mD (mV 3)) (mNil))))) (mNil))))
    (mSeq (mFor (mRng fR1 (mCons (mOp2 fMul (mBi fLen (mCons (mOp2 fIx (mOp2 fIx (mV 0) (mC (.int 0))) (mC (.int 0))) (mNil))) (mBi fLen (mCons (mOp2 fIx (mOp2 fIx (mV 2) (mC (.int 0))) (mC (.int 0))) (mNil)))) (mNil))) (tmN 5) (mSeq (mIf (mBl (mOp2 fGe (mV 5) (mBi fLen (mCons (mV 4) (mNil))))) (mRet (mC (.bl true))) (mSkip))
    (mSeq (mUnp (mOp2 fIx (mV 4) (mV 5)) (tmT (tmCons (tmN 6) (tmCons (tmN 7) (tmNil))) 2))
    (mSeq (mIf (mBl (mOp2 fNe (mCall F_law_mark (mCons (mV 0) (mCons (mV 6) (mNil)))) (mCall F_law_mark (mCons (mV 2) (mCons (mV 7) (mNil)))))) (mRet (mC (.bl false))) (mSkip))
    (mFor (mIt (mTup (mCons (mD (mTup (mCons (mD (mOp2 fIx (mOp2 fIx (mOp2 fIx (mV 0) (mC (.int 0))) (mC (.int 0))) (mV 6))) (mCons (mD (mOp2 fIx (mOp2 fIx (mOp2 fIx (mV 2) (mC (.int 0))) (mC (.int 0))) (mV 7))) (mNil))))) (mCons (mD (mTup (mCons (mD (mOp2 fIx (mOp2 fIx (mOp2 fIx (mV 0) (mC (.int 0))) (mC (.int 1))) (mV 6))) (mCons (mD (mOp2 fIx (mOp2 fIx (mOp2 fIx (mV 2) (mC (.int 0))) (mC (.int 1))) (mV 7))) (mNil))))) (mNil))))) (tmN 8) (mSet 4 (mOp2 fAdd (mV 4) (mIfE (mBl (mOp2 (fInB true) (mV 8) (mV 4))) (mLst (mCons (mD (mV 8)) (mNil))) (mLst (mNil))))))))))
    (mRet (mC (.bl true)))))
section
variable {P : Program} {mg : Str → Option Value} {base : Heap}
theorem W_law_is_alike (T : Txt Wrt.K mg) (D_law_mark : M.Ok P Wrt.w Wrt.K mg base 1 "_law_mark" s_law_mark ["labelled", "square"] F_law_mark) : M.Ok P Wrt.w Wrt.K mg base 2 "_law_is_alike" s_law_is_alike ["one", "square", "other", "square2"] F_law_is_alike := M.Ok.of T.d_law_is_alike S_law_is_alike fun f fd cdv A outer s H E hr => by
  have S := S_law_is_alike
  obtain ⟨_, _, mg_law_mark, fn_law_mark, ok_law_mark⟩ := D_law_mark
  exact (ss_cons (ss_set (i := 4) S.nd rfl (by first | exact Or.inl rfl | exact Or.inr rfl) (se_lst (sd_cons (se_tup (sd_cons (se_v (pv 1)) (sd_cons (se_v (pv 3)) sd_nil))) sd_nil)))
    (ss_cons (ss_for PassesOwn.never rfl (si_rng1 (by rfl) T.b_range (sr_cons (se_op2 (f := fMul) op_mul (ok_I cMul_ok) (se_bi (f := fLen) call_lenA ok_len (by rfl) T.b_len (by decide +kernel) (sr_cons (se_ix (f := fIx) (ix_any (hu1 hr)) ok_ix (se_ix (f := fIx) (ix_any (hu1 hr)) ok_ix (se_v (pv 0)) se_int (fun _ _ => rfl)) se_int (fun _ _ => rfl)) sr_nil)) (se_bi (f := fLen) call_lenA ok_len (by rfl) T.b_len (by decide +kernel) (sr_cons (se_ix (f := fIx) (ix_any (hu1 hr)) ok_ix (se_ix (f := fIx) (ix_any (hu1 hr)) ok_ix (se_v (pv 2)) se_int (fun _ _ => rfl)) se_int (fun _ _ => rfl)) sr_nil))) sr_nil)) (sg_n (i := 5) S.nd rfl (by first | exact Or.inl rfl | exact Or.inr rfl)) (ss_cons (ss_if (st_cmp (f := fGe) op_ge ok_CmpI (se_v (pv 5)) (se_bi (f := fLen) call_lenA ok_len (by rfl) T.b_len (by decide +kernel) (sr_cons (se_v (pv 4)) sr_nil)) (nomark _)) (ss_one (ss_ret se_bl)) ss_nil)
    (ss_cons (ss_unp (se_ix (f := fIx) (ix_any (hu1 hr)) ok_ix (se_v (pv 4)) (se_v (pv 5)) (fun _ _ => rfl)) (sg_tup rfl (sg_cons (sg_n (i := 6) S.nd rfl (by first | exact Or.inl rfl | exact Or.inr rfl)) (sg_cons (sg_n (i := 7) S.nd rfl (by first | exact Or.inl rfl | exact Or.inr rfl)) sg_nil))))
    (ss_cons (ss_if (st_cmp (f := fNe) (op_neD hr.units) ok_ne (se_call (ok_law_mark.mono (by first | omega | (simp only [Nat.add_eq]; omega))) hr rfl mg_law_mark fn_law_mark.kp (fn_law_mark.binds (ps := ["labelled", "square"]) fun _ _ _ _ _ _ us hl => match us, hl with | [_, _], _ => rfl) (sr_cons (se_v (pv 0)) (sr_cons (se_v (pv 6)) sr_nil))) (se_call (ok_law_mark.mono (by first | omega | (simp only [Nat.add_eq]; omega))) hr rfl mg_law_mark fn_law_mark.kp (fn_law_mark.binds (ps := ["labelled", "square"]) fun _ _ _ _ _ _ us hl => match us, hl with | [_, _], _ => rfl) (sr_cons (se_v (pv 2)) (sr_cons (se_v (pv 7)) sr_nil))) (nomark _)) (ss_one (ss_ret se_bl)) ss_nil)
    (ss_one (ss_for PassesOwn.never rfl (si_seq (se_tup (sd_cons (se_tup (sd_cons (se_ix (f := fIx) (ix_any (hu1 hr)) ok_ix (se_ix (f := fIx) (ix_any (hu1 hr)) ok_ix (se_ix (f := fIx) (ix_any (hu1 hr)) ok_ix (se_v (pv 0)) se_int (fun _ _ => rfl)) se_int (fun _ _ => rfl)) (se_v (pv 6)) (fun _ _ => rfl)) (sd_cons (se_ix (f := fIx) (ix_any (hu1 hr)) ok_ix (se_ix (f := fIx) (ix_any (hu1 hr)) ok_ix (se_ix (f := fIx) (ix_any (hu1 hr)) ok_ix (se_v (pv 2)) se_int (fun _ _ => rfl)) se_int (fun _ _ => rfl)) (se_v (pv 7)) (fun _ _ => rfl)) sd_nil))) (sd_cons (se_tup (sd_cons (se_ix (f := fIx) (ix_any (hu1 hr)) ok_ix (se_ix (f := fIx) (ix_any (hu1 hr)) ok_ix (se_ix (f := fIx) (ix_any (hu1 hr)) ok_ix (se_v (pv 0)) se_int (fun _ _ => rfl)) se_int (fun _ _ => rfl)) (se_v (pv 6)) (fun _ _ => rfl)) (sd_cons (se_ix (f := fIx) (ix_any (hu1 hr)) ok_ix (se_ix (f := fIx) (ix_any (hu1 hr)) ok_ix (se_ix (f := fIx) (ix_any (hu1 hr)) ok_ix (se_v (pv 2)) se_int (fun _ _ => rfl)) se_int (fun _ _ => rfl)) (se_v (pv 7)) (fun _ _ => rfl)) sd_nil))) sd_nil)))) (sg_n (i := 8) S.nd rfl (by first | exact Or.inl rfl | exact Or.inr rfl)) (ss_one (ss_set (i := 4) S.nd rfl (by first | exact Or.inl rfl | exact Or.inr rfl) (se_op2 (f := fAdd) op_addA ok_add (se_v (pv 4)) (se_ifE (st_cmp (f := (fInB true)) (op_notInC (hu65 hr)) ok_in (se_v (pv 8)) (se_v (pv 4)) (by rfl)) (se_lst (sd_cons (se_v (pv 8)) sd_nil)) (se_lst sd_nil)))))))))))
    (ss_one (ss_ret se_bl))))
end
/-! _law_cover -/
theorem S_law_cover : FnScope ["bag", "base", "degree", "many", "orders", "rows", "lap", "apart", "k", "side", "one"] ["bag", "base", "degree"] (defScope s_law_cover) := ⟨rfl, rfl, rfl, by decide +kernel, rfl, by decide +kernel, by decide +kernel⟩
noncomputable def F_law_cover : Fn BagT := trimF <| runF 3 11 (mSeq (mSet 3 (mBi fLen (mCons (mOp2 fIx (mV 1) (mC (.int 0))) (mNil))))
    (mSeq (mSet 4 (mComp [9] (mRng fR1 (mCons (mC (.int 2)) (mNil))) (tmN 9) (mYes) (mD (mComp [8] (mRng fR1 (mCons (mV 3) (mNil))) (tmN 8) (mYes) (mD (mCall F_law_shuffle (mCons (mV 0) (mCons (mV 2) (mNil)))))))))
    (mSeq (mSet 5 (mComp [9] (mRng fR1 (mCons (mC (.int 2)) (mNil))) (tmN 9) (mYes) (mD (mNew (mComp [8] (mRng fR1 (mCons (mOp2 fMul (mV 3) (mV 2)) (mNil))) (tmN 8) (mYes) (mD (mOp2 fAdd (mOp2 fIx (mOp2 fIx (mV 1) (mV 9)) (mOp2 fMod (mV 8) (mV 3))) (mOp2 fMul (mV 3) (mOp2 fIx (mOp2 fIx (mOp2 fIx (mV 4) (mV 9)) (mOp2 fMod (mV 8) (mV 3))) (mOp2 fDiv (mV 8) (mV 3)))))))))))
    (mSeq (mFor (mRng fR1 (mCons (mOp2 fMul (mV 3) (mV 2)) (mNil))) (tmN 6) (mSeq (mSet 7 (mComp [8] (mRng fR1 (mCons (mOp2 fMul (mV 3) (mV 2)) (mNil))) (tmN 8) (mBl (mOp2 (fInB true) (mV 8) (mCall F_law_reached (mCons (mOp2 fIx (mV 5) (mC (.int 0))) (mCons (mOp2 fIx (mV 5) (mC (.int 1))) (mNil)))))) (mD (mV 8))))
    (mIf (mBl (mOp2 fNe (mV 7) (mLst (mNil)))) (mSeq (mSet 8 (mOp2 fIx (mComp [10] (mIt (mV 7)) (tmN 10) (mBl (mOp2 fEq (mOp2 fMod (mV 10) (mV 3)) (mC (.int 0)))) (mD (mV 10))) (mC (.int 0))))
    (mPut (mTup (mCons (mD (mOp2 fIx (mLk (mOp2 fIx (mV 5) (mC (.int 1)))) (mC (.int 0)))) (mCons (mD (mOp2 fIx (mLk (mOp2 fIx (mV 5) (mC (.int 1)))) (mV 8))) (mNil)))) (tmT (tmCons (tmLoc (mOp2 fIx (mV 5) (mC (.int 1))) (mV 8)) (tmCons (tmLoc (mOp2 fIx (mV 5) (mC (.int 1))) (mC (.int 0))) (tmNil))) 2))) (mSkip))))
    (mRet (mTup (mCons (mD (mOp2 fIx (mV 5) (mC (.int 0)))) (mCons (mD (mOp2 fIx (mV 5) (mC (.int 1)))) (mNil)))))))))
section
variable {P : Program} {mg : Str → Option Value} {base : Heap}
theorem W_law_cover (T : Txt Wrt.K mg) (D_law_shuffle : M.Ok P Wrt.w Wrt.K mg base 2 "_law_shuffle" s_law_shuffle ["bag", "many"] F_law_shuffle) (D_law_reached : M.Ok P Wrt.w Wrt.K mg base 1 "_law_reached" s_law_reached ["right", "above"] F_law_reached) : M.Ok P Wrt.w Wrt.K mg base 3 "_law_cover" s_law_cover ["bag", "base", "degree"] F_law_cover := M.Ok.trim <| M.Ok.of T.d_law_cover S_law_cover fun f fd cdv A outer s H E hr => by
  have S := S_law_cover
  obtain ⟨_, _, mg_law_shuffle, fn_law_shuffle, ok_law_shuffle⟩ := D_law_shuffle
  obtain ⟨_, _, mg_law_reached, fn_law_reached, ok_law_reached⟩ := D_law_reached
  exact (ss_cons (ss_set (i := 3) S.nd rfl (by first | exact Or.inl rfl | exact Or.inr rfl) (se_bi (f := fLen) call_lenA ok_len (by rfl) T.b_len (by decide +kernel) (sr_cons (se_ix (f := fIx) (ix_any (hu1 hr)) ok_ix (se_v (pv 1)) se_int (fun _ _ => rfl)) sr_nil)))
    (ss_cons (ss_set (i := 4) S.nd rfl (by first | exact Or.inl rfl | exact Or.inr rfl) (se_comp (own := [("side", 9)]) rfl S.nd (si_rng1 (by rfl) T.b_range (sr_cons se_int sr_nil)) (blkOk_by (own := [("side", 9)]) (N := ["bag", "base", "degree", "many", "orders", "rows", "lap", "apart", "k", "side", "one"]) (sc := defScope s_law_cover) (by decide +kernel)) (by decide) tgv_n (fun _ _ _ _ _ => (sg_n (i := 9) S.nd rfl (by first | exact Or.inl rfl | exact Or.inr rfl))) (fun _ _ _ _ _ => sts_nil) (fun _ _ _ _ _ => (se_comp (own := [("k", 8)]) rfl S.nd (si_rng1 (by rfl) T.b_range (sr_cons (se_v (pv 3)) sr_nil)) (blkOk_by (own := [("k", 8)]) (N := ["bag", "base", "degree", "many", "orders", "rows", "lap", "apart", "k", "side", "one"]) (sc := relS _ (defScope s_law_cover)) (by decide +kernel)) (by decide) tgv_n (fun _ _ _ _ _ => (sg_n (i := 8) S.nd rfl (by first | exact Or.inl rfl | exact Or.inr rfl))) (fun _ _ _ _ _ => sts_nil) (fun _ _ _ _ _ => (se_call (ok_law_shuffle.mono (by first | omega | (simp only [Nat.add_eq]; omega))) hr rfl mg_law_shuffle fn_law_shuffle.kp (fn_law_shuffle.binds (ps := ["bag", "many"]) fun _ _ _ _ _ _ us hl => match us, hl with | [_, _], _ => rfl) (sr_cons (se_v (pv 0)) (sr_cons (se_v (pv 2)) sr_nil))))))))
    (ss_cons (ss_set (i := 5) S.nd rfl (by first | exact Or.inl rfl | exact Or.inr rfl) (se_comp (own := [("side", 9)]) rfl S.nd (si_rng1 (by rfl) T.b_range (sr_cons se_int sr_nil)) (blkOk_by (own := [("side", 9)]) (N := ["bag", "base", "degree", "many", "orders", "rows", "lap", "apart", "k", "side", "one"]) (sc := defScope s_law_cover) (by decide +kernel)) (by decide) tgv_n (fun _ _ _ _ _ => (sg_n (i := 9) S.nd rfl (by first | exact Or.inl rfl | exact Or.inr rfl))) (fun _ _ _ _ _ => sts_nil) (fun _ _ _ _ _ => (se_new (se_comp (own := [("k", 8)]) rfl S.nd (si_rng1 (by rfl) T.b_range (sr_cons (se_op2 (f := fMul) op_mul (ok_I cMul_ok) (se_v (pv 3)) (se_v (pv 2))) sr_nil)) (blkOk_by (own := [("k", 8)]) (N := ["bag", "base", "degree", "many", "orders", "rows", "lap", "apart", "k", "side", "one"]) (sc := relS _ (defScope s_law_cover)) (by decide +kernel)) (by decide) tgv_n (fun _ _ _ _ _ => (sg_n (i := 8) S.nd rfl (by first | exact Or.inl rfl | exact Or.inr rfl))) (fun _ _ _ _ _ => sts_nil) (fun _ _ _ _ _ => (se_op2 (f := fAdd) op_addA ok_add (se_ix (f := fIx) (ix_any (hu1 hr)) ok_ix (se_ix (f := fIx) (ix_any (hu1 hr)) ok_ix (se_v (pv 1)) (se_v (pv 9)) (fun _ _ => rfl)) (se_op2 (f := fMod) op_mod ok_mod (se_v (pv 8)) (se_v (pv 3))) (fun _ _ => rfl)) (se_op2 (f := fMul) op_mul (ok_I cMul_ok) (se_v (pv 3)) (se_ix (f := fIx) (ix_any (hu1 hr)) ok_ix (se_ix (f := fIx) (ix_any (hu1 hr)) ok_ix (se_ix (f := fIx) (ix_any (hu1 hr)) ok_ix (se_v (pv 4)) (se_v (pv 9)) (fun _ _ => rfl)) (se_op2 (f := fMod) op_mod ok_mod (se_v (pv 8)) (se_v (pv 3))) (fun _ _ => rfl)) (se_op2 (f := fDiv) op_fdivW (ok_I cDiv_ok) (se_v (pv 8)) (se_v (pv 3))) (fun _ _ => rfl))))))))))
    (ss_cons (ss_for PassesOwn.never rfl (si_rng1 (by rfl) T.b_range (sr_cons (se_op2 (f := fMul) op_mul (ok_I cMul_ok) (se_v (pv 3)) (se_v (pv 2))) sr_nil)) (sg_n (i := 6) S.nd rfl (by first | exact Or.inl rfl | exact Or.inr rfl)) (ss_cons (ss_setLc (i := 7) (own := [("k", 8)]) rfl S.nd rfl rfl (sw_true rfl rfl rfl (by decide +kernel)) (si_rng1 (by rfl) T.b_range (sr_cons (se_op2 (f := fMul) op_mul (ok_I cMul_ok) (se_v (pv 3)) (se_v (pv 2))) sr_nil)) (blkOk_by (own := [("k", 8)]) (N := ["bag", "base", "degree", "many", "orders", "rows", "lap", "apart", "k", "side", "one"]) (sc := defScope s_law_cover) (by decide +kernel)) (by decide) tgv_n (fun _ _ _ _ _ => (sg_n (i := 8) S.nd rfl (by first | exact Or.inl rfl | exact Or.inr rfl))) (fun _ _ _ _ _ => (sts_one (st_cmp (f := (fInB true)) (op_notInC (hu65 hr)) ok_in (se_v (pv 8)) (se_call (ok_law_reached.mono (by first | omega | (simp only [Nat.add_eq]; omega))) hr rfl mg_law_reached fn_law_reached.kp (fn_law_reached.binds (ps := ["right", "above"]) fun _ _ _ _ _ _ us hl => match us, hl with | [_, _], _ => rfl) (sr_cons (se_ix (f := fIx) (ix_any (hu1 hr)) ok_ix (se_v (pv 5)) se_int (fun _ _ => rfl)) (sr_cons (se_ix (f := fIx) (ix_any (hu1 hr)) ok_ix (se_v (pv 5)) se_int (fun _ _ => rfl)) sr_nil))) (by rfl)))) (fun _ _ _ _ _ => (se_v (pv 8))))
    (ss_one (ss_if (st_cmp (f := fNe) (op_neD hr.units) ok_ne (se_v (pv 7)) (se_lst sd_nil) (nomark _)) (ss_cons (ss_set (i := 8) S.nd rfl (by first | exact Or.inl rfl | exact Or.inr rfl) (se_ix (f := fIx) (ix_any (hu1 hr)) ok_ix (se_comp (own := [("one", 10)]) rfl S.nd (si_seq (se_v (pv 7))) (blkOk_by (own := [("one", 10)]) (N := ["bag", "base", "degree", "many", "orders", "rows", "lap", "apart", "k", "side", "one"]) (sc := defScope s_law_cover) (by decide +kernel)) (by decide) tgv_n (fun _ _ _ _ _ => (sg_n (i := 10) S.nd rfl (by first | exact Or.inl rfl | exact Or.inr rfl))) (fun _ _ _ _ _ => (sts_one (st_cmp (f := fEq) (op_eqD hr.units) ok_eq (se_op2 (f := fMod) op_mod ok_mod (se_v (pv 10)) (se_v (pv 3))) se_int (nomark _)))) (fun _ _ _ _ _ => (se_v (pv 10)))) se_int (fun _ _ => rfl)))
    (ss_one (ss_put (se_tup (sd_cons (se_ix (f := fIx) (ix_any (hu1 hr)) ok_ix (se_lk (se_ix (f := fIx) (ix_any (hu1 hr)) ok_ix (se_v (pv 5)) se_int (fun _ _ => rfl))) se_int (fun _ _ => rfl)) (sd_cons (se_ix (f := fIx) (ix_any (hu1 hr)) ok_ix (se_lk (se_ix (f := fIx) (ix_any (hu1 hr)) ok_ix (se_v (pv 5)) se_int (fun _ _ => rfl))) (se_v (pv 8)) (fun _ _ => rfl)) sd_nil))) (sgs_tup rfl (sgs_cons (sg_loc (hu1 hr) (se_ix (f := fIx) (ix_any (hu1 hr)) ok_ix (se_v (pv 5)) se_int (fun _ _ => rfl)) (se_v (pv 8))) (sgs_cons (sg_loc (hu1 hr) (se_ix (f := fIx) (ix_any (hu1 hr)) ok_ix (se_v (pv 5)) se_int (fun _ _ => rfl)) se_int) sgs_nil)))))) ss_nil))))
    (ss_one (ss_ret (se_tup (sd_cons (se_ix (f := fIx) (ix_any (hu1 hr)) ok_ix (se_v (pv 5)) se_int (fun _ _ => rfl)) (sd_cons (se_ix (f := fIx) (ix_any (hu1 hr)) ok_ix (se_v (pv 5)) se_int (fun _ _ => rfl)) sd_nil)))))))))
end
/-! _law_covers -/
theorem S_law_covers : FnScope ["bag", "most", "degrees", "many", "right", "above", "lap", "apart", "rows", "flats", "row", "base", "size", "rights", "tops", "out", "board", "k", "degree"] ["bag", "most", "degrees"] (defScope s_law_covers) := ⟨rfl, rfl, rfl, by decide +kernel, rfl, by decide +kernel, by decide +kernel⟩
noncomputable def F_law_covers : Fn BagT := runF 3 19 (mSeq (mSet 3 (mOp2 fAdd (mC (.int 1)) (mCall F_draw (mCons (mV 0) (mCons (mV 1) (mNil))))))
    (mSeq (mPars [4, 5] (mCons (mH (mCall F_law_shuffle (mCons (mV 0) (mCons (mV 3) (mNil))))) (mCons (mH (mCall F_law_shuffle (mCons (mV 0) (mCons (mV 3) (mNil))))) (mNil))))
    (mSeq (mFor (mRng fR1 (mCons (mV 3) (mNil))) (tmN 6) (mSeq (mSet 7 (mComp [17] (mRng fR1 (mCons (mV 3) (mNil))) (tmN 17) (mBl (mOp2 (fInB true) (mV 17) (mCall F_law_reached (mCons (mV 4) (mCons (mV 5) (mNil)))))) (mD (mV 17))))
    (mIf (mBl (mOp2 fNe (mV 7) (mLst (mNil)))) (mPut (mTup (mCons (mD (mOp2 fIx (mV 5) (mC (.int 0)))) (mCons (mD (mOp2 fIx (mV 5) (mOp2 fIx (mV 7) (mC (.int 0))))) (mNil)))) (tmT (tmCons (tmSub 5 (mOp2 fIx (mV 7) (mC (.int 0)))) (tmCons (tmSub 5 (mC (.int 0))) (tmNil))) 2)) (mSkip))))
    (mSeq (mSet 8 (mComp [18] (mIt (mV 2)) (tmN 18) (mYes) (mD (mCall F_law_cover (mCons (mV 0) (mCons (mTup (mCons (mD (mV 4)) (mCons (mD (mV 5)) (mNil)))) (mCons (mV 18) (mNil))))))))
    (mSeq (mSet 9 (mComp [17] (mRng fR1 (mCons (mV 3) (mNil))) (tmN 17) (mBl (mOp2 fEq (mCall F_draw (mCons (mV 0) (mCons (mC (.int 4)) (mNil)))) (mC (.int 0)))) (mD (mV 17))))
    (mSeq (mFor (mIt (mV 8)) (tmN 10) (mSet 9 (mOp2 fAdd (mV 9) (mComp [17] (mIt (mCall F_law_ends (mCons (mOp2 fIx (mV 10) (mC (.int 0))) (mCons (mOp2 fIx (mV 10) (mC (.int 1))) (mNil))))) (tmN 17) (mYes) (mD (mOp2 fMod (mV 17) (mV 3)))))))
    (mSeq (mPars [11, 12] (mCons (mH (mCall F_law_board_of (mCons (mV 4) (mCons (mV 5) (mCons (mV 9) (mNil)))))) (mCons (mH (mCall F_law_pick (mCons (mV 0) (mCons (mLst (mCons (mD (mC (.int 1))) (mCons (mD (mC (.int 2))) (mCons (mD (mC (.int 3))) (mCons (mD (mC (.int 100))) (mNil)))))) (mNil))))) (mNil))))
    (mSeq (mPars [13, 14] (mCons (mH (mComp [17] (mRng fR1 (mCons (mV 3) (mNil))) (tmN 17) (mYes) (mD (mCall F_draw (mCons (mV 0) (mCons (mV 12) (mNil))))))) (mCons (mH (mComp [17] (mRng fR1 (mCons (mV 3) (mNil))) (tmN 17) (mYes) (mD (mCall F_draw (mCons (mV 0) (mCons (mV 12) (mNil))))))) (mNil))))
    (mSeq (mSet 15 (mLst (mCons (mD (mTup (mCons (mD (mV 11)) (mCons (mD (mBi fTuple (mCons (mV 13) (mNil)))) (mCons (mD (mBi fTuple (mCons (mV 14) (mNil)))) (mNil)))))) (mNil))))
    (mSeq (mFor (mIt (mV 8)) (tmN 10) (mSeq (mSet 12 (mBi fLen (mCons (mOp2 fIx (mV 10) (mC (.int 0))) (mNil))))
    (mSeq (mSet 16 (mCall F_law_board_of (mCons (mOp2 fIx (mV 10) (mC (.int 0))) (mCons (mOp2 fIx (mV 10) (mC (.int 1))) (mCons (mComp [17] (mRng fR1 (mCons (mV 12) (mNil))) (tmN 17) (mBl (mOp2 (fInB false) (mOp2 fMod (mV 17) (mV 3)) (mOp2 fIx (mV 11) (mC (.int 2))))) (mD (mV 17))) (mNil))))))
    (mEx (mOwn 15 fAppend (mCons (mD (mTup (mCons (mD (mV 16)) (mCons (mD (mBi fTuple (mCons (mComp [17] (mRng fR1 (mCons (mV 12) (mNil))) (tmN 17) (mYes) (mD (mOp2 fIx (mV 13) (mOp2 fMod (mV 17) (mV 3))))) (mNil)))) (mCons (mD (mBi fTuple (mCons (mComp [17] (mRng fR1 (mCons (mV 12) (mNil))) (tmN 17) (mYes) (mD (mOp2 fIx (mV 14) (mOp2 fMod (mV 17) (mV 3))))) (mNil)))) (mNil)))))) (mNil)))))))
    (mRet (mV 15))))))))))))
section
variable {P : Program} {mg : Str → Option Value} {base : Heap}
theorem W_law_covers (T : Txt Wrt.K mg) (D_law_draw : M.Ok P Wrt.w Wrt.K mg base 1 "_law_draw" s_law_draw ["bag", "many"] F_draw) (D_law_shuffle : M.Ok P Wrt.w Wrt.K mg base 2 "_law_shuffle" s_law_shuffle ["bag", "many"] F_law_shuffle) (D_law_reached : M.Ok P Wrt.w Wrt.K mg base 1 "_law_reached" s_law_reached ["right", "above"] F_law_reached) (D_law_cover : M.Ok P Wrt.w Wrt.K mg base 3 "_law_cover" s_law_cover ["bag", "base", "degree"] F_law_cover) (D_law_ends : M.Ok P Wrt.w Wrt.K mg base 3 "_law_ends" s_law_ends ["right", "above"] F_law_ends) (D_law_pick : M.Ok P Wrt.w Wrt.K mg base 2 "_law_pick" s_law_pick ["bag", "some"] F_law_pick) (D_law_board_of : M.Ok P Wrt.w Wrt.K mg base 4 "_law_board_of" s_law_board_of ["right", "above", "flats"] F_law_board_of) : M.Ok P Wrt.w Wrt.K mg base 5 "_law_covers" s_law_covers ["bag", "most", "degrees"] F_law_covers := M.Ok.of T.d_law_covers S_law_covers fun f fd cdv A outer s H E hr => by
  have S := S_law_covers
  obtain ⟨_, _, mg_law_draw, fn_law_draw, ok_law_draw⟩ := D_law_draw
  obtain ⟨_, _, mg_law_shuffle, fn_law_shuffle, ok_law_shuffle⟩ := D_law_shuffle
  obtain ⟨_, _, mg_law_reached, fn_law_reached, ok_law_reached⟩ := D_law_reached
  obtain ⟨_, _, mg_law_cover, fn_law_cover, ok_law_cover⟩ := D_law_cover
  obtain ⟨_, _, mg_law_ends, fn_law_ends, ok_law_ends⟩ := D_law_ends
  obtain ⟨_, _, mg_law_pick, fn_law_pick, ok_law_pick⟩ := D_law_pick
  obtain ⟨_, _, mg_law_board_of, fn_law_board_of, ok_law_board_of⟩ := D_law_board_of
  exact (ss_cons (ss_set (i := 3) S.nd rfl (by first | exact Or.inl rfl | exact Or.inr rfl) (se_op2 (f := fAdd) op_addA ok_add se_int (se_call (ok_law_draw.mono (by first | omega | (simp only [Nat.add_eq]; omega))) hr rfl mg_law_draw fn_law_draw.kp (fn_law_draw.binds (ps := ["bag", "many"]) fun _ _ _ _ _ _ us hl => match us, hl with | [_, _], _ => rfl) (sr_cons (se_v (pv 0)) (sr_cons (se_v (pv 1)) sr_nil)))))
    (ss_cons (ss_parT (is := [4, 5]) rfl (sra_cons (se_call (ok_law_shuffle.mono (by first | omega | (simp only [Nat.add_eq]; omega))) hr rfl mg_law_shuffle fn_law_shuffle.kp (fn_law_shuffle.binds (ps := ["bag", "many"]) fun _ _ _ _ _ _ us hl => match us, hl with | [_, _], _ => rfl) (sr_cons (se_v (pv 0)) (sr_cons (se_v (pv 3)) sr_nil))) (sra_cons (se_call (ok_law_shuffle.mono (by first | omega | (simp only [Nat.add_eq]; omega))) hr rfl mg_law_shuffle fn_law_shuffle.kp (fn_law_shuffle.binds (ps := ["bag", "many"]) fun _ _ _ _ _ _ us hl => match us, hl with | [_, _], _ => rfl) (sr_cons (se_v (pv 0)) (sr_cons (se_v (pv 3)) sr_nil))) sra_nil)) (pgs_cons (pg_name (i := 4) S.nd rfl (by first | exact Or.inl rfl | exact Or.inr rfl)) (pgs_cons (pg_name (i := 5) S.nd rfl (by first | exact Or.inl rfl | exact Or.inr rfl)) pgs_nil)) (by decide) rfl)
    (ss_cons (ss_for PassesOwn.never rfl (si_rng1 (by rfl) T.b_range (sr_cons (se_v (pv 3)) sr_nil)) (sg_n (i := 6) S.nd rfl (by first | exact Or.inl rfl | exact Or.inr rfl)) (ss_cons (ss_setLc (i := 7) (own := [("k", 17)]) rfl S.nd rfl rfl (sw_true rfl rfl rfl (by decide +kernel)) (si_rng1 (by rfl) T.b_range (sr_cons (se_v (pv 3)) sr_nil)) (blkOk_by (own := [("k", 17)]) (N := ["bag", "most", "degrees", "many", "right", "above", "lap", "apart", "rows", "flats", "row", "base", "size", "rights", "tops", "out", "board", "k", "degree"]) (sc := defScope s_law_covers) (by decide +kernel)) (by decide) tgv_n (fun _ _ _ _ _ => (sg_n (i := 17) S.nd rfl (by first | exact Or.inl rfl | exact Or.inr rfl))) (fun _ _ _ _ _ => (sts_one (st_cmp (f := (fInB true)) (op_notInC (hu65 hr)) ok_in (se_v (pv 17)) (se_call (ok_law_reached.mono (by first | omega | (simp only [Nat.add_eq]; omega))) hr rfl mg_law_reached fn_law_reached.kp (fn_law_reached.binds (ps := ["right", "above"]) fun _ _ _ _ _ _ us hl => match us, hl with | [_, _], _ => rfl) (sr_cons (se_v (pv 4)) (sr_cons (se_v (pv 5)) sr_nil))) (by rfl)))) (fun _ _ _ _ _ => (se_v (pv 17))))
    (ss_one (ss_if (st_cmp (f := fNe) (op_neD hr.units) ok_ne (se_v (pv 7)) (se_lst sd_nil) (nomark _)) (ss_one (ss_put (se_tup (sd_cons (se_ix (f := fIx) (ix_any (hu1 hr)) ok_ix (se_v (pv 5)) se_int (fun _ _ => rfl)) (sd_cons (se_ix (f := fIx) (ix_any (hu1 hr)) ok_ix (se_v (pv 5)) (se_ix (f := fIx) (ix_any (hu1 hr)) ok_ix (se_v (pv 7)) se_int (fun _ _ => rfl)) (fun _ _ => rfl)) sd_nil))) (sgs_tup rfl (sgs_cons (sg_sub (i := 5) (hu1 hr) (pv 5) (se_ix (f := fIx) (ix_any (hu1 hr)) ok_ix (se_v (pv 7)) se_int (fun _ _ => rfl))) (sgs_cons (sg_sub (i := 5) (hu1 hr) (pv 5) se_int) sgs_nil))))) ss_nil))))
    (ss_cons (ss_setLc (i := 8) (own := [("degree", 18)]) rfl S.nd rfl rfl (sw_true rfl rfl rfl (by decide +kernel)) (si_seq (se_v (pv 2))) (blkOk_by (own := [("degree", 18)]) (N := ["bag", "most", "degrees", "many", "right", "above", "lap", "apart", "rows", "flats", "row", "base", "size", "rights", "tops", "out", "board", "k", "degree"]) (sc := defScope s_law_covers) (by decide +kernel)) (by decide) tgv_n (fun _ _ _ _ _ => (sg_n (i := 18) S.nd rfl (by first | exact Or.inl rfl | exact Or.inr rfl))) (fun _ _ _ _ _ => sts_nil) (fun _ _ _ _ _ => (se_call (ok_law_cover.mono (by first | omega | (simp only [Nat.add_eq]; omega))) hr rfl mg_law_cover fn_law_cover.kp (fn_law_cover.binds (ps := ["bag", "base", "degree"]) fun _ _ _ _ _ _ us hl => match us, hl with | [_, _, _], _ => rfl) (sr_cons (se_v (pv 0)) (sr_cons (se_tup (sd_cons (se_v (pv 4)) (sd_cons (se_v (pv 5)) sd_nil))) (sr_cons (se_v (pv 18)) sr_nil))))))
    (ss_cons (ss_setLc (i := 9) (own := [("k", 17)]) rfl S.nd rfl rfl (sw_true rfl rfl rfl (by decide +kernel)) (si_rng1 (by rfl) T.b_range (sr_cons (se_v (pv 3)) sr_nil)) (blkOk_by (own := [("k", 17)]) (N := ["bag", "most", "degrees", "many", "right", "above", "lap", "apart", "rows", "flats", "row", "base", "size", "rights", "tops", "out", "board", "k", "degree"]) (sc := defScope s_law_covers) (by decide +kernel)) (by decide) tgv_n (fun _ _ _ _ _ => (sg_n (i := 17) S.nd rfl (by first | exact Or.inl rfl | exact Or.inr rfl))) (fun _ _ _ _ _ => (sts_one (st_cmp (f := fEq) (op_eqD hr.units) ok_eq (se_call (ok_law_draw.mono (by first | omega | (simp only [Nat.add_eq]; omega))) hr rfl mg_law_draw fn_law_draw.kp (fn_law_draw.binds (ps := ["bag", "many"]) fun _ _ _ _ _ _ us hl => match us, hl with | [_, _], _ => rfl) (sr_cons (se_v (pv 0)) (sr_cons se_int sr_nil))) se_int (nomark _)))) (fun _ _ _ _ _ => (se_v (pv 17))))
    (ss_cons (ss_for PassesOwn.never rfl (si_seq (se_v (pv 8))) (sg_n (i := 10) S.nd rfl (by first | exact Or.inl rfl | exact Or.inr rfl)) (ss_one (ss_set (i := 9) S.nd rfl (by first | exact Or.inl rfl | exact Or.inr rfl) (se_op2 (f := fAdd) op_addA ok_add (se_v (pv 9)) (se_comp (own := [("k", 17)]) rfl S.nd (si_seq (se_call (ok_law_ends.mono (by first | omega | (simp only [Nat.add_eq]; omega))) hr rfl mg_law_ends fn_law_ends.kp (fn_law_ends.binds (ps := ["right", "above"]) fun _ _ _ _ _ _ us hl => match us, hl with | [_, _], _ => rfl) (sr_cons (se_ix (f := fIx) (ix_any (hu1 hr)) ok_ix (se_v (pv 10)) se_int (fun _ _ => rfl)) (sr_cons (se_ix (f := fIx) (ix_any (hu1 hr)) ok_ix (se_v (pv 10)) se_int (fun _ _ => rfl)) sr_nil)))) (blkOk_by (own := [("k", 17)]) (N := ["bag", "most", "degrees", "many", "right", "above", "lap", "apart", "rows", "flats", "row", "base", "size", "rights", "tops", "out", "board", "k", "degree"]) (sc := defScope s_law_covers) (by decide +kernel)) (by decide) tgv_n (fun _ _ _ _ _ => (sg_n (i := 17) S.nd rfl (by first | exact Or.inl rfl | exact Or.inr rfl))) (fun _ _ _ _ _ => sts_nil) (fun _ _ _ _ _ => (se_op2 (f := fMod) op_mod ok_mod (se_v (pv 17)) (se_v (pv 3)))))))))
    (ss_cons (ss_parT (is := [11, 12]) rfl (sra_cons (se_call (ok_law_board_of.mono (by first | omega | (simp only [Nat.add_eq]; omega))) hr rfl mg_law_board_of fn_law_board_of.kp (fn_law_board_of.binds (ps := ["right", "above", "flats"]) fun _ _ _ _ _ _ us hl => match us, hl with | [_, _, _], _ => rfl) (sr_cons (se_v (pv 4)) (sr_cons (se_v (pv 5)) (sr_cons (se_v (pv 9)) sr_nil)))) (sra_cons (se_call (ok_law_pick.mono (by first | omega | (simp only [Nat.add_eq]; omega))) hr rfl mg_law_pick fn_law_pick.kp (fn_law_pick.binds (ps := ["bag", "some"]) fun _ _ _ _ _ _ us hl => match us, hl with | [_, _], _ => rfl) (sr_cons (se_v (pv 0)) (sr_cons (se_lst (sd_cons se_int (sd_cons se_int (sd_cons se_int (sd_cons se_int sd_nil))))) sr_nil))) sra_nil)) (pgs_cons (pg_name (i := 11) S.nd rfl (by first | exact Or.inl rfl | exact Or.inr rfl)) (pgs_cons (pg_name (i := 12) S.nd rfl (by first | exact Or.inl rfl | exact Or.inr rfl)) pgs_nil)) (by decide) rfl)
    (ss_cons (ss_parT (is := [13, 14]) rfl (sra_cons (se_comp (own := [("k", 17)]) rfl S.nd (si_rng1 (by rfl) T.b_range (sr_cons (se_v (pv 3)) sr_nil)) (blkOk_by (own := [("k", 17)]) (N := ["bag", "most", "degrees", "many", "right", "above", "lap", "apart", "rows", "flats", "row", "base", "size", "rights", "tops", "out", "board", "k", "degree"]) (sc := defScope s_law_covers) (by decide +kernel)) (by decide) tgv_n (fun _ _ _ _ _ => (sg_n (i := 17) S.nd rfl (by first | exact Or.inl rfl | exact Or.inr rfl))) (fun _ _ _ _ _ => sts_nil) (fun _ _ _ _ _ => (se_call (ok_law_draw.mono (by first | omega | (simp only [Nat.add_eq]; omega))) hr rfl mg_law_draw fn_law_draw.kp (fn_law_draw.binds (ps := ["bag", "many"]) fun _ _ _ _ _ _ us hl => match us, hl with | [_, _], _ => rfl) (sr_cons (se_v (pv 0)) (sr_cons (se_v (pv 12)) sr_nil))))) (sra_cons (se_comp (own := [("k", 17)]) rfl S.nd (si_rng1 (by rfl) T.b_range (sr_cons (se_v (pv 3)) sr_nil)) (blkOk_by (own := [("k", 17)]) (N := ["bag", "most", "degrees", "many", "right", "above", "lap", "apart", "rows", "flats", "row", "base", "size", "rights", "tops", "out", "board", "k", "degree"]) (sc := defScope s_law_covers) (by decide +kernel)) (by decide) tgv_n (fun _ _ _ _ _ => (sg_n (i := 17) S.nd rfl (by first | exact Or.inl rfl | exact Or.inr rfl))) (fun _ _ _ _ _ => sts_nil) (fun _ _ _ _ _ => (se_call (ok_law_draw.mono (by first | omega | (simp only [Nat.add_eq]; omega))) hr rfl mg_law_draw fn_law_draw.kp (fn_law_draw.binds (ps := ["bag", "many"]) fun _ _ _ _ _ _ us hl => match us, hl with | [_, _], _ => rfl) (sr_cons (se_v (pv 0)) (sr_cons (se_v (pv 12)) sr_nil))))) sra_nil)) (pgs_cons (pg_name (i := 13) S.nd rfl (by first | exact Or.inl rfl | exact Or.inr rfl)) (pgs_cons (pg_name (i := 14) S.nd rfl (by first | exact Or.inl rfl | exact Or.inr rfl)) pgs_nil)) (by decide) rfl)
    (ss_cons (ss_set (i := 15) S.nd rfl (by first | exact Or.inl rfl | exact Or.inr rfl) (se_lst (sd_cons (se_tup (sd_cons (se_v (pv 11)) (sd_cons (se_ty (f := fTuple) call_tuple_of ok_tuple (by rfl) T.b_tuple (by decide +kernel) (sr_cons (se_v (pv 13)) sr_nil)) (sd_cons (se_ty (f := fTuple) call_tuple_of ok_tuple (by rfl) T.b_tuple (by decide +kernel) (sr_cons (se_v (pv 14)) sr_nil)) sd_nil)))) sd_nil)))
    (ss_cons (ss_for PassesOwn.never rfl (si_seq (se_v (pv 8))) (sg_n (i := 10) S.nd rfl (by first | exact Or.inl rfl | exact Or.inr rfl)) (ss_cons (ss_set (i := 12) S.nd rfl (by first | exact Or.inl rfl | exact Or.inr rfl) (se_bi (f := fLen) call_lenA ok_len (by rfl) T.b_len (by decide +kernel) (sr_cons (se_ix (f := fIx) (ix_any (hu1 hr)) ok_ix (se_v (pv 10)) se_int (fun _ _ => rfl)) sr_nil)))
    (ss_cons (ss_set (i := 16) S.nd rfl (by first | exact Or.inl rfl | exact Or.inr rfl) (se_call (ok_law_board_of.mono (by first | omega | (simp only [Nat.add_eq]; omega))) hr rfl mg_law_board_of fn_law_board_of.kp (fn_law_board_of.binds (ps := ["right", "above", "flats"]) fun _ _ _ _ _ _ us hl => match us, hl with | [_, _, _], _ => rfl) (sr_cons (se_ix (f := fIx) (ix_any (hu1 hr)) ok_ix (se_v (pv 10)) se_int (fun _ _ => rfl)) (sr_cons (se_ix (f := fIx) (ix_any (hu1 hr)) ok_ix (se_v (pv 10)) se_int (fun _ _ => rfl)) (sr_cons (se_comp (own := [("k", 17)]) rfl S.nd (si_rng1 (by rfl) T.b_range (sr_cons (se_v (pv 12)) sr_nil)) (blkOk_by (own := [("k", 17)]) (N := ["bag", "most", "degrees", "many", "right", "above", "lap", "apart", "rows", "flats", "row", "base", "size", "rights", "tops", "out", "board", "k", "degree"]) (sc := defScope s_law_covers) (by decide +kernel)) (by decide) tgv_n (fun _ _ _ _ _ => (sg_n (i := 17) S.nd rfl (by first | exact Or.inl rfl | exact Or.inr rfl))) (fun _ _ _ _ _ => (sts_one (st_cmp (f := (fInB false)) (op_inC (hu65 hr)) ok_in (se_op2 (f := fMod) op_mod ok_mod (se_v (pv 17)) (se_v (pv 3))) (se_ix (f := fIx) (ix_any (hu1 hr)) ok_ix (se_v (pv 11)) se_int (fun _ _ => rfl)) (by rfl)))) (fun _ _ _ _ _ => (se_v (pv 17)))) sr_nil)))))
    (ss_one (ss_ex (se_m (f := fAppend) ok_append mt_append PySem.F.slot_list_append PySem.F.type_list_append (pv 15) (sd_cons (se_tup (sd_cons (se_v (pv 16)) (sd_cons (se_ty (f := fTuple) call_tuple_of ok_tuple (by rfl) T.b_tuple (by decide +kernel) (sr_cons (se_comp (own := [("k", 17)]) rfl S.nd (si_rng1 (by rfl) T.b_range (sr_cons (se_v (pv 12)) sr_nil)) (blkOk_by (own := [("k", 17)]) (N := ["bag", "most", "degrees", "many", "right", "above", "lap", "apart", "rows", "flats", "row", "base", "size", "rights", "tops", "out", "board", "k", "degree"]) (sc := defScope s_law_covers) (by decide +kernel)) (by decide) tgv_n (fun _ _ _ _ _ => (sg_n (i := 17) S.nd rfl (by first | exact Or.inl rfl | exact Or.inr rfl))) (fun _ _ _ _ _ => sts_nil) (fun _ _ _ _ _ => (se_ix (f := fIx) (ix_any (hu1 hr)) ok_ix (se_v (pv 13)) (se_op2 (f := fMod) op_mod ok_mod (se_v (pv 17)) (se_v (pv 3))) (fun _ _ => rfl)))) sr_nil)) (sd_cons (se_ty (f := fTuple) call_tuple_of ok_tuple (by rfl) T.b_tuple (by decide +kernel) (sr_cons (se_comp (own := [("k", 17)]) rfl S.nd (si_rng1 (by rfl) T.b_range (sr_cons (se_v (pv 12)) sr_nil)) (blkOk_by (own := [("k", 17)]) (N := ["bag", "most", "degrees", "many", "right", "above", "lap", "apart", "rows", "flats", "row", "base", "size", "rights", "tops", "out", "board", "k", "degree"]) (sc := defScope s_law_covers) (by decide +kernel)) (by decide) tgv_n (fun _ _ _ _ _ => (sg_n (i := 17) S.nd rfl (by first | exact Or.inl rfl | exact Or.inr rfl))) (fun _ _ _ _ _ => sts_nil) (fun _ _ _ _ _ => (se_ix (f := fIx) (ix_any (hu1 hr)) ok_ix (se_v (pv 14)) (se_op2 (f := fMod) op_mod ok_mod (se_v (pv 17)) (se_v (pv 3))) (fun _ _ => rfl)))) sr_nil)) sd_nil)))) sd_nil)))))))
    (ss_one (ss_ret (se_v (pv 15))))))))))))))
end
/-! law -/
theorem S_law : FnScope ["script", "bag", "turn", "board", "size", "labelled", "many", "made", "i", "j", "due", "answer", "k", "one"] ["script"] (defScope s_law) := ⟨rfl, rfl, rfl, by decide +kernel, rfl, by decide +kernel, by decide +kernel⟩
abbrev tail_law : List Stmt := match defBody s_law with
  | _ :: r => r
  | [] => []
noncomputable def F_law : Ms BagT :=
    mSeq (mFor (mRng fR1 (mCons (mC (.int 3)) (mNil))) (tmN 2) (mSeq (mIf (mBl (mOp2 fEq (mCall F_draw (mCons (mV 1) (mCons (mC (.int 2)) (mNil)))) (mC (.int 0)))) (mSeq (mPars [3, 4] (mCons (mH (mCall F_law_board (mCons (mV 1) (mCons (mC (.int 10)) (mNil))))) (mCons (mH (mCall F_law_pick (mCons (mV 1) (mCons (mLst (mCons (mD (mC (.int 1))) (mCons (mD (mC (.int 1))) (mCons (mD (mC (.int 2))) (mCons (mD (mC (.int 100))) (mNil)))))) (mNil))))) (mNil))))
    (mSet 5 (mTup (mCons (mD (mV 3)) (mCons (mD (mBi fTuple (mCons (mComp [12] (mIt (mOp2 fIx (mV 3) (mC (.int 0)))) (tmN 12) (mYes) (mD (mCall F_draw (mCons (mV 1) (mCons (mV 4) (mNil)))))) (mNil)))) (mCons (mD (mBi fTuple (mCons (mComp [12] (mIt (mOp2 fIx (mV 3) (mC (.int 0)))) (tmN 12) (mYes) (mD (mCall F_draw (mCons (mV 1) (mCons (mV 4) (mNil)))))) (mNil)))) (mNil))))))) (mSet 5 (mOp2 fIx (mCall F_law_covers (mCons (mV 1) (mCons (mC (.int 2)) (mCons (mLst (mCons (mD (mOp2 fAdd (mC (.int 1)) (mCall F_draw (mCons (mV 1) (mCons (mC (.int 4)) (mNil)))))) (mNil))) (mNil))))) (mC (.int 1)))))
    (mSeq (mSet 6 (mBi fLen (mCons (mOp2 fIx (mV 5) (mC (.int 1))) (mNil))))
    (mSeq (mSet 7 (mIfE (mBl (mOp2 fGt (mV 2) (mC (.int 0)))) (mCall F_least_board (mCons (mV 5) (mNil))) (mCallK F_least_board [0] 0 1 mNil (mCons (mV 5) (mNil)))))
    (mSeq (mIf (mOr (mNot (mTr (mOp1 (fIsi "tuple") (mV 7)))) (mOr (mBl (mOp2 fNe (mBi fLen (mCons (mV 7) (mNil))) (mC (.int 2)))) (mOr (mNot (mTr (mOp1 (fIsi "tuple") (mOp2 fIx (mV 7) (mC (.int 1)))))) (mOr (mBl (mOp2 fNe (mBi fLen (mCons (mOp2 fIx (mV 7) (mC (.int 1))) (mNil))) (mV 6))) (mBl (mOp2 fNe (mComp [13] (mIt (mOp2 fIx (mV 7) (mC (.int 1)))) (tmN 13) (mNot (mTr (mCall F_law_is_int (mCons (mV 13) (mNil))))) (mD (mV 13))) (mLst (mNil)))))))) (mRet (mC (.bl false))) (mSkip))
    (mFor (mRng fR1 (mCons (mV 6) (mNil))) (tmN 8) (mFor (mRng fR2 (mCons (mV 8) (mCons (mV 6) (mNil)))) (tmN 9) (mSeq (mSet 10 (mCall F_law_is_alike (mCons (mV 5) (mCons (mV 8) (mCons (mV 5) (mCons (mV 9) (mNil)))))))
    (mSeq (mSet 11 (mIfE (mBl (mOp2 fGt (mV 2) (mC (.int 0)))) (mCall F_same_square (mCons (mV 5) (mCons (mV 8) (mCons (mV 9) (mNil))))) (mCallK F_same_square [2, 1, 0] 0 3 mNil (mCons (mV 9) (mCons (mV 8) (mCons (mV 5) (mNil)))))))
    (mIf (mOr (mNot (mTr (mCall (F_law_same 12) (mCons (mV 11) (mCons (mV 10) (mNil)))))) (mOr (mNot (mTr (mCall (F_law_same 12) (mCons (mCall F_same_square (mCons (mV 5) (mCons (mV 9) (mCons (mV 8) (mNil))))) (mCons (mV 10) (mNil)))))) (mBl (mOp2 fNe (mOp2 fEq (mOp2 fIx (mOp2 fIx (mV 7) (mC (.int 1))) (mV 8)) (mOp2 fIx (mOp2 fIx (mV 7) (mC (.int 1))) (mV 9))) (mV 10))))) (mRet (mC (.bl false))) (mSkip)))))))))))
    (mRet (mC (.bl true)))
section
variable {P : Program} {mg : Str → Option Value} {base : Heap}
theorem rest_law (T : Txt Wrt.K mg) (D_law_draw : M.Ok P Wrt.w Wrt.K mg base 1 "_law_draw" s_law_draw ["bag", "many"] F_draw) (D_law_pick : M.Ok P Wrt.w Wrt.K mg base 2 "_law_pick" s_law_pick ["bag", "some"] F_law_pick) (D_law_board : M.Ok P Wrt.w Wrt.K mg base 5 "_law_board" s_law_board ["bag", "most"] F_law_board) (D_law_covers : M.Ok P Wrt.w Wrt.K mg base 5 "_law_covers" s_law_covers ["bag", "most", "degrees"] F_law_covers) (D_least_board : M.Ok P Wrt.w Wrt.K mg base 3 "least_board" s_least_board ["labelled"] F_least_board) (D_law_is_int : M.Ok P Wrt.w Wrt.K mg base 1 "_law_is_int" s_law_is_int ["value"] F_law_is_int) (D_law_is_alike : M.Ok P Wrt.w Wrt.K mg base 2 "_law_is_alike" s_law_is_alike ["one", "square", "other", "square2"] F_law_is_alike) (D_same_square : M.Ok P Wrt.w Wrt.K mg base 4 "same_square" s_same_square ["labelled", "i", "j"] F_same_square) (D_law_same : M.Ok P Wrt.w Wrt.K mg base 12 "_law_same" s_law_same ["found", "due"] (F_law_same 12)) {cdv : Value} {A : Around} {outer : List Env} {s : Shared} {H : Hp} {E : XK} {f : Addr} (hr : Room 12 (A.deeper (envOfC "law" (defScope s_law) s.heap.objs.size f cdv))) :
    PSs (cxOf CX0 P Wrt.w Wrt.K mg base ["script", "bag", "turn", "board", "size", "labelled", "many", "made", "i", "j", "due", "answer", "k", "one"] "law" (defScope s_law) f cdv A outer s H E).nox tail_law (tSt F_law) := by
  have S := S_law
  obtain ⟨_, _, mg_law_draw, fn_law_draw, ok_law_draw⟩ := D_law_draw
  obtain ⟨_, _, mg_law_pick, fn_law_pick, ok_law_pick⟩ := D_law_pick
  obtain ⟨_, _, mg_law_board, fn_law_board, ok_law_board⟩ := D_law_board
  obtain ⟨_, _, mg_law_covers, fn_law_covers, ok_law_covers⟩ := D_law_covers
  obtain ⟨_, _, mg_least_board, fn_least_board, ok_least_board⟩ := D_least_board
  obtain ⟨_, _, mg_law_is_int, fn_law_is_int, ok_law_is_int⟩ := D_law_is_int
  obtain ⟨_, _, mg_law_is_alike, fn_law_is_alike, ok_law_is_alike⟩ := D_law_is_alike
  obtain ⟨_, _, mg_same_square, fn_same_square, ok_same_square⟩ := D_same_square
  obtain ⟨_, _, mg_law_same, fn_law_same, ok_law_same⟩ := D_law_same
  exact (ss_cons (ss_for PassesOwn.never rfl (si_rng1 (by rfl) T.b_range (sr_cons se_int sr_nil)) (sg_n (i := 2) S.nd rfl (by first | exact Or.inl rfl | exact Or.inr rfl)) (ss_cons (ss_if (st_cmp (f := fEq) (op_eqD hr.units) ok_eq (se_call (ok_law_draw.mono (by first | omega | (simp only [Nat.add_eq]; omega))) hr rfl mg_law_draw fn_law_draw.kp (fn_law_draw.binds (ps := ["bag", "many"]) fun _ _ _ _ _ _ us hl => match us, hl with | [_, _], _ => rfl) (sr_cons (se_v (pv 1)) (sr_cons se_int sr_nil))) se_int (nomark _)) (ss_cons (ss_parT (is := [3, 4]) rfl (sra_cons (se_call (ok_law_board.mono (by first | omega | (simp only [Nat.add_eq]; omega))) hr rfl mg_law_board fn_law_board.kp (fn_law_board.binds (ps := ["bag", "most"]) fun _ _ _ _ _ _ us hl => match us, hl with | [_, _], _ => rfl) (sr_cons (se_v (pv 1)) (sr_cons se_int sr_nil))) (sra_cons (se_call (ok_law_pick.mono (by first | omega | (simp only [Nat.add_eq]; omega))) hr rfl mg_law_pick fn_law_pick.kp (fn_law_pick.binds (ps := ["bag", "some"]) fun _ _ _ _ _ _ us hl => match us, hl with | [_, _], _ => rfl) (sr_cons (se_v (pv 1)) (sr_cons (se_lst (sd_cons se_int (sd_cons se_int (sd_cons se_int (sd_cons se_int sd_nil))))) sr_nil))) sra_nil)) (pgs_cons (pg_name (i := 3) S.nd rfl (by first | exact Or.inl rfl | exact Or.inr rfl)) (pgs_cons (pg_name (i := 4) S.nd rfl (by first | exact Or.inl rfl | exact Or.inr rfl)) pgs_nil)) (by decide) rfl)
    (ss_one (ss_set (i := 5) S.nd rfl (by first | exact Or.inl rfl | exact Or.inr rfl) (se_tup (sd_cons (se_v (pv 3)) (sd_cons (se_ty (f := fTuple) call_tuple_of ok_tuple (by rfl) T.b_tuple (by decide +kernel) (sr_cons (se_comp (own := [("k", 12)]) rfl S.nd (si_seq (se_ix (f := fIx) (ix_any (hu1 hr)) ok_ix (se_v (pv 3)) se_int (fun _ _ => rfl))) (blkOk_by (own := [("k", 12)]) (N := ["script", "bag", "turn", "board", "size", "labelled", "many", "made", "i", "j", "due", "answer", "k", "one"]) (sc := defScope s_law) (by decide +kernel)) (by decide) tgv_n (fun _ _ _ _ _ => (sg_n (i := 12) S.nd rfl (by first | exact Or.inl rfl | exact Or.inr rfl))) (fun _ _ _ _ _ => sts_nil) (fun _ _ _ _ _ => (se_call (ok_law_draw.mono (by first | omega | (simp only [Nat.add_eq]; omega))) hr rfl mg_law_draw fn_law_draw.kp (fn_law_draw.binds (ps := ["bag", "many"]) fun _ _ _ _ _ _ us hl => match us, hl with | [_, _], _ => rfl) (sr_cons (se_v (pv 1)) (sr_cons (se_v (pv 4)) sr_nil))))) sr_nil)) (sd_cons (se_ty (f := fTuple) call_tuple_of ok_tuple (by rfl) T.b_tuple (by decide +kernel) (sr_cons (se_comp (own := [("k", 12)]) rfl S.nd (si_seq (se_ix (f := fIx) (ix_any (hu1 hr)) ok_ix (se_v (pv 3)) se_int (fun _ _ => rfl))) (blkOk_by (own := [("k", 12)]) (N := ["script", "bag", "turn", "board", "size", "labelled", "many", "made", "i", "j", "due", "answer", "k", "one"]) (sc := defScope s_law) (by decide +kernel)) (by decide) tgv_n (fun _ _ _ _ _ => (sg_n (i := 12) S.nd rfl (by first | exact Or.inl rfl | exact Or.inr rfl))) (fun _ _ _ _ _ => sts_nil) (fun _ _ _ _ _ => (se_call (ok_law_draw.mono (by first | omega | (simp only [Nat.add_eq]; omega))) hr rfl mg_law_draw fn_law_draw.kp (fn_law_draw.binds (ps := ["bag", "many"]) fun _ _ _ _ _ _ us hl => match us, hl with | [_, _], _ => rfl) (sr_cons (se_v (pv 1)) (sr_cons (se_v (pv 4)) sr_nil))))) sr_nil)) sd_nil))))))) (ss_one (ss_set (i := 5) S.nd rfl (by first | exact Or.inl rfl | exact Or.inr rfl) (se_ix (f := fIx) (ix_any (hu1 hr)) ok_ix (se_call (ok_law_covers.mono (by first | omega | (simp only [Nat.add_eq]; omega))) hr rfl mg_law_covers fn_law_covers.kp (fn_law_covers.binds (ps := ["bag", "most", "degrees"]) fun _ _ _ _ _ _ us hl => match us, hl with | [_, _, _], _ => rfl) (sr_cons (se_v (pv 1)) (sr_cons se_int (sr_cons (se_lst (sd_cons (se_op2 (f := fAdd) op_addA ok_add se_int (se_call (ok_law_draw.mono (by first | omega | (simp only [Nat.add_eq]; omega))) hr rfl mg_law_draw fn_law_draw.kp (fn_law_draw.binds (ps := ["bag", "many"]) fun _ _ _ _ _ _ us hl => match us, hl with | [_, _], _ => rfl) (sr_cons (se_v (pv 1)) (sr_cons se_int sr_nil)))) sd_nil)) sr_nil)))) se_int (fun _ _ => rfl)))))
    (ss_cons (ss_set (i := 6) S.nd rfl (by first | exact Or.inl rfl | exact Or.inr rfl) (se_bi (f := fLen) call_lenA ok_len (by rfl) T.b_len (by decide +kernel) (sr_cons (se_ix (f := fIx) (ix_any (hu1 hr)) ok_ix (se_v (pv 5)) se_int (fun _ _ => rfl)) sr_nil)))
    (ss_cons (ss_set (i := 7) S.nd rfl (by first | exact Or.inl rfl | exact Or.inr rfl) (se_ifE (st_cmp (f := fGt) op_gt ok_CmpI (se_v (pv 2)) se_int (nomark _)) (se_call (ok_least_board.mono (by first | omega | (simp only [Nat.add_eq]; omega))) hr rfl mg_least_board fn_least_board.kp (fn_least_board.binds (ps := ["labelled"]) fun _ _ _ _ _ _ us hl => match us, hl with | [_], _ => rfl) (sr_cons (se_v (pv 5)) sr_nil)) (se_callK0 (ok_least_board.mono (by first | omega | (simp only [Nat.add_eq]; omega))) hr rfl mg_least_board fn_least_board.kp (kbn_of (ps := ["labelled"]) (ks := ["labelled"]) (n := 0) fn_least_board [0] fun _ _ _ _ _ _ us ws hl hm => match us, ws, hl, hm with | [], [_], _, _ => rfl) (sk_cons (se_v (pv 5)) sk_nil))))
    (ss_cons (ss_if (PW.pt (sw_or (st_not (st_tr (se_isi (Ts := "tuple") (by rfl) T.b_isinstance (by rfl) T.b_tuple (by decide +kernel) (se_v (pv 7))) (by intro _; rfl))) (sw_or (st_cmp (f := fNe) (op_neD hr.units) ok_ne (se_bi (f := fLen) call_lenA ok_len (by rfl) T.b_len (by decide +kernel) (sr_cons (se_v (pv 7)) sr_nil)) se_int (nomark _)) (sw_or (st_not (st_tr (se_isi (Ts := "tuple") (by rfl) T.b_isinstance (by rfl) T.b_tuple (by decide +kernel) (se_ix (f := fIx) (ix_any (hu1 hr)) ok_ix (se_v (pv 7)) se_int (fun _ _ => rfl))) (by intro _; rfl))) (sw_or (st_cmp (f := fNe) (op_neD hr.units) ok_ne (se_bi (f := fLen) call_lenA ok_len (by rfl) T.b_len (by decide +kernel) (sr_cons (se_ix (f := fIx) (ix_any (hu1 hr)) ok_ix (se_v (pv 7)) se_int (fun _ _ => rfl)) sr_nil)) (se_v (pv 6)) (nomark _)) (sw_or1 (st_cmp (f := fNe) (op_neD hr.units) ok_ne (se_comp (own := [("one", 13)]) rfl S.nd (si_seq (se_ix (f := fIx) (ix_any (hu1 hr)) ok_ix (se_v (pv 7)) se_int (fun _ _ => rfl))) (blkOk_by (own := [("one", 13)]) (N := ["script", "bag", "turn", "board", "size", "labelled", "many", "made", "i", "j", "due", "answer", "k", "one"]) (sc := defScope s_law) (by decide +kernel)) (by decide) tgv_n (fun _ _ _ _ _ => (sg_n (i := 13) S.nd rfl (by first | exact Or.inl rfl | exact Or.inr rfl))) (fun _ _ _ _ _ => (sts_one (st_not (st_tr (se_call (ok_law_is_int.mono (by first | omega | (simp only [Nat.add_eq]; omega))) hr rfl mg_law_is_int fn_law_is_int.kp (fn_law_is_int.binds (ps := ["value"]) fun _ _ _ _ _ _ us hl => match us, hl with | [_], _ => rfl) (sr_cons (se_v (pv 13)) sr_nil)) (by intro _; rfl))))) (fun _ _ _ _ _ => (se_v (pv 13)))) (se_lst sd_nil) (nomark _)))))))) (ss_one (ss_ret se_bl)) ss_nil)
    (ss_one (ss_for PassesOwn.never rfl (si_rng1 (by rfl) T.b_range (sr_cons (se_v (pv 6)) sr_nil)) (sg_n (i := 8) S.nd rfl (by first | exact Or.inl rfl | exact Or.inr rfl)) (ss_one (ss_for PassesOwn.never rfl (si_rng2 (by rfl) T.b_range (sr_cons (se_v (pv 8)) (sr_cons (se_v (pv 6)) sr_nil))) (sg_n (i := 9) S.nd rfl (by first | exact Or.inl rfl | exact Or.inr rfl)) (ss_cons (ss_set (i := 10) S.nd rfl (by first | exact Or.inl rfl | exact Or.inr rfl) (se_call (ok_law_is_alike.mono (by first | omega | (simp only [Nat.add_eq]; omega))) hr rfl mg_law_is_alike fn_law_is_alike.kp (fn_law_is_alike.binds (ps := ["one", "square", "other", "square2"]) fun _ _ _ _ _ _ us hl => match us, hl with | [_, _, _, _], _ => rfl) (sr_cons (se_v (pv 5)) (sr_cons (se_v (pv 8)) (sr_cons (se_v (pv 5)) (sr_cons (se_v (pv 9)) sr_nil))))))
    (ss_cons (ss_set (i := 11) S.nd rfl (by first | exact Or.inl rfl | exact Or.inr rfl) (se_ifE (st_cmp (f := fGt) op_gt ok_CmpI (se_v (pv 2)) se_int (nomark _)) (se_call (ok_same_square.mono (by first | omega | (simp only [Nat.add_eq]; omega))) hr rfl mg_same_square fn_same_square.kp (fn_same_square.binds (ps := ["labelled", "i", "j"]) fun _ _ _ _ _ _ us hl => match us, hl with | [_, _, _], _ => rfl) (sr_cons (se_v (pv 5)) (sr_cons (se_v (pv 8)) (sr_cons (se_v (pv 9)) sr_nil)))) (se_callK0 (ok_same_square.mono (by first | omega | (simp only [Nat.add_eq]; omega))) hr rfl mg_same_square fn_same_square.kp (kbn_of (ps := ["labelled", "i", "j"]) (ks := ["j", "i", "labelled"]) (n := 0) fn_same_square [2, 1, 0] fun _ _ _ _ _ _ us ws hl hm => match us, ws, hl, hm with | [], [_, _, _], _, _ => rfl) (sk_cons (se_v (pv 9)) (sk_cons (se_v (pv 8)) (sk_cons (se_v (pv 5)) sk_nil))))))
    (ss_one (ss_if (PW.pt (sw_or (st_not (st_tr (se_call (ok_law_same.mono (by first | omega | (simp only [Nat.add_eq]; omega))) hr rfl mg_law_same fn_law_same.kp (fn_law_same.binds (ps := ["found", "due"]) fun _ _ _ _ _ _ us hl => match us, hl with | [_, _], _ => rfl) (sr_cons (se_v (pv 11)) (sr_cons (se_v (pv 10)) sr_nil))) (by intro _; rfl))) (sw_or (st_not (st_tr (se_call (ok_law_same.mono (by first | omega | (simp only [Nat.add_eq]; omega))) hr rfl mg_law_same fn_law_same.kp (fn_law_same.binds (ps := ["found", "due"]) fun _ _ _ _ _ _ us hl => match us, hl with | [_, _], _ => rfl) (sr_cons (se_call (ok_same_square.mono (by first | omega | (simp only [Nat.add_eq]; omega))) hr rfl mg_same_square fn_same_square.kp (fn_same_square.binds (ps := ["labelled", "i", "j"]) fun _ _ _ _ _ _ us hl => match us, hl with | [_, _, _], _ => rfl) (sr_cons (se_v (pv 5)) (sr_cons (se_v (pv 9)) (sr_cons (se_v (pv 8)) sr_nil)))) (sr_cons (se_v (pv 10)) sr_nil))) (by intro _; rfl))) (sw_or1 (st_cmp (f := fNe) (op_neD hr.units) ok_ne (se_cmp (f := fEq) (op_eqD hr.units) ok_eq (se_ix (f := fIx) (ix_any (hu1 hr)) ok_ix (se_ix (f := fIx) (ix_any (hu1 hr)) ok_ix (se_v (pv 7)) se_int (fun _ _ => rfl)) (se_v (pv 8)) (fun _ _ => rfl)) (se_ix (f := fIx) (ix_any (hu1 hr)) ok_ix (se_ix (f := fIx) (ix_any (hu1 hr)) ok_ix (se_v (pv 7)) se_int (fun _ _ => rfl)) (se_v (pv 9)) (fun _ _ => rfl)) (nomark _)) (se_v (pv 10)) (nomark _)))))) (ss_one (ss_ret se_bl)) ss_nil)))))))))))))
    (ss_one (ss_ret se_bl)))
end
end W

namespace W
open PySem PySem.Spec PyProof.Rows L2 M
section
variable [Wrt] {P : Program} {mg : Str → Option Value} {base : Heap}
theorem S_law_draw : FnScope ["bag", "many", "digit", "cell", "mixed"] ["bag", "many"] (defScope s_law_draw) := ⟨rfl, rfl, rfl, by decide +kernel, rfl, by decide +kernel, by decide +kernel⟩
abbrev gb {X : Cx} (i : Nat) {x : Str} {pos pos2 : Pos} {n : Int} {j : Nat} (hN : X.N[0]? = some x := by rfl) (hv : Vis X.env.scope x := by first | exact Or.inl rfl | exact Or.inr (Or.inl rfl)) (hd : (x == ("__debug__" : Str)) = false := by decide) (hcd : (x == ("__classdict__" : Str)) = false := by decide) {pos3 : Pos} :
    PE X (.Subscript (.Name x pos) (.Constant (.int n) j pos2) pos3) (tOp (rIxL X.K) (tVar 0) (tC (.int n))) := pe_ix ix_list (pv 0 hN hv hd hcd) pe_int (fun _ _ => rfl)
/-- bag[n] read -/
theorem rd_b {K : PySem.W.Frag} {σ : L2.St} {H : Hp} {Q : VK} {ab : Addr} {xs : List V} {n : Nat} {v : V} (hσ : σ[0]? = some (some (.ref ab))) (hb : H ab = some (.lst xs)) (hx : xs[n]? = some v) (q : Q v H) : tOp (rIxL K) (tVar 0) (tC (.int (n : Int))) σ H Q :=
  ⟨.ref ab, hσ, ab, xs, n, v, rfl, rfl, SqL.of hb, atI_nat hx, q⟩
/-- if bag[0] == 0 and len(bag[2]) > 0: bag[0] = bag[2].pop() -/
def t2nd (K : PySem.W.Frag) : TS := tIfS (tAnd (tTest (tOp rEq (tOp (rIxL K) (tVar 0) (tC (.int 0))) (tC (.int 0)))) (tTest (tOp (rI0 fun i j => .bl (decide (j < i))) (tCB (fun xs H Q => ∃ x n, xs = [x] ∧ LenV K x H n ∧ Q (.int n) H) (tCons (tOp (rIxL K) (tVar 0) (tC (.int 2))) tNil)) (tC (.int 0)))))
  (tAsg (tBM0 K "list" rPop (tOp (rIxL K) (tVar 0) (tC (.int 2)))) (gSub (tVar 0) (tC (.int 0)) rSetL)) tNext
theorem second {K : PySem.W.Frag} {σ : L2.St} {H1 : Hp} {ab ag ac : Addr} {c0 c1 : Int} {great cells : List Int} {so : List Ob} (hσ : σ[0]? = some (some (.ref ab))) (n1 : ab ≠ ag) (n2 : ag ≠ ac) (n3 : ab ≠ ac)
    (a1 : H1 ab = some (.lst [.int c0, .int c1, .ref ag, .ref ac])) (a2 : H1 ag = some (.lst (great.map V.int))) (a3 : H1 ac = some (.lst (cells.map V.int))) (b1 : Int) :
    ∃ (c0' : Int) (great' : List Int) (H2 : Hp), drawA ⟨c0, b1, great, cells, so⟩ = (c0', great') ∧ H2 ab = some (.lst [.int c0', .int c1, .ref ag, .ref ac]) ∧ H2 ag = some (.lst (great'.map V.int)) ∧ H2 ac = some (.lst (cells.map V.int)) ∧
      (∀ a o, H1 a = some o → ¬ (a = ab ∨ a = ag ∨ a = ac) → H2 a = some o) ∧ ∀ D : Ends, D.nx σ H2 → t2nd K D σ H1 := by
  by_cases h0 : c0 = 0
  · by_cases hg : 0 < great.length
    · -- a great cell is taken
      have hlast : great[great.length - 1]? = some (great.getD (great.length - 1) 0) := by
        rw [List.getD_eq_getElem?_getD, List.getElem?_eq_getElem (by omega)]
        rfl
      generalize great.getD (great.length - 1) 0 = z at hlast
      refine ⟨z, great.dropLast, upd (upd H1 ag (.lst (great.map V.int).dropLast)) ab (.lst [.int z, .int c1, .ref ag, .ref ac]), ?_, upd_same, ?_, ?_, fun a o h n => ?_, fun D hD => ?_⟩
      · unfold drawA
        rw [if_pos ⟨h0, hg⟩, List.getD_eq_getElem?_getD, hlast]
        rfl
      · rw [upd_ne (Ne.symm n1), upd_same, List.map_dropLast]
      · rw [upd_ne (Ne.symm n3), upd_ne (Ne.symm n2)]; exact a3
      · rw [upd_ne (fun z => n (.inl z)), upd_ne (fun z => n (.inr (.inl z)))]; exact h
      · refine rd_b (n := 0) hσ a1 rfl ⟨rfl, true, ?_, iteT ?_⟩
        · rw [h0]; rfl
        refine rd_b (n := 2) hσ a1 rfl ⟨.ref ag, great.length, rfl, .inl ⟨_, SqL.of a2, by rw [List.length_map]⟩, (great.length : Int), 0, rfl, rfl, true, ?_, iteT ?_⟩
        · exact congrArg V.bl (decide_eq_true (by omega))
        refine rd_b (n := 2) hσ a1 rfl ⟨.inl ⟨rfl, _, SqL.of a2⟩, ag, great.map V.int, .int z, rfl, rfl, a2, ?_, ?_⟩
        · rw [List.length_map, List.getElem?_map, hlast]; rfl
        have hz : (upd H1 ag (.lst (great.map V.int).dropLast)) ab = some (.lst [.int c0, .int c1, .ref ag, .ref ac]) := by rw [upd_ne n1]; exact a1
        refine ⟨.ref ab, hσ, ab, _, 0, 0, rfl, rfl, hz, rfl, ?_⟩
        exact hD
    · refine ⟨c0, great, H1, ?_, a1, a2, a3, fun a o h _ => h, fun D hD => ?_⟩
      · unfold drawA
        rw [if_neg (fun z => hg z.2)]
      · refine rd_b (n := 0) hσ a1 rfl ⟨rfl, true, ?_, iteT ?_⟩
        · rw [h0]; rfl
        refine rd_b (n := 2) hσ a1 rfl ⟨.ref ag, great.length, rfl, .inl ⟨_, SqL.of a2, by rw [List.length_map]⟩, (great.length : Int), 0, rfl, rfl, false, ?_, iteF ?_⟩
        · exact congrArg V.bl (decide_eq_false (by omega))
        exact hD
  · refine ⟨c0, great, H1, ?_, a1, a2, a3, fun a o h _ => h, fun D hD => ?_⟩
    · unfold drawA
      rw [if_neg (fun z => h0 z.1)]
    · refine rd_b (n := 0) hσ a1 rfl ⟨rfl, false, ?_, iteF (iteF ?_)⟩
      · rw [decide_eq_false (fun z => h0 (by cases z; rfl))]
      exact hD
theorem W_law_draw [Tabs] (T : Txt Wrt.K mg) : M.Ok P Wrt.w Wrt.K mg base 1 "_law_draw" s_law_draw ["bag", "many"] F_draw := by
  obtain ⟨f, fd, g, F⟩ := T.d_law_draw
  refine ⟨f, fd, g, F, ?_⟩
  refine F.ok S_law_draw (fun vs H Q E h => ?_) (fun cdv A outer s H vs Q E hr h => ⟨_, pss_cons (ps_asg (pe_op op_add (gb 1) pe_int) (pg_sub (pv 0) pe_int set_list))
    (pss_cons (ps_if (PW.pt (pw_and (pt_cmpR op_eq (gb 0) pe_int (nomark _)) (pw_and1 (pt_cmpR op_gt (pe_callB call_len (by rfl) T.b_len PySem.boot_len (pa_cons (gb 2) pa_nil)) pe_int (nomark _)))))
      (pss_one (ps_asg (pe_bm0 PySem.F.plainAttrs_list PySem.F.slot_list_pop PySem.F.type_list_pop mt_pop (gb 2)) (pg_sub (pv 0) pe_int set_list))) pss_nil)
    (pss_cons (ps_if (pt_cmpR op_gt (gb 0) pe_int (nomark _))
      (pss_cons (ps_set (i := 2) S_law_draw.nd rfl (Or.inl rfl) (pe_op op_mod (pe_callTy call_int1 (by rfl) T.b_int (by decide +kernel) (pa_cons (gb 0) pa_nil)) (pv 1)))
      (pss_cons (ps_asg (pe_op op_fdivW (gb 0) (pv 1)) (pg_sub (pv 0) pe_int set_list))
      (pss_one (ps_ret (pv 2))))) pss_nil)
    (pss_cons (ps_set (i := 3) S_law_draw.nd rfl (Or.inl rfl) (pe_ix ix_list (gb 3) (pe_op op_mod (pe_callTy call_int1 (by rfl) T.b_int (by decide +kernel) (pa_cons (gb 1) pa_nil)) (pe_callB call_len (by rfl) T.b_len PySem.boot_len (pa_cons (gb 3) pa_nil))) (fun _ _ => rfl)))
    (pss_cons (ps_set (i := 4) S_law_draw.nd rfl (Or.inl rfl) (pe_op op_mod (pe_callTy call_int1 (by rfl) T.b_int (by decide +kernel) (pa_cons (pe_op op_add (pe_op op_add (pe_op op_mul (pv 3) pe_int) (pe_op op_mul (gb 1) pe_int)) pe_int) pa_nil)) pe_int))
    (pss_one (ps_ret (pe_op op_mod (pe_op op_fdivW (pe_op op_mod (pe_callTy call_int1 (by rfl) T.b_int (by decide +kernel) (pa_cons (pe_op op_add (pe_op op_add (pe_op op_mul (pv 4) (pv 4)) (pe_op op_mul (pv 4) pe_int)) (pe_op op_mul (gb 1) pe_int)) pa_nil)) pe_int) pe_int) (pv 1)))))))), ?_⟩)
  · obtain ⟨S, F, args, b, r, b', _, _, _, _, _, ha, e, _⟩ := h
    have hl := ha.length
    unfold F_draw at e
    split at e
    · exact hl
    · cases e
  · obtain ⟨S, F, args, b, r, b', ⟨ab, ag, ac, rfl⟩, hfs, hft, hb, hst, ha, e, q⟩ := h
    unfold F_draw at e
    split at e
    · rename_i m
      split at e
      · rename_i hok
        rw [Bool.and_eq_true, mOk, Bool.and_eq_true] at hok
        obtain ⟨⟨hm0, hm9⟩, hcells⟩ := hok
        have hm0 := of_decide_eq_true hm0
        have hm9 := of_decide_eq_true hm9
        obtain ⟨v0, r0, rfl, e0, v1, r1, rfl, e1, rfl⟩ := ha
        have e0' : v0 = .ref ab := by simpa [ArgR, Rep, bagRes] using e0
        have e1' : v1 = .int m := by simpa [ArgR, Rep] using e1
        subst e0' e1'
        obtain ⟨c0, c1, great, cells, so⟩ := b
        obtain ⟨⟨hb1, hb2, hb3, n1, n2, n3⟩, hT⟩ := hb
        have nt : ∀ P ∈ Tabs.ts, ¬ (P = ab ∨ P = ag ∨ P = ac) := fun P hP z => by
          obtain ⟨ps, e', _⟩ := hT P hP
          rcases z with z | z | z
          · rw [z, hb1] at e'; cases e'
          · rw [z, hb2] at e'; cases e'
          · rw [z, hb3] at e'; cases e'
        have tg : ∀ H' : Hp, (∀ a o, H a = some o → ¬ (a = ab ∨ a = ag ∨ a = ac) → H' a = some o) → ∀ P ∈ Tabs.ts, GxR.TabG H' P := fun H' k P hP => by
          obtain ⟨ps, e', t'⟩ := hT P hP
          exact ⟨ps, k P _ e' (nt P hP), t'⟩
        have w3 : ∀ {a : Addr}, ¬ (a = ab ∨ a = ag ∨ a = ac ∨ a ∈ Tabs.ts) → ¬ (a = ab ∨ a = ag ∨ a = ac) := fun {a} n z => by
          rcases z with z | z | z
          · exact n (.inl z)
          · exact n (.inr (.inl z))
          · exact n (.inr (.inr (.inl z)))
        simp only [Option.some.injEq, Prod.mk.injEq] at e
        obtain ⟨rfl, rfl⟩ := e
        -- bag[1] = bag[1] + 1
        refine rd_b (n := 1) rfl hb1 rfl ⟨c1, 1, rfl, rfl, .ref ab, rfl, ab, _, 1, 1, rfl, rfl, hb1, rfl, ?_⟩
        have hL : (bagL ⟨c0, c1, great, cells, so⟩ ag ac).set 1 (.int (c1 + 1)) = [.int c0, .int (c1 + 1), .ref ag, .ref ac] := rfl
        rw [hL]
        generalize hH1 : upd H ab (.lst [.int c0, .int (c1 + 1), .ref ag, .ref ac]) = H1
        have a1 : H1 ab = some (.lst [.int c0, .int (c1 + 1), .ref ag, .ref ac]) := by rw [← hH1, upd_same]
        have a2 : H1 ag = some (.lst (great.map V.int)) := by rw [← hH1, upd_ne (Ne.symm n1)]; exact hb2
        have a3 : H1 ac = some (.lst (cells.map V.int)) := by rw [← hH1, upd_ne (Ne.symm n3)]; exact hb3
        have k1 : ∀ a o, H a = some o → ¬ (a = ab ∨ a = ag ∨ a = ac) → H1 a = some o := fun a o h n => by rw [← hH1, upd_ne (fun z => n (.inl z))]; exact h
        obtain ⟨c0', great', H2, dA, b1, b2, b3, k2, two⟩ := second (K := Wrt.K) (so := so) (σ := start ["bag", "many", "digit", "cell", "mixed"] [.ref ab, .int m]) rfl n1 n2 n3 a1 a2 a3 c1
        refine two _ ?_
        have kk : ∀ a o, H a = some o → ¬ (a = ab ∨ a = ag ∨ a = ac) → H2 a = some o := fun a o h n => k2 a o (k1 a o h n) n
        clear two k1 k2 a1 a2 a3 hH1 hL H1
        have hdr : M.draw ⟨c0, c1, great, cells, so⟩ m = if 0 < c0' then (c0' % m, ⟨c0' / m, c1 + 1, great', cells, so⟩) else (drawN ⟨c0, c1, great, cells, so⟩ m, ⟨c0', c1 + 1, great', cells, so⟩) := by
          unfold M.draw
          rw [dA]
        by_cases hp : 0 < c0'
        · rw [if_pos hp] at hdr
          rw [hdr] at q
          refine rd_b (n := 0) rfl b1 rfl ⟨c0', 0, rfl, rfl, true, congrArg V.bl (decide_eq_true hp), iteT ?_⟩
          refine rd_b (n := 0) rfl b1 rfl (.inl ⟨c0', rfl, .int m, rfl, c0', m, rfl, rfl, hm0, ?_⟩)
          refine rd_b (n := 0) rfl b1 rfl ⟨.int m, rfl, c0', m, rfl, rfl, ⟨hm0, hm9⟩, .ref ab, rfl, ab, _, 0, 0, rfl, rfl, b1, rfl, ?_⟩
          refine ⟨.int (c0' % m), rfl, q _ _ F (post_same (b := (⟨c0, c1, great, cells, so⟩ : BagT)) hfs hft hst (fun a o h n => ?_) ⟨⟨upd_same, ?_, ?_, n1, n2, n3⟩, tg _ fun a o h n => ?_⟩ rfl) (by simp [ResR, Rep])⟩
          · rw [upd_ne (fun z => n (.inl z))]; exact kk a o h (w3 n)
          · rw [upd_ne (Ne.symm n1)]; exact b2
          · rw [upd_ne (Ne.symm n3)]; exact b3
          · rw [upd_ne (fun z => n (.inl z))]; exact kk a o h n
        · rw [if_neg hp] at hdr
          rw [hdr] at q
          refine rd_b (n := 0) rfl b1 rfl ⟨c0', 0, rfl, rfl, false, congrArg V.bl (decide_eq_false hp), iteF ?_⟩
          -- cell = bag[3][..]
          have hcl : 0 < (cells.length : Int) := by
            cases cells with
            | nil => simp at hcells
            | cons x r => simp only [List.length_cons]; omega
          have hmod := Int.emod_lt_of_pos (c1 + 1) hcl
          have hmod0 := Int.emod_nonneg (c1 + 1) (Int.ne_of_gt hcl)
          have hget : cells[((c1 + 1) % (cells.length : Int)).toNat]? = some (cells.getD ((c1 + 1) % (cells.length : Int)).toNat 0) := by
            rw [List.getD_eq_getElem?_getD, List.getElem?_eq_getElem (by omega)]
            rfl
          have hN : drawN ⟨c0, c1, great, cells, so⟩ m = (mixed (cells.getD ((c1 + 1) % (cells.length : Int)).toNat 0) (c1 + 1) * mixed (cells.getD ((c1 + 1) % (cells.length : Int)).toNat 0) (c1 + 1) + mixed (cells.getD ((c1 + 1) % (cells.length : Int)).toNat 0) (c1 + 1) * 16807 + (c1 + 1) * 40014) % 2147483629 / 32 % m := rfl
          rw [hN] at q
          clear hN
          generalize cells.getD ((c1 + 1) % (cells.length : Int)).toNat 0 = x at hget q
          refine rd_b (n := 3) rfl b1 rfl (rd_b (n := 1) rfl b1 rfl (.inl ⟨c1 + 1, rfl, rd_b (n := 3) rfl b1 rfl ⟨.ref ac, cells.length, rfl, .inl ⟨_, SqL.of b3, by rw [List.length_map]⟩, c1 + 1, (cells.length : Int), rfl, rfl, hcl, ?_⟩⟩))
          refine ⟨ac, _, _, .int x, rfl, rfl, SqL.of b3, ?_, ?_⟩
          · rw [show (c1 + 1) % (cells.length : Int) = ((((c1 + 1) % (cells.length : Int)).toNat : Nat) : Int) by omega]
            exact atI_nat (by rw [List.getElem?_map, hget]; rfl)
          -- mixed = ..
          refine ⟨.int x, rfl, x, 48271, rfl, rfl, .inr (by decide), rd_b (n := 1) rfl b1 rfl ⟨c1 + 1, 69621, rfl, rfl, .inr (by decide), ?_⟩⟩
          refine ⟨_, _, rfl, rfl, _, 1, rfl, rfl, .inl ⟨_, rfl, _, 2147483647, rfl, rfl, (show (0 : Int) < 2147483647 by decide), ?_⟩⟩
          have hmx0 : 0 ≤ mixed x (c1 + 1) ∧ mixed x (c1 + 1) < 2147483647 := ⟨Int.emod_nonneg _ (by decide), Int.emod_lt_of_pos _ (by decide)⟩
          refine ⟨.int (mixed x (c1 + 1)), rfl, .int (mixed x (c1 + 1)), rfl, mixed x (c1 + 1), mixed x (c1 + 1), rfl, rfl, .inl ⟨by omega, by omega⟩, .int (mixed x (c1 + 1)), rfl, mixed x (c1 + 1), 16807, rfl, rfl, .inr (by decide), _, _, rfl, rfl, rd_b (n := 1) rfl b1 rfl ⟨c1 + 1, 40014, rfl, rfl, .inr (by decide), _, _, rfl, rfl, .inl ⟨_, rfl, _, 2147483629, rfl, rfl, (show (0 : Int) < 2147483629 by decide), ?_⟩⟩⟩
          refine ⟨_, 32, rfl, rfl, ⟨by decide, by decide⟩, .int m, rfl, _, m, rfl, rfl, hm0, ?_⟩
          exact q _ _ F (post_same (b := (⟨c0, c1, great, cells, so⟩ : BagT)) hfs hft hst (fun a o h n => kk a o h (w3 n)) ⟨⟨b1, b2, b3, n1, n2, n3⟩, tg _ kk⟩ rfl) (by simp [ResR, Rep])
      · cases e
    · cases e
end
end W

namespace W
open PySem PySem.Spec PyProof.Rows L2 M
variable [Wrt]
/-! ### the bag made -/
def onI (g : Int → Int) : D → D
  | .int i => .int (g i)
  | d => d
def ifI (p : Int → Bool) : D → Bool
  | .int i => p i
  | _ => false
theorem filter_ints (p : Int → Bool) (g : Int → Int) : ∀ l : List Int, ((l.map D.int).filter (ifI p)).map (onI g) = ((l.filter p).map g).map D.int
  | [] => rfl
  | x :: l => by
    have ih := filter_ints p g l
    cases h : p x with
    | true =>
      have h2 : ifI p (.int x) = true := h
      rw [List.map_cons, List.filter_cons_of_pos h2, List.map_cons, ih, List.filter_cons_of_pos h]
      rfl
    | false =>
      have h2 : ¬ ifI p (.int x) = true := by show ¬ p x = true; rw [h]; decide
      rw [List.map_cons, List.filter_cons_of_neg h2, ih, List.filter_cons_of_neg (by rw [h]; decide)]
theorem pow18 : fPow (.int 10) (.int 18) = some (.val (.int 1000000000000000000)) := by rfl
theorem bag_tail (c : Int) (cs : List Int) (hl : (c :: cs).length ≤ 1000) (x1 : Sl) (hx : x1 = .own (.lst ((c :: cs).map D.int)) ∨ x1 = .val (.lst ((c :: cs).map D.int))) (great : List Int) (hg : ∀ g ∈ great, 500000000000000000 ≤ g) :
    ∃ (cells : List Int) (st' : Sta Unit), mRet (mLst (mCons (mD (mC (.int 0))) (mCons (mD (mC (.int 0))) (mCons (mD (mV 2)) (mCons (mD (mComp [3] (mIt (mV 1)) (tmN 3) (mYes) (mD (mOp2 fMod (mBi fInt (mCons (mV 3) (mNil))) (mC (.int 2147483647)))))) (mNil)))))) ⟨[.no, x1, .own (.lst (great.map D.int)), .no], ()⟩ = some (.rt (.new (.lst [.int 0, .int 0, .lst (great.map D.int), .lst (cells.map D.int)])), st') ∧ cells ≠ [] ∧ great ≠ cells := by
  have k4 : 4 ≤ line := by unfold line; omega
  refine ⟨(c :: cs).map (· % 2147483647), ⟨[.no, .val (.lst ((c :: cs).map D.int)), .val (.lst (great.map D.int)), .no], ()⟩, ?_, by simp, fun e => ?_⟩
  · have c1 := mComp_pure (vs := [3]) (it := mIt (mV 1)) (tg := tmN 3) (tt := mYes) (te := mD (mOp2 fMod (mBi fInt (mCons (mV 3) (mNil))) (mC (.int 2147483647)))) (st := (⟨[.no, x1, .val (.lst (great.map D.int)), .no], ()⟩ : Sta Unit)) (st1 := ⟨[.no, .val (.lst ((c :: cs).map D.int)), .val (.lst (great.map D.int)), .no], ()⟩) (ds := (c :: cs).map D.int) (ifI fun _ => true) (onI (· % 2147483647)) (by rcases hx with rfl | rfl <;> simp) rfl (by rw [List.length_map]; unfold line; omega) (fun d hd => by
      obtain ⟨i, _, rfl⟩ := List.mem_map.mp hd
      refine ⟨⟨[.no, .val (.lst ((c :: cs).map D.int)), .val (.lst (great.map D.int)), .val (.int i)], ()⟩, ⟨[.no, .val (.lst ((c :: cs).map D.int)), .val (.lst (great.map D.int)), .val (.int i)], ()⟩, rfl, rfl, fun _ => ⟨⟨[.no, .val (.lst ((c :: cs).map D.int)), .val (.lst (great.map D.int)), .val (.int i)], ()⟩, ?_, rfl, rfl⟩, fun _ => ⟨rfl, rfl⟩⟩
      have hm : cMod i 2147483647 = true := cMod_pos (by decide)
      simp [hm, onI])
    rw [filter_ints, List.filter_eq_self.mpr (fun _ _ => rfl)] at c1
    generalize (c :: cs).map D.int = L at c1 hx ⊢
    generalize ((c :: cs).map (· % 2147483647)).map D.int = L2 at c1 ⊢
    generalize great.map D.int = G at c1 ⊢
    simp [c1, k4]
  · rw [List.map_cons] at e
    have h1 := hg (c % 2147483647) (by rw [e]; exact List.mem_cons_self)
    have h2 := Int.emod_lt_of_pos c (show (0 : Int) < 2147483647 by decide)
    omega
theorem bag_pure (c : Int) (cs : List Int) (hl : (c :: cs).length ≤ 1000) : ∃ (great cells : List Int) (st' : Sta Unit), F_law_bag ⟨[.no, .own (.lst ((c :: cs).map D.int)), .no, .no], ()⟩ = some (.rt (.new (.lst [.int 0, .int 0, .lst (great.map D.int), .lst (cells.map D.int)])), st') ∧ cells ≠ [] ∧ great ≠ cells := by
  have k0 : 0 ≤ line := by unfold line; omega
  have c0 : mSet 2 (mLst (mNil)) (⟨[.no, .own (.lst ((c :: cs).map D.int)), .no, .no], ()⟩ : Sta Unit) = some (.nx, ⟨[.no, .own (.lst ((c :: cs).map D.int)), .own (.lst []), .no], ()⟩) := by simp [k0]
  have hm : cMod c 2 = true := cMod_pos (by decide)
  rw [F_law_bag, mSeq_ap, c0, Option.bind_some, M.thn_nx, mSeq_ap, mIf_ap]
  have c1 : mBl (mOp2 fEq (mOp2 fMod (mBi fInt (mCons (mOp2 fIx (mV 1) (mC (.int 0))) (mNil))) (mC (.int 2))) (mC (.int 0))) (⟨[.no, .own (.lst ((c :: cs).map D.int)), .own (.lst []), .no], ()⟩ : Sta Unit) = some (c % 2 == 0, ⟨[.no, .own (.lst ((c :: cs).map D.int)), .own (.lst []), .no], ()⟩) := by
    simp [hm]
  rw [c1, Option.bind_some]
  cases hb : (c % 2 == 0) with
  | false =>
    simp only [Bool.false_eq_true, if_false, mSkip_ap, Option.bind_some, M.thn_nx]
    obtain ⟨cells, st', e, h1, h2⟩ := bag_tail c cs hl _ (.inl rfl) [] (fun g hg => by simp at hg)
    exact ⟨[], cells, st', e, h1, h2⟩
  | true =>
    simp only [if_true]
    have c2 := mComp_pure (vs := [3]) (it := mIt (mV 1)) (tg := tmN 3) (tt := mBl (mOp2 fGe (mV 3) (mOp2 fPow (mC (.int 10)) (mC (.int 18))))) (te := mD (mOp2 fDiv (mV 3) (mC (.int 2)))) (st := (⟨[.no, .own (.lst ((c :: cs).map D.int)), .own (.lst []), .no], ()⟩ : Sta Unit)) (st1 := ⟨[.no, .val (.lst ((c :: cs).map D.int)), .own (.lst []), .no], ()⟩) (ds := (c :: cs).map D.int) (ifI fun i => decide (1000000000000000000 ≤ i)) (onI (· / 2)) (by simp) rfl (by rw [List.length_map]; unfold line; omega) (fun d hd => by
      obtain ⟨i, _, rfl⟩ := List.mem_map.mp hd
      refine ⟨⟨[.no, .val (.lst ((c :: cs).map D.int)), .own (.lst []), .val (.int i)], ()⟩, ⟨[.no, .val (.lst ((c :: cs).map D.int)), .own (.lst []), .val (.int i)], ()⟩, rfl, ?_, fun _ => ⟨⟨[.no, .val (.lst ((c :: cs).map D.int)), .own (.lst []), .val (.int i)], ()⟩, ?_, rfl, rfl⟩, fun _ => ⟨rfl, rfl⟩⟩
      · simp [pow18, ifI]
      · have hm : cDiv i 2 = true := cDiv_pos (by decide) (by decide)
        simp [hm, onI])
    rw [filter_ints] at c2
    have c3 : mSeq (mSet 2 (mComp [3] (mIt (mV 1)) (tmN 3) (mBl (mOp2 fGe (mV 3) (mOp2 fPow (mC (.int 10)) (mC (.int 18))))) (mD (mOp2 fDiv (mV 3) (mC (.int 2)))))) (mEx (mOwn 2 fReverse mNil)) (⟨[.no, .own (.lst ((c :: cs).map D.int)), .own (.lst []), .no], ()⟩ : Sta Unit) = some (.nx, ⟨[.no, .val (.lst ((c :: cs).map D.int)), .own (.lst (((((c :: cs).filter fun i => decide (1000000000000000000 ≤ i)).map (· / 2)).reverse).map D.int)), .no], ()⟩) := by
      rw [List.map_reverse]
      generalize (((c :: cs).filter fun i => decide (1000000000000000000 ≤ i)).map (· / 2)).map D.int = G at c2 ⊢
      rw [mSeq_ap, mSet_ap, c2]
      simp
    rw [c3, Option.bind_some, M.thn_nx]
    obtain ⟨cells, st', e, h1, h2⟩ := bag_tail c cs hl _ (.inr rfl) ((((c :: cs).filter fun i => decide (1000000000000000000 ≤ i)).map (· / 2)).reverse) (fun g hg => by
      rw [List.mem_reverse] at hg
      obtain ⟨i, hi, rfl⟩ := List.mem_map.mp hg
      have := of_decide_eq_true (List.mem_filter.mp hi).2
      show 500000000000000000 ≤ i / 2
      omega)
    exact ⟨_, cells, st', e, h1, h2⟩
end W

namespace W
open PySem PySem.Spec PyProof.Rows L2 M
section
variable [Wrt] {P : Program} {mg : Str → Option Value} {base : Heap}
def absI (i : Int) : Int := if i < 0 then -i else i
/-- the bag's three lists -/
def bag0 (ab ag ac : Addr) (b : BagT) (H : Hp) : Prop := H ab = some (.lst (bagL b ag ac)) ∧ H ag = some (.lst (b.great.map V.int)) ∧ H ac = some (.lst (b.cells.map V.int)) ∧ ab ≠ ag ∧ ag ≠ ac ∧ ab ≠ ac
/-- what the making of a bag promises -/
def spBag (K : PySem.W.Frag) : Sp := fun vs H Q _ => ∃ (a : Addr) (ns : List Int), vs = [.ref a] ∧ SqL K H a (ns.map V.int) ∧ ns.length ≤ 63 ∧ ∀ (ab ag ac : Addr) (b : BagT) (H' : Hp), b.cells ≠ [] → b.sto = [] → (∀ p ps, H p = some (.tbl ps) → H' p = some (.tbl ps)) → bag0 ab ag ac b H' → Q (.ref ab) H'
theorem bag_rel {H' : Hp} {F : Gh} {ab : Addr} {great cells : List Int} (h : RepO H' F V.non (.lst [.int 0, .int 0, .lst (great.map D.int), .lst (cells.map D.int)]) ab) (hne : great ≠ cells) : ∃ ag ac, bag0 ab ag ac ⟨0, 0, great, cells, []⟩ H' := by
  have allI : ∀ (l : List Int) (xs : List V), RepL H' F V.non (l.map D.int) xs → xs = l.map V.int := by
    intro l
    induction l with
    | nil =>
      intro xs h
      simpa [RepL] using h
    | cons i l ih =>
      intro xs h
      simp only [List.map_cons, RepL] at h
      obtain ⟨v, r, rfl, hv, hr⟩ := h
      simp only [Rep] at hv
      rw [hv, ih r hr, List.map_cons]
  obtain ⟨xs, hab, hl⟩ := h
  simp only [RepL, Rep] at hl
  obtain ⟨v0, r0, rfl, rfl, v1, r1, rfl, rfl, v2, r2, rfl, ⟨ag, gs, rfl, hag, _, hg⟩, v3, r3, rfl, ⟨ac, cs, rfl, hac, _, hc⟩, rfl⟩ := hl
  rw [allI _ _ hg] at hag
  rw [allI _ _ hc] at hac
  have inj : ∀ l l2 : List Int, l.map V.int = l2.map V.int → l = l2 := by
    intro l
    induction l with
    | nil =>
      intro l2 h
      cases l2 with
      | nil => rfl
      | cons x l2 => simp at h
    | cons x l ih =>
      intro l2 h
      cases l2 with
      | nil => simp at h
      | cons y l2 =>
        simp only [List.map_cons, List.cons.injEq, V.int.injEq] at h
        rw [h.1, ih l2 h.2]
  have two : ∀ l : List Int, l.map V.int ≠ [V.int 0, V.int 0, V.ref ag, V.ref ac] := by
    intro l h
    match l, h with
    | [_, _, _, _], h => simp at h
  refine ⟨ag, ac, hab, hag, hac, fun e => ?_, fun e => ?_, fun e => ?_⟩
  · rw [e, hag] at hab
    exact two _ (HO.lst.inj (Option.some.inj hab))
  · rw [e, hac] at hag
    exact hne (inj _ _ (HO.lst.inj (Option.some.inj hag))).symm
  · rw [e, hac] at hab
    exact two _ (HO.lst.inj (Option.some.inj hab))
theorem W_law_bag (T : Txt Wrt.K mg) : ∃ f fd, mg "_law_bag" = some (.ref f) ∧ Fun Wrt.K "_law_bag" "_law_bag" s_law_bag f fd ∧ FnOk P Wrt.w Wrt.K mg base CX0 1 f fd ["script"] (spBag Wrt.K) := by
  obtain ⟨f, fd, g, F⟩ := T.d_law_bag
  refine ⟨f, fd, g, F, ?_⟩
  have S := S_law_bag
  refine F.ok S_law_bag (fun vs H Q E h => ?_) (fun cdv A outer s H vs Q E hr h => ⟨_, pss_cons (ps_set (i := 1) S.nd rfl (Or.inl rfl) (pe_op op_cat (pe_lc (own := [("cell", 3)]) rfl S.nd (pi_list (pv 0)) (blkOk_by (own := [("cell", 3)]) (N := ["script", "cells", "great", "cell"]) (sc := defScope s_law_bag) (by decide +kernel)) (fun _ _ _ _ _ => pg_name (i := 3) S.nd rfl (by first | exact Or.inl rfl | exact Or.inr rfl)) (fun _ _ _ _ _ => pts_nil) (fun _ _ _ _ _ => pe_callB call_abs (by rfl) T.b_abs (by decide +kernel) (pa_cons (pe_callTy call_int1 (by rfl) T.b_int (by decide +kernel) (pa_cons (pv 3) pa_nil)) pa_nil)))
      (pe_lst (pa_cons pe_int pa_nil)))) (rest_law_bag T hr), ?_⟩)
  · obtain ⟨a, ns, rfl, _⟩ := h
    rfl
  · obtain ⟨a, ns, rfl, hS, hlen, q⟩ := h
    refine ⟨.ref a, rfl, a, rfl, ⟨_, hS⟩, fun D hD => ?_⟩
    refine lc_list (xs := ns.map V.int) (fun i H' => H' = upd H D (.lst ((ns.take i).map fun z => V.int (absI z)))) ?_ ?_ ?_ ?_
    · rfl
    · rintro i H' _ rfl
      exact Evl.ex_l (Evl.Ex.new hD) hS
    · rintro i x H' hx rfl
      rw [List.getElem?_map] at hx
      obtain ⟨z, hz, rfl⟩ := Option.map_eq_some_iff.mp hx
      have hi : i < ns.length := (List.getElem?_eq_some_iff.mp hz).1
      refine ⟨rfl, ?_⟩
      refine ⟨.int z, rfl, .inl ⟨z, rfl, z, rfl, _, upd_same, ?_, ?_⟩⟩
      · rw [List.length_map, List.length_take]
        exact Nat.lt_of_le_of_lt (Nat.min_le_left _ _) (Evl.sz_lt (by omega))
      · rw [L2.upd_upd, List.take_add_one, hz, List.map_append]
        rfl
    · rintro H' rfl
      rw [List.length_map, List.take_length]
      have kt1 : ∀ p ps, H p = some (.tbl ps) → upd H D (.lst (ns.map fun z => V.int (absI z))) p = some (.tbl ps) := fun p ps e => by rw [upd_ne (fun z => by rw [z, hD] at e; cases e)]; exact e
      generalize hH1 : upd H D (.lst (ns.map fun z => V.int (absI z))) = H1 at kt1
      have h1 : H1 D = some (.lst (ns.map fun z => V.int (absI z))) := by rw [← hH1, upd_same]
      refine ⟨(show 1 ≤ sizeLine by decide), fun b hb => ?_⟩
      have hbD : D ≠ b := fun e => by rw [← e, h1] at hb; cases hb
      refine ⟨D, b, _, _, rfl, rfl, by rw [upd_ne hbD]; exact h1, upd_same, ?_, fun p hp => ?_⟩
      · rw [List.length_map]
        exact Nat.le_trans (show ns.length + 1 ≤ 64 by omega) (by decide)
      · have kt2 : ∀ p ps, H p = some (.tbl ps) → upd H1 b (.lst [V.int 7]) p = some (.tbl ps) := fun p ps e => by rw [upd_ne (fun z => by rw [z] at e; have := kt1 b ps e; rw [hb] at this; cases this)]; exact kt1 p ps e
        generalize upd H1 b (.lst [V.int 7]) = H2 at hp kt2
        have hcells : (ns.map fun z => V.int (absI z)) ++ [V.int 7] = (ns.map absI ++ [7]).map V.int := by simp [List.map_append, List.map_map, Function.comp_def]
        rw [hcells]
        obtain ⟨c, cs, hc⟩ : ∃ c cs, ns.map absI ++ [7] = c :: cs := by
          cases ns with
          | nil => exact ⟨_, _, rfl⟩
          | cons x r => exact ⟨_, _, rfl⟩
        have hcl : (c :: cs).length ≤ 1000 := by
          rw [← hc, List.length_append, List.length_map]
          simp only [List.length_cons, List.length_nil]
          omega
        rw [hc]
        obtain ⟨great, cells, st', e, hne, hgc⟩ := bag_pure c cs hcl
        refine ⟨⟨noRes, trivial, H2, ⟨fun _ => False, fun _ => none⟩, fun _ h => h.elim, fun _ h => h.elim, fun _ ⟨⟨_, z⟩, _⟩ => nomatch z⟩, ⟨fun x => x = p, fun _ => none⟩, ⟨[.no, .own (.lst ((c :: cs).map M.D.int)), .no, .no], ()⟩, _, st', ⟨rfl, fun i s hi => ?_, fun i j d e hi hj _ => ?_, fun a o ha _ => ?_, trivial, fun _ h => h.elim, fun x hx => ?_, (fun _ _ ⟨⟨_, z⟩, _⟩ => nomatch z), (fun _ _ z => nomatch z), (fun _ ⟨⟨_, z⟩, _⟩ => nomatch z), ⟨fun n o e => (by simp [Sto.sto] at e), fun _ _ => rfl, (fun _ _ _ z => nomatch z), (fun _ _ z => nomatch z), (fun _ _ z => nomatch z)⟩⟩, e, ?_⟩
        · match i, hi with
          | 0, hi => cases hi; trivial
          | 1, hi =>
            cases hi
            exact ⟨p, rfl, ⟨_, upd_same, RepL.ints⟩, rfl, hp⟩
          | 2, hi => cases hi; trivial
          | 3, hi => cases hi; trivial
          | i + 4, hi => simp at hi
        · match i, j, hi, hj with
          | 1, 1, _, _ => rfl
          | 0, _, hi, _ => simp at hi
          | 2, _, hi, _ => simp at hi
          | 3, _, hi, _ => simp at hi
          | i + 4, _, hi, _ => simp at hi
          | _, 0, _, hj => simp at hj
          | _, 2, _, hj => simp at hj
          | _, 3, _, hj => simp at hj
          | _, j + 4, _, hj => simp at hj
        · have ha : H2 a = some o := ha
          rw [upd_ne (fun z => by rw [z, hp] at ha; cases ha)]
          exact ha
        · rw [hx]
          exact ⟨_, upd_same⟩
        · intro v H' F' ⟨hP, hv⟩
          obtain ⟨ab, rfl, _, hr, _⟩ := hv
          obtain ⟨ag, ac, hrel⟩ := bag_rel hr hgc
          refine q ab ag ac ⟨0, 0, great, cells, []⟩ H' hne rfl (fun x ps e => hP.base x _ (kt2 x ps e) (fun z => z.elim id fun ⟨⟨_, z⟩, _⟩ => nomatch z)) hrel
end
end W

/-! Q1: lists of numbers, in plain terms: back, turn_of, ends, group. -/
namespace W
open PySem L2 M
variable [Wrt]
theorem foldl_range_succ {α : Type} (f : α → Nat → α) (a : α) (n : Nat) : (List.range (n + 1)).foldl f a = f ((List.range n).foldl f a) n := by
  rw [List.range_succ, List.foldl_append]
  rfl
theorem set_fold_len {f : List Nat → Nat → List Nat} (hf : ∀ l k, (f l k).length = l.length) (l : List Nat) : ∀ n, ((List.range n).foldl f l).length = l.length
  | 0 => rfl
  | n + 1 => by rw [foldl_range_succ, hf, set_fold_len hf l n]
theorem map_const_rep {α β : Type} (c : β) : ∀ l : List α, (l.map fun _ => c) = List.replicate l.length c
  | [] => rfl
  | a :: l => by rw [List.map_cons, map_const_rep c l, List.length_cons, List.replicate_succ]
def back (s : List Nat) : List Nat := (List.range s.length).foldl (fun out k => out.set (s.getD k 0) k) (List.replicate s.length 0)
theorem back_length (s : List Nat) : (back s).length = s.length := by
  unfold back
  rw [set_fold_len (fun l k => List.length_set ..)]
  simp
def turnOf (r a : List Nat) (s : Nat) : Nat := a.getD (r.getD ((back a).getD ((back r).getD s 0) 0) 0) 0
/-- every number of s is below n -/
def Lt (n : Nat) (s : List Nat) : Prop := s.length = n ∧ ∀ e ∈ s, e < n
theorem Lt.get {n : Nat} {s : List Nat} (h : Lt n s) {k : Nat} (hk : k < n) : s[k]? = some (s.getD k 0) ∧ s.getD k 0 < n := by
  have hg := get_of (s := s) (k := k) (by rw [h.1]; exact hk)
  exact ⟨hg, h.2 _ (List.mem_of_getElem? hg)⟩
theorem Lt.set {n : Nat} {s : List Nat} (h : Lt n s) {k v : Nat} (hv : v < n) : Lt n (s.set k v) := by
  refine ⟨by rw [List.length_set]; exact h.1, fun e he => ?_⟩
  rcases List.mem_or_eq_of_mem_set he with h1 | h1
  · exact h.2 e h1
  · rw [h1]; exact hv
theorem back_lt {n : Nat} {s : List Nat} (h : Lt n s) : Lt n (back s) := by
  have gen : ∀ (m : Nat) (l : List Nat), m ≤ n → Lt n l → Lt n ((List.range m).foldl (fun out k => out.set (s.getD k 0) k) l) := by
    intro m
    induction m with
    | zero => intro l _ hl; exact hl
    | succ m ih =>
      intro l hm hl
      rw [foldl_range_succ]
      exact (ih l (by omega) hl).set (by omega)
  unfold back
  rw [h.1]
  by_cases h0 : n = 0
  · subst h0
    exact ⟨by simp, by simp⟩
  · refine gen n _ (Nat.le_refl _) ⟨by simp, fun e he => ?_⟩
    rw [List.eq_of_mem_replicate he]
    omega
def endsN (r a : List Nat) : List Nat := (List.range r.length).filter fun k => !decide (turnOf r a k = k)
def addNew (g : List Nat) (t : Nat) : List Nat := if t ∈ g then g else g ++ [t]
def nbrs (r a : List Nat) (s : Nat) : List Nat := [r.getD s 0, a.getD s 0, (back r).getD s 0, (back a).getD s 0]
def stepG (r a g : List Nat) (k : Nat) : List Nat := if k < g.length then (nbrs r a (g.getD k 0)).foldl addNew g else g
def groupN (r a : List Nat) : List Nat := (List.range r.length).foldl (stepG r a) [0]
theorem addNew_lt {n : Nat} {g : List Nat} {t : Nat} (h : ∀ e ∈ g, e < n) (ht : t < n) : ∀ e ∈ addNew g t, e < n := by
  intro e he
  unfold addNew at he
  split at he
  · exact h e he
  · rcases List.mem_append.mp he with h1 | h1
    · exact h e h1
    · rw [List.mem_singleton.mp h1]; exact ht
theorem addNew_len (g : List Nat) (t : Nat) : (addNew g t).length ≤ g.length + 1 := by
  unfold addNew
  split
  · omega
  · simp
theorem addAll {n : Nat} : ∀ (l g : List Nat), (∀ e ∈ g, e < n) → (∀ e ∈ l, e < n) → (∀ e ∈ l.foldl addNew g, e < n) ∧ (l.foldl addNew g).length ≤ g.length + l.length
  | [], g, h, _ => ⟨h, Nat.le_refl _⟩
  | t :: l, g, h, hl => by
    have h1 := addAll l (addNew g t) (addNew_lt h (hl t List.mem_cons_self)) fun e he => hl e (List.mem_cons_of_mem _ he)
    refine ⟨h1.1, ?_⟩
    have := addNew_len g t
    have h2 := h1.2
    rw [List.foldl_cons, List.length_cons]
    omega
theorem nbrs_lt {n : Nat} {r a : List Nat} (hr : Lt n r) (ha : Lt n a) {s : Nat} (hs : s < n) : ∀ e ∈ nbrs r a s, e < n := by
  intro e he
  simp only [nbrs, List.mem_cons, List.mem_nil_iff, or_false] at he
  rcases he with rfl | rfl | rfl | rfl
  · exact (hr.get hs).2
  · exact (ha.get hs).2
  · exact ((back_lt hr).get hs).2
  · exact ((back_lt ha).get hs).2
theorem group_inv {n : Nat} {r a : List Nat} (hr : Lt n r) (ha : Lt n a) (h0 : 0 < n) : ∀ i, (∀ e ∈ (List.range i).foldl (stepG r a) [0], e < n) ∧ ((List.range i).foldl (stepG r a) [0]).length ≤ 1 + 4 * i
  | 0 => ⟨by simpa using h0, by simp⟩
  | i + 1 => by
    have h := group_inv hr ha h0 i
    rw [foldl_range_succ]
    generalize (List.range i).foldl (stepG r a) [0] = g at h ⊢
    unfold stepG
    split
    · rename_i hk
      have h1 := addAll (nbrs r a (g.getD i 0)) g h.1 (nbrs_lt hr ha (h.1 _ (List.mem_of_getElem? (get_of hk))))
      have hl : (nbrs r a (g.getD i 0)).length = 4 := rfl
      refine ⟨h1.1, ?_⟩
      have h2 := h1.2
      omega
    · exact ⟨h.1, by omega⟩
end W

/-! P1: the helpers that nearly every law has: draws, the greatest common divisor, boards. -/
namespace W
open PySem L2 M
variable [Wrt]
theorem rgOk_nat {n : Nat} (h : n ≤ 1000000) : rgOk (n : Int) = true := rgOk_small (by omega) (by omega)
/-! ### back -/
theorem lb1 (x : Sl) (s : List Nat) (b : BagT) (hx : RowA x s) (hs : ∀ e ∈ s, e < s.length) (hl : s.length ≤ 1000) : mSet 1 (mComp [2] (mIt (mV 0)) (tmN 2) (mYes) (mD (mC (.int 0)))) (⟨[x, .no, .no], b⟩ : Sta BagT) = some (.nx, ⟨[x, .own (.lst (ni (List.replicate s.length 0))), .no], b⟩) := by
    have hm : mIt (mV 0) (⟨[x, .no, .no], b⟩ : Sta BagT) = some (ni s, ⟨[x, .no, .no], b⟩) := by
      rcases hx with rfl | rfl | rfl <;> simp
    rw [mSet_ap, mComp_pure (fun _ => true) (fun _ => .int 0) hm (by rcases hx with rfl | rfl | rfl <;> rfl) (by rw [ni_length]; unfold line; omega)]
    · have e : ((ni s).filter fun _ => true).map (fun _ => D.int 0) = ni (List.replicate s.length 0) := by
        rw [List.filter_eq_self.mpr (fun _ _ => rfl), map_const_rep, ni_length]
        simp [ni]
      rw [e]
      simp
    · intro d _
      refine ⟨_, _, rfl, rfl, fun _ => ⟨_, rfl, rfl, rfl⟩, fun h => by cases h⟩
theorem lb2 (x : Sl) (s : List Nat) (b : BagT) (hx : RowA x s) (hs : ∀ e ∈ s, e < s.length) (hl : s.length ≤ 1000) : mRng fR1 (mCons (mBi fLen (mCons (mV 0) (mNil))) (mNil)) (⟨[x, .own (.lst (ni (List.replicate s.length 0))), .no], b⟩ : Sta BagT) = some (ni (List.range s.length), ⟨[x, .own (.lst (ni (List.replicate s.length 0))), .no], b⟩) := by
    rcases hx with rfl | rfl | rfl <;> simp [rgOk_nat (show s.length ≤ 1000000 by omega), rgL_ni]
theorem law_back_eq (x : Sl) (s : List Nat) (b : BagT) (hx : RowA x s) (hs : ∀ e ∈ s, e < s.length) (hl : s.length ≤ 1000) : F_law_back [x] b = some (.val (.tup (ni (back s))), b) := by
  have c1 := lb1 x s b hx hs hl
  have c2 := lb2 x s b hx hs hl
  obtain ⟨st', e3, hb3, z, he3⟩ := forL_inv (tg := tmN 2) (body := mPut (mV 2) (tmSub 1 (mOp2 fIx (mV 0) (mV 2)))) (fun i (st : Sta BagT) => st.bag = b ∧ ∃ z, st.env = [x, .own (.lst (ni ((List.range i).foldl (fun out k => out.set (s.getD k 0) k) (List.replicate s.length 0)))), z])
    (ni (List.range s.length)) 0 ⟨[x, .own (.lst (ni (List.replicate s.length 0))), .no], b⟩ ⟨rfl, .no, rfl⟩ (fun i d st hd ⟨hb, z, he⟩ => by
      have hi : i < s.length := by
        have := (List.getElem?_eq_some_iff.mp hd).1
        simpa using this
      rw [ni_get, List.getElem?_range hi] at hd
      cases hd
      obtain ⟨env, bag⟩ := st
      simp only at hb he
      subst hb he
      rw [Nat.zero_add] at *
      have hg := get_of hi
      have hlt : s.getD i 0 < s.length := hs _ (List.mem_of_getElem? hg)
      have hlen := set_fold_len (f := fun out k => out.set (s.getD k 0) k) (fun l k => List.length_set ..) (List.replicate s.length 0) i
      rw [List.length_replicate] at hlen
      refine ⟨_, .nx, ⟨[x, .own (.lst (ni ((List.range (i + 1)).foldl (fun out k => out.set (s.getD k 0) k) (List.replicate s.length 0)))), .val (.int (i : Int))], bag⟩, rfl, ?_, .inl rfl, rfl, _, rfl⟩
      rw [foldl_range_succ]
      generalize (List.range i).foldl (fun out k => out.set (s.getD k 0) k) (List.replicate s.length 0) = out at hlen ⊢
      generalize s.getD i 0 = v at hg hlt ⊢
      have hix : ixN out.length (v : Int) = some v := ixN_nc (by omega)
      rcases hx with rfl | rfl | rfl <;> simp [hg, hix, ni_set])
  rw [Nat.zero_add, ni_length, List.length_range] at he3
  obtain ⟨env, bag⟩ := st'
  simp only at hb3 he3
  rw [hb3, he3] at e3
  rw [F_law_back, runF_eq, if_pos (by rfl)]
  show outF (mSeq _ _ (⟨[x, .no, .no], b⟩ : Sta BagT)) = _
  rw [mSeq_ap, c1, Option.bind_some, M.thn_nx, mSeq_ap, mFor_ap, c2, Option.bind_some]
  simp only
  rw [e3, Option.bind_some, M.thn_nx]
  simp [back]
end W

/-! Q2: permutations of 0 .. n - 1 as lists; what hangs together. -/
namespace W
open PySem L2 M
variable [Wrt]
/-! ### counting -/
theorem sub_len : ∀ {l m : List Nat}, l.Nodup → (∀ x ∈ l, x ∈ m) → l.length ≤ m.length
  | [], _, _, _ => Nat.zero_le _
  | x :: l, m, hn, hs => by
    have hn2 := List.nodup_cons.mp hn
    have hx : x ∈ m := hs x List.mem_cons_self
    have h1 : l.length ≤ (m.erase x).length := sub_len hn2.2 fun y hy => by
      have hne : y ≠ x := fun e => hn2.1 (by rw [← e]; exact hy)
      exact (List.mem_erase_of_ne hne).mpr (hs y (List.mem_cons_of_mem _ hy))
    have h2 := List.length_erase_of_mem hx
    have h3 : 0 < m.length := List.length_pos_of_mem hx
    rw [List.length_cons]
    omega
theorem sub_all {l m : List Nat} (hn : l.Nodup) (hs : ∀ x ∈ l, x ∈ m) (hl : m.length ≤ l.length) : ∀ y ∈ m, y ∈ l := fun y hy => by
  by_cases h : y ∈ l
  · exact h
  · have h1 := sub_len (l := y :: l) (m := m) (List.nodup_cons.mpr ⟨h, hn⟩) fun x hx => by
      rcases List.mem_cons.mp hx with e | hx
      · rw [e]; exact hy
      · exact hs x hx
    rw [List.length_cons] at h1
    omega
theorem getD_eq {l : List Nat} {i : Nat} (h : i < l.length) : l.getD i 0 = l[i] := by
  rw [List.getD_eq_getElem?_getD, List.getElem?_eq_getElem h]
  rfl
theorem nd_of_inj {l : List Nat} (h : ∀ i j, i < l.length → j < l.length → l.getD i 0 = l.getD j 0 → i = j) : l.Nodup := by
  unfold List.Nodup
  rw [List.pairwise_iff_getElem]
  intro i j hi hj hij e
  rw [← getD_eq hi, ← getD_eq hj] at e
  have := h i j hi hj e
  omega
theorem inj_of_nd {l : List Nat} (h : l.Nodup) {i j : Nat} (hi : i < l.length) (hj : j < l.length) (e : l.getD i 0 = l.getD j 0) : i = j := by
  rw [getD_eq hi, getD_eq hj] at e
  unfold List.Nodup at h
  rw [List.pairwise_iff_getElem] at h
  rcases Nat.lt_trichotomy i j with c | c | c
  · exact absurd e (h i j hi hj c)
  · exact c
  · exact absurd e.symm (h j i hj hi c)
theorem mem_getD {l : List Nat} {x : Nat} (h : x ∈ l) : ∃ i, i < l.length ∧ l.getD i 0 = x := by
  obtain ⟨i, hi, e⟩ := List.mem_iff_getElem.mp h
  exact ⟨i, hi, by rw [getD_eq hi]; exact e⟩
/-! ### permutations -/
structure Pm (n : Nat) (s : List Nat) : Prop where
  lt : Lt n s
  nd : s.Nodup
namespace Pm
variable [Wrt]
variable {n : Nat} {s : List Nat}
theorem inj (h : Pm n s) {i j : Nat} (hi : i < n) (hj : j < n) (e : s.getD i 0 = s.getD j 0) : i = j := inj_of_nd h.nd (by rw [h.lt.1]; exact hi) (by rw [h.lt.1]; exact hj) e
theorem sur (h : Pm n s) {k : Nat} (hk : k < n) : ∃ j, j < n ∧ s.getD j 0 = k := by
  have h1 := sub_all (m := List.range n) h.nd (fun x hx => List.mem_range.mpr (h.lt.2 x hx)) (by rw [List.length_range, h.lt.1]; exact Nat.le_refl _) k (List.mem_range.mpr hk)
  obtain ⟨i, hi, e⟩ := mem_getD h1
  exact ⟨i, by rw [← h.lt.1]; exact hi, e⟩
theorem get (h : Pm n s) {k : Nat} (hk : k < n) : s.getD k 0 < n := (h.lt.get hk).2
theorem range (n : Nat) : Pm n (List.range n) := ⟨⟨List.length_range, fun e he => List.mem_range.mp he⟩, List.nodup_range⟩
end Pm
theorem getD_set_eq {l : List Nat} {k v : Nat} (h : k < l.length) : (l.set k v).getD k 0 = v := by
  rw [List.getD_eq_getElem?_getD, List.getElem?_set_self h]
  rfl
theorem getD_set_ne {l : List Nat} {k j v : Nat} (h : k ≠ j) : (l.set k v).getD j 0 = l.getD j 0 := by
  rw [List.getD_eq_getElem?_getD, List.getD_eq_getElem?_getD, List.getElem?_set_ne h]
theorem back_of {n : Nat} {s : List Nat} (h : Pm n s) {k : Nat} (hk : k < n) : (back s).getD (s.getD k 0) 0 = k := by
  have gen : ∀ m, m ≤ n → ∀ k, k < m → ((List.range m).foldl (fun out k => out.set (s.getD k 0) k) (List.replicate s.length 0)).getD (s.getD k 0) 0 = k := by
    intro m
    induction m with
    | zero => intro _ k hk; omega
    | succ m ih =>
      intro hm k hk
      rw [foldl_range_succ]
      have hlen := set_fold_len (f := fun out k => out.set (s.getD k 0) k) (fun l k => List.length_set ..) (List.replicate s.length 0) m
      rw [List.length_replicate] at hlen
      by_cases e : k = m
      · subst e
        exact getD_set_eq (by rw [hlen, h.lt.1]; exact h.get (by omega))
      · rw [getD_set_ne fun z => e (h.inj (by omega) (by omega) z.symm)]
        exact ih (by omega) k (by omega)
  unfold back
  rw [h.lt.1] at gen ⊢
  exact gen n (Nat.le_refl _) k hk
theorem of_back {n : Nat} {s : List Nat} (h : Pm n s) {k : Nat} (hk : k < n) : s.getD ((back s).getD k 0) 0 = k := by
  obtain ⟨j, hj, e⟩ := h.sur hk
  have := back_of h hj
  rw [e] at this
  rw [this, e]
theorem pm_back {n : Nat} {s : List Nat} (h : Pm n s) : Pm n (back s) := by
  refine ⟨back_lt h.lt, nd_of_inj fun i j hi hj e => ?_⟩
  rw [back_length, h.lt.1] at hi hj
  rw [← of_back h hi, ← of_back h hj, e]
/-- two entries exchanged -/
theorem pm_swap {n : Nat} {s : List Nat} (h : Pm n s) {i j : Nat} (hi : i < n) (hj : j < n) : Pm n ((s.set i (s.getD j 0)).set j (s.getD i 0)) := by
  refine ⟨(h.lt.set (h.get hj)).set (h.get hi), ?_⟩
  have hi' : i < s.length := by rw [h.lt.1]; exact hi
  have hj' : j < s.length := by rw [h.lt.1]; exact hj
  rw [getD_eq hi', getD_eq hj']
  exact ((List.set_set_perm hi' hj').nodup_iff).mpr h.nd
/-! ### what hangs together -/
theorem addNew_nd {g : List Nat} {t : Nat} (h : g.Nodup) : (addNew g t).Nodup := by
  unfold addNew
  split
  · exact h
  · rename_i ht
    rw [List.nodup_append]
    exact ⟨h, by simp, fun a ha b hb => by rw [List.mem_singleton.mp hb]; exact fun e => ht (by rw [← e]; exact ha)⟩
theorem addNew_pre (g : List Nat) (t : Nat) : ∃ u, addNew g t = g ++ u := by
  unfold addNew
  split
  · exact ⟨[], by simp⟩
  · exact ⟨[t], rfl⟩
theorem addNew_mem (g : List Nat) (t : Nat) : t ∈ addNew g t := by
  unfold addNew
  split
  · assumption
  · simp
theorem addAll_pre : ∀ (l g : List Nat), ∃ u, l.foldl addNew g = g ++ u
  | [], g => ⟨[], by simp⟩
  | t :: l, g => by
    obtain ⟨u, e⟩ := addNew_pre g t
    obtain ⟨v, e2⟩ := addAll_pre l (addNew g t)
    exact ⟨u ++ v, by rw [List.foldl_cons, e2, e, List.append_assoc]⟩
theorem addAll_nd : ∀ (l g : List Nat), g.Nodup → (l.foldl addNew g).Nodup
  | [], _, h => h
  | t :: l, g, h => addAll_nd l _ (addNew_nd h)
theorem addAll_mem : ∀ (l g : List Nat), ∀ x ∈ l, x ∈ l.foldl addNew g
  | t :: l, g, x, hx => by
    rw [List.foldl_cons]
    rcases List.mem_cons.mp hx with e | hx
    · obtain ⟨u, e2⟩ := addAll_pre l (addNew g t)
      rw [e2, e]
      exact List.mem_append_left _ (addNew_mem g t)
    · exact addAll_mem l _ x hx
theorem addAll_from : ∀ (l g : List Nat), ∀ x ∈ l.foldl addNew g, x ∈ g ∨ x ∈ l
  | [], g, x, hx => .inl hx
  | t :: l, g, x, hx => by
    rcases addAll_from l _ x hx with h | h
    · unfold addNew at h
      split at h
      · exact .inl h
      · rcases List.mem_append.mp h with h | h
        · exact .inl h
        · rw [List.mem_singleton.mp h]; exact .inr List.mem_cons_self
    · exact .inr (List.mem_cons_of_mem _ h)
structure GI (n : Nat) (r a : List Nat) (i : Nat) (g : List Nat) : Prop where
  nd : g.Nodup
  z : 0 ∈ g
  lt : ∀ e ∈ g, e < n
  cl : ∀ j, j < i → j < g.length → ∀ e ∈ nbrs r a (g.getD j 0), e ∈ g
theorem gi_step {n : Nat} {r a : List Nat} (hr : Lt n r) (ha : Lt n a) {i : Nat} {g : List Nat} (h : GI n r a i g) : GI n r a (i + 1) (stepG r a g i) := by
  unfold stepG
  split
  · rename_i hi
    obtain ⟨u, eu⟩ := addAll_pre (nbrs r a (g.getD i 0)) g
    have hs : ∀ x ∈ g, x ∈ (nbrs r a (g.getD i 0)).foldl addNew g := fun x hx => by rw [eu]; exact List.mem_append_left _ hx
    refine ⟨addAll_nd _ _ h.nd, hs 0 h.z, fun e he => ?_, fun j hj hjl e he => ?_⟩
    · rcases addAll_from _ _ e he with h1 | h1
      · exact h.lt e h1
      · exact nbrs_lt hr ha (h.lt _ (List.mem_of_getElem? (get_of hi))) e h1
    · have hjg : j < g.length := by omega
      have eg : ((nbrs r a (g.getD i 0)).foldl addNew g).getD j 0 = g.getD j 0 := by
        rw [eu, List.getD_eq_getElem?_getD, List.getD_eq_getElem?_getD, List.getElem?_append_left hjg]
      rw [eg] at he
      by_cases e1 : j = i
      · subst e1
        exact addAll_mem _ _ e he
      · exact hs e (h.cl j (by omega) hjg e he)
  · rename_i hi
    exact ⟨h.nd, h.z, h.lt, fun j hj hjl e he => h.cl j (by omega) hjl e he⟩
theorem group_gi {n : Nat} {r a : List Nat} (hr : Lt n r) (ha : Lt n a) (h0 : 0 < n) : GI n r a n (groupN r a) := by
  have gen : ∀ i, GI n r a i ((List.range i).foldl (stepG r a) [0]) := by
    intro i
    induction i with
    | zero => exact ⟨by simp, by simp, by simpa using h0, fun j hj => by omega⟩
    | succ i ih => rw [foldl_range_succ]; exact gi_step hr ha ih
  unfold groupN
  rw [hr.1]
  exact gen n
theorem group_len {n : Nat} {r a : List Nat} (hr : Lt n r) (ha : Lt n a) (h0 : 0 < n) : (groupN r a).length ≤ n := by
  have h := group_gi hr ha h0
  have := sub_len (m := List.range n) h.nd fun x hx => List.mem_range.mpr (h.lt x hx)
  rwa [List.length_range] at this
theorem group_cl {n : Nat} {r a : List Nat} (hr : Lt n r) (ha : Lt n a) (h0 : 0 < n) {x : Nat} (hx : x ∈ groupN r a) : ∀ e ∈ nbrs r a x, e ∈ groupN r a := by
  have h := group_gi hr ha h0
  obtain ⟨j, hj, e⟩ := mem_getD hx
  have hl := group_len hr ha h0
  have := h.cl j (by omega) hj
  rwa [e] at this
theorem group_least {n : Nat} {r a : List Nat} (hr : Lt n r) (ha : Lt n a) (h0 : 0 < n) {T : Nat → Prop} (t0 : T 0) (tc : ∀ x, x < n → T x → ∀ e ∈ nbrs r a x, T e) : ∀ x ∈ groupN r a, T x := by
  have gen : ∀ i, ∀ x ∈ (List.range i).foldl (stepG r a) [0], T x := by
    intro i
    induction i with
    | zero => intro x hx; rw [List.mem_singleton.mp hx]; exact t0
    | succ i ih =>
      intro x hx
      rw [foldl_range_succ] at hx
      have hb := (group_inv hr ha h0 i).1
      generalize (List.range i).foldl (stepG r a) [0] = g at ih hx hb
      unfold stepG at hx
      split at hx
      · rename_i hi
        have hm := List.mem_of_getElem? (get_of hi)
        rcases addAll_from _ _ x hx with h | h
        · exact ih x h
        · exact tc _ (hb _ hm) (ih _ hm) x h
      · exact ih x hx
  unfold groupN
  exact gen _
def Conn (n : Nat) (r a : List Nat) : Prop := ∀ k, k < n → k ∈ groupN r a
/-- two that stand apart, their upper neighbours exchanged, hang together -/
theorem merge_len {n : Nat} {r a : List Nat} (hr : Pm n r) (ha : Pm n a) (h0 : 0 < n) {k : Nat} (hk : k < n) (hg : k ∉ groupN r a) : (groupN r a).length < (groupN r ((a.set k (a.getD 0 0)).set 0 (a.getD k 0))).length := by
  have ha' : Pm n ((a.set k (a.getD 0 0)).set 0 (a.getD k 0)) := pm_swap ha hk h0
  have hal : a.length = n := ha.lt.1
  have hG := group_gi hr.lt ha.lt h0
  have hk0 : k ≠ 0 := fun e => hg (by rw [e]; exact hG.z)
  have e0 : ((a.set k (a.getD 0 0)).set 0 (a.getD k 0)).getD 0 0 = a.getD k 0 := getD_set_eq (by rw [List.length_set, hal]; exact h0)
  have ek : ((a.set k (a.getD 0 0)).set 0 (a.getD k 0)).getD k 0 = a.getD 0 0 := by
    rw [getD_set_ne (Ne.symm hk0)]
    exact getD_set_eq (by rw [hal]; exact hk)
  have en : ∀ z, z ≠ 0 → z ≠ k → ((a.set k (a.getD 0 0)).set 0 (a.getD k 0)).getD z 0 = a.getD z 0 := fun z h1 h2 => by
    rw [getD_set_ne (Ne.symm h1), getD_set_ne (Ne.symm h2)]
  generalize ((a.set k (a.getD 0 0)).set 0 (a.getD k 0)) = b at ha' e0 ek en
  have hT := group_gi hr.lt ha'.lt h0
  have cT : ∀ {x : Nat}, x ∈ groupN r b → ∀ e ∈ nbrs r b x, e ∈ groupN r b := fun hx => group_cl hr.lt ha'.lt h0 hx
  have cG : ∀ {x : Nat}, x ∈ groupN r a → ∀ e ∈ nbrs r a x, e ∈ groupN r a := fun hx => group_cl hr.lt ha.lt h0 hx
  have aG : ∀ x, x < n → a.getD x 0 ∈ groupN r a → x ∈ groupN r a := fun x hx h => by
    have := cG h ((back a).getD (a.getD x 0) 0) (by simp [nbrs])
    rwa [back_of ha hx] at this
  -- k hangs on
  have hkT : k ∈ groupN r b := by
    apply Classical.byContradiction
    intro hkT
    have stay : ∀ w ∈ (groupN r b).filter (fun x => !decide (x ∈ groupN r a)), a.getD w 0 ∈ (groupN r b).filter (fun x => !decide (x ∈ groupN r a)) := by
      intro w hw
      obtain ⟨h1, h2⟩ := List.mem_filter.mp hw
      have h2 : w ∉ groupN r a := by simpa using h2
      have hwn := hT.lt w h1
      have hwk : w ≠ k := fun e => hkT (by rw [← e]; exact h1)
      have hw0 : w ≠ 0 := fun e => h2 (by rw [e]; exact hG.z)
      refine List.mem_filter.mpr ⟨?_, ?_⟩
      · have := cT h1 (b.getD w 0) (by simp [nbrs])
        rwa [en w hw0 hwk] at this
      · have : a.getD w 0 ∉ groupN r a := fun z => h2 (aG w hwn z)
        simpa using this
    have z1 : a.getD k 0 ∈ (groupN r b).filter (fun x => !decide (x ∈ groupN r a)) := by
      refine List.mem_filter.mpr ⟨?_, ?_⟩
      · have := cT hT.z (b.getD 0 0) (by simp [nbrs])
        rwa [e0] at this
      · have : a.getD k 0 ∉ groupN r a := fun z => hg (aG k hk z)
        simpa using this
    have ndW : ((groupN r b).filter (fun x => !decide (x ∈ groupN r a))).Nodup := hT.nd.filter _
    have hWn : ∀ w ∈ (groupN r b).filter (fun x => !decide (x ∈ groupN r a)), w < n := fun w hw => hT.lt w (List.mem_filter.mp hw).1
    have hWk : k ∉ (groupN r b).filter (fun x => !decide (x ∈ groupN r a)) := fun z => hkT (List.mem_filter.mp z).1
    generalize (groupN r b).filter (fun x => !decide (x ∈ groupN r a)) = Wl at stay z1 ndW hWn hWk
    have ndM : (Wl.map fun w => a.getD w 0).Nodup := by
      unfold List.Nodup
      rw [List.pairwise_map]
      refine (List.Pairwise.imp_of_mem ?_ ndW)
      intro x y hx hy hne e
      exact hne (ha.inj (hWn x hx) (hWn y hy) e)
    have := sub_all ndM (m := Wl) (fun x hx => by
      obtain ⟨w, hw, rfl⟩ := List.mem_map.mp hx
      exact stay w hw) (by rw [List.length_map]; exact Nat.le_refl _) _ z1
    obtain ⟨w, hw, e⟩ := List.mem_map.mp this
    have hwk := ha.inj (hWn w hw) hk e
    exact hWk (by rw [← hwk]; exact hw)
  have sub : ∀ x ∈ groupN r a, x ∈ groupN r b := group_least hr.lt ha.lt h0 (T := fun x => x ∈ groupN r b) hT.z (fun x hx hxT e he => by
    simp only [nbrs, List.mem_cons, List.mem_nil_iff, or_false] at he
    rcases he with rfl | rfl | rfl | rfl
    · exact cT hxT _ (by simp [nbrs])
    · by_cases h1 : x = 0
      · rw [h1, ← ek]; exact cT hkT _ (by simp [nbrs])
      · by_cases h2 : x = k
        · rw [h2, ← e0]; exact cT hT.z _ (by simp [nbrs])
        · rw [← en x h1 h2]; exact cT hxT _ (by simp [nbrs])
    · exact cT hxT _ (by simp [nbrs])
    · have hy := (pm_back ha).get hx
      have ey := of_back ha hx
      generalize (back a).getD x 0 = y at hy ey
      by_cases h1 : y = 0
      · rw [h1]; exact hT.z
      · by_cases h2 : y = k
        · rw [h2]; exact hkT
        · have := cT hxT ((back b).getD x 0) (by simp [nbrs])
          rw [← ey, ← en y h1 h2, back_of ha' hy] at this
          exact this)
  have := sub_len (l := k :: groupN r a) (m := groupN r b) (List.nodup_cons.mpr ⟨hg, hG.nd⟩) fun x hx => by
    rcases List.mem_cons.mp hx with e | hx
    · rw [e]; exact hkT
    · exact sub x hx
  rw [List.length_cons] at this
  omega
end W

/-! Q3: boards with other numbers; names from a square. -/
namespace W
open PySem L2 M
variable [Wrt]
/-! ### names from a square -/
def stepO (r a g : List Nat) (k : Nat) : List Nat := if k < g.length then [r.getD (g.getD k 0) 0, a.getD (g.getD k 0) 0].foldl addNew g else g
def ordN (r a : List Nat) (s0 : Nat) : List Nat := (List.range r.length).foldl (stepO r a) [s0]
structure OI (n : Nat) (r a : List Nat) (s0 i : Nat) (g : List Nat) : Prop where
  nd : g.Nodup
  z : g[0]? = some s0
  lt : ∀ e ∈ g, e < n
  cl : ∀ j, j < i → j < g.length → r.getD (g.getD j 0) 0 ∈ g ∧ a.getD (g.getD j 0) 0 ∈ g
theorem oi_step {n : Nat} {r a : List Nat} (hr : Lt n r) (ha : Lt n a) {s0 i : Nat} {g : List Nat} (h : OI n r a s0 i g) : OI n r a s0 (i + 1) (stepO r a g i) := by
  unfold stepO
  split
  · rename_i hi
    have hgi := h.lt _ (List.mem_of_getElem? (get_of hi))
    obtain ⟨u, eu⟩ := addAll_pre [r.getD (g.getD i 0) 0, a.getD (g.getD i 0) 0] g
    have hs : ∀ x ∈ g, x ∈ [r.getD (g.getD i 0) 0, a.getD (g.getD i 0) 0].foldl addNew g := fun x hx => by rw [eu]; exact List.mem_append_left _ hx
    refine ⟨addAll_nd _ _ h.nd, ?_, fun e he => ?_, fun j hj hjl => ?_⟩
    · rw [eu, List.getElem?_append_left (by have := (List.getElem?_eq_some_iff.mp h.z).1; exact this)]
      exact h.z
    · rcases addAll_from _ _ e he with h1 | h1
      · exact h.lt e h1
      · simp only [List.mem_cons, List.mem_nil_iff, or_false] at h1
        rcases h1 with rfl | rfl
        · exact (hr.get hgi).2
        · exact (ha.get hgi).2
    · have hjg : j < g.length := by omega
      have eg : ([r.getD (g.getD i 0) 0, a.getD (g.getD i 0) 0].foldl addNew g).getD j 0 = g.getD j 0 := by
        rw [eu, List.getD_eq_getElem?_getD, List.getD_eq_getElem?_getD, List.getElem?_append_left hjg]
      rw [eg]
      by_cases e1 : j = i
      · subst e1
        exact ⟨addAll_mem _ _ _ (by simp), addAll_mem _ _ _ (by simp)⟩
      · have := h.cl j (by omega) hjg
        exact ⟨hs _ this.1, hs _ this.2⟩
  · rename_i hi
    exact ⟨h.nd, h.z, h.lt, fun j hj hjl => h.cl j (by omega) hjl⟩
theorem oi_at {n : Nat} {r a : List Nat} (hr : Lt n r) (ha : Lt n a) {s0 : Nat} (h0 : s0 < n) : ∀ i, OI n r a s0 i ((List.range i).foldl (stepO r a) [s0])
  | 0 => ⟨by simp, rfl, by simpa using h0, fun j hj => by omega⟩
  | i + 1 => by rw [foldl_range_succ]; exact oi_step hr ha (oi_at hr ha h0 i)
end W

/-! Q4: all squares named from any; boards with other numbers; shears. -/
namespace W
open PySem L2 M
variable [Wrt]
/-- from each square all get names -/
def HC (n : Nat) (r a : List Nat) : Prop := ∀ s, s < n → Pm n (ordN r a s)
theorem ord_least {n : Nat} {r a : List Nat} (hr : Lt n r) (ha : Lt n a) {s0 : Nat} (h0 : s0 < n) {T : Nat → Prop} (t0 : T s0) (t1 : ∀ x, x < n → T x → T (r.getD x 0)) (t2 : ∀ x, x < n → T x → T (a.getD x 0)) : ∀ x ∈ ordN r a s0, T x := by
  have gen : ∀ i, ∀ x ∈ (List.range i).foldl (stepO r a) [s0], T x := by
    intro i
    induction i with
    | zero => intro x hx; rw [List.mem_singleton.mp hx]; exact t0
    | succ i ih =>
      intro x hx
      rw [foldl_range_succ] at hx
      have hb := (oi_at hr ha h0 i).lt
      generalize (List.range i).foldl (stepO r a) [s0] = g at ih hx hb
      unfold stepO at hx
      split at hx
      · rename_i hi
        have hm := List.mem_of_getElem? (get_of hi)
        rcases addAll_from _ _ x hx with h | h
        · exact ih x h
        · simp only [List.mem_cons, List.mem_nil_iff, or_false] at h
          rcases h with rfl | rfl
          · exact t1 _ (hb _ hm) (ih _ hm)
          · exact t2 _ (hb _ hm) (ih _ hm)
      · exact ih x hx
  unfold ordN
  exact gen _
/-- a set of squares closed under a permutation is closed under its back -/
theorem cl_back {n : Nat} {s g : List Nat} (hs : Pm n s) (hn : g.Nodup) (hl : ∀ e ∈ g, e < n) (h : ∀ x ∈ g, s.getD x 0 ∈ g) : ∀ x ∈ g, (back s).getD x 0 ∈ g := fun x hx => by
  have ndM : (g.map fun w => s.getD w 0).Nodup := by
    unfold List.Nodup
    rw [List.pairwise_map]
    refine List.Pairwise.imp_of_mem ?_ hn
    intro x y hx hy hne e
    exact hne (hs.inj (hl x hx) (hl y hy) e)
  have := sub_all ndM (m := g) (fun x hx => by
    obtain ⟨w, hw, rfl⟩ := List.mem_map.mp hx
    exact h w hw) (by rw [List.length_map]; exact Nat.le_refl _) x hx
  obtain ⟨w, hw, e⟩ := List.mem_map.mp this
  rw [← e, back_of hs (hl w hw)]
  exact hw
/-! ### boards and places with other numbers -/
def srtN (l : List Nat) : List Nat := (srt (l.map fun (k : Nat) => (k : Int))).map Int.toNat
theorem srtN_cast (l : List Nat) : srt (l.map fun (k : Nat) => (k : Int)) = (srtN l).map fun (k : Nat) => (k : Int) := by
  unfold srtN
  rw [List.map_map]
  have h : ∀ x ∈ srt (l.map fun (k : Nat) => (k : Int)), ((fun (k : Nat) => (k : Int)) ∘ Int.toNat) x = x := fun x hx => by
    obtain ⟨k, _, rfl⟩ := List.mem_map.mp ((srt_perm _).mem_iff.mp hx)
    simp
  exact (List.map_congr_left h).trans (List.map_id' _) |>.symm
theorem srtN_perm (l : List Nat) : (srtN l).Perm l := by
  have h := (srt_perm (l.map fun (k : Nat) => (k : Int))).map Int.toNat
  rw [List.map_map] at h
  have e : l.map (Int.toNat ∘ fun (k : Nat) => (k : Int)) = l := by
    conv => rhs; rw [← List.map_id l]
    exact List.map_congr_left fun x _ => by simp
  rw [e] at h
  exact h
structure Pl where
  q : Nat
  x : Int × Int
  y : Int × Int
structure Bo where
  r : List Nat
  a : List Nat
  e : List Nat
  ps : List Pl
end W

/-! E0: the bag, draws, the evaluation of the new readings. -/
namespace M
open PySem L2
variable [Wrt]
section
variable {β : Type} [Sto β] [Kind β]
/-- a while by an invariant and what falls -/
theorem whileN_inv {t : Mn β Bool} {body : Ms β} (I : Nat → Sta β → Prop) (fin : Sta β → Prop)
    (h : ∀ m st, I m st → (∃ s1, t st = some (false, s1) ∧ fin s1) ∨ (∃ s1 o s2 m', t st = some (true, s1) ∧ body s1 = some (o, s2) ∧ (o = .nx ∨ o = .ct) ∧ m' < m ∧ I m' s2)) :
    ∀ (n m : Nat) (st : Sta β), I m st → m < n → ∃ s', whileN t body n st = some (.nx, s') ∧ fin s'
  | 0, m, st, _, hn => by omega
  | n + 1, m, st, hi, hn => by
    rcases h m st hi with ⟨s1, e, f⟩ | ⟨s1, o, s2, m', e1, e2, ho, hm, hi2⟩
    · exact ⟨s1, by simp only [whileN]; rw [e], f⟩
    · obtain ⟨s', e3, f⟩ := whileN_inv I fin h n m' s2 hi2 (by omega)
      refine ⟨s', ?_, f⟩
      simp only [whileN]
      rw [e1]
      simp only
      rw [e2]
      rcases ho with rfl | rfl
      · exact e3
      · exact e3
theorem mWhile_inv {t : Mn β Bool} {body : Ms β} (I : Nat → Sta β → Prop) (fin : Sta β → Prop)
    (h : ∀ m st, I m st → (∃ s1, t st = some (false, s1) ∧ fin s1) ∨ (∃ s1 o s2 m', t st = some (true, s1) ∧ body s1 = some (o, s2) ∧ (o = .nx ∨ o = .ct) ∧ m' < m ∧ I m' s2))
    (m : Nat) (st : Sta β) (hi : I m st) (hm : m < 4611686018427387904) : ∃ s', mWhile t body st = some (.nx, s') ∧ fin s' := whileN_inv I fin h fuel m st hi (Nat.lt_of_lt_of_le hm (Nat.le_of_ble_eq_true rfl))
end
@[simp] theorem mEnum_ap {β : Type} [Sto β] [Kind β] (a : Mn β R) (st : Sta β) : mEnum a st = (a st).bind fun p => (toIt p.1 p.2).map fun q => (enumD q.1, q.2) := by
  simp only [mEnum, mBind_ap]
  cases a st with
  | none => rfl
  | some p =>
    simp only [Option.bind_some]
    cases toIt p.1 p.2 <;> rfl
end M
namespace W
open PySem L2 M
variable [Wrt]
/-- the bag can be drawn from -/
structure Bg (b : BagT) : Prop where
  c : b.cells ≠ []
  s : b.sto = []
theorem drw (b : BagT) (hb : Bg b) (m : Nat) (h : 0 < m) (h2 : m < 1000000) : ∃ (j : Nat) (b' : BagT), F_draw [.val .res, .val (.int (m : Int))] b = some (.val (.int (j : Int)), b') ∧ j < m ∧ Bg b' := by
  have e := F_draw_eq (m := (m : Int)) b hb.c (by omega) (by omega)
  have l := draw_lt b (m := (m : Int)) (by omega)
  have c := draw_cells b (m : Int)
  have s := draw_sto b (m : Int)
  refine ⟨(draw b (m : Int)).1.toNat, (draw b (m : Int)).2, ?_, by omega, by rw [c]; exact hb.c, by rw [s]; exact hb.s⟩
  rw [e, Int.toNat_of_nonneg l.1]
theorem mem_ni {s : List Nat} {d : D} (h : d ∈ ni s) : ∃ k, k ∈ s ∧ d = .int (k : Int) := by
  unfold ni at h
  obtain ⟨k, hk, rfl⟩ := List.mem_map.mp h
  exact ⟨k, hk, rfl⟩
theorem ni_snoc (g : List Nat) (t : Nat) : ni g ++ [.int (t : Int)] = ni (g ++ [t]) := ni_append g [t]
def lkR : R → R
  | .val (.loc n) => .loc n
  | r => r
@[simp] theorem lkR_loc (n : Nat) : lkR (.val (.loc n)) = .loc n := rfl
@[simp] theorem lkR_at (n : Nat) : lkR (.at n) = .at n := rfl
@[simp] theorem lkR_t (l : List D) : lkR (.val (.tup l)) = .val (.tup l) := rfl
@[simp] theorem lkR_l (l : List D) : lkR (.val (.lst l)) = .val (.lst l) := rfl
@[simp] theorem lkR_n (d : D) : lkR (.new d) = .new d := rfl
@[simp] theorem mLk_ap {β : Type} [Sto β] [Kind β] [SPut β] [KPut β] (a : Mn β R) (st : Sta β) : mLk a st = (a st).map fun p => (lkR p.1, p.2) := by
  unfold mLk
  rw [mBind_ap]
  cases a st with
  | none => rfl
  | some p =>
    obtain ⟨r, s⟩ := p
    simp only [Option.bind_some, Option.map_some]
    cases r with
    | val d => cases d <;> rfl
    | _ => rfl
@[simp] theorem sto_b (b : BagT) : Sto.sto b = b.sto := rfl
@[simp] theorem stoS_b (e : List Sl) (b : BagT) : stoS (⟨e, b⟩ : Sta BagT) = b.sto := rfl
@[simp] theorem putS_b (e : List Sl) (b : BagT) (s : List Ob) : putS (⟨e, b⟩ : Sta BagT) s = ⟨e, { b with sto := s }⟩ := rfl
@[simp] theorem ixT_dit (ks ds : List D) (k : D) : fIxT (.dit ks ds) k = (tKey k).bind fun q => (gGet (ks.map nk) ds (some q)).map R.val := by
  simp only [fIxT]
  cases tKey k with
  | none => rfl
  | some q =>
    simp only [Option.bind_some]
    cases gGet (ks.map nk) ds (some q) <;> rfl
theorem back_len {n : Nat} {s : List Nat} (h : Lt n s) : (back s).length = n := by rw [back_length, h.1]
end W

/-! E1: least_alike. -/
namespace W
open PySem L2 M
variable [Wrt]
abbrev K3 := Nat × Nat × Nat
def q3 (k : K3) : NestedKey := .tup [.num k.1, .num k.2.1, .num k.2.2]
theorem q3_inj {k k' : K3} (h : q3 k = q3 k') : k = k' := by
  obtain ⟨a, b, c⟩ := k
  obtain ⟨a', b', c'⟩ := k'
  simp only [q3, NestedKey.tup.injEq, List.cons.injEq, NestedKey.num.injEq, and_true] at h
  obtain ⟨h1, h2, h3⟩ := h
  have : a = a' := by omega
  have : b = b' := by omega
  have : c = c' := by omega
  subst_vars
  rfl
/-- the key as data -/
structure Key3 (d : D) (k : K3) : Prop where
  t : tKey d = some (q3 k)
theorem Key3.nk' {d : D} {k : K3} (h : Key3 d k) : nk d = some (q3 k) := by
  obtain ⟨_, _, e, _⟩ := tKey_inv h.t
  exact e
/-- the first place of a key -/
def fi : List K3 → K3 → Option Nat
  | [], _ => none
  | x :: xs, k => if x = k then some 0 else (fi xs k).map (· + 1)
theorem fi_snoc (y k : K3) : ∀ xs : List K3, fi (xs ++ [y]) k = match fi xs k with
    | some i => some i
    | none => if y = k then some xs.length else none
  | [] => by
    simp only [List.nil_append, fi]
    split <;> simp
  | x :: xs => by
    simp only [List.cons_append, fi]
    by_cases h : x = k
    · simp [h]
    · rw [if_neg h, if_neg h, fi_snoc y k xs]
      cases fi xs k with
      | some i => rfl
      | none =>
        simp only [Option.map_none, List.length_cons]
        split <;> rfl
theorem fi_some {k : K3} : ∀ {xs : List K3} {i : Nat}, fi xs k = some i → xs[i]? = some k ∧ ∀ j, j < i → xs[j]? ≠ some k
  | [], _, h => by cases h
  | x :: xs, i, h => by
    simp only [fi] at h
    by_cases e : x = k
    · rw [if_pos e] at h
      cases h
      exact ⟨by simp [e], fun j hj => absurd hj (Nat.not_lt_zero j)⟩
    · rw [if_neg e] at h
      cases q : fi xs k with
      | none => rw [q] at h; cases h
      | some m =>
        rw [q] at h
        simp only [Option.map_some, Option.some.injEq] at h
        subst h
        obtain ⟨h1, h2⟩ := fi_some q
        refine ⟨by simpa using h1, fun j hj => ?_⟩
        cases j with
        | zero => simpa using e
        | succ j => simpa using h2 j (by omega)
theorem fi_mem {k : K3} : ∀ {xs : List K3}, k ∈ xs → ∃ i, fi xs k = some i
  | x :: xs, h => by
    simp only [fi]
    by_cases e : x = k
    · exact ⟨0, if_pos e⟩
    · rcases List.mem_cons.mp h with h | h
      · exact absurd h.symm e
      · obtain ⟨i, hi⟩ := fi_mem h
        exact ⟨i + 1, by rw [if_neg e, hi]; rfl⟩
/-- for each place the first with the same key -/
def leastN (ks : List K3) : List Nat := ks.map fun k => (fi ks k).getD 0
/-- what the dict holds behind some keys -/
structure DI (acc : D) (done : List K3) : Prop where
  ex : (acc = .dic [] [] ∧ done = []) ∨ ∃ kds vals, acc = .dit kds vals ∧ kds.length ≤ done.length ∧ done ≠ [] ∧ kds.length = vals.length ∧ ∀ k : K3, gGet (kds.map nk) vals (some (q3 k)) = (fi done k).map fun i : Nat => D.int (i : Int)
theorem gGet_snoc {κ α : Type} [DecidableEq κ] {q k : κ} {x : α} : ∀ {ks : List κ} {xs : List α}, ks.length = xs.length → gGet (ks ++ [k]) (xs ++ [x]) q = match gGet ks xs q with
    | some y => some y
    | none => if k = q then some x else none
  | [], [], _ => by
    simp only [List.nil_append, gGet]
  | a :: ks, y :: xs, h => by
    simp only [List.cons_append, gGet]
    by_cases e : a = q
    · simp [e]
    · rw [if_neg e, if_neg e]
      exact gGet_snoc (by simpa using h)
theorem DI.put {acc : D} {done : List K3} (h : DI acc done) {d : D} {k : K3} (hk : Key3 d k) (hl : done.length < line) : ∃ x acc', dSetd acc d (.int (done.length : Int)) = some (x, acc') ∧ DI acc' (done ++ [k]) := by
  have hn : nk d = some (q3 k) := hk.nk'
  rcases h.ex with ⟨rfl, rfl⟩ | ⟨kds, vals, rfl, hle, hne, hlen, hg⟩
  · refine ⟨_, _, by simp only [dSetd, hk.t]; rfl, ⟨.inr ⟨[d], [.int 0], rfl, by simp, by simp, rfl, fun k' => ?_⟩⟩⟩
    simp only [List.map_cons, List.map_nil, hn, gGet, List.nil_append, fi, Option.some.injEq]
    by_cases e : k = k'
    · rw [if_pos (by rw [e]), if_pos e]; rfl
    · rw [if_neg (fun z => e (q3_inj z)), if_neg e]; rfl
  · have hgk := hg k
    cases q : fi done k with
    | some i =>
      rw [q] at hgk
      refine ⟨.int (i : Int), _, by simp only [dSetd, hk.t, hgk, Option.map_some], ⟨.inr ⟨kds, vals, rfl, by rw [List.length_append]; omega, by simp, hlen, fun k' => ?_⟩⟩⟩
      rw [hg, fi_snoc]
      cases q' : fi done k' with
      | some j => rfl
      | none =>
        have : k ≠ k' := fun e => by rw [← e, q] at q'; cases q'
        simp [this]
    | none =>
      rw [q] at hgk
      have hlt : kds.length < line := by omega
      refine ⟨.int (done.length : Int), _, by simp only [dSetd, hk.t, hgk, Option.map_none, if_pos hlt], ⟨.inr ⟨kds ++ [d], vals ++ [.int (done.length : Int)], rfl, by simp; omega, by simp, by simp [hlen], fun k' => ?_⟩⟩⟩
      rw [List.map_append, List.map_cons, List.map_nil, gGet_snoc (by simpa using hlen), hg, fi_snoc, hn]
      cases q' : fi done k' with
      | some j => rfl
      | none =>
        simp only [Option.map_none, Option.some.injEq]
        by_cases e : k = k'
        · rw [if_pos (by rw [e]), if_pos e]; rfl
        · rw [if_neg (fun z => e (q3_inj z)), if_neg e]; rfl
@[simp] theorem mSetd_own (i : Nat) (mk mv : Mn BagT D) (e : List Sl) (b : BagT) (acc k x : D) (h : e[i]? = some (.own acc)) (ht : isTd acc = true) (hk : mk ⟨e, b⟩ = some (k, ⟨e, b⟩)) (hv : mv ⟨e, b⟩ = some (x, ⟨e, b⟩)) :
    mSetd i mk mv (⟨e, b⟩ : Sta BagT) = (dSetd acc k x).map fun p => (.val p.1, ⟨e.set i (.own p.2), b⟩) := by
  unfold mSetd
  simp only [h, if_pos ht, hk, hv]
  cases dSetd acc k x with
  | none => rfl
  | some p => rfl
theorem DI.td {acc : D} {done : List K3} (h : DI acc done) : isTd acc = true := by
  rcases h.ex with ⟨rfl, _⟩ | ⟨_, _, rfl, _⟩ <;> rfl
/-- keys as data -/
def Keys (ds : List D) (ks : List K3) : Prop := ds.length = ks.length ∧ ∀ (i : Nat) (d : D) (k : K3), ds[i]? = some d → ks[i]? = some k → Key3 d k
theorem Keys.get {ds : List D} {ks : List K3} (h : Keys ds ks) {i : Nat} {d : D} (e : ds[i]? = some d) : ∃ k, ks[i]? = some k ∧ Key3 d k := by
  have hi : i < ks.length := by rw [← h.1]; exact (List.getElem?_eq_some_iff.mp e).1
  exact ⟨_, List.getElem?_eq_getElem hi, h.2 i d _ e (List.getElem?_eq_getElem hi)⟩
theorem keys_map {γ : Type} (l : List γ) (f : γ → D) (g : γ → K3) (h : ∀ x ∈ l, Key3 (f x) (g x)) : Keys (l.map f) (l.map g) := by
  refine ⟨by simp, fun i d k e1 e2 => ?_⟩
  rw [List.getElem?_map] at e1 e2
  cases q : l[i]? with
  | none => rw [q] at e1; cases e1
  | some x =>
    rw [q] at e1 e2
    cases e1
    cases e2
    exact h x (List.mem_of_getElem? q)
theorem la_body (kds : List D) (b : BagT) (acc : D) (z2 z3 : Sl) (j : Nat) (d : D) (k : K3) (done : List K3) (h : DI acc done) (hk : Key3 d k) (hj : j = done.length) (hl : done.length < line) :
    ∃ acc', DI acc' (done ++ [k]) ∧ ((tmT (tmCons (tmN 2) (tmCons (tmN 3) (tmNil))) 2 (.tup [.int (j : Int), d]) (⟨[.lock (.lst kds), .own acc, z2, z3], b⟩ : Sta BagT)).bind (mEx (mSetd 1 (mD (mV 3)) (mD (mV 2))))) = some (.nx, ⟨[.lock (.lst kds), .own acc', .val (.int (j : Int)), .val d], b⟩) := by
  obtain ⟨x, acc', e, h'⟩ := h.put hk hl
  refine ⟨acc', h', ?_⟩
  rw [← hj] at e
  have e2 := mSetd_own 1 (mD (mV 3)) (mD (mV 2)) [.lock (.lst kds), .own acc, .val (.int (j : Int)), .val d] b acc d (.int (j : Int)) rfl h.td (by simp) (by simp)
  rw [e] at e2
  simp [e2]
theorem least_alike_eq (kds : List D) (ks : List K3) (hk : Keys kds ks) (hl : ks.length < line) (b : BagT) : F_least_alike [.lock (.lst kds)] b = some (.new (.lst (ni (leastN ks))), b) := by
  obtain ⟨st', e, acc, z2, z3, he, hb, hz3, hd⟩ := forL_inv (tg := tmT (tmCons (tmN 2) (tmCons (tmN 3) (tmNil))) 2) (body := mEx (mSetd 1 (mD (mV 3)) (mD (mV 2))))
    (fun i (st : Sta BagT) => ∃ acc z2 z3, st.env = [.lock (.lst kds), .own acc, z2, z3] ∧ st.bag = b ∧ (∀ d, z3 ≠ .own d) ∧ DI acc (ks.take i)) (enumD kds) 0 ⟨[.lock (.lst kds), .own (.dic [] []), .no, .no], b⟩ ⟨_, _, _, rfl, rfl, (fun d z => nomatch z), ⟨.inl ⟨rfl, by simp⟩⟩⟩ (fun i d st hd ⟨acc, z2, z3, he, hb, _, hdi⟩ => by
      rw [enumD_get] at hd
      cases q : kds[i]? with
      | none => rw [q] at hd; cases hd
      | some x =>
        rw [q] at hd
        cases hd
        obtain ⟨k, hk1, hk2⟩ := hk.get q
        obtain ⟨env, bag⟩ := st
        simp only at he hb
        subst he hb
        have hi : i < ks.length := (List.getElem?_eq_some_iff.mp hk1).1
        have hlen : (ks.take i).length = i := by rw [List.length_take]; omega
        rw [Nat.zero_add] at hdi ⊢
        obtain ⟨acc', h', e'⟩ := la_body kds bag acc z2 z3 i x k (ks.take i) hdi hk2 hlen.symm (by omega)
        have et : ks.take i ++ [k] = ks.take (i + 1) := by
          rw [List.take_add_one, hk1]
          rfl
        rw [et] at h'
        obtain ⟨s1, f1, f2⟩ := Option.bind_eq_some_iff.mp e'
        exact ⟨s1, .nx, _, f1, f2, .inl rfl, acc', _, _, rfl, rfl, (fun d z => nomatch z), h'⟩)
  obtain ⟨env, bag⟩ := st'
  simp only at he hb
  subst he hb
  rw [Nat.zero_add, enumD_len, hk.1, List.take_length] at hd
  have hno : noOwn [Sl.lock (.lst kds), .own acc, z2, z3] [3] = true := by
    cases z3 with
    | own d => exact absurd rfl (hz3 d)
    | _ => rfl
  have fin : mComp [3] (mIt (mV 0)) (tmN 3) (mYes) (mD (mOp2 fIxT (mV 1) (mV 3))) (⟨[.lock (.lst kds), .own acc, z2, z3], bag⟩ : Sta BagT) = some (.new (.lst (ni (leastN ks))), ⟨[.lock (.lst kds), .own acc, z2, z3], bag⟩) := by
    have c0 : mIt (mV 0) (⟨[.lock (.lst kds), .own acc, z2, z3], bag⟩ : Sta BagT) = some (kds, ⟨[.lock (.lst kds), .own acc, z2, z3], bag⟩) := by simp
    have look : ∀ d ∈ kds, ∃ i k, fi ks k = some i ∧ Key3 d k ∧ fIxT acc d = some (.val (.int (i : Int))) := fun d hdm => by
      obtain ⟨j, hj⟩ := List.getElem?_of_mem hdm
      obtain ⟨k, hk1, hk2⟩ := hk.get hj
      obtain ⟨i, hi⟩ := fi_mem (List.mem_of_getElem? hk1)
      rcases hd.ex with ⟨_, h0⟩ | ⟨kds', vals, rfl, _, _, _, hg⟩
      · rw [h0] at hk1; cases hk1
      · exact ⟨i, k, hi, hk2, by simp [hk2.t, hg, hi]⟩
    rw [mComp_pure (fun _ => true) (fun d => match fIxT acc d with
      | some (.val x) => x
      | _ => .non) c0 hno (by rw [hk.1]; omega)]
    · have e : ((kds.filter fun _ => true).map fun d => match fIxT acc d with
        | some (.val x) => x
        | _ => .non) = ni (leastN ks) := by
        rw [List.filter_eq_self.mpr (fun _ _ => rfl)]
        refine List.ext_getElem? fun j => ?_
        rw [List.getElem?_map, ni_get, leastN, List.getElem?_map]
        cases q : kds[j]? with
        | none =>
          have : ks[j]? = none := by
            rw [List.getElem?_eq_none_iff] at q ⊢
            rw [← hk.1]; exact q
          rw [this]; rfl
        | some d =>
          obtain ⟨k, hk1, hk2⟩ := hk.get q
          obtain ⟨i, k', h1, h2, h3⟩ := look d (List.mem_of_getElem? q)
          have : k' = k := by
            have := h2.t
            rw [hk2.t] at this
            exact (q3_inj (Option.some.inj this)).symm
          subst this
          rw [hk1]
          simp [h3, h1]
      rw [e]
    · intro d hdm
      obtain ⟨i, k, _, _, h3⟩ := look d hdm
      refine ⟨⟨[.lock (.lst kds), .own acc, z2, .val d], bag⟩, ⟨[.lock (.lst kds), .own acc, z2, .val d], bag⟩, rfl, rfl, fun _ => ⟨⟨[.lock (.lst kds), .own acc, z2, .val d], bag⟩, by simp [h3], rfl, rfl⟩, fun h => by cases h⟩
  rw [F_least_alike, runF_eq, if_pos (by rfl)]
  show outF (mSeq _ _ (⟨[.lock (.lst kds), .no, .no, .no], bag⟩ : Sta BagT)) = _
  have c1 : mSet 1 (mDic0) (⟨[.lock (.lst kds), .no, .no, .no], bag⟩ : Sta BagT) = some (.nx, ⟨[.lock (.lst kds), .own (.dic [] []), .no, .no], bag⟩) := by simp
  have c2 : mEnum (mV 0) (⟨[.lock (.lst kds), .own (.dic [] []), .no, .no], bag⟩ : Sta BagT) = some (enumD kds, ⟨[.lock (.lst kds), .own (.dic [] []), .no, .no], bag⟩) := by
    rfl
  rw [mSeq_ap, c1, Option.bind_some, M.thn_nx, mSeq_ap, mFor_ap, c2, Option.bind_some]
  simp only
  rw [e, Option.bind_some, M.thn_nx, mRet_ap, fin]
  simp
end W

/-! E2: lots by steps: plain. -/
namespace W
open PySem L2 M
variable [Wrt]
theorem getD_map {α : Type} (f : Nat → α) {n i : Nat} (d : α) (h : i < n) : ((List.range n).map f).getD i d = f i := by
  rw [List.getD_eq_getElem?_getD, List.getElem?_map, List.getElem?_range h]
  rfl
/-- the least place that f does not tell from i -/
def lf (n : Nat) (f : Nat → K3) : List Nat := leastN ((List.range n).map f)
structure LP (n : Nat) (l : List Nat) : Prop where
  len : l.length = n
  le : ∀ i, i < n → l.getD i 0 ≤ i
  id : ∀ i, i < n → l.getD (l.getD i 0) 0 = l.getD i 0
theorem lf_at (n : Nat) (f : Nat → K3) {i : Nat} (hi : i < n) : ∃ v, (lf n f).getD i 0 = v ∧ v ≤ i ∧ f v = f i ∧ ∀ j, j < v → f j ≠ f i := by
  have hm : f i ∈ (List.range n).map f := List.mem_map.mpr ⟨i, List.mem_range.mpr hi, rfl⟩
  obtain ⟨v, hv⟩ := fi_mem hm
  obtain ⟨h1, h2⟩ := fi_some hv
  have hvn : v < n := by
    have := (List.getElem?_eq_some_iff.mp h1).1
    simpa using this
  have at_ : ∀ j, j < n → ((List.range n).map f)[j]? = some (f j) := fun j hj => by rw [List.getElem?_map, List.getElem?_range hj]; rfl
  rw [at_ v hvn] at h1
  refine ⟨v, ?_, ?_, Option.some.inj h1, fun j hj e => h2 j hj (by rw [at_ j (by omega), e])⟩
  · unfold lf leastN
    rw [List.getD_eq_getElem?_getD, List.getElem?_map, at_ i hi]
    simp [hv]
  · apply Classical.byContradiction
    intro h
    exact h2 i (by omega) (at_ i hi)
theorem lf_lp (n : Nat) (f : Nat → K3) : LP n (lf n f) := by
  refine ⟨by simp [lf, leastN], fun i hi => ?_, fun i hi => ?_⟩
  · obtain ⟨v, e, h, _⟩ := lf_at n f hi
    rw [e]; exact h
  · obtain ⟨v, e, h, h2, h3⟩ := lf_at n f hi
    rw [e]
    obtain ⟨v', e', h', h2', h3'⟩ := lf_at n f (show v < n by omega)
    rw [e']
    apply Classical.byContradiction
    intro hne
    exact h3 v' (by omega) (by rw [h2', h2])
theorem lf_iff (n : Nat) (f : Nat → K3) {i j : Nat} (hi : i < n) (hj : j < n) : (lf n f).getD i 0 = (lf n f).getD j 0 ↔ f i = f j := by
  obtain ⟨v, e, h, h2, h3⟩ := lf_at n f hi
  obtain ⟨v', e', h', h2', h3'⟩ := lf_at n f hj
  rw [e, e']
  refine ⟨fun q => by rw [← h2, q, h2'], fun q => ?_⟩
  apply Classical.byContradiction
  intro hne
  rcases Nat.lt_or_gt_of_ne hne with z | z
  · exact h3' v z (by rw [h2, q])
  · exact h3 v' z (by rw [h2', q])
/-- the different numbers of a list, as met -/
def dd (l : List Nat) : List Nat := l.foldl addNew []
theorem dd_nd (l : List Nat) : (dd l).Nodup := addAll_nd l [] List.nodup_nil
theorem dd_mem {l : List Nat} {x : Nat} : x ∈ dd l ↔ x ∈ l := ⟨fun h => by
  rcases addAll_from l [] x h with h | h
  · simp at h
  · exact h, addAll_mem l [] x⟩
theorem dd_len {n : Nat} {l : List Nat} (h : LP n l) : (dd l).length ≤ n := by
  have := sub_len (l := dd l) (m := List.range n) (dd_nd l) fun x hx => by
    obtain ⟨i, hi, e⟩ := mem_getD (dd_mem.mp hx)
    rw [h.len] at hi
    have := h.le i hi
    exact List.mem_range.mpr (by omega)
  rwa [List.length_range] at this
/-- as many lots as before: the same lots -/
theorem lots_same {n : Nat} {l l' : List Nat} (h : LP n l) (h' : LP n l') (fine : ∀ i j, i < n → j < n → l.getD i 0 = l.getD j 0 → l'.getD i 0 = l'.getD j 0) (hd : (dd l).length ≤ (dd l').length) {i j : Nat} (hi : i < n) (hj : j < n) (e : l'.getD i 0 = l'.getD j 0) : l.getD i 0 = l.getD j 0 := by
  have head : ∀ v, v ∈ dd l' → v < n ∧ l'.getD v 0 = v := fun v hv => by
    obtain ⟨k, hk, e⟩ := mem_getD (dd_mem.mp hv)
    rw [h'.len] at hk
    have := h'.le k hk
    exact ⟨by omega, by rw [← e]; exact h'.id k hk⟩
  have sub : ∀ v ∈ dd l', v ∈ dd l := fun v hv => by
    obtain ⟨hvn, hv2⟩ := head v hv
    have h1 := h.le v hvn
    have h2 := fine (l.getD v 0) v (by omega) hvn (h.id v hvn)
    rw [hv2] at h2
    have h3 := h'.le (l.getD v 0) (by omega)
    have e : l.getD v 0 = v := by omega
    refine dd_mem.mpr ?_
    rw [← e]
    exact List.mem_of_getElem? (get_of (by rw [h.len]; exact hvn))
  have sup := sub_all (dd_nd l') sub hd
  have at_ : ∀ k, k < n → l.getD k 0 = l'.getD k 0 := fun k hk => by
    have hm : l.getD k 0 ∈ dd l' := sup _ (dd_mem.mpr (List.mem_of_getElem? (get_of (by rw [h.len]; exact hk))))
    obtain ⟨h1, h2⟩ := head _ hm
    have h3 := fine (l.getD k 0) k h1 hk (h.id k hk)
    rw [h2] at h3
    exact h3
  rw [at_ i hi, at_ j hj, e]
/-- the keys of a step -/
def stF (r a l : List Nat) (i : Nat) : K3 := (l.getD i 0, l.getD (r.getD i 0) 0, l.getD (a.getD i 0) 0)
/-- steps right and above lead from what R tells of to such -/
structure Bis (n : Nat) (r a : List Nat) (mf : Nat → K3) (T : Nat → Nat → Prop) : Prop where
  lt : ∀ i j, T i j → i < n ∧ j < n
  ms : ∀ i j, T i j → mf i = mf j
  rr : ∀ i j, T i j → T (r.getD i 0) (r.getD j 0)
  aa : ∀ i j, T i j → T (a.getD i 0) (a.getD j 0)
structure LI (n : Nat) (r a : List Nat) (mf : Nat → K3) (l : List Nat) (many : Nat) : Prop where
  lp : LP n l
  A : ∀ i j, i < n → j < n → l.getD i 0 = l.getD j 0 → mf i = mf j
  B : ∀ T, Bis n r a mf T → ∀ i j, T i j → l.getD i 0 = l.getD j 0
  C : many = 0 ∨ ∃ l', LP n l' ∧ many = (dd l').length ∧ ∀ i j, i < n → j < n → (l.getD i 0 = l.getD j 0 ↔ stF r a l' i = stF r a l' j)
theorem li_start (n : Nat) (r a : List Nat) (mf : Nat → K3) : LI n r a mf (lf n mf) 0 := ⟨lf_lp n mf, fun i j hi hj => (lf_iff n mf hi hj).mp, fun T hT i j h => (lf_iff n mf (hT.lt i j h).1 (hT.lt i j h).2).mpr (hT.ms i j h), .inl rfl⟩
theorem li_step {n : Nat} {r a : List Nat} {mf : Nat → K3} {l : List Nat} {many : Nat} (h : LI n r a mf l many) : LI n r a mf (lf n (stF r a l)) (dd l).length := by
  refine ⟨lf_lp n _, fun i j hi hj e => ?_, fun T hT i j ht => ?_, .inr ⟨l, h.lp, rfl, fun i j hi hj => lf_iff n _ hi hj⟩⟩
  · have := (lf_iff n (stF r a l) hi hj).mp e
    simp only [stF, Prod.mk.injEq] at this
    exact h.A i j hi hj this.1
  · refine (lf_iff n (stF r a l) (hT.lt i j ht).1 (hT.lt i j ht).2).mpr ?_
    simp only [stF, Prod.mk.injEq]
    exact ⟨h.B T hT i j ht, h.B T hT _ _ (hT.rr i j ht), h.B T hT _ _ (hT.aa i j ht)⟩
/-- the lots: steps tell nothing more -/
structure LF (n : Nat) (r a : List Nat) (mf : Nat → K3) (l : List Nat) : Prop where
  lp : LP n l
  A : ∀ i j, i < n → j < n → l.getD i 0 = l.getD j 0 → mf i = mf j
  B : ∀ T, Bis n r a mf T → ∀ i j, T i j → l.getD i 0 = l.getD j 0
  S : ∀ i j, i < n → j < n → l.getD i 0 = l.getD j 0 → l.getD (r.getD i 0) 0 = l.getD (r.getD j 0) 0 ∧ l.getD (a.getD i 0) 0 = l.getD (a.getD j 0) 0
theorem li_end {n : Nat} {r a : List Nat} {mf : Nat → K3} {l : List Nat} {many : Nat} (hn : 0 < n) (hr : Lt n r) (ha : Lt n a) (h : LI n r a mf l many) (hd : (dd l).length ≤ many) : LF n r a mf l := by
  refine ⟨h.lp, h.A, h.B, fun i j hi hj e => ?_⟩
  rcases h.C with h0 | ⟨l', hl', rfl, hC⟩
  · have : l.getD 0 0 ∈ dd l := dd_mem.mpr (List.mem_of_getElem? (get_of (by rw [h.lp.len]; exact hn)))
    have := List.length_pos_of_mem this
    omega
  · have fine : ∀ i j, i < n → j < n → l.getD i 0 = l.getD j 0 → l'.getD i 0 = l'.getD j 0 := fun i j hi hj e => by
      have := (hC i j hi hj).mp e
      simp only [stF, Prod.mk.injEq] at this
      exact this.1
    have := (hC i j hi hj).mp e
    simp only [stF, Prod.mk.injEq] at this
    exact ⟨lots_same h.lp hl' fine hd (hr.get hi).2 (hr.get hj).2 this.2.1, lots_same h.lp hl' fine hd (ha.get hi).2 (ha.get hj).2 this.2.2⟩
/-- no steps tell i and j apart -/
def Alike (n : Nat) (r a : List Nat) (mf : Nat → K3) (i j : Nat) : Prop := ∃ T, Bis n r a mf T ∧ T i j
theorem LF.iff {n : Nat} {r a : List Nat} {mf : Nat → K3} {l : List Nat} (hr : Lt n r) (ha : Lt n a) (h : LF n r a mf l) {i j : Nat} (hi : i < n) (hj : j < n) : l.getD i 0 = l.getD j 0 ↔ Alike n r a mf i j :=
  ⟨fun e => ⟨fun i j => i < n ∧ j < n ∧ l.getD i 0 = l.getD j 0, ⟨fun i j h => ⟨h.1, h.2.1⟩, fun i j q => h.A i j q.1 q.2.1 q.2.2, fun i j q => ⟨(hr.get q.1).2, (hr.get q.2.1).2, (h.S i j q.1 q.2.1 q.2.2).1⟩, fun i j q => ⟨(ha.get q.1).2, (ha.get q.2.1).2, (h.S i j q.1 q.2.1 q.2.2).2⟩⟩, hi, hj, e⟩,
    fun ⟨T, hT, ht⟩ => h.B T hT i j ht⟩
end W

/-! E3: lots_by. -/
namespace W
open PySem L2 M
variable [Wrt]
def inlN (k : Nat) : Key := .inl (k : Int)
theorem dHas_inl (g : List Nat) (k : Nat) : dHas (g.map inlN) (.inl (k : Int)) = decide (k ∈ g) := by
  unfold dHas
  rw [List.any_map]
  by_cases h : k ∈ g
  · rw [decide_eq_true h]
    exact List.any_eq_true.mpr ⟨k, h, by simp [inlN]⟩
  · rw [decide_eq_false h, Bool.eq_false_iff]
    intro z
    obtain ⟨x, hx, e⟩ := List.any_eq_true.mp z
    simp only [Function.comp_apply, inlN, decide_eq_true_eq, Sum.inl.injEq] at e
    have : x = k := by omega
    exact h (this ▸ hx)
theorem dPuts_dd : ∀ (l g : List Nat) (vs : List D), vs.length = g.length → g.length + l.length ≤ 1000 → ∃ vs' : List D, dPuts (.dic (g.map inlN) vs) (l.map fun k : Nat => (D.int (k : Int), D.bl true)) = some (.dic ((l.foldl addNew g).map inlN) vs') ∧ vs'.length = (l.foldl addNew g).length
  | [], g, vs, h, _ => ⟨vs, rfl, h⟩
  | k :: l, g, vs, h, hl => by
    rw [List.length_cons] at hl
    have hlt : (g.map inlN).length < line := by rw [List.length_map]; unfold line; omega
    have hk : keyOf (.int (k : Int)) = some (.inl (k : Int)) := rfl
    have e0 : dPutA (.dic (g.map inlN) vs) (.int (k : Int)) (.bl true) = some (.dic ((addNew g k).map inlN) (dPutV (g.map inlN) vs (.inl (k : Int)) (.bl true))) := by
      simp only [dPutA, hk, if_pos hlt]
      congr 2
      unfold dPutK addNew
      rw [dHas_inl]
      by_cases z : k ∈ g
      · simp [z]
      · simp [z, inlN]
    have hv : (dPutV (g.map inlN) vs (.inl (k : Int)) (.bl true)).length = (addNew g k).length := by
      unfold dPutV addNew
      rw [dHas_inl]
      by_cases z : k ∈ g
      · simp [z, h]
      · simp [z, h]
    obtain ⟨vs', e, e2⟩ := dPuts_dd l (addNew g k) _ hv (by have := addNew_len g k; omega)
    refine ⟨vs', ?_, e2⟩
    rw [List.map_cons]
    show (dPutA _ _ _).bind _ = _
    rw [e0, Option.bind_some, e]
    rfl
theorem zip3_at : ∀ {xs ys us : List D} {i : Nat} {x y u : D}, xs[i]? = some x → ys[i]? = some y → us[i]? = some u → (zip3D xs ys us)[i]? = some (.tup [x, y, u])
  | [], _, _, i, _, _, _, h, _, _ => by simp at h
  | _ :: _, [], _, i, _, _, _, _, h, _ => by simp at h
  | _ :: _, _ :: _, [], i, _, _, _, _, _, h => by simp at h
  | a :: xs, b :: ys, c :: us, 0, x, y, u, h1, h2, h3 => by
    simp only [List.getElem?_cons_zero, Option.some.injEq] at h1 h2 h3
    subst h1 h2 h3
    rfl
  | a :: xs, b :: ys, c :: us, i + 1, x, y, u, h1, h2, h3 => by
    simp only [List.getElem?_cons_succ] at h1 h2 h3
    simp only [zip3D, List.getElem?_cons_succ]
    exact zip3_at h1 h2 h3
theorem zip3_ni {n : Nat} {l r a : List Nat} (hl : l.length = n) (hr : r.length = n) (ha : a.length = n) : zip3D (ni l) (ni r) (ni a) = (List.range n).map fun i => D.tup [.int (l.getD i 0 : Int), .int (r.getD i 0 : Int), .int (a.getD i 0 : Int)] := by
  refine List.ext_getElem? fun i => ?_
  by_cases h : i < n
  · rw [List.getElem?_map, List.getElem?_range h]
    have e1 : (ni l)[i]? = some (.int (l.getD i 0 : Int)) := by rw [ni_get, get_of (by omega)]; rfl
    have e2 : (ni r)[i]? = some (.int (r.getD i 0 : Int)) := by rw [ni_get, get_of (by omega)]; rfl
    have e3 : (ni a)[i]? = some (.int (a.getD i 0 : Int)) := by rw [ni_get, get_of (by omega)]; rfl
    exact zip3_at e1 e2 e3
  · rw [List.getElem?_eq_none (by rw [zip3_len]; simp; omega), List.getElem?_eq_none (by simp; omega)]
/-- the test's dict -/
theorem lots_dict (i : Nat) (it : Mn BagT (List D)) (st st1 : Sta BagT) (l : List Nat) (v : Nat) (e5 : it st = some (ni l, st1)) (hv : st1.env[v]? = some .no) (hl : l.length ≤ 1000) :
    ∃ vs : List D, mDcomp [v] it (tmN v) (mYes) (mD (mV v)) (mD (mC (.bl true))) st = some (.new (.dic ((dd l).map inlN) vs), st1) ∧ vs.length = (dd l).length := by
  have no : noOwn st1.env [v] = true := by simp [noOwn, hv]
  have hvl : v < st1.env.length := (List.getElem?_eq_some_iff.mp hv).1
  obtain ⟨vs, e, h2⟩ := dPuts_dd l [] [] rfl (by simpa using hl)
  refine ⟨vs, ?_, h2⟩
  have k := mDcomp_pure (vs := [v]) (it := it) (tg := tmN v) (tt := mYes) (tk := mD (mV v)) (tv := mD (mC (.bl true))) (fun d => d) (fun _ => .bl true) e5 no (fun d hd => ?_)
  · rw [k]
    have e' : dPuts (.dic [] []) ((ni l).map fun d => (d, D.bl true)) = some (.dic ((dd l).map inlN) vs) := by
      rw [← show (List.map (fun k : Nat => (D.int (k : Int), D.bl true)) l) = (ni l).map fun d => (d, D.bl true) by simp [ni, Function.comp_def]]
      exact e
    rw [e']
    rfl
  · obtain ⟨env, bag⟩ := st1
    simp only at hv hvl
    have e0 : env.set v .no = env := by
      refine List.ext_getElem? fun j => ?_
      by_cases z : v = j
      · subst z
        rw [List.getElem?_set_self hvl, hv]
      · rw [List.getElem?_set_ne z]
    have hg : env.getD v .no = .no := by rw [List.getD_eq_getElem?_getD, hv]; rfl
    refine ⟨⟨(env.set v .no).set v (.val d), bag⟩, ⟨(env.set v .no).set v (.val d), bag⟩, ⟨(env.set v .no).set v (.val d), bag⟩, ⟨(env.set v .no).set v (.val d), bag⟩, rfl, rfl, ?_, rfl, rfl, ?_⟩
    · rw [e0, mD_ap, mV_ap]
      simp only [List.getElem?_set_self hvl]
      rfl
    · show ((env.set v .no).set v (.val d)).set v (env.getD v .no) = env
      rw [hg, e0, List.set_set, e0]
theorem fGt_nat (m k : Nat) : fGt (.int (m : Int)) (.int (k : Int)) = some (.val (.bl (decide (k < m)))) := by
  rw [fGt_i]
  congr 3
  by_cases h : k < m
  · rw [decide_eq_true h]; exact decide_eq_true (by omega)
  · rw [decide_eq_false h]; exact decide_eq_false (by omega)
noncomputable def lbT : Mn BagT Bool := mBl (mOp2 fGt (mBi fLen (mCons (mDcomp [5] (mIt (mV 3)) (tmN 5) (mYes) (mD (mV 5)) (mD (mC (.bl true)))) (mNil))) (mV 4))
noncomputable def lbB : Ms BagT := mSeq (mSet 4 (mBi fLen (mCons (mDcomp [5] (mIt (mV 3)) (tmN 5) (mYes) (mD (mV 5)) (mD (mC (.bl true)))) (mNil))))
    (mSet 3 (mCall F_least_alike (mCons (mComp [5, 6, 7] (mZip3 (mCons (mV 3) (mCons (mV 1) (mCons (mV 2) (mNil))))) (tmT (tmCons (tmN 5) (tmCons (tmN 6) (tmCons (tmN 7) (tmNil)))) 3) (mYes) (mD (mTup (mCons (mD (mV 5)) (mCons (mD (mOp2 fIx (mV 3) (mV 6))) (mCons (mD (mOp2 fIx (mV 3) (mV 7))) (mNil))))))) (mNil))))
/-- the slot of the lots: its own, or read since -/
def LSl (s : Sl) (l : List Nat) : Prop := s = .own (.lst (ni l)) ∨ s = .val (.lst (ni l))
def lbS (k : Sl) (r a : List Nat) (s m : Sl) (b : BagT) : Sta BagT := ⟨[k, .val (.tup (ni r)), .val (.tup (ni a)), s, m, .no, .no, .no], b⟩
theorem lb_it {k s m : Sl} {r a l : List Nat} {b : BagT} (h : LSl s l) : mIt (mV 3) (lbS k r a s m b) = some (ni l, lbS k r a (.val (.lst (ni l))) m b) := by
  rcases h with rfl | rfl <;> rfl
theorem lb_dict {k s m : Sl} {r a l : List Nat} {b : BagT} (h : LSl s l) (hl : l.length ≤ 1000) : mBi fLen (mCons (mDcomp [5] (mIt (mV 3)) (tmN 5) (mYes) (mD (mV 5)) (mD (mC (.bl true)))) (mNil)) (lbS k r a s m b) = some (.val (.int ((dd l).length : Int)), lbS k r a (.val (.lst (ni l))) m b) := by
  obtain ⟨vs, e, _⟩ := lots_dict 5 (mIt (mV 3)) (lbS k r a s m b) (lbS k r a (.val (.lst (ni l))) m b) l 5 (lb_it h) rfl hl
  rw [mBi_ap, mCons_ap, e]
  simp
theorem lb_test {k s : Sl} {r a l : List Nat} {m : Nat} {b : BagT} (h : LSl s l) (hl : l.length ≤ 1000) : lbT (lbS k r a s (.val (.int (m : Int))) b) = some (decide (m < (dd l).length), lbS k r a (.val (.lst (ni l))) (.val (.int (m : Int))) b) := by
  unfold lbT
  rw [mBl_ap, mOp2_ap, lb_dict h hl, Option.bind_some]
  have e : mV 4 (lbS k r a (.val (.lst (ni l))) (.val (.int (m : Int))) b) = some (.val (.int (m : Int)), lbS k r a (.val (.lst (ni l))) (.val (.int (m : Int))) b) := rfl
  simp only [e, Option.bind_some, pk_val, fGt_nat, Option.map_some, rBl_bl]
theorem tkey3 (x y z : Nat) : Key3 (.tup [.int (x : Int), .int (y : Int), .int (z : Int)]) (x, y, z) := ⟨by
  have : tKey (.tup [.int (x : Int), .int (y : Int), .int (z : Int)]) = some (.tup [.num (x : Int), .num (y : Int), .num (z : Int)]) := by
    simp [tKey, nk, nks, NestedKey.depth, NestedKey.depthAll]
  exact this⟩
theorem lb_keys {k m : Sl} {n : Nat} {r a l : List Nat} {b : BagT} (hl : LP n l) (hr : Lt n r) (ha : Lt n a) (hn : n ≤ 1000) : ∃ kds, mComp [5, 6, 7] (mZip3 (mCons (mV 3) (mCons (mV 1) (mCons (mV 2) (mNil))))) (tmT (tmCons (tmN 5) (tmCons (tmN 6) (tmCons (tmN 7) (tmNil)))) 3) (mYes) (mD (mTup (mCons (mD (mV 5)) (mCons (mD (mOp2 fIx (mV 3) (mV 6))) (mCons (mD (mOp2 fIx (mV 3) (mV 7))) (mNil)))))) (lbS k r a (.val (.lst (ni l))) m b) = some (.new (.lst kds), lbS k r a (.val (.lst (ni l))) m b) ∧ Keys kds ((List.range n).map (stF r a l)) := by
  have c0 : mZip3 (mCons (mV 3) (mCons (mV 1) (mCons (mV 2) (mNil)))) (lbS k r a (.val (.lst (ni l))) m b) = some ((List.range n).map fun i => D.tup [.int (l.getD i 0 : Int), .int (r.getD i 0 : Int), .int (a.getD i 0 : Int)], lbS k r a (.val (.lst (ni l))) m b) := by
    rw [← zip3_ni hl.len hr.1 ha.1]
    rfl
  refine ⟨(List.range n).map fun i => D.tup [.int (l.getD i 0 : Int), .int (l.getD (r.getD i 0) 0 : Int), .int (l.getD (a.getD i 0) 0 : Int)], ?_, keys_map _ _ _ fun i _ => tkey3 _ _ _⟩
  rw [mComp_pure (fun _ => true) (fun d => match d with
    | .tup [x, .int y, .int z] => .tup [x, .int (l.getD y.toNat 0 : Int), .int (l.getD z.toNat 0 : Int)]
    | d => d) c0 rfl (by simp only [List.length_map, List.length_range]; unfold line; omega)]
  · rw [List.filter_eq_self.mpr (fun _ _ => rfl), List.map_map]
    rfl
  · intro d hd
    obtain ⟨i, hi, rfl⟩ := List.mem_map.mp hd
    have hi := List.mem_range.mp hi
    have g1 := get_of (s := l) (k := r.getD i 0) (by rw [hl.len]; exact (hr.get hi).2)
    have g2 := get_of (s := l) (k := a.getD i 0) (by rw [hl.len]; exact (ha.get hi).2)
    generalize l.getD i 0 = x
    generalize r.getD i 0 = y at *
    generalize a.getD i 0 = z at *
    refine ⟨⟨[k, .val (.tup (ni r)), .val (.tup (ni a)), .val (.lst (ni l)), m, .val (.int (x : Int)), .val (.int (y : Int)), .val (.int (z : Int))], b⟩, ⟨[k, .val (.tup (ni r)), .val (.tup (ni a)), .val (.lst (ni l)), m, .val (.int (x : Int)), .val (.int (y : Int)), .val (.int (z : Int))], b⟩, rfl, rfl, fun _ => ⟨⟨[k, .val (.tup (ni r)), .val (.tup (ni a)), .val (.lst (ni l)), m, .val (.int (x : Int)), .val (.int (y : Int)), .val (.int (z : Int))], b⟩, ?_, rfl, rfl⟩, fun h => by cases h⟩
    have h3 : 3 ≤ line := by decide
    have e : (match (D.tup [.int (x : Int), .int (y : Int), .int (z : Int)]) with
      | .tup [x, .int y, .int z] => D.tup [x, .int (l.getD y.toNat 0 : Int), .int (l.getD z.toNat 0 : Int)]
      | d => d) = .tup [.int (x : Int), .int (l.getD y 0 : Int), .int (l.getD z 0 : Int)] := rfl
    rw [e]
    generalize l.getD y 0 = u at g1 ⊢
    generalize l.getD z 0 = v at g2 ⊢
    simp [g1, g2, h3]
theorem lb_body {k s : Sl} {n m : Nat} {r a l : List Nat} {b : BagT} (h : LSl s l) (hl : LP n l) (hr : Lt n r) (ha : Lt n a) (hn : n ≤ 1000) : lbB (lbS k r a s (.val (.int (m : Int))) b) = some (.nx, lbS k r a (.own (.lst (ni (lf n (stF r a l))))) (.val (.int ((dd l).length : Int))) b) := by
  obtain ⟨kds, e, hk⟩ := lb_keys (k := k) (m := .val (.int ((dd l).length : Int))) (b := b) hl hr ha hn
  have la := least_alike_eq kds _ hk (by simp only [List.length_map, List.length_range]; unfold line; omega) b
  unfold lbB
  rw [mSeq_ap, mSet_ap, lb_dict h (by rw [hl.len]; exact hn)]
  simp only [Option.bind_some]
  show (mSet 3 _ (lbS k r a (.val (.lst (ni l))) (.val (.int ((dd l).length : Int))) b)) = _
  rw [mSet_ap, mCall_ap, mCons_ap, e]
  simp [lbS, la]
  rfl
theorem lots_by_eq {n : Nat} {kds : List D} {r a : List Nat} {mf : Nat → K3} (hk : Keys kds ((List.range n).map mf)) (h0 : 0 < n) (hn : n ≤ 1000) (hr : Lt n r) (ha : Lt n a) (b : BagT) : ∃ l, F_lots_by [.lock (.lst kds), .val (.tup (ni r)), .val (.tup (ni a))] b = some (.val (.lst (ni l)), b) ∧ LF n r a mf l := by
  have la := least_alike_eq kds _ hk (by simp only [List.length_map, List.length_range]; unfold line; omega) b
  have c1 : mPars [3, 4] (mCons (mH (mCall F_least_alike (mCons (mV 0) (mNil)))) (mCons (mH (mC (.int 0))) (mNil))) (lbS (.lock (.lst kds)) r a .no .no b) = some (.nx, lbS (.lock (.lst kds)) r a (.own (.lst (ni (lf n mf)))) (.val (.int 0)) b) := by
    simp [lbS, la]
    rfl
  obtain ⟨st', e2, l, m, hl, rfl⟩ := mWhile_inv (t := lbT) (body := lbB)
    (fun k st => ∃ s l, LSl s l ∧ ∃ m, LI n r a mf l m ∧ st = lbS (.lock (.lst kds)) r a s (.val (.int (m : Int))) b ∧ k = n - m)
    (fun st => ∃ l m, LF n r a mf l ∧ st = lbS (.lock (.lst kds)) r a (.val (.lst (ni l))) m b) (fun k st ⟨s, l, hs, m, hI, hst, hkm⟩ => by
      subst hst
      have tt := lb_test (k := .lock (.lst kds)) (r := r) (a := a) (m := m) (b := b) hs (by rw [hI.lp.len]; exact hn)
      by_cases hd : m < (dd l).length
      · right
        rw [decide_eq_true hd] at tt
        have bb := lb_body (k := .lock (.lst kds)) (m := m) (b := b) (.inr rfl) hI.lp hr ha hn
        have hle := dd_len hI.lp
        exact ⟨_, .nx, _, n - (dd l).length, tt, bb, .inl rfl, by omega, _, _, .inl rfl, (dd l).length, li_step hI, rfl, rfl⟩
      · left
        rw [decide_eq_false hd] at tt
        exact ⟨_, tt, l, _, li_end h0 hr ha hI (by omega), rfl⟩) n (lbS (.lock (.lst kds)) r a (.own (.lst (ni (lf n mf)))) (.val (.int 0)) b) ⟨_, _, .inl rfl, 0, li_start n r a mf, rfl, rfl⟩ (by omega)
  refine ⟨l, ?_, hl⟩
  rw [F_lots_by, runF_eq, if_pos (by rfl)]
  show outF (mSeq _ _ (lbS (.lock (.lst kds)) r a .no .no b)) = _
  rw [mSeq_ap, c1, Option.bind_some, M.thn_nx, mSeq_ap]
  show outF ((mWhile lbT lbB (lbS (.lock (.lst kds)) r a (.own (.lst (ni (lf n mf)))) (.val (.int 0)) b)).bind _) = _
  rw [e2, Option.bind_some, M.thn_nx]
  rfl
end W

set_option maxHeartbeats 1000000
/-! E4: first_marks, least_board, same_square. -/
namespace W
open PySem L2 M
variable [Wrt]
/-- board data -/
def bdD (r a e : List Nat) : D := .tup [.tup (ni r), .tup (ni a), .tup (ni e)]
/-- a labelled board -/
def lbD (r a e u v : List Nat) : D := .tup [bdD r a e, .tup (ni u), .tup (ni v)]
structure Lb (n : Nat) (r a e u v : List Nat) : Prop where
  h0 : 0 < n
  hn : n ≤ 60
  hr : Lt n r
  ha : Lt n a
  hu : u.length = n
  hv : v.length = n
/-- what is told of a square by itself -/
def mfL (e u v : List Nat) (i : Nat) : K3 := (u.getD i 0, v.getD i 0, if i ∈ e then 1 else 0)
def mkD (e u v : List Nat) (i : Nat) : D := .tup [.int (u.getD i 0 : Int), .int (v.getD i 0 : Int), .bl (decide (i ∈ e))]
theorem mk_key (e u v : List Nat) (i : Nat) : Key3 (mkD e u v i) (mfL e u v i) := ⟨by
  unfold mkD mfL q3
  by_cases h : i ∈ e
  · simp [tKey, nk, nks, NestedKey.depth, NestedKey.depthAll, h]
  · simp [tKey, nk, nks, NestedKey.depth, NestedKey.depthAll, h]⟩
theorem ends_at_eq (r a e : List Nat) (i : Nat) (b : BagT) : F_ends_at [.val (bdD r a e), .val (.int (i : Int))] b = some (.val (.bl (decide (i ∈ e))), b) := by
  simp [F_ends_at, bdD, dIn_ni]
theorem first_marks_eq {n : Nat} {r a e u v : List Nat} (h : Lb n r a e u v) (b : BagT) : F_first_marks [.val (lbD r a e u v)] b = some (.new (.lst ((List.range n).map (mkD e u v))), b) := by
  have hn := h.hn
  have c1 : mUnp (mV 0) (tmT (tmCons (tmN 1) (tmCons (tmN 2) (tmCons (tmN 3) (tmNil)))) 3) (⟨[.val (lbD r a e u v), .no, .no, .no, .no], b⟩ : Sta BagT) = some (.nx, ⟨[.val (lbD r a e u v), .val (bdD r a e), .val (.tup (ni u)), .val (.tup (ni v)), .no], b⟩) := rfl
  have c2 : mRng fR1 (mCons (mBi fLen (mCons (mOp2 fIx (mV 1) (mC (.int 0))) (mNil))) (mNil)) (⟨[.val (lbD r a e u v), .val (bdD r a e), .val (.tup (ni u)), .val (.tup (ni v)), .no], b⟩ : Sta BagT) = some (ni (List.range n), ⟨[.val (lbD r a e u v), .val (bdD r a e), .val (.tup (ni u)), .val (.tup (ni v)), .no], b⟩) := by
    simp [bdD, h.hr.1, rgOk_nat (show n ≤ 1000000 by omega), rgL_ni]
  have c3 : mComp [4] (mRng fR1 (mCons (mBi fLen (mCons (mOp2 fIx (mV 1) (mC (.int 0))) (mNil))) (mNil))) (tmN 4) (mYes) (mD (mTup (mCons (mD (mOp2 fIx (mV 2) (mV 4))) (mCons (mD (mOp2 fIx (mV 3) (mV 4))) (mCons (mD (mCall F_ends_at (mCons (mV 1) (mCons (mV 4) (mNil))))) (mNil)))))) (⟨[.val (lbD r a e u v), .val (bdD r a e), .val (.tup (ni u)), .val (.tup (ni v)), .no], b⟩ : Sta BagT) = some (.new (.lst ((List.range n).map (mkD e u v))), ⟨[.val (lbD r a e u v), .val (bdD r a e), .val (.tup (ni u)), .val (.tup (ni v)), .no], b⟩) := by
    rw [mComp_pure (fun _ => true) (fun d => match d with
      | .int i => mkD e u v i.toNat
      | d => d) c2 rfl (by rw [ni_length, List.length_range]; unfold line; omega)]
    · rw [List.filter_eq_self.mpr (fun _ _ => rfl)]
      unfold ni
      rw [List.map_map]
      rfl
    · intro d hd
      obtain ⟨i, hi, rfl⟩ := mem_ni hd
      have hi := List.mem_range.mp hi
      have g1 := get_of (s := u) (k := i) (by rw [h.hu]; exact hi)
      have g2 := get_of (s := v) (k := i) (by rw [h.hv]; exact hi)
      refine ⟨⟨[.val (lbD r a e u v), .val (bdD r a e), .val (.tup (ni u)), .val (.tup (ni v)), .val (.int (i : Int))], b⟩, ⟨[.val (lbD r a e u v), .val (bdD r a e), .val (.tup (ni u)), .val (.tup (ni v)), .val (.int (i : Int))], b⟩, rfl, rfl, fun _ => ⟨⟨[.val (lbD r a e u v), .val (bdD r a e), .val (.tup (ni u)), .val (.tup (ni v)), .val (.int (i : Int))], b⟩, ?_, rfl, rfl⟩, fun h => by cases h⟩
      have h3 : 3 ≤ line := by decide
      have e0 : (match (D.int (i : Int)) with
        | .int i => mkD e u v i.toNat
        | d => d) = mkD e u v i := rfl
      rw [e0]
      unfold mkD
      generalize u.getD i 0 = x at g1 ⊢
      generalize v.getD i 0 = y at g2 ⊢
      simp [g1, g2, h3, ends_at_eq]
  rw [F_first_marks, runF_eq, if_pos (by rfl)]
  show outF (mSeq _ _ (⟨[.val (lbD r a e u v), .no, .no, .no, .no], b⟩ : Sta BagT)) = _
  rw [mSeq_ap, c1, Option.bind_some, M.thn_nx, mRet_ap, c3]
  rfl
/-! ### the least board -/
def pI (p : Nat × Nat) : D × D := (.int (p.1 : Int), .int (p.2 : Int))
theorem dPuts_row : ∀ (l : List (Nat × Nat)) (A B : List Nat), (A ++ l.map (·.1)).Nodup → A.length = B.length → A.length + l.length ≤ 1000 →
    dPuts (.dic (A.map inlN) (ni B)) (l.map pI) = some (.dic ((A ++ l.map (·.1)).map inlN) (ni (B ++ l.map (·.2))))
  | [], A, B, _, _, _ => by simp [dPuts]
  | p :: l, A, B, nd, hl, hn => by
    have hno : p.1 ∉ A := fun z => (List.nodup_append.mp nd).2.2 _ z _ (by simp) rfl
    have hh : dHas (A.map inlN) (.inl (p.1 : Int)) = false := by rw [dHas_inl]; exact decide_eq_false hno
    have hlt : (A.map inlN).length < line := by
      rw [List.length_map]
      simp only [List.length_cons] at hn
      unfold line
      omega
    have hk : keyOf (.int (p.1 : Int)) = some (.inl (p.1 : Int)) := rfl
    have e : dPutA (.dic (A.map inlN) (ni B)) (.int (p.1 : Int)) (.int (p.2 : Int)) = some (.dic ((A ++ [p.1]).map inlN) (ni (B ++ [p.2]))) := by
      simp only [dPutA, hk, if_pos hlt, dPutK, dPutV, hh]
      rw [← ni_append]
      simp [inlN, ni]
    show (dPutA _ (.int (p.1 : Int)) (.int (p.2 : Int))).bind _ = _
    rw [e, Option.bind_some, dPuts_row l (A ++ [p.1]) (B ++ [p.2]) (by simpa using nd) (by simp [hl]) (by simp only [List.length_append, List.length_cons, List.length_nil] at hn ⊢; omega)]
    simp
theorem dGet_row : ∀ (A : List Nat) (s i : Nat) (B : List Nat), A.Nodup → A.length = B.length → A[i]? = some s → dGet (A.map inlN) (ni B) (.inl (s : Int)) = (B[i]?).map fun k : Nat => D.int (k : Int)
  | [], _, _, _, _, _, h => by simp at h
  | _ :: _, _, _, [], _, h, _ => by simp at h
  | a :: A, s, 0, v :: B, _, _, h => by
    simp only [List.getElem?_cons_zero, Option.some.injEq] at h
    subst h
    simp [dGet, inlN, ni]
  | a :: A, s, i + 1, v :: B, nd, hl, h => by
    simp only [List.getElem?_cons_succ] at h
    have hne : a ≠ s := fun z => (List.nodup_cons.mp nd).1 (z ▸ List.mem_of_getElem? h)
    have hne2 : inlN a ≠ .inl (s : Int) := fun z => hne (by simp only [inlN, Sum.inl.injEq] at z; omega)
    show dGet (inlN a :: A.map inlN) (.int (v : Int) :: ni B) _ = _
    simp only [dGet]
    rw [if_neg hne2, dGet_row A s i B (List.nodup_cons.mp nd).2 (by simpa using hl) h]
    simp
theorem idx_get {l : List Nat} {s : Nat} (h : s ∈ l) : l[l.idxOf s]? = some s := by
  have := List.idxOf_lt_length_of_mem h
  rw [List.getElem?_eq_getElem this, List.getElem_idxOf]
/-- the heads, ascending -/
def hdN (l : List Nat) : List Nat := srtN (dd l)
theorem hd_mem {l : List Nat} {x : Nat} : x ∈ hdN l ↔ x ∈ l := ((srtN_perm (dd l)).mem_iff).trans dd_mem
theorem hd_nd (l : List Nat) : (hdN l).Nodup := ((srtN_perm (dd l)).nodup_iff).mpr (dd_nd l)
theorem hd_len (l : List Nat) : (hdN l).length = (dd l).length := (srtN_perm (dd l)).length_eq
theorem sorted_hd (l : List Nat) (vs : List D) (h : (dd l).length < 64) : fSortedI [.dic ((dd l).map inlN) vs] = some (.new (.lst (ni (hdN l)))) := by
  have e : (dd l).map inlN = ((dd l).map fun k : Nat => (k : Int)).map Sum.inl := by rw [List.map_map]; rfl
  simp only [fSortedI]
  rw [e, keysI_map]
  simp only [List.length_map, if_pos h]
  rw [srtN_cast, List.map_map]
  rfl
/-- the names of the squares in the least board -/
def nmN (l : List Nat) : List Nat := l.map fun x => (hdN l).idxOf x
theorem nm_iff {n : Nat} {l : List Nat} (hl : l.length = n) {i j : Nat} (hi : i < n) (hj : j < n) : (nmN l).getD i 0 = (nmN l).getD j 0 ↔ l.getD i 0 = l.getD j 0 := by
  have at_ : ∀ i, i < n → (nmN l).getD i 0 = (hdN l).idxOf (l.getD i 0) := fun i hi => by
    rw [List.getD_eq_getElem?_getD, nmN, List.getElem?_map, get_of (s := l) (by omega)]
    rfl
  rw [at_ i hi, at_ j hj]
  refine ⟨fun e => ?_, fun e => by rw [e]⟩
  have m1 := idx_get (hd_mem.mpr (List.mem_of_getElem? (get_of (s := l) (k := i) (by omega))))
  have m2 := idx_get (hd_mem.mpr (List.mem_of_getElem? (get_of (s := l) (k := j) (by omega))))
  rw [e, m2] at m1
  exact (Option.some.inj m1).symm
noncomputable def lba0 : Ms BagT := mUnp (mV 0) (tmT (tmCons (tmN 1) (tmCons (tmN 2) (tmCons (tmN 3) (tmNil)))) 3)
noncomputable def lba1 : Ms BagT := mSet 4 (mCall F_lots_by (mCons (mCall F_first_marks (mCons (mV 0) (mNil))) (mCons (mOp2 fIx (mV 1) (mC (.int 0))) (mCons (mOp2 fIx (mV 1) (mC (.int 1))) (mNil)))))
noncomputable def lba2 : Ms BagT := mSet 5 (mBi fSortedI (mCons (mDcomp [11] (mIt (mV 4)) (tmN 11) (mYes) (mD (mV 11)) (mD (mC (.bl true)))) (mNil)))
noncomputable def lba3 : Ms BagT := mSet 6 (mDcomp [12, 13] (mEnum (mV 5)) (tmT (tmCons (tmN 12) (tmCons (tmN 13) (tmNil))) 2) (mYes) (mD (mV 13)) (mD (mV 12)))
noncomputable def lba4 : Ms BagT := mSet 7 (mBi fTuple (mCons (mComp [11] (mIt (mV 4)) (tmN 11) (mYes) (mD (mOp2 fIx (mV 6) (mV 11)))) (mNil)))
noncomputable def lba5 : Ms BagT := mSet 8 (mComp [14] (mIt (mSl fCut (mV 1) (mNo) (mSo (mC (.int 2))))) (tmN 14) (mYes) (mD (mBi fTuple (mCons (mComp [13] (mIt (mV 5)) (tmN 13) (mYes) (mD (mOp2 fIx (mV 7) (mOp2 fIx (mV 14) (mV 13))))) (mNil)))))
noncomputable def lba6 : Ms BagT := mSet 9 (mBi fTuple (mCons (mComp [12, 13] (mEnum (mV 5)) (tmT (tmCons (tmN 12) (tmCons (tmN 13) (tmNil))) 2) (mTr (mCall F_ends_at (mCons (mV 1) (mCons (mV 13) (mNil))))) (mD (mV 12))) (mNil)))
noncomputable def lba7 : Ms BagT := mSet 10 (mTup (mCons (mD (mOp2 fIx (mV 8) (mC (.int 0)))) (mCons (mD (mOp2 fIx (mV 8) (mC (.int 1)))) (mCons (mD (mV 9)) (mNil)))))
noncomputable def lba8 : Ms BagT := mRet (mTup (mCons (mD (mTup (mCons (mD (mV 10)) (mCons (mD (mBi fTuple (mCons (mComp [13] (mIt (mV 5)) (tmN 13) (mYes) (mD (mOp2 fIx (mV 2) (mV 13)))) (mNil)))) (mCons (mD (mBi fTuple (mCons (mComp [13] (mIt (mV 5)) (tmN 13) (mYes) (mD (mOp2 fIx (mV 3) (mV 13)))) (mNil)))) (mNil)))))) (mCons (mD (mV 7)) (mNil))))
theorem least_board_run : F_least_board = runF 1 15 (mSeq lba0 (mSeq lba1 (mSeq lba2 (mSeq lba3 (mSeq lba4 (mSeq lba5 (mSeq lba6 (mSeq lba7 lba8)))))))) := rfl
/-- a step of the least board -/
def stN (l s : List Nat) : List Nat := (hdN l).map fun h => (nmN l).getD (s.getD h 0) 0
def enN (l e : List Nat) : List Nat := (List.range (hdN l).length).filter fun k => decide ((hdN l).getD k 0 ∈ e)
def atN (l u : List Nat) : List Nat := (hdN l).map fun h => u.getD h 0
/-- the least board -/
def lsD (l r a e u v : List Nat) : D := lbD (stN l r) (stN l a) (enN l e) (atN l u) (atN l v)
def lbS4 (r a e u v : List Nat) (x4 x5 x6 x7 x8 x9 x10 : Sl) (b : BagT) : Sta BagT := ⟨[.val (lbD r a e u v), .val (bdD r a e), .val (.tup (ni u)), .val (.tup (ni v)), x4, x5, x6, x7, x8, x9, x10, .no, .no, .no, .no], b⟩
section
variable {n : Nat} {r a e u v l : List Nat} {b : BagT}
theorem lb_c1 (h : Lb n r a e u v) : ∃ l, lba1 (lbS4 r a e u v .no .no .no .no .no .no .no b) = some (.nx, lbS4 r a e u v (.val (.lst (ni l))) .no .no .no .no .no .no b) ∧ LF n r a (mfL e u v) l := by
  have hn := h.hn
  obtain ⟨l, el, hl⟩ := lots_by_eq (keys_map (List.range n) (mkD e u v) (mfL e u v) fun i _ => mk_key e u v i) h.h0 (by omega) h.hr h.ha b
  have fm := first_marks_eq h b
  refine ⟨l, ?_, hl⟩
  simp [lba1, lbS4, fm, bdD] at el ⊢
  simp [el]
theorem lb_c2 (hl : LP n l) (hn : n ≤ 60) : lba2 (lbS4 r a e u v (.val (.lst (ni l))) .no .no .no .no .no .no b) = some (.nx, lbS4 r a e u v (.val (.lst (ni l))) (.own (.lst (ni (hdN l)))) .no .no .no .no .no b) := by
  obtain ⟨vs, e1, _⟩ := lots_dict 4 (mIt (mV 4)) (lbS4 r a e u v (.val (.lst (ni l))) .no .no .no .no .no .no b) (lbS4 r a e u v (.val (.lst (ni l))) .no .no .no .no .no .no b) l 11 rfl rfl (by rw [hl.len]; omega)
  have hd := dd_len hl
  unfold lba2
  rw [mSet_ap, mBi_ap, mCons_ap, e1]
  simp [sorted_hd l vs (by omega)]
  rfl
theorem lb_c3 (hl : LP n l) (hn : n ≤ 60) : lba3 (lbS4 r a e u v (.val (.lst (ni l))) (.own (.lst (ni (hdN l)))) .no .no .no .no .no b) = some (.nx, lbS4 r a e u v (.val (.lst (ni l))) (.val (.lst (ni (hdN l)))) (.own (.dic ((hdN l).map inlN) (ni (List.range (hdN l).length)))) .no .no .no .no b) := by
  have hd := dd_len hl
  have hh := hd_len l
  have nd := hd_nd l
  generalize hdN l = hs at *
  have k := mDcomp_pure (vs := [12, 13]) (it := mEnum (mV 5)) (tg := tmT (tmCons (tmN 12) (tmCons (tmN 13) (tmNil))) 2) (tt := mYes) (tk := mD (mV 13)) (tv := mD (mV 12)) (st := lbS4 r a e u v (.val (.lst (ni l))) (.own (.lst (ni hs))) .no .no .no .no .no b) (st1 := lbS4 r a e u v (.val (.lst (ni l))) (.val (.lst (ni hs))) .no .no .no .no .no b) (ds := enumD (ni hs)) (fun d => match d with
      | .tup [_, y] => y
      | d => d) (fun d => match d with
      | .tup [x, _] => x
      | d => d) rfl rfl (fun d hd => by
    obtain ⟨i, hi⟩ := List.getElem?_of_mem hd
    rw [enumD_get] at hi
    cases q : (ni hs)[i]? with
    | none => rw [q] at hi; cases hi
    | some x =>
      rw [q] at hi
      cases hi
      exact ⟨⟨[.val (lbD r a e u v), .val (bdD r a e), .val (.tup (ni u)), .val (.tup (ni v)), .val (.lst (ni l)), .val (.lst (ni hs)), .no, .no, .no, .no, .no, .no, .val (.int (i : Int)), .val x, .no], b⟩, _, _, _, rfl, rfl, rfl, rfl, rfl, rfl⟩)
  unfold lba3
  rw [mSet_ap, k]
  have e2 : (enumD (ni hs)).map (fun d => ((match d with
      | .tup [_, y] => y
      | d => d : D), (match d with
      | .tup [x, _] => x
      | d => d : D))) = (hs.zip (List.range hs.length)).map pI := by
    refine List.ext_getElem? fun i => ?_
    rw [List.getElem?_map, enumD_get, List.getElem?_map, ni_get]
    by_cases hi : i < hs.length
    · have hz : (hs.zip (List.range hs.length))[i]? = some (hs.getD i 0, i) := List.getElem?_zip_eq_some.mpr ⟨get_of hi, List.getElem?_range hi⟩
      rw [hz, get_of hi]
      rfl
    · have hz : (hs.zip (List.range hs.length))[i]? = none := List.getElem?_eq_none (by simp; omega)
      rw [hz, List.getElem?_eq_none (by omega)]
      rfl
  have z1 : (hs.zip (List.range hs.length)).map (·.1) = hs := List.map_fst_zip (by simp)
  have z2 : (hs.zip (List.range hs.length)).map (·.2) = List.range hs.length := List.map_snd_zip (by simp)
  have dp := dPuts_row (hs.zip (List.range hs.length)) [] [] (by rw [z1]; simpa using nd) rfl (by simp; omega)
  rw [z1, z2] at dp
  have dp' : dPuts (.dic [] []) ((hs.zip (List.range hs.length)).map pI) = some (.dic (hs.map inlN) (ni (List.range hs.length))) := dp
  rw [e2, dp']
  rfl
theorem lb_c4 (hl : LP n l) (hn : n ≤ 60) : lba4 (lbS4 r a e u v (.val (.lst (ni l))) (.val (.lst (ni (hdN l)))) (.own (.dic ((hdN l).map inlN) (ni (List.range (hdN l).length)))) .no .no .no .no b) = some (.nx, lbS4 r a e u v (.val (.lst (ni l))) (.val (.lst (ni (hdN l)))) (.own (.dic ((hdN l).map inlN) (ni (List.range (hdN l).length)))) (.val (.tup (ni (nmN l)))) .no .no .no b) := by
  have hm : ∀ x ∈ l, x ∈ hdN l := fun x hx => hd_mem.mpr hx
  have nd := hd_nd l
  unfold nmN
  generalize hdN l = hs at *
  have c0 : mIt (mV 4) (lbS4 r a e u v (.val (.lst (ni l))) (.val (.lst (ni hs))) (.own (.dic (hs.map inlN) (ni (List.range hs.length)))) .no .no .no .no b) = some (ni l, lbS4 r a e u v (.val (.lst (ni l))) (.val (.lst (ni hs))) (.own (.dic (hs.map inlN) (ni (List.range hs.length)))) .no .no .no .no b) := rfl
  have k := mComp_pure (vs := [11]) (tg := tmN 11) (tt := mYes) (te := mD (mOp2 fIx (mV 6) (mV 11))) (fun _ => true) (fun d => match d with
      | .int i => .int (hs.idxOf i.toNat : Int)
      | d => d) c0 rfl (by rw [ni_length, hl.len]; unfold line; omega) (fun d hd => by
    obtain ⟨x, hx, rfl⟩ := mem_ni hd
    have g := dGet_row hs x (hs.idxOf x) (List.range hs.length) nd (by simp) (idx_get (hm x hx))
    rw [List.getElem?_range (List.idxOf_lt_length_of_mem (hm x hx))] at g
    refine ⟨⟨[.val (lbD r a e u v), .val (bdD r a e), .val (.tup (ni u)), .val (.tup (ni v)), .val (.lst (ni l)), .val (.lst (ni hs)), .own (.dic (hs.map inlN) (ni (List.range hs.length))), .no, .no, .no, .no, .val (.int (x : Int)), .no, .no, .no], b⟩, ⟨[.val (lbD r a e u v), .val (bdD r a e), .val (.tup (ni u)), .val (.tup (ni v)), .val (.lst (ni l)), .val (.lst (ni hs)), .own (.dic (hs.map inlN) (ni (List.range hs.length))), .no, .no, .no, .no, .val (.int (x : Int)), .no, .no, .no], b⟩, rfl, rfl, fun _ => ⟨⟨[.val (lbD r a e u v), .val (bdD r a e), .val (.tup (ni u)), .val (.tup (ni v)), .val (.lst (ni l)), .val (.lst (ni hs)), .own (.dic (hs.map inlN) (ni (List.range hs.length))), .no, .no, .no, .no, .val (.int (x : Int)), .no, .no, .no], b⟩, ?_, rfl, rfl⟩, fun h => by cases h⟩
    have hk : keyOf (.int (x : Int)) = some (.inl (x : Int)) := rfl
    simp [hk, g])
  unfold lba4
  rw [mSet_ap, mBi_ap, mCons_ap, k, List.filter_eq_self.mpr (fun _ _ => rfl)]
  have e : (ni l).map (fun d => match d with
      | .int i => .int (hs.idxOf i.toNat : Int)
      | d => d) = ni (l.map fun x => hs.idxOf x) := by
    unfold ni
    rw [List.map_map, List.map_map]
    rfl
  rw [e]
  rfl
/-- a list over the heads -/
theorem lb_over (xs : List Sl) (hx : xs.length = 15) (hs s : List Nat) (te : Mn BagT D) (f : Nat → Nat) (h5 : xs[5]? = some (.val (.lst (ni hs)))) (h13 : xs[13]? = some .no) (hl : hs.length ≤ 1000)
    (ht : ∀ k ∈ hs, te (⟨xs.set 13 (.val (.int (k : Int))), b⟩ : Sta BagT) = some (.int (f k : Int), ⟨xs.set 13 (.val (.int (k : Int))), b⟩)) : mBi fTuple (mCons (mComp [13] (mIt (mV 5)) (tmN 13) (mYes) te) (mNil)) (⟨xs, b⟩ : Sta BagT) = some (.val (.tup (ni (hs.map f))), ⟨xs, b⟩) := by
  have no : noOwn xs [13] = true := by simp [noOwn, h13]
  have hvl : 13 < xs.length := by omega
  have e0 : xs.set 13 .no = xs := by
    refine List.ext_getElem? fun j => ?_
    by_cases z : 13 = j
    · subst z
      rw [List.getElem?_set_self hvl, h13]
    · rw [List.getElem?_set_ne z]
  have hg : xs.getD 13 .no = .no := by rw [List.getD_eq_getElem?_getD, h13]; rfl
  have c0 : mIt (mV 5) (⟨xs, b⟩ : Sta BagT) = some (ni hs, ⟨xs, b⟩) := by simp [h5]
  have k := mComp_pure (vs := [13]) (tg := tmN 13) (tt := mYes) (te := te) (fun _ => true) (fun d => match d with
      | .int i => .int (f i.toNat : Int)
      | d => d) c0 no (by rw [ni_length]; unfold line; omega) (fun d hd => by
    obtain ⟨x, hx, rfl⟩ := mem_ni hd
    refine ⟨⟨xs.set 13 (.val (.int (x : Int))), b⟩, ⟨xs.set 13 (.val (.int (x : Int))), b⟩, ?_, rfl, fun _ => ⟨⟨xs.set 13 (.val (.int (x : Int))), b⟩, ht x hx, rfl, ?_⟩, fun h => by cases h⟩
    · show some (⟨(xs.set 13 .no).set 13 _, b⟩ : Sta BagT) = _
      rw [e0]
    · show (xs.set 13 _).set 13 (xs.getD 13 .no) = xs
      rw [hg, List.set_set, e0])
  rw [mBi_ap, mCons_ap, k, List.filter_eq_self.mpr (fun _ _ => rfl)]
  have e : (ni hs).map (fun d => match d with
      | .int i => .int (f i.toNat : Int)
      | d => d) = ni (hs.map f) := by
    unfold ni
    rw [List.map_map, List.map_map]
    rfl
  rw [e]
  simp
end
end W

set_option maxHeartbeats 1000000
/-! E5: least_board, same_square. -/
namespace W
open PySem L2 M
variable [Wrt]
section
variable {n : Nat} {r a e u v l : List Nat} {b : BagT}
def dnat : D → Nat
  | .int i => i.toNat
  | _ => 0
theorem dnat_ni (s : List Nat) : (ni s).map dnat = s := by
  unfold ni
  rw [List.map_map]
  conv => rhs; rw [← List.map_id s]
  rfl
theorem getD_len {l : List Nat} (hl : LP n l) {i : Nat} (hi : i < n) : (nmN l)[i]? = some ((nmN l).getD i 0) := get_of (by simp [nmN, hl.len, hi])
theorem hd_lt (hl : LP n l) {h : Nat} (hh : h ∈ hdN l) : h < n := by
  obtain ⟨i, hi, e⟩ := mem_getD (hd_mem.mp hh)
  rw [hl.len] at hi
  have := hl.le i hi
  omega
abbrev x4 (l : List Nat) : Sl := .val (.lst (ni l))
abbrev x5 (l : List Nat) : Sl := .val (.lst (ni (hdN l)))
abbrev x6 (l : List Nat) : Sl := .own (.dic ((hdN l).map inlN) (ni (List.range (hdN l).length)))
abbrev x7 (l : List Nat) : Sl := .val (.tup (ni (nmN l)))
abbrev x8 (l r a : List Nat) : Sl := .own (.lst [.tup (ni (stN l r)), .tup (ni (stN l a))])
abbrev x9 (l e : List Nat) : Sl := .val (.tup (ni (enN l e)))
theorem lb_c5 (hl : LP n l) (hn : n ≤ 60) (hr : Lt n r) (ha : Lt n a) : lba5 (lbS4 r a e u v (x4 l) (x5 l) (x6 l) (x7 l) .no .no .no b) = some (.nx, lbS4 r a e u v (x4 l) (x5 l) (x6 l) (x7 l) (x8 l r a) .no .no b) := by
  have hd := dd_len hl
  have hh := hd_len l
  have c0 : mIt (mSl fCut (mV 1) (mNo) (mSo (mC (.int 2)))) (lbS4 r a e u v (x4 l) (x5 l) (x6 l) (x7 l) .no .no .no b) = some ([.tup (ni r), .tup (ni a)], lbS4 r a e u v (x4 l) (x5 l) (x6 l) (x7 l) .no .no .no b) := by
    have ec : cutD [D.tup (ni r), .tup (ni a), .tup (ni e)] none (some 2) = [.tup (ni r), .tup (ni a)] := by
      simp [cutD, HT.sIx]
    simp [lbS4, bdD, ec]
  have k := mComp_pure (vs := [14]) (tg := tmN 14) (tt := mYes) (te := mD (mBi fTuple (mCons (mComp [13] (mIt (mV 5)) (tmN 13) (mYes) (mD (mOp2 fIx (mV 7) (mOp2 fIx (mV 14) (mV 13))))) (mNil)))) (fun _ => true) (fun d => match d with
      | .tup ds => .tup (ni (stN l (ds.map dnat)))
      | d => d) c0 rfl (by unfold line; simp) (fun d hd => by
    obtain ⟨s, rfl, hs⟩ : ∃ s, d = .tup (ni s) ∧ Lt n s := by
      simp only [List.mem_cons, List.mem_nil_iff, or_false] at hd
      rcases hd with rfl | rfl
      · exact ⟨r, rfl, hr⟩
      · exact ⟨a, rfl, ha⟩
    have ov := lb_over (b := b) [.val (lbD r a e u v), .val (bdD r a e), .val (.tup (ni u)), .val (.tup (ni v)), x4 l, x5 l, x6 l, x7 l, .no, .no, .no, .no, .no, .no, .val (.tup (ni s))] rfl (hdN l) s (mD (mOp2 fIx (mV 7) (mOp2 fIx (mV 14) (mV 13)))) (fun h => (nmN l).getD (s.getD h 0) 0) rfl rfl (by omega) (fun h hh => by
      have hlt := hd_lt hl hh
      obtain ⟨g1, l1⟩ := hs.get hlt
      have g2 := getD_len hl l1
      generalize s.getD h 0 = w at g1 g2 ⊢
      generalize (nmN l).getD w 0 = z at g2 ⊢
      simp [g1, g2])
    refine ⟨⟨[.val (lbD r a e u v), .val (bdD r a e), .val (.tup (ni u)), .val (.tup (ni v)), x4 l, x5 l, x6 l, x7 l, .no, .no, .no, .no, .no, .no, .val (.tup (ni s))], b⟩, ⟨[.val (lbD r a e u v), .val (bdD r a e), .val (.tup (ni u)), .val (.tup (ni v)), x4 l, x5 l, x6 l, x7 l, .no, .no, .no, .no, .no, .no, .val (.tup (ni s))], b⟩, rfl, rfl, fun _ => ⟨⟨[.val (lbD r a e u v), .val (bdD r a e), .val (.tup (ni u)), .val (.tup (ni v)), x4 l, x5 l, x6 l, x7 l, .no, .no, .no, .no, .no, .no, .val (.tup (ni s))], b⟩, ?_, rfl, rfl⟩, fun h => by cases h⟩
    rw [mD_ap, ov]
    show some (D.tup (ni (stN l s)), _) = some (D.tup (ni (stN l ((ni s).map dnat))), _)
    rw [dnat_ni])
  unfold lba5
  rw [mSet_ap, k, List.filter_eq_self.mpr (fun _ _ => rfl)]
  show some (O.nx, (⟨_, b⟩ : Sta BagT)) = _
  simp [lbS4, dnat_ni]
theorem enumD_ni (s : List Nat) : enumD (ni s) = (List.range s.length).map fun k : Nat => D.tup [.int (k : Int), .int (s.getD k 0 : Int)] := by
  refine List.ext_getElem? fun i => ?_
  rw [enumD_get, ni_get, List.getElem?_map]
  by_cases h : i < s.length
  · rw [get_of h, List.getElem?_range h]; rfl
  · rw [List.getElem?_eq_none (by omega), List.getElem?_eq_none (by simp; omega)]; rfl
theorem lb_c6 (hl : LP n l) (hn : n ≤ 60) : lba6 (lbS4 r a e u v (x4 l) (x5 l) (x6 l) (x7 l) (x8 l r a) .no .no b) = some (.nx, lbS4 r a e u v (x4 l) (x5 l) (x6 l) (x7 l) (x8 l r a) (x9 l e) .no b) := by
  have hd := dd_len hl
  have hh := hd_len l
  have c0 : mEnum (mV 5) (lbS4 r a e u v (x4 l) (x5 l) (x6 l) (x7 l) (x8 l r a) .no .no b) = some (enumD (ni (hdN l)), lbS4 r a e u v (x4 l) (x5 l) (x6 l) (x7 l) (x8 l r a) .no .no b) := rfl
  have k := mComp_pure (vs := [12, 13]) (tg := tmT (tmCons (tmN 12) (tmCons (tmN 13) (tmNil))) 2) (tt := mTr (mCall F_ends_at (mCons (mV 1) (mCons (mV 13) (mNil))))) (te := mD (mV 12)) (fun d => match d with
      | .tup [_, .int h] => decide (h.toNat ∈ e)
      | _ => false) (fun d => match d with
      | .tup [x, _] => x
      | d => d) c0 rfl (by rw [enumD_len, ni_length]; unfold line; omega) (fun d hd => by
    rw [enumD_ni] at hd
    obtain ⟨k, hk, rfl⟩ := List.mem_map.mp hd
    generalize (hdN l).getD k 0 = h
    refine ⟨⟨[.val (lbD r a e u v), .val (bdD r a e), .val (.tup (ni u)), .val (.tup (ni v)), x4 l, x5 l, x6 l, x7 l, x8 l r a, .no, .no, .no, .val (.int (k : Int)), .val (.int (h : Int)), .no], b⟩, ⟨[.val (lbD r a e u v), .val (bdD r a e), .val (.tup (ni u)), .val (.tup (ni v)), x4 l, x5 l, x6 l, x7 l, x8 l r a, .no, .no, .no, .val (.int (k : Int)), .val (.int (h : Int)), .no], b⟩, rfl, ?_, fun _ => ⟨⟨[.val (lbD r a e u v), .val (bdD r a e), .val (.tup (ni u)), .val (.tup (ni v)), x4 l, x5 l, x6 l, x7 l, x8 l r a, .no, .no, .no, .val (.int (k : Int)), .val (.int (h : Int)), .no], b⟩, rfl, rfl, rfl⟩, fun _ => ⟨rfl, rfl⟩⟩
    simp [ends_at_eq])
  have e2 : ((enumD (ni (hdN l))).filter fun d => match d with
      | .tup [_, .int h] => decide (h.toNat ∈ e)
      | _ => false).map (fun d => match d with
      | .tup [x, _] => x
      | d => d) = ni (enN l e) := by
    rw [enumD_ni, List.filter_map, List.map_map]
    rfl
  unfold lba6
  rw [mSet_ap, mBi_ap, mCons_ap, k, e2]
  rfl
theorem lb_c7 : lba7 (lbS4 r a e u v (x4 l) (x5 l) (x6 l) (x7 l) (x8 l r a) (x9 l e) .no b) = some (.nx, lbS4 r a e u v (x4 l) (x5 l) (x6 l) (x7 l) (x8 l r a) (x9 l e) (.val (bdD (stN l r) (stN l a) (enN l e))) b) := by
  have h3 : 3 ≤ line := by decide
  simp [lba7, lbS4, h3, bdD]
theorem least_board_eq (h : Lb n r a e u v) (b : BagT) : ∃ l, F_least_board [.val (lbD r a e u v)] b = some (.val (.tup [lsD l r a e u v, .tup (ni (nmN l))]), b) ∧ LF n r a (mfL e u v) l := by
  have hn := h.hn
  obtain ⟨l, c1, hL⟩ := lb_c1 (b := b) h
  have hl := hL.lp
  have hd := dd_len hl
  have hh := hd_len l
  refine ⟨l, ?_, hL⟩
  have over : ∀ (w : List Nat) (i : Nat), w.length = n → (i = 2 ∧ w = u ∨ i = 3 ∧ w = v) → mBi fTuple (mCons (mComp [13] (mIt (mV 5)) (tmN 13) (mYes) (mD (mOp2 fIx (mV i) (mV 13)))) (mNil)) (lbS4 r a e u v (x4 l) (x5 l) (x6 l) (x7 l) (x8 l r a) (x9 l e) (.val (bdD (stN l r) (stN l a) (enN l e))) b) = some (.val (.tup (ni (atN l w))), lbS4 r a e u v (x4 l) (x5 l) (x6 l) (x7 l) (x8 l r a) (x9 l e) (.val (bdD (stN l r) (stN l a) (enN l e))) b) := fun w i hw hi => by
    refine lb_over (b := b) [.val (lbD r a e u v), .val (bdD r a e), .val (.tup (ni u)), .val (.tup (ni v)), x4 l, x5 l, x6 l, x7 l, x8 l r a, x9 l e, .val (bdD (stN l r) (stN l a) (enN l e)), .no, .no, .no, .no] rfl (hdN l) w (mD (mOp2 fIx (mV i) (mV 13))) (fun h => w.getD h 0) rfl rfl (by omega) fun k hk => ?_
    have g := get_of (s := w) (k := k) (by rw [hw]; exact hd_lt hl hk)
    generalize w.getD k 0 = z at g ⊢
    rcases hi with ⟨rfl, rfl⟩ | ⟨rfl, rfl⟩ <;> simp [g]
  have o2 := over u 2 h.hu (.inl ⟨rfl, rfl⟩)
  have o3 := over v 3 h.hv (.inr ⟨rfl, rfl⟩)
  have h3 : 3 ≤ line := by decide
  have h2 : 2 ≤ line := by decide
  rw [least_board_run, runF_eq, if_pos (by rfl)]
  show outF (mSeq _ _ (⟨[.val (lbD r a e u v), .no, .no, .no, .no, .no, .no, .no, .no, .no, .no, .no, .no, .no, .no], b⟩ : Sta BagT)) = _
  have c0 : lba0 (⟨[.val (lbD r a e u v), .no, .no, .no, .no, .no, .no, .no, .no, .no, .no, .no, .no, .no, .no], b⟩ : Sta BagT) = some (.nx, lbS4 r a e u v .no .no .no .no .no .no .no b) := rfl
  rw [mSeq_ap, c0, Option.bind_some, M.thn_nx, mSeq_ap, c1, Option.bind_some, M.thn_nx, mSeq_ap, lb_c2 hl hn, Option.bind_some, M.thn_nx, mSeq_ap, lb_c3 hl hn, Option.bind_some, M.thn_nx, mSeq_ap, lb_c4 hl hn, Option.bind_some, M.thn_nx,
    mSeq_ap, lb_c5 hl hn h.hr h.ha, Option.bind_some, M.thn_nx, mSeq_ap, lb_c6 hl hn, Option.bind_some, M.thn_nx, mSeq_ap, lb_c7, Option.bind_some, M.thn_nx]
  unfold lba8
  rw [mRet_ap, mTup_ap, mCons_ap, mD_ap, mTup_ap, mCons_ap]
  have m10 : mD (mV 10) (lbS4 r a e u v (x4 l) (x5 l) (x6 l) (x7 l) (x8 l r a) (x9 l e) (.val (bdD (stN l r) (stN l a) (enN l e))) b) = some (bdD (stN l r) (stN l a) (enN l e), lbS4 r a e u v (x4 l) (x5 l) (x6 l) (x7 l) (x8 l r a) (x9 l e) (.val (bdD (stN l r) (stN l a) (enN l e))) b) := rfl
  have m7 : mD (mV 7) (lbS4 r a e u v (x4 l) (x5 l) (x6 l) (x7 l) (x8 l r a) (x9 l e) (.val (bdD (stN l r) (stN l a) (enN l e))) b) = some (.tup (ni (nmN l)), lbS4 r a e u v (x4 l) (x5 l) (x6 l) (x7 l) (x8 l r a) (x9 l e) (.val (bdD (stN l r) (stN l a) (enN l e))) b) := rfl
  simp only [m10, Option.bind_some, mCons_ap, mD_ap, o2, o3, toD_val, mNil_ap, List.length_cons, List.length_nil, if_pos h3]
  rw [← mD_ap (mV 7), m7]
  simp [h2, h3]
  exact ⟨rfl, rfl⟩
theorem same_square_eq (h : Lb n r a e u v) (b : BagT) {i j : Nat} (hi : i < n) (hj : j < n) : ∃ k : Bool, F_same_square [.val (lbD r a e u v), .val (.int (i : Int)), .val (.int (j : Int))] b = some (.val (.bl k), b) ∧ (k = true ↔ Alike n r a (mfL e u v) i j) := by
  obtain ⟨l, el, hL⟩ := least_board_eq h b
  have g1 := getD_len hL.lp hi
  have g2 := getD_len hL.lp hj
  refine ⟨decide ((nmN l).getD i 0 = (nmN l).getD j 0), ?_, by rw [decide_eq_true_eq, nm_iff hL.lp.len hi hj]; exact hL.iff h.hr h.ha hi hj⟩
  generalize (nmN l).getD i 0 = x at g1 ⊢
  generalize (nmN l).getD j 0 = y at g2 ⊢
  have e0 : ((x : Int) == (y : Int)) = decide (x = y) := by
    by_cases z : x = y
    · simp [z]
    · have : ¬ (x : Int) = (y : Int) := by omega
      simp [z, this]
  simp [F_same_square, el, g1, g2, e0]
end
end W

set_option maxHeartbeats 1000000
/-! E6: the law's own look whether two squares are alike. -/
namespace M
open PySem L2
variable [Wrt]
@[simp] theorem fAdd_ll4 (xs ys : List D) : fAdd (.lst xs) (.lst ys) = if xs.length + ys.length ≤ line then some (.new (.lst (xs ++ ys))) else none := rfl
section
variable {β : Type} [Sto β] [Kind β]
/-- a loop that may be left by return -/
theorem forL_or {tg : Tm β} {body : Ms β} (I : Nat → Sta β → Prop) (P : R → Sta β → Prop) : ∀ (ds : List D) (k : Nat) (st : Sta β), I k st →
    (∀ (i : Nat) (d : D) (s : Sta β), ds[i]? = some d → I (k + i) s → ∃ s1 o s2, tg d s = some s1 ∧ body s1 = some (o, s2) ∧ (((o = .nx ∨ o = .ct) ∧ I (k + i + 1) s2) ∨ ∃ r, o = .rt r ∧ P r s2)) →
    (∃ st', forL tg body ds st = some (.nx, st') ∧ I (k + ds.length) st') ∨ ∃ r st', forL tg body ds st = some (.rt r, st') ∧ P r st'
  | [], k, st, h, _ => .inl ⟨st, rfl, h⟩
  | d :: ds, k, st, h, hs => by
    obtain ⟨s1, o, s2, e1, e2, ho⟩ := hs 0 d st rfl h
    rcases ho with ⟨ho, h2⟩ | ⟨r, rfl, hp⟩
    · have ih := forL_or I P ds (k + 1) s2 h2 fun i d' s hd hi => by
        have := hs (i + 1) d' s (by simpa using hd) (by rw [show k + (i + 1) = k + 1 + i by omega]; exact hi)
        rw [show k + (i + 1) + 1 = k + 1 + i + 1 by omega] at this
        exact this
      have e : forL tg body (d :: ds) st = forL tg body ds s2 := by
        rw [forL_cons, e1, Option.bind_some, e2, Option.bind_some]
        rcases ho with rfl | rfl <;> rfl
      rw [e, List.length_cons, show k + (ds.length + 1) = k + 1 + ds.length by omega]
      exact ih
    · right
      exact ⟨r, s2, by rw [forL_cons, e1, Option.bind_some, e2]; rfl, hp⟩
end
end M
namespace W
open PySem L2 M
variable [Wrt]
section
variable {n : Nat} {r a e u v : List Nat} {b : BagT}
theorem law_mark_eq (h : Lb n r a e u v) {i : Nat} (hi : i < n) (b : BagT) : F_law_mark [.val (lbD r a e u v), .val (.int (i : Int))] b = some (.val (mkD e u v i), b) := by
  have g1 := get_of (s := u) (k := i) (by rw [h.hu]; exact hi)
  have g2 := get_of (s := v) (k := i) (by rw [h.hv]; exact hi)
  have h3 : 3 ≤ line := by decide
  unfold mkD
  generalize u.getD i 0 = x at g1 ⊢
  generalize v.getD i 0 = y at g2 ⊢
  simp [F_law_mark, lbD, bdD, g1, g2, h3, dIn_ni]
theorem mk_deq (i j : Nat) : deq (mkD e u v i) (mkD e u v j) = decide (mfL e u v i = mfL e u v j) := by
  unfold mkD mfL
  have c : ∀ x y : Nat, ((x : Int) == (y : Int)) = decide (x = y) := fun x y => by
    by_cases z : x = y
    · simp [z]
    · have : ¬ (x : Int) = (y : Int) := by omega
      simp [z, this]
  simp only [deq, deqL, Prod.mk.injEq, c]
  by_cases h1 : i ∈ e <;> by_cases h2 : j ∈ e <;> simp [h1, h2]
theorem mk_okq (i : Nat) : okq (mkD e u v i) = true := by
  simp [okq, mkD, fine, fineL, deep, deepL]
/-- a pair of squares, by one number -/
def prD (n c : Nat) : D := .tup [.int ((c / n : Nat) : Int), .int ((c % n : Nat) : Int)]
theorem pr_inj {n c c' : Nat} (h1 : c / n = c' / n) (h2 : c % n = c' % n) : c = c' := by
  rw [← Nat.div_add_mod c n, ← Nat.div_add_mod c' n, h1, h2]
theorem pr_deq (n c c' : Nat) : deq (prD n c) (prD n c') = decide (c = c') := by
  unfold prD
  have q : ∀ x y : Nat, ((x : Int) == (y : Int)) = decide (x = y) := fun x y => by
    by_cases z : x = y
    · simp [z]
    · have : ¬ (x : Int) = (y : Int) := by omega
      simp [z, this]
  simp only [deq, deqL, q, Bool.and_true]
  by_cases h : c = c'
  · subst h; simp
  · rw [decide_eq_false h]
    by_cases h1 : c / n = c' / n
    · have h2 : ¬ c % n = c' % n := fun z => h (pr_inj h1 z)
      simp [h1, h2]
    · simp [h1]
theorem pr_dIn (n c : Nat) (ps : List Nat) : dIn (prD n c) (ps.map (prD n)) = decide (c ∈ ps) := by
  unfold dIn
  rw [List.any_map]
  by_cases h : c ∈ ps
  · rw [decide_eq_true h]
    exact List.any_eq_true.mpr ⟨c, h, by simp [pr_deq]⟩
  · rw [decide_eq_false h, Bool.eq_false_iff]
    intro z
    obtain ⟨x, hx, e⟩ := List.any_eq_true.mp z
    simp only [Function.comp_apply, pr_deq, decide_eq_true_eq] at e
    exact h (e ▸ hx)
theorem pr_okq (n c : Nat) : okq (prD n c) = true := by simp [okq, prD, fine, fineL, deep, deepL]
theorem prs_okq (n : Nat) (ps : List Nat) : okq (.lst (ps.map (prD n))) = true := by
  have f : ∀ ps : List Nat, fineL (ps.map (prD n)) = true := fun ps => by
    induction ps with
    | nil => rfl
    | cons c ps ih => simp only [List.map_cons, fineL, ih, Bool.and_true]; simp [prD, fine, fineL]
  have d : ∀ ps : List Nat, deepL (ps.map (prD n)) ≤ 1 := fun ps => by
    induction ps with
    | nil => exact Nat.zero_le _
    | cons c ps ih =>
      simp only [List.map_cons, deepL]
      have : deep (prD n c) = 1 := by simp [prD, deep, deepL]
      omega
  have := d ps
  simp only [okq, fine, f, deep, Bool.true_and]
  exact decide_eq_true (by omega)
/-- steps on pairs -/
def rC (n : Nat) (s : List Nat) : List Nat := (List.range (n * n)).map fun c => s.getD (c / n) 0 * n + s.getD (c % n) 0
theorem rC_at {n : Nat} {s : List Nat} {c : Nat} (h : c < n * n) : (rC n s).getD c 0 = s.getD (c / n) 0 * n + s.getD (c % n) 0 := getD_map _ 0 h
theorem code_lt {n x y : Nat} (hx : x < n) (hy : y < n) : x * n + y < n * n := by
  have : (x + 1) * n ≤ n * n := Nat.mul_le_mul_right n hx
  have e : (x + 1) * n = x * n + n := by rw [Nat.add_mul, Nat.one_mul]
  omega
theorem code_div {n x y : Nat} (hy : y < n) : (x * n + y) / n = x := by
  rw [Nat.mul_comm, Nat.mul_add_div (by omega), Nat.div_eq_of_lt hy, Nat.add_zero]
theorem code_mod {n x y : Nat} (hy : y < n) : (x * n + y) % n = y := by
  rw [Nat.mul_comm, Nat.mul_add_mod, Nat.mod_eq_of_lt hy]
theorem c_lt {n c : Nat} (h0 : 0 < n) (h : c < n * n) : c / n < n ∧ c % n < n := ⟨Nat.div_lt_of_lt_mul h, Nat.mod_lt _ h0⟩
theorem rC_lt {n : Nat} {s : List Nat} (h0 : 0 < n) (hs : Lt n s) : Lt (n * n) (rC n s) := by
  refine ⟨by simp [rC], fun x hx => ?_⟩
  unfold rC at hx
  obtain ⟨c, hc, rfl⟩ := List.mem_map.mp hx
  have := c_lt h0 (List.mem_range.mp hc)
  exact code_lt (hs.get this.1).2 (hs.get this.2).2
theorem rC_pr {n : Nat} {s : List Nat} (h0 : 0 < n) (hs : Lt n s) {c : Nat} (hc : c < n * n) : prD n ((rC n s).getD c 0) = .tup [.int (s.getD (c / n) 0 : Int), .int (s.getD (c % n) 0 : Int)] := by
  have := c_lt h0 hc
  rw [rC_at hc, prD, code_div (hs.get this.2).2, code_mod (hs.get this.2).2]
noncomputable def iaa0 : Ms BagT := mSet 4 (mLst (mCons (mD (mTup (mCons (mD (mV 1)) (mCons (mD (mV 3)) (mNil))))) (mNil)))
noncomputable def iaa1_0 : Ms BagT := mIf (mBl (mOp2 fGe (mV 5) (mBi fLen (mCons (mV 4) (mNil))))) (mRet (mC (.bl true))) (mSkip)
noncomputable def iaa1_1 : Ms BagT := mUnp (mOp2 fIx (mV 4) (mV 5)) (tmT (tmCons (tmN 6) (tmCons (tmN 7) (tmNil))) 2)
noncomputable def iaa1_2 : Ms BagT := mIf (mBl (mOp2 fNe (mCall F_law_mark (mCons (mV 0) (mCons (mV 6) (mNil)))) (mCall F_law_mark (mCons (mV 2) (mCons (mV 7) (mNil)))))) (mRet (mC (.bl false))) (mSkip)
noncomputable def iaa1_3 : Ms BagT := mFor (mIt (mTup (mCons (mD (mTup (mCons (mD (mOp2 fIx (mOp2 fIx (mOp2 fIx (mV 0) (mC (.int 0))) (mC (.int 0))) (mV 6))) (mCons (mD (mOp2 fIx (mOp2 fIx (mOp2 fIx (mV 2) (mC (.int 0))) (mC (.int 0))) (mV 7))) (mNil))))) (mCons (mD (mTup (mCons (mD (mOp2 fIx (mOp2 fIx (mOp2 fIx (mV 0) (mC (.int 0))) (mC (.int 1))) (mV 6))) (mCons (mD (mOp2 fIx (mOp2 fIx (mOp2 fIx (mV 2) (mC (.int 0))) (mC (.int 1))) (mV 7))) (mNil))))) (mNil))))) (tmN 8) (mSet 4 (mOp2 fAdd (mV 4) (mIfE (mBl (mOp2 (fInB true) (mV 8) (mV 4))) (mLst (mCons (mD (mV 8)) (mNil))) (mLst (mNil)))))
noncomputable def iaa1b : Ms BagT := mSeq iaa1_0 (mSeq iaa1_1 (mSeq iaa1_2 iaa1_3))
noncomputable def iaa1 : Ms BagT := mFor (mRng fR1 (mCons (mOp2 fMul (mBi fLen (mCons (mOp2 fIx (mOp2 fIx (mV 0) (mC (.int 0))) (mC (.int 0))) (mNil))) (mBi fLen (mCons (mOp2 fIx (mOp2 fIx (mV 2) (mC (.int 0))) (mC (.int 0))) (mNil)))) (mNil))) (tmN 5) iaa1b
noncomputable def iaa2 : Ms BagT := mRet (mC (.bl true))
theorem law_is_alike_run : F_law_is_alike = runF 4 9 (mSeq iaa0 (mSeq iaa1 iaa2)) := rfl
/-- what is added of two -/
theorem ia_add (L X Y K : Sl) (I J : Sl) (z8 : Sl) (c1 c2 : Nat) (ps : List Nat) (hl : ps.length ≤ 100000) : ∃ z', forL (tmN 8) (mSet 4 (mOp2 fAdd (mV 4) (mIfE (mBl (mOp2 (fInB true) (mV 8) (mV 4))) (mLst (mCons (mD (mV 8)) (mNil))) (mLst (mNil))))) [prD n c1, prD n c2] (⟨[L, I, L, J, .own (.lst (ps.map (prD n))), K, X, Y, z8], b⟩ : Sta BagT) = some (.nx, ⟨[L, I, L, J, .own (.lst (([c1, c2].foldl addNew ps).map (prD n))), K, X, Y, z'], b⟩) := by
  have one : ∀ (z : Sl) (c : Nat) (qs : List Nat), qs.length ≤ 100001 → (tmN 8 (prD n c) (⟨[L, I, L, J, .own (.lst (qs.map (prD n))), K, X, Y, z], b⟩ : Sta BagT)).bind (mSet 4 (mOp2 fAdd (mV 4) (mIfE (mBl (mOp2 (fInB true) (mV 8) (mV 4))) (mLst (mCons (mD (mV 8)) (mNil))) (mLst (mNil))))) = some (.nx, ⟨[L, I, L, J, .own (.lst ((addNew qs c).map (prD n))), K, X, Y, .val (prD n c)], b⟩) := fun z c qs hq => by
    have h1 := pr_dIn n c qs
    have h2 := pr_okq n c
    have h3 := prs_okq n qs
    have h4 : 1 ≤ line := by decide
    have h5 : qs.length + 1 ≤ line := by unfold line; omega
    have h6 : qs.length ≤ line := by omega
    unfold addNew
    generalize hp : prD n c = p at *
    by_cases hm : c ∈ qs
    · simp [h1, h2, h3, h4, h5, h6, hm, hp]
    · simp [h1, h2, h3, h4, h5, h6, hm, hp]
  refine ⟨.val (prD n c2), ?_⟩
  rw [forL_cons, one z8 c1 ps (by omega), Option.bind_some, nxt_nx, forL_cons, one _ c2 (addNew ps c1) (by have := addNew_len ps c1; omega), Option.bind_some, nxt_nx]
  rfl
theorem ia_test (h : Lb n r a e u v) {x y : Nat} (hx : x < n) (hy : y < n) (I J P K z8 : Sl) : iaa1_2 (⟨[.val (lbD r a e u v), I, .val (lbD r a e u v), J, P, K, .val (.int (x : Int)), .val (.int (y : Int)), z8], b⟩ : Sta BagT) = some ((if mfL e u v x = mfL e u v y then .nx else .rt (.val (.bl false))), ⟨[.val (lbD r a e u v), I, .val (lbD r a e u v), J, P, K, .val (.int (x : Int)), .val (.int (y : Int)), z8], b⟩) := by
  have m1 := law_mark_eq h hx b
  have m2 := law_mark_eq h hy b
  have md := mk_deq (e := e) (u := u) (v := v) x y
  by_cases hmk : mfL e u v x = mfL e u v y
  · have f : fNe (mkD e u v x) (mkD e u v y) = some (.val (.bl false)) := by
      unfold fNe
      rw [mk_okq, mk_okq, md, decide_eq_true hmk]
      rfl
    rw [if_pos hmk]
    unfold iaa1_2
    simp [m1, m2, f]
  · have f : fNe (mkD e u v x) (mkD e u v y) = some (.val (.bl true)) := by
      unfold fNe
      rw [mk_okq, mk_okq, md, decide_eq_false hmk]
      rfl
    rw [if_neg hmk]
    unfold iaa1_2
    simp [m1, m2, f]
theorem ia_it (h : Lb n r a e u v) {x y : Nat} (hx : x < n) (hy : y < n) (I J P K z8 : Sl) : mIt (mTup (mCons (mD (mTup (mCons (mD (mOp2 fIx (mOp2 fIx (mOp2 fIx (mV 0) (mC (.int 0))) (mC (.int 0))) (mV 6))) (mCons (mD (mOp2 fIx (mOp2 fIx (mOp2 fIx (mV 2) (mC (.int 0))) (mC (.int 0))) (mV 7))) (mNil))))) (mCons (mD (mTup (mCons (mD (mOp2 fIx (mOp2 fIx (mOp2 fIx (mV 0) (mC (.int 0))) (mC (.int 1))) (mV 6))) (mCons (mD (mOp2 fIx (mOp2 fIx (mOp2 fIx (mV 2) (mC (.int 0))) (mC (.int 1))) (mV 7))) (mNil))))) (mNil)))) (⟨[.val (lbD r a e u v), I, .val (lbD r a e u v), J, P, K, .val (.int (x : Int)), .val (.int (y : Int)), z8], b⟩ : Sta BagT) = some ([.tup [.int (r.getD x 0 : Int), .int (r.getD y 0 : Int)], .tup [.int (a.getD x 0 : Int), .int (a.getD y 0 : Int)]], ⟨[.val (lbD r a e u v), I, .val (lbD r a e u v), J, P, K, .val (.int (x : Int)), .val (.int (y : Int)), z8], b⟩) := by
  have q1 := (h.hr.get hx).1
  have q2 := (h.hr.get hy).1
  have q3 := (h.ha.get hx).1
  have q4 := (h.ha.get hy).1
  have l2 : 2 ≤ line := by decide
  generalize r.getD x 0 = w1 at q1 ⊢
  generalize r.getD y 0 = w2 at q2 ⊢
  generalize a.getD x 0 = w3 at q3 ⊢
  generalize a.getD y 0 = w4 at q4 ⊢
  simp only [lbD, bdD]
  simp [q1, q2, q3, q4, l2]
theorem alike_eq (h : Lb n r a e u v) {i j : Nat} (hi : i < n) (hj : j < n) (b : BagT) : ∃ k : Bool, F_law_is_alike [.val (lbD r a e u v), .val (.int (i : Int)), .val (lbD r a e u v), .val (.int (j : Int))] b = some (.val (.bl k), b) ∧ (k = true ↔ Alike n r a (mfL e u v) i j) := by
  have h0 := h.h0
  have hn := h.hn
  have hr := rC_lt h0 h.hr
  have ha := rC_lt h0 h.ha
  have hc0 := code_lt hi hj
  have hnn : n * n ≤ 3600 := Nat.mul_le_mul hn hn
  let g : Nat → List Nat := fun k => (List.range k).foldl (stepO (rC n r) (rC n a)) [i * n + j]
  have gi : ∀ k, OI (n * n) (rC n r) (rC n a) (i * n + j) k (g k) := fun k => oi_at hr ha hc0 k
  have gl : ∀ k, (g k).length ≤ n * n := fun k => by
    have := sub_len (m := List.range (n * n)) (gi k).nd fun x hx => List.mem_range.mpr ((gi k).lt x hx)
    rwa [List.length_range] at this
  -- closed, all marks alike
  have yes : ∀ k, (g k).length ≤ k → (∀ m, m < (g k).length → mfL e u v ((g k).getD m 0 / n) = mfL e u v ((g k).getD m 0 % n)) → Alike n r a (mfL e u v) i j := fun k hk hm => by
    have cl : ∀ x y, x < n → y < n → x * n + y ∈ g k → mfL e u v x = mfL e u v y ∧ r.getD x 0 * n + r.getD y 0 ∈ g k ∧ a.getD x 0 * n + a.getD y 0 ∈ g k := fun x y hx hy hxy => by
      obtain ⟨m, hml, e1⟩ := mem_getD hxy
      have q := hm m hml
      have c := (gi k).cl m (by omega) hml
      rw [e1] at q c
      rw [code_div hy, code_mod hy] at q
      rw [rC_at (code_lt hx hy), rC_at (code_lt hx hy), code_div hy, code_mod hy] at c
      exact ⟨q, c⟩
    refine ⟨fun x y => x < n ∧ y < n ∧ x * n + y ∈ g k, ⟨fun x y z => ⟨z.1, z.2.1⟩, fun x y z => (cl x y z.1 z.2.1 z.2.2).1, fun x y z => ⟨(h.hr.get z.1).2, (h.hr.get z.2.1).2, (cl x y z.1 z.2.1 z.2.2).2.1⟩, fun x y z => ⟨(h.ha.get z.1).2, (h.ha.get z.2.1).2, (cl x y z.1 z.2.1 z.2.2).2.2⟩⟩, hi, hj, List.mem_of_getElem? (gi k).z⟩
  have all : ∀ T, Bis n r a (mfL e u v) T → T i j → ∀ k, ∀ c ∈ g k, T (c / n) (c % n) := fun T hT ht k => by
    induction k with
    | zero =>
      intro c hc
      rw [List.mem_singleton.mp (show c ∈ [i * n + j] from hc), code_div hj, code_mod hj]
      exact ht
    | succ k ih =>
      intro x hx
      have hb := (gi k).lt
      have hx : x ∈ stepO (rC n r) (rC n a) (g k) k := by
        have : g (k + 1) = stepO (rC n r) (rC n a) (g k) k := foldl_range_succ ..
        rw [← this]; exact hx
      generalize g k = gg at ih hx hb
      unfold stepO at hx
      split at hx
      · rename_i hi'
        have hm := List.mem_of_getElem? (get_of hi')
        have hlt := hb _ hm
        have hq := ih _ hm
        have h1 := rC_at (s := r) hlt
        have h2 := rC_at (s := a) hlt
        generalize gg.getD k 0 = c at *
        have cl := c_lt h0 hlt
        rcases addAll_from _ _ x hx with z | z
        · exact ih x z
        · simp only [List.mem_cons, List.mem_nil_iff, or_false] at z
          rcases z with rfl | rfl
          · rw [h1, code_div (h.hr.get cl.2).2, code_mod (h.hr.get cl.2).2]
            exact hT.rr _ _ hq
          · rw [h2, code_div (h.ha.get cl.2).2, code_mod (h.ha.get cl.2).2]
            exact hT.aa _ _ hq
      · exact ih x hx
  have no : ∀ k m, m < (g k).length → mfL e u v ((g k).getD m 0 / n) ≠ mfL e u v ((g k).getD m 0 % n) → ¬ Alike n r a (mfL e u v) i j := fun k m hm hne ⟨T, hT, ht⟩ =>
    hne (hT.ms _ _ (all T hT ht k _ (List.mem_of_getElem? (get_of hm))))
  have e0 : iaa0 (⟨[.val (lbD r a e u v), .val (.int (i : Int)), .val (lbD r a e u v), .val (.int (j : Int)), .no, .no, .no, .no, .no], b⟩ : Sta BagT) = some (.nx, ⟨[.val (lbD r a e u v), .val (.int (i : Int)), .val (lbD r a e u v), .val (.int (j : Int)), .own (.lst ((g 0).map (prD n))), .no, .no, .no, .no], b⟩) := by
    have h1 : 1 ≤ line := by decide
    have h2 : 2 ≤ line := by decide
    have hg : (g 0).map (prD n) = [D.tup [.int (i : Int), .int (j : Int)]] := by
      show [prD n (i * n + j)] = _
      rw [prD, code_div hj, code_mod hj]
    rw [hg]
    simp [iaa0, h1, h2]
  have e1 : mRng fR1 (mCons (mOp2 fMul (mBi fLen (mCons (mOp2 fIx (mOp2 fIx (mV 0) (mC (.int 0))) (mC (.int 0))) (mNil))) (mBi fLen (mCons (mOp2 fIx (mOp2 fIx (mV 2) (mC (.int 0))) (mC (.int 0))) (mNil)))) (mNil)) (⟨[.val (lbD r a e u v), .val (.int (i : Int)), .val (lbD r a e u v), .val (.int (j : Int)), .own (.lst ((g 0).map (prD n))), .no, .no, .no, .no], b⟩ : Sta BagT) = some (ni (List.range (n * n)), ⟨[.val (lbD r a e u v), .val (.int (i : Int)), .val (lbD r a e u v), .val (.int (j : Int)), .own (.lst ((g 0).map (prD n))), .no, .no, .no, .no], b⟩) := by
    have c1 : cMul (n : Int) (n : Int) = true := cMul_l (by omega)
    have c2 : rgOk ((n : Int) * (n : Int)) = true := by
      rw [show ((n : Int) * (n : Int)) = ((n * n : Nat) : Int) by simp]
      exact rgOk_nat (by omega)
    have c3 : ((n : Int) * (n : Int)).toNat = n * n := by
      rw [show ((n : Int) * (n : Int)) = ((n * n : Nat) : Int) by simp, Int.toNat_natCast]
    simp [lbD, bdD, h.hr.1, c1, c2, c3, rgL_ni]
  have lp := forL_or (tg := tmN 5) (body := iaa1b) (fun k (st : Sta BagT) => (∃ z5 z6 z7 z8, st = ⟨[.val (lbD r a e u v), .val (.int (i : Int)), .val (lbD r a e u v), .val (.int (j : Int)), .own (.lst ((g k).map (prD n))), z5, z6, z7, z8], b⟩) ∧ ∀ m, m < k → m < (g k).length → mfL e u v ((g k).getD m 0 / n) = mfL e u v ((g k).getD m 0 % n))
    (fun r' st => st.bag = b ∧ ∃ t : Bool, r' = .val (.bl t) ∧ (t = true ↔ Alike n r a (mfL e u v) i j)) (ni (List.range (n * n))) 0 ⟨[.val (lbD r a e u v), .val (.int (i : Int)), .val (lbD r a e u v), .val (.int (j : Int)), .own (.lst ((g 0).map (prD n))), .no, .no, .no, .no], b⟩ ⟨⟨_, _, _, _, rfl⟩, fun m hm => absurd hm (Nat.not_lt_zero m)⟩ (fun k d st hd ⟨⟨z5, z6, z7, z8, hst⟩, hm⟩ => by
      have hk : k < n * n := by
        have := (List.getElem?_eq_some_iff.mp hd).1
        simpa using this
      rw [ni_get, List.getElem?_range hk] at hd
      cases hd
      subst hst
      rw [Nat.zero_add] at *
      refine ⟨⟨[.val (lbD r a e u v), .val (.int (i : Int)), .val (lbD r a e u v), .val (.int (j : Int)), .own (.lst ((g k).map (prD n))), .val (.int (k : Int)), z6, z7, z8], b⟩, ?_⟩
      by_cases hkl : k < (g k).length
      · -- the pair k
        have gk := get_of hkl
        have hlt := (gi k).lt _ (List.mem_of_getElem? gk)
        have cl := c_lt h0 hlt
        have p1 : iaa1_0 (⟨[.val (lbD r a e u v), .val (.int (i : Int)), .val (lbD r a e u v), .val (.int (j : Int)), .own (.lst ((g k).map (prD n))), .val (.int (k : Int)), z6, z7, z8], b⟩ : Sta BagT) = some (.nx, ⟨[.val (lbD r a e u v), .val (.int (i : Int)), .val (lbD r a e u v), .val (.int (j : Int)), .own (.lst ((g k).map (prD n))), .val (.int (k : Int)), z6, z7, z8], b⟩) := by
          have c : ¬ ((g k).length : Int) ≤ (k : Int) := by omega
          simp [iaa1_0, c]
        have hadd := fun c1 c2 X Y => ia_add (n := n) (b := b) (.val (lbD r a e u v)) X Y (.val (.int (k : Int))) (.val (.int (i : Int))) (.val (.int (j : Int))) z8 c1 c2 (g k) (by have := gl k; omega)
        have hstep : g (k + 1) = [(rC n r).getD ((g k).getD k 0) 0, (rC n a).getD ((g k).getD k 0) 0].foldl addNew (g k) := by
          have : g (k + 1) = stepO (rC n r) (rC n a) (g k) k := foldl_range_succ ..
          rw [this, stepO, if_pos hkl]
        have hpre : ∀ m, m ≤ k → (g (k + 1)).getD m 0 = (g k).getD m 0 := fun m hmk => by
          obtain ⟨w, ew⟩ := addAll_pre [(rC n r).getD ((g k).getD k 0) 0, (rC n a).getD ((g k).getD k 0) 0] (g k)
          rw [hstep, ew, List.getD_eq_getElem?_getD, List.getD_eq_getElem?_getD, List.getElem?_append_left (by omega)]
        have hr1 := rC_pr h0 h.hr hlt
        have ha1 := rC_pr h0 h.ha hlt
        have hno := no k k hkl
        generalize hcc : (g k).getD k 0 = c at *
        have p2 : iaa1_1 (⟨[.val (lbD r a e u v), .val (.int (i : Int)), .val (lbD r a e u v), .val (.int (j : Int)), .own (.lst ((g k).map (prD n))), .val (.int (k : Int)), z6, z7, z8], b⟩ : Sta BagT) = some (.nx, ⟨[.val (lbD r a e u v), .val (.int (i : Int)), .val (lbD r a e u v), .val (.int (j : Int)), .own (.lst ((g k).map (prD n))), .val (.int (k : Int)), .val (.int ((c / n : Nat) : Int)), .val (.int ((c % n : Nat) : Int)), z8], b⟩) := by
          have ec : ((g k).map (prD n))[k]? = some (prD n c) := by rw [List.getElem?_map, gk]; rfl
          unfold iaa1_1
          rw [mUnp_ap, mD_ap]
          simp [ec, prD]
        by_cases hmk : mfL e u v (c / n) = mfL e u v (c % n)
        · obtain ⟨z', ea⟩ := hadd ((rC n r).getD c 0) ((rC n a).getD c 0) (.val (.int ((c / n : Nat) : Int))) (.val (.int ((c % n : Nat) : Int)))
          have p3 : iaa1_2 (⟨[.val (lbD r a e u v), .val (.int (i : Int)), .val (lbD r a e u v), .val (.int (j : Int)), .own (.lst ((g k).map (prD n))), .val (.int (k : Int)), .val (.int ((c / n : Nat) : Int)), .val (.int ((c % n : Nat) : Int)), z8], b⟩ : Sta BagT) = some (.nx, ⟨[.val (lbD r a e u v), .val (.int (i : Int)), .val (lbD r a e u v), .val (.int (j : Int)), .own (.lst ((g k).map (prD n))), .val (.int (k : Int)), .val (.int ((c / n : Nat) : Int)), .val (.int ((c % n : Nat) : Int)), z8], b⟩) := by
            rw [ia_test h cl.1 cl.2, if_pos hmk]
          have it : mIt (mTup (mCons (mD (mTup (mCons (mD (mOp2 fIx (mOp2 fIx (mOp2 fIx (mV 0) (mC (.int 0))) (mC (.int 0))) (mV 6))) (mCons (mD (mOp2 fIx (mOp2 fIx (mOp2 fIx (mV 2) (mC (.int 0))) (mC (.int 0))) (mV 7))) (mNil))))) (mCons (mD (mTup (mCons (mD (mOp2 fIx (mOp2 fIx (mOp2 fIx (mV 0) (mC (.int 0))) (mC (.int 1))) (mV 6))) (mCons (mD (mOp2 fIx (mOp2 fIx (mOp2 fIx (mV 2) (mC (.int 0))) (mC (.int 1))) (mV 7))) (mNil))))) (mNil)))) (⟨[.val (lbD r a e u v), .val (.int (i : Int)), .val (lbD r a e u v), .val (.int (j : Int)), .own (.lst ((g k).map (prD n))), .val (.int (k : Int)), .val (.int ((c / n : Nat) : Int)), .val (.int ((c % n : Nat) : Int)), z8], b⟩ : Sta BagT) = some ([prD n ((rC n r).getD c 0), prD n ((rC n a).getD c 0)], ⟨[.val (lbD r a e u v), .val (.int (i : Int)), .val (lbD r a e u v), .val (.int (j : Int)), .own (.lst ((g k).map (prD n))), .val (.int (k : Int)), .val (.int ((c / n : Nat) : Int)), .val (.int ((c % n : Nat) : Int)), z8], b⟩) := by
            rw [ia_it h cl.1 cl.2, hr1, ha1]
          refine ⟨.nx, ⟨[.val (lbD r a e u v), .val (.int (i : Int)), .val (lbD r a e u v), .val (.int (j : Int)), .own (.lst ((g (k + 1)).map (prD n))), .val (.int (k : Int)), .val (.int ((c / n : Nat) : Int)), .val (.int ((c % n : Nat) : Int)), z'], b⟩, rfl, ?_, .inl ⟨.inl rfl, ⟨_, _, _, _, rfl⟩, fun m hmk1 hml => ?_⟩⟩
          · unfold iaa1b
            rw [mSeq_ap, p1, Option.bind_some, M.thn_nx, mSeq_ap, p2, Option.bind_some, M.thn_nx, mSeq_ap, p3, Option.bind_some, M.thn_nx]
            unfold iaa1_3
            rw [mFor_ap, it, Option.bind_some]
            simp only
            rw [ea, ← hstep]
          · rw [hpre m (by omega)]
            by_cases z : m = k
            · rw [z, hcc]; exact hmk
            · exact hm m (by omega) (by omega)
        · have p3 : iaa1_2 (⟨[.val (lbD r a e u v), .val (.int (i : Int)), .val (lbD r a e u v), .val (.int (j : Int)), .own (.lst ((g k).map (prD n))), .val (.int (k : Int)), .val (.int ((c / n : Nat) : Int)), .val (.int ((c % n : Nat) : Int)), z8], b⟩ : Sta BagT) = some (.rt (.val (.bl false)), ⟨[.val (lbD r a e u v), .val (.int (i : Int)), .val (lbD r a e u v), .val (.int (j : Int)), .own (.lst ((g k).map (prD n))), .val (.int (k : Int)), .val (.int ((c / n : Nat) : Int)), .val (.int ((c % n : Nat) : Int)), z8], b⟩) := by
            rw [ia_test h cl.1 cl.2, if_neg hmk]
          refine ⟨.rt (.val (.bl false)), ⟨[.val (lbD r a e u v), .val (.int (i : Int)), .val (lbD r a e u v), .val (.int (j : Int)), .own (.lst ((g k).map (prD n))), .val (.int (k : Int)), .val (.int ((c / n : Nat) : Int)), .val (.int ((c % n : Nat) : Int)), z8], b⟩, rfl, ?_, .inr ⟨_, rfl, rfl, false, rfl, ⟨(fun z => by cases z), fun z => absurd z (hno hmk)⟩⟩⟩
          unfold iaa1b
          rw [mSeq_ap, p1, Option.bind_some, M.thn_nx, mSeq_ap, p2, Option.bind_some, M.thn_nx, mSeq_ap, p3]
          rfl
      · have p1 : iaa1_0 (⟨[.val (lbD r a e u v), .val (.int (i : Int)), .val (lbD r a e u v), .val (.int (j : Int)), .own (.lst ((g k).map (prD n))), .val (.int (k : Int)), z6, z7, z8], b⟩ : Sta BagT) = some (.rt (.val (.bl true)), ⟨[.val (lbD r a e u v), .val (.int (i : Int)), .val (lbD r a e u v), .val (.int (j : Int)), .own (.lst ((g k).map (prD n))), .val (.int (k : Int)), z6, z7, z8], b⟩) := by
          have c : ((g k).length : Int) ≤ (k : Int) := by omega
          simp [iaa1_0, c]
        refine ⟨.rt (.val (.bl true)), ⟨[.val (lbD r a e u v), .val (.int (i : Int)), .val (lbD r a e u v), .val (.int (j : Int)), .own (.lst ((g k).map (prD n))), .val (.int (k : Int)), z6, z7, z8], b⟩, rfl, ?_, .inr ⟨_, rfl, rfl, true, rfl, ⟨fun _ => yes k (by omega) fun m hml => hm m (by omega) hml, fun _ => rfl⟩⟩⟩
        unfold iaa1b
        rw [mSeq_ap, p1]
        rfl)
  rw [law_is_alike_run, runF_eq, if_pos (by rfl)]
  rcases lp with ⟨st', ef, ⟨z5, z6, z7, z8, hst⟩, hm⟩ | ⟨r', st', ef, hb, t, rfl, ht⟩
  · refine ⟨true, ?_, ⟨fun _ => ?_, fun _ => rfl⟩⟩
    · show outF (mSeq _ _ (⟨[.val (lbD r a e u v), .val (.int (i : Int)), .val (lbD r a e u v), .val (.int (j : Int)), .no, .no, .no, .no, .no], b⟩ : Sta BagT)) = _
      rw [mSeq_ap, e0, Option.bind_some, M.thn_nx, mSeq_ap]
      unfold iaa1
      rw [mFor_ap, e1, Option.bind_some]
      simp only
      rw [ef, hst, Option.bind_some, M.thn_nx]
      rfl
    · rw [Nat.zero_add, ni_length, List.length_range] at hm
      have := gl (n * n)
      exact yes (n * n) this fun m hml => hm m (by omega) hml
  · refine ⟨t, ?_, ht⟩
    show outF (mSeq _ _ (⟨[.val (lbD r a e u v), .val (.int (i : Int)), .val (lbD r a e u v), .val (.int (j : Int)), .no, .no, .no, .no, .no], b⟩ : Sta BagT)) = _
    rw [mSeq_ap, e0, Option.bind_some, M.thn_nx, mSeq_ap]
    unfold iaa1
    rw [mFor_ap, e1, Option.bind_some]
    simp only
    rw [ef, Option.bind_some]
    obtain ⟨env, bag⟩ := st'
    simp only at hb
    subst hb
    rfl
end
end W

set_option maxHeartbeats 1000000
/-! E7: drawn boards: ends, what is reached. -/
namespace W
open PySem L2 M
variable [Wrt]
/-- a test of numbers as one of data -/
def pN (p : Nat → Bool) (d : D) : Bool := match d with
  | .int i => p i.toNat
  | _ => false
theorem filter_ni (p : Nat → Bool) (s : List Nat) : (ni s).filter (pN p) = ni (s.filter p) := by
  unfold ni
  rw [List.filter_map]
  congr 1
theorem map_id_ni (s : List Nat) : (ni s).map id = ni s := List.map_id _
theorem eqN (x y : Nat) : ((x : Int) == (y : Int)) = decide (x = y) := by
  by_cases z : x = y
  · simp [z]
  · have : ¬ (x : Int) = (y : Int) := by omega
    simp [z, this]
theorem law_turn_of_eq {n : Nat} {x y : Sl} {r a : List Nat} (hx : RowA x r) (hy : RowA y a) (hr : Lt n r) (ha : Lt n a) (hn : n ≤ 1000) {s : Nat} (hs : s < n) (b : BagT) : F_law_turn_of [x, y, .val (.int (s : Int))] b = some (.val (.int (turnOf r a s : Int)), b) := by
  have b1 := law_back_eq x r b hx (by rw [hr.1]; exact hr.2) (by rw [hr.1]; exact hn)
  have b2 := law_back_eq y a b hy (by rw [ha.1]; exact ha.2) (by rw [ha.1]; exact hn)
  have ht : turnOf r a s = a.getD (r.getD ((back a).getD ((back r).getD s 0) 0) 0) 0 := rfl
  obtain ⟨g1, l1⟩ := (back_lt hr).get hs
  generalize (back r).getD s 0 = v1 at *
  obtain ⟨g2, l2⟩ := (back_lt ha).get l1
  generalize (back a).getD v1 0 = v2 at *
  obtain ⟨g3, l3⟩ := hr.get l2
  generalize r.getD v2 0 = v3 at *
  obtain ⟨g4, l4⟩ := ha.get l3
  generalize a.getD v3 0 = v4 at *
  rw [ht]
  generalize back r = br at *
  generalize back a = ba at *
  clear ht hr ha
  rcases hx with rfl | rfl | rfl <;> rcases hy with rfl | rfl | rfl <;> simp [F_law_turn_of, b1, b2, g1, g2, g3, g4]
theorem law_ends_eq {n : Nat} {x y : Sl} {r a : List Nat} (hx : RowA x r) (hy : RowA y a) (hr : Lt n r) (ha : Lt n a) (hn : n ≤ 1000) (b : BagT) : F_law_ends [x, y] b = some (.val (.tup (ni (endsN r a))), b) := by
  have c1 : mRng fR1 (mCons (mBi fLen (mCons (mV 0) (mNil))) (mNil)) (⟨[x, y, .no], b⟩ : Sta BagT) = some (ni (List.range n), ⟨[x, y, .no], b⟩) := by
    rcases hx with rfl | rfl | rfl <;> simp [hr.1, rgOk_nat (show n ≤ 1000000 by omega), rgL_ni]
  have no : noOwn [x, y, Sl.no] [2] = true := rfl
  have c2 := mComp_pure (vs := [2]) (tg := tmN 2) (tt := mBl (mOp2 fNe (mCall F_law_turn_of (mCons (mV 0) (mCons (mV 1) (mCons (mV 2) (mNil))))) (mV 2))) (te := mD (mV 2)) (pN fun k => !decide (turnOf r a k = k)) id c1 no (by rw [ni_length, List.length_range]; unfold line; omega) (fun d hd => by
    obtain ⟨k, hk, rfl⟩ := mem_ni hd
    have hk := List.mem_range.mp hk
    have t := law_turn_of_eq hx hy hr ha hn hk b
    refine ⟨⟨[x, y, .val (.int (k : Int))], b⟩, ⟨[x, y, .val (.int (k : Int))], b⟩, rfl, ?_, fun _ => ⟨⟨[x, y, .val (.int (k : Int))], b⟩, rfl, rfl, rfl⟩, fun _ => ⟨rfl, rfl⟩⟩
    have e := eqN (turnOf r a k) k
    rcases hx with rfl | rfl | rfl <;> rcases hy with rfl | rfl | rfl <;> simp [t, pN, bne, e])
  rw [F_law_ends, runF_eq, if_pos (by rfl)]
  show outF (mRet _ (⟨[x, y, .no], b⟩ : Sta BagT)) = _
  rw [mRet_ap, mBi_ap, mCons_ap, c2, filter_ni, map_id_ni]
  simp [endsN, hr.1]
def bdE (r a fl : List Nat) : List Nat := (List.range r.length).filter fun k => decide (k ∈ endsN r a) || decide (k ∈ fl)
theorem law_board_of_eq {n : Nat} {x y z : Sl} {r a fl : List Nat} (hx : RowA x r) (hy : RowA y a) (hz : RowA z fl) (hr : Lt n r) (ha : Lt n a) (hn : n ≤ 1000) (b : BagT) : F_law_board_of [x, y, z] b = some (.val (bdD r a (bdE r a fl)), b) := by
  have ee := law_ends_eq hx hy hr ha hn b
  have c1 : mSet 3 (mCall F_law_ends (mCons (mV 0) (mCons (mV 1) (mNil)))) (⟨[x, y, z, .no, .no], b⟩ : Sta BagT) = some (.nx, ⟨[x, y, z, .val (.tup (ni (endsN r a))), .no], b⟩) := by
    rcases hx with rfl | rfl | rfl <;> rcases hy with rfl | rfl | rfl <;> simp [ee]
  have c2 : mRng fR1 (mCons (mBi fLen (mCons (mV 0) (mNil))) (mNil)) (⟨[x, y, z, .val (.tup (ni (endsN r a))), .no], b⟩ : Sta BagT) = some (ni (List.range n), ⟨[x, y, z, .val (.tup (ni (endsN r a))), .no], b⟩) := by
    rcases hx with rfl | rfl | rfl <;> simp [hr.1, rgOk_nat (show n ≤ 1000000 by omega), rgL_ni]
  have c3 := mComp_pure (vs := [4]) (tg := tmN 4) (tt := mOr (mBl (mOp2 (fInB false) (mV 4) (mV 3))) (mBl (mOp2 (fInB false) (mV 4) (mV 2)))) (te := mD (mV 4)) (pN fun k => decide (k ∈ endsN r a) || decide (k ∈ fl)) id c2 rfl (by rw [ni_length, List.length_range]; unfold line; omega) (fun d hd => by
    obtain ⟨k, hk, rfl⟩ := mem_ni hd
    refine ⟨⟨[x, y, z, .val (.tup (ni (endsN r a))), .val (.int (k : Int))], b⟩, ⟨[x, y, z, .val (.tup (ni (endsN r a))), .val (.int (k : Int))], b⟩, rfl, ?_, fun _ => ⟨⟨[x, y, z, .val (.tup (ni (endsN r a))), .val (.int (k : Int))], b⟩, rfl, rfl, rfl⟩, fun _ => ⟨rfl, rfl⟩⟩
    have d1 := dIn_ni k (endsN r a)
    have d2 := dIn_ni k fl
    generalize endsN r a = en at *
    by_cases m1 : k ∈ en
    · rcases hz with rfl | rfl | rfl <;> simp [d1, d2, pN, m1]
    · by_cases m2 : k ∈ fl
      · rcases hz with rfl | rfl | rfl <;> simp [d1, d2, pN, m1, m2]
      · rcases hz with rfl | rfl | rfl <;> simp [d1, d2, pN, m1, m2])
  have h3 : 3 ≤ line := by decide
  rw [F_law_board_of, runF_eq, if_pos (by rfl)]
  show outF (mSeq _ _ (⟨[x, y, z, .no, .no], b⟩ : Sta BagT)) = _
  rw [mSeq_ap, c1, Option.bind_some, M.thn_nx, mRet_ap, mTup_ap, mCons_ap, mD_ap, mBi_ap, mCons_ap]
  have er : List.range n = List.range r.length := by rw [hr.1]
  rcases hx with rfl | rfl | rfl <;> rcases hy with rfl | rfl | rfl <;> simp [c3, filter_ni, map_id_ni, h3, bdD, bdE, er]
noncomputable def rea0 : Ms BagT := mSet 2 (mLst (mCons (mD (mC (.int 0))) (mNil)))
noncomputable def rea1 : Ms BagT := mFor (mRng fR1 (mCons (mBi fLen (mCons (mLk (mV 0)) (mNil))) (mNil))) (tmN 3) (mFor (mIt (mBi fList (mCons (mV 2) (mNil)))) (tmN 4) (mSet 2 (mOp2 fAdd (mV 2) (mComp [5] (mIt (mIfE (mBl (mOp2 fEq (mOp2 fIx (mLk (mV 0)) (mV 4)) (mOp2 fIx (mLk (mV 1)) (mV 4)))) (mTup (mCons (mD (mOp2 fIx (mLk (mV 0)) (mV 4))) (mNil))) (mTup (mCons (mD (mOp2 fIx (mLk (mV 0)) (mV 4))) (mCons (mD (mOp2 fIx (mLk (mV 1)) (mV 4))) (mNil)))))) (tmN 5) (mBl (mOp2 (fInB true) (mV 5) (mV 2))) (mD (mV 5))))))
noncomputable def rea2 : Ms BagT := mRet (mV 2)
theorem law_reached_run : F_law_reached = runF 2 6 (mSeq rea0 (mSeq rea1 rea2)) := rfl
/-- a list to be looked into: lent, or changed in place -/
def LkA (x : Sl) (r : List Nat) (b : BagT) : Prop := x = .lock (.lst (ni r)) ∨ ∃ m, x = .val (.loc m) ∧ b.sto[m]? = some (.dat (.lst (ni r)))
def stpR (r a g : List Nat) (x : Nat) : List Nat := [r.getD x 0, a.getD x 0].foldl addNew g
def lapN (r a g : List Nat) : List Nat := g.foldl (stpR r a) g
def reachN (r a : List Nat) : List Nat := (List.range r.length).foldl (fun g _ => lapN r a g) [0]
structure RI (n : Nat) (g : List Nat) : Prop where
  nd : g.Nodup
  lt : ∀ e ∈ g, e < n
  z : 0 ∈ g
theorem RI.len {n : Nat} {g : List Nat} (h : RI n g) : g.length ≤ n := by
  have := sub_len (m := List.range n) h.nd fun x hx => List.mem_range.mpr (h.lt x hx)
  rwa [List.length_range] at this
section
variable {n : Nat} {r a : List Nat}
theorem stp_pre (g : List Nat) (x : Nat) : ∃ u, stpR r a g x = g ++ u := addAll_pre _ g
theorem stp_ri (hr : Lt n r) (ha : Lt n a) {g : List Nat} (h : RI n g) {x : Nat} (hx : x < n) : RI n (stpR r a g x) := by
  obtain ⟨u, eu⟩ := stp_pre (r := r) (a := a) g x
  refine ⟨addAll_nd _ _ h.nd, fun e he => ?_, by rw [eu]; exact List.mem_append_left _ h.z⟩
  rcases addAll_from _ _ e he with z | z
  · exact h.lt e z
  · simp only [List.mem_cons, List.mem_nil_iff, or_false] at z
    rcases z with rfl | rfl
    · exact (hr.get hx).2
    · exact (ha.get hx).2
theorem fold_pre : ∀ (l g : List Nat), ∃ u, l.foldl (stpR r a) g = g ++ u
  | [], g => ⟨[], by simp⟩
  | x :: l, g => by
    obtain ⟨u, eu⟩ := stp_pre (r := r) (a := a) g x
    obtain ⟨v, ev⟩ := fold_pre l (stpR r a g x)
    exact ⟨u ++ v, by rw [List.foldl_cons, ev, eu, List.append_assoc]⟩
theorem fold_ri (hr : Lt n r) (ha : Lt n a) : ∀ (l : List Nat) {g : List Nat}, RI n g → (∀ x ∈ l, x < n) → RI n (l.foldl (stpR r a) g)
  | [], _, h, _ => h
  | x :: l, g, h, hl => fold_ri hr ha l (stp_ri hr ha h (hl x List.mem_cons_self)) fun y hy => hl y (List.mem_cons_of_mem _ hy)
theorem fold_in : ∀ (l : List Nat) {g : List Nat} {x : Nat}, x ∈ l → r.getD x 0 ∈ l.foldl (stpR r a) g ∧ a.getD x 0 ∈ l.foldl (stpR r a) g
  | y :: l, g, x, h => by
    rw [List.foldl_cons]
    rcases List.mem_cons.mp h with rfl | h
    · obtain ⟨u, eu⟩ := fold_pre (r := r) (a := a) l (stpR r a g x)
      rw [eu]
      exact ⟨List.mem_append_left _ (addAll_mem _ _ _ (by simp)), List.mem_append_left _ (addAll_mem _ _ _ (by simp))⟩
    · exact fold_in l h
theorem fold_sub {T : Nat → Prop} (tr : ∀ x, T x → T (r.getD x 0) ∧ T (a.getD x 0)) : ∀ (l : List Nat) {g : List Nat}, (∀ x ∈ l, T x) → (∀ x ∈ g, T x) → ∀ x ∈ l.foldl (stpR r a) g, T x
  | [], g, _, h, x, hx => h x hx
  | y :: l, g, hl, h, x, hx => fold_sub tr l (fun z hz => hl z (List.mem_cons_of_mem _ hz)) (fun z hz => by
    rcases addAll_from _ _ z hz with q | q
    · exact h z q
    · simp only [List.mem_cons, List.mem_nil_iff, or_false] at q
      rcases q with rfl | rfl
      · exact (tr y (hl y List.mem_cons_self)).1
      · exact (tr y (hl y List.mem_cons_self)).2) x hx
theorem reach_ri (hr : Lt n r) (ha : Lt n a) (h0 : 0 < n) : ∀ k, RI n ((List.range k).foldl (fun g _ => lapN r a g) [0]) := by
  intro k
  induction k with
  | zero => exact ⟨by simp, by simpa using h0, by simp⟩
  | succ k ih => rw [foldl_range_succ]; exact fold_ri hr ha _ ih ih.lt
theorem stp_fix {g : List Nat} {x : Nat} (h : r.getD x 0 ∈ g ∧ a.getD x 0 ∈ g) : stpR r a g x = g := by
  have e1 : addNew g (r.getD x 0) = g := if_pos h.1
  have e2 : addNew g (a.getD x 0) = g := if_pos h.2
  show addNew (addNew g (r.getD x 0)) (a.getD x 0) = g
  rw [e1, e2]
theorem fold_fix : ∀ (l : List Nat) {g : List Nat}, (∀ x ∈ l, r.getD x 0 ∈ g ∧ a.getD x 0 ∈ g) → l.foldl (stpR r a) g = g
  | [], _, _ => rfl
  | x :: l, g, h => by
    rw [List.foldl_cons, stp_fix (h x List.mem_cons_self)]
    exact fold_fix l fun y hy => h y (List.mem_cons_of_mem _ hy)
/-- what is reached is closed -/
theorem reach_cl (hr : Lt n r) (ha : Lt n a) (h0 : 0 < n) : ∀ x ∈ reachN r a, r.getD x 0 ∈ reachN r a ∧ a.getD x 0 ∈ reachN r a := by
  have gen : ∀ k, (∀ x ∈ (List.range k).foldl (fun g _ => lapN r a g) [0], r.getD x 0 ∈ (List.range k).foldl (fun g _ => lapN r a g) [0] ∧ a.getD x 0 ∈ (List.range k).foldl (fun g _ => lapN r a g) [0]) ∨ k < ((List.range k).foldl (fun g _ => lapN r a g) [0]).length := by
    intro k
    induction k with
    | zero => right; simp
    | succ k ih =>
      rw [foldl_range_succ]
      generalize (List.range k).foldl (fun g _ => lapN r a g) [0] = g at ih
      obtain ⟨u, eu⟩ := fold_pre (r := r) (a := a) g g
      by_cases hu : u = []
      · left
        have e : lapN r a g = g := by unfold lapN; rw [eu, hu, List.append_nil]
        intro x hx
        have hx' : x ∈ g := by rw [← e]; exact hx
        exact fold_in g hx'
      · right
        have : (lapN r a g).length = g.length + u.length := by unfold lapN; rw [eu, List.length_append]
        have hp : 0 < u.length := List.length_pos_iff.mpr hu
        rcases ih with ih | ih
        · exfalso
          have e := fold_fix g ih
          rw [e] at eu
          exact hu (List.append_right_eq_self.mp eu.symm)
        · omega
  unfold reachN
  rw [hr.1]
  rcases gen n with h | h
  · exact h
  · have := (reach_ri hr ha h0 n).len
    omega
theorem reach_mem (hr : Pm n r) (ha : Pm n a) (h0 : 0 < n) (x : Nat) : x ∈ reachN r a ↔ x ∈ groupN r a := by
  have ri : RI n (reachN r a) := by unfold reachN; exact reach_ri hr.lt ha.lt h0 _
  have cl := reach_cl hr.lt ha.lt h0
  constructor
  · intro hx
    have gen : ∀ k, ∀ y ∈ (List.range k).foldl (fun g _ => lapN r a g) [0], y ∈ groupN r a := by
      intro k
      induction k with
      | zero =>
        intro y hy
        rw [List.mem_singleton.mp hy]
        exact (group_gi hr.lt ha.lt h0).z
      | succ k ih =>
        rw [foldl_range_succ]
        exact fold_sub (T := fun y => y ∈ groupN r a) (fun y hy => ⟨group_cl hr.lt ha.lt h0 hy _ (by simp [nbrs]), group_cl hr.lt ha.lt h0 hy _ (by simp [nbrs])⟩) _ ih ih
    exact gen _ x hx
  · refine group_least hr.lt ha.lt h0 (T := fun y => y ∈ reachN r a) ri.z (fun y _ hy e he => ?_) x
    simp only [nbrs, List.mem_cons, List.mem_nil_iff, or_false] at he
    rcases he with rfl | rfl | rfl | rfl
    · exact (cl y hy).1
    · exact (cl y hy).2
    · exact cl_back hr ri.nd ri.lt (fun z hz => (cl z hz).1) y hy
    · exact cl_back ha ri.nd ri.lt (fun z hz => (cl z hz).2) y hy
end
noncomputable def reIn : Ms BagT := mSet 2 (mOp2 fAdd (mV 2) (mComp [5] (mIt (mIfE (mBl (mOp2 fEq (mOp2 fIx (mLk (mV 0)) (mV 4)) (mOp2 fIx (mLk (mV 1)) (mV 4)))) (mTup (mCons (mD (mOp2 fIx (mLk (mV 0)) (mV 4))) (mNil))) (mTup (mCons (mD (mOp2 fIx (mLk (mV 0)) (mV 4))) (mCons (mD (mOp2 fIx (mLk (mV 1)) (mV 4))) (mNil)))))) (tmN 5) (mBl (mOp2 (fInB true) (mV 5) (mV 2))) (mD (mV 5))))
theorem re_in {n : Nat} {X Y z3 : Sl} {r a : List Nat} {b : BagT} (hX : LkA X r b) (hY : LkA Y a b) (hr : Lt n r) (ha : Lt n a) (hn : n ≤ 1000) {g : List Nat} (hg : RI n g) {x : Nat} (hx : x < n) : reIn (⟨[X, Y, .own (.lst (ni g)), z3, .val (.int (x : Int)), .no], b⟩ : Sta BagT) = some (.nx, ⟨[X, Y, .own (.lst (ni (stpR r a g x))), z3, .val (.int (x : Int)), .no], b⟩) := by
  obtain ⟨g1, l1⟩ := hr.get hx
  obtain ⟨g2, l2⟩ := ha.get hx
  have e := eqN (r.getD x 0) (a.getD x 0)
  have hgl := hg.len
  unfold stpR
  generalize r.getD x 0 = u at *
  generalize a.getD x 0 = v at *
  have h1 : 1 ≤ line := by decide
  have h2 : 2 ≤ line := by decide
  have c0 : mIt (mIfE (mBl (mOp2 fEq (mOp2 fIx (mLk (mV 0)) (mV 4)) (mOp2 fIx (mLk (mV 1)) (mV 4)))) (mTup (mCons (mD (mOp2 fIx (mLk (mV 0)) (mV 4))) (mNil))) (mTup (mCons (mD (mOp2 fIx (mLk (mV 0)) (mV 4))) (mCons (mD (mOp2 fIx (mLk (mV 1)) (mV 4))) (mNil))))) (⟨[X, Y, .own (.lst (ni g)), z3, .val (.int (x : Int)), .no], b⟩ : Sta BagT) = some (ni (if u = v then [u] else [u, v]), ⟨[X, Y, .own (.lst (ni g)), z3, .val (.int (x : Int)), .no], b⟩) := by
    by_cases z : u = v
    · subst z
      rcases hX with rfl | ⟨m, rfl, hm⟩ <;> rcases hY with rfl | ⟨m', rfl, hm'⟩ <;> simp [*, ni]
    · have z' : ¬ (u : Int) = (v : Int) := by omega
      rcases hX with rfl | ⟨m, rfl, hm⟩ <;> rcases hY with rfl | ⟨m', rfl, hm'⟩ <;> simp [*, ni]
  have c1 := mComp_pure (vs := [5]) (tg := tmN 5) (tt := mBl (mOp2 (fInB true) (mV 5) (mV 2))) (te := mD (mV 5)) (pN fun k => !decide (k ∈ g)) id c0 rfl (by rw [ni_length]; split <;> (unfold line; simp)) (fun d hd => by
    obtain ⟨k, hk, rfl⟩ := mem_ni hd
    refine ⟨⟨[X, Y, .own (.lst (ni g)), z3, .val (.int (x : Int)), .val (.int (k : Int))], b⟩, ⟨[X, Y, .own (.lst (ni g)), z3, .val (.int (x : Int)), .val (.int (k : Int))], b⟩, rfl, ?_, fun _ => ⟨⟨[X, Y, .own (.lst (ni g)), z3, .val (.int (x : Int)), .val (.int (k : Int))], b⟩, rfl, rfl, rfl⟩, fun _ => ⟨rfl, rfl⟩⟩
    have d1 := dIn_ni k g
    by_cases m : k ∈ g <;> simp [d1, pN, m])
  rw [filter_ni, map_id_ni] at c1
  have e3 : g ++ (if u = v then [u] else [u, v]).filter (fun k => !decide (k ∈ g)) = [u, v].foldl addNew g := by
    show _ = addNew (addNew g u) v
    by_cases z : u = v
    · subst z
      rw [if_pos rfl]
      by_cases m : u ∈ g
      · simp [addNew, m]
      · simp [addNew, m]
    · rw [if_neg z]
      by_cases m : u ∈ g
      · by_cases m2 : v ∈ g
        · simp [addNew, m, m2]
        · simp [addNew, m, m2]
      · by_cases m2 : v ∈ g
        · simp [addNew, m, m2]
        · simp [addNew, m, m2, z, Ne.symm z]
  have hfl := List.length_filter_le (fun k => !decide (k ∈ g)) (if u = v then [u] else [u, v])
  have hfl2 : (if u = v then [u] else [u, v]).length ≤ 2 := by split <;> simp
  have hlen : (ni g).length + (ni ((if u = v then [u] else [u, v]).filter fun k => !decide (k ∈ g))).length ≤ line := by
    rw [ni_length, ni_length]
    unfold line
    omega
  unfold reIn
  rw [mSet_ap, mOp2_ap]
  simp only [mV_ap, List.getElem?_cons_succ, List.getElem?_cons_zero, slR_own, Option.map_some, Option.bind_some, c1]
  simp only [pk_at, List.getElem?_cons_succ, List.getElem?_cons_zero, slD_own, Option.bind_some, pk_new, fAdd_ll4, if_pos hlen, ni_append, e3]
  rfl
theorem law_reached_eq {n : Nat} {X Y : Sl} {r a : List Nat} {b : BagT} (hX : LkA X r b) (hY : LkA Y a b) (hr : Lt n r) (ha : Lt n a) (h0 : 0 < n) (hn : n ≤ 1000) : F_law_reached [X, Y] b = some (.new (.lst (ni (reachN r a))), b) := by
  have lp := forL_inv (tg := tmN 3) (body := mFor (mIt (mBi fList (mCons (mV 2) (mNil)))) (tmN 4) reIn) (fun k (st : Sta BagT) => ∃ z3 z4, st = ⟨[X, Y, .own (.lst (ni ((List.range k).foldl (fun g _ => lapN r a g) [0]))), z3, z4, .no], b⟩) (ni (List.range n)) 0 ⟨[X, Y, .own (.lst (ni [0])), .no, .no, .no], b⟩ ⟨_, _, rfl⟩ (fun k d st hd ⟨z3, z4, hst⟩ => by
    subst hst
    have ri := reach_ri hr ha h0 (0 + k)
    rw [foldl_range_succ]
    generalize (List.range (0 + k)).foldl (fun g _ => lapN r a g) [0] = g0 at ri ⊢
    have c0 : mIt (mBi fList (mCons (mV 2) (mNil))) (⟨[X, Y, .own (.lst (ni g0)), .val d, z4, .no], b⟩ : Sta BagT) = some (ni g0, ⟨[X, Y, .own (.lst (ni g0)), .val d, z4, .no], b⟩) := by simp
    obtain ⟨st', e2, z4', hst'⟩ := forL_inv (tg := tmN 4) (body := reIn) (fun m (st : Sta BagT) => ∃ z4, st = ⟨[X, Y, .own (.lst (ni ((g0.take m).foldl (stpR r a) g0))), .val d, z4, .no], b⟩) (ni g0) 0 ⟨[X, Y, .own (.lst (ni g0)), .val d, z4, .no], b⟩ ⟨_, rfl⟩ (fun m d' st hd' ⟨z4, hst⟩ => by
      subst hst
      rw [ni_get] at hd'
      cases q : g0[m]? with
      | none => rw [q] at hd'; cases hd'
      | some x =>
        rw [q] at hd'
        cases hd'
        rw [Nat.zero_add]
        have hx := ri.lt x (List.mem_of_getElem? q)
        have rm := fold_ri hr ha (g0.take m) ri fun y hy => ri.lt y (List.mem_of_mem_take hy)
        have et : (g0.take (m + 1)).foldl (stpR r a) g0 = stpR r a ((g0.take m).foldl (stpR r a) g0) x := by
          rw [List.take_add_one, q, List.foldl_append]
          rfl
        rw [et]
        exact ⟨_, .nx, _, rfl, re_in hX hY hr ha hn rm hx, .inl rfl, _, rfl⟩)
    refine ⟨⟨[X, Y, .own (.lst (ni g0)), .val d, z4, .no], b⟩, .nx, st', rfl, ?_, .inl rfl, .val d, z4', ?_⟩
    · rw [mFor_ap, c0, Option.bind_some]
      exact e2
    · rw [hst', Nat.zero_add, ni_length, List.take_length]
      rfl)
  obtain ⟨st', e2, z3, z4, hst⟩ := lp
  have h1 : 1 ≤ line := by decide
  have c0 : rea0 (⟨[X, Y, .no, .no, .no, .no], b⟩ : Sta BagT) = some (.nx, ⟨[X, Y, .own (.lst (ni [0])), .no, .no, .no], b⟩) := by
    simp [rea0, h1, ni]
  have c1 : mRng fR1 (mCons (mBi fLen (mCons (mLk (mV 0)) (mNil))) (mNil)) (⟨[X, Y, .own (.lst (ni [0])), .no, .no, .no], b⟩ : Sta BagT) = some (ni (List.range n), ⟨[X, Y, .own (.lst (ni [0])), .no, .no, .no], b⟩) := by
    rcases hX with rfl | ⟨m, rfl, hm⟩ <;> simp [*, hr.1, rgOk_nat (show n ≤ 1000000 by omega), rgL_ni]
  rw [law_reached_run, runF_eq, if_pos (by rfl)]
  show outF (mSeq _ _ (⟨[X, Y, .no, .no, .no, .no], b⟩ : Sta BagT)) = _
  rw [mSeq_ap, c0, Option.bind_some, M.thn_nx, mSeq_ap]
  show outF ((mFor _ _ (mFor (mIt (mBi fList (mCons (mV 2) (mNil)))) (tmN 4) reIn) _).bind _) = _
  rw [mFor_ap, c1, Option.bind_some]
  simp only
  rw [e2, hst, Nat.zero_add, ni_length, List.length_range, Option.bind_some, M.thn_nx]
  unfold reachN
  rw [hr.1]
  rfl
end W

set_option maxHeartbeats 1000000
/-! E8: printed by mk_e8.py: orders drawn, boards that hang together. -/
namespace W
open PySem L2 M
variable [Wrt]
theorem law_shuffle_eq (n : Nat) (h0 : 0 < n) (hn : n ≤ 1000) (b : BagT) (hb : Bg b) : ∃ p b', F_law_shuffle [.val .res, .val (.int (n : Int))] b = some (.new (.lst (ni p)), b') ∧ Pm n p ∧ Bg b' := by
  have c1 : mSet 2 (mLR1 (mV 1)) (⟨[.val .res, .val (.int (n : Int)), .no, .no, .no], b⟩ : Sta BagT) = some (.nx, ⟨[.val .res, .val (.int (n : Int)), .own (.lst (ni (List.range n))), .no, .no], b⟩) := by
    have h1 : lrOk 0 (n : Int) = true := by
      unfold lrOk
      rw [rgOk_nat (show n ≤ 1000000 by omega), rgOk_small (i := 0) (by omega) (by omega)]
      rw [Bool.true_and, Bool.true_and]
      exact decide_eq_true (by omega)
    simp [h1, rgL_ni]
  have c2 : mRng fR3 (mCons (mOp2 fSub (mV 1) (mC (.int 1))) (mCons (mC (.int 0)) (mCons (mOp1 fNeg (mC (.int 1))) (mNil)))) (⟨[.val .res, .val (.int (n : Int)), .own (.lst (ni (List.range n))), .no, .no], b⟩ : Sta BagT) = some (rgLC ((n : Int) - 1) (-1) (n - 1), ⟨[.val .res, .val (.int (n : Int)), .own (.lst (ni (List.range n))), .no, .no], b⟩) := by
    have h1 : rgOk ((n : Int) - 1) = true := rgOk_small (by omega) (by omega)
    have h2 : rgOk 0 = true := rgOk_small (by omega) (by omega)
    have h3 : ((n : Int) - 1).toNat = n - 1 := by omega
    simp [h1, h2, h3]
  obtain ⟨st', e3, p, z1, z2, he3, hp, hb3⟩ := forL_inv (tg := tmN 3) (body := mSeq (mSet 4 (mCall F_draw (mCons (mV 0) (mCons (mOp2 fAdd (mV 3) (mC (.int 1))) (mNil)))))
    (mPut (mTup (mCons (mD (mOp2 fIx (mV 2) (mV 4))) (mCons (mD (mOp2 fIx (mV 2) (mV 3))) (mNil)))) (tmT (tmCons (tmSub 2 (mV 3)) (tmCons (tmSub 2 (mV 4)) (tmNil))) 2)))
    (fun _ (st : Sta BagT) => ∃ p z1 z2, st.env = [.val .res, .val (.int (n : Int)), .own (.lst (ni p)), z1, z2] ∧ Pm n p ∧ Bg st.bag) (rgLC ((n : Int) - 1) (-1) (n - 1)) 0 ⟨[.val .res, .val (.int (n : Int)), .own (.lst (ni (List.range n))), .no, .no], b⟩ ⟨_, _, _, rfl, Pm.range n, hb⟩ (fun i d st hd ⟨p, z1, z2, he, hp, hbg⟩ => by
      have hi : i < n - 1 := by
        have := (List.getElem?_eq_some_iff.mp hd).1
        simpa [rgLC] using this
      obtain ⟨k, rfl, hk, hk0⟩ : ∃ k : Nat, d = .int (k : Int) ∧ k < n ∧ 0 < k := by
        unfold rgLC at hd
        rw [List.getElem?_map, List.getElem?_range hi] at hd
        cases hd
        exact ⟨n - 1 - i, congrArg D.int (by omega), by omega, by omega⟩
      obtain ⟨env, bag⟩ := st
      simp only at he hbg
      subst he
      obtain ⟨j, b', ed, hj, hb'⟩ := drw bag hbg (k + 1) (by omega) (by omega)
      have g1 := (hp.lt.get (show j < n by omega))
      have g2 := (hp.lt.get hk)
      refine ⟨_, .nx, ⟨[.val .res, .val (.int (n : Int)), .own (.lst (ni ((p.set k (p.getD j 0)).set j (p.getD k 0)))), .val (.int (k : Int)), .val (.int (j : Int))], b'⟩, rfl, ?_, .inl rfl, _, _, _, rfl, pm_swap hp hk (show j < n by omega), hb'⟩
      generalize p.getD j 0 = u at g1 ⊢
      generalize p.getD k 0 = v at g2 ⊢
      have hl : 2 ≤ line := by decide
      have h1 : ixN p.length (k : Int) = some k := ixN_nc (by rw [hp.lt.1]; omega)
      have h2 : ixN p.length (j : Int) = some j := ixN_nc (by rw [hp.lt.1]; omega)
      have ek : ((k + 1 : Nat) : Int) = (k : Int) + 1 := by omega
      rw [ek] at ed
      simp [ed, g1.1, g2.1, h1, h2, hl, ni_set])
  obtain ⟨env, bag⟩ := st'
  simp only at hb3 he3
  subst he3
  refine ⟨p, bag, ?_, hp, hb3⟩
  rw [F_law_shuffle, runF_eq, if_pos (by rfl)]
  show outF (mSeq _ _ (⟨[.val .res, .val (.int (n : Int)), .no, .no, .no], b⟩ : Sta BagT)) = _
  rw [mSeq_ap, c1, Option.bind_some, M.thn_nx, mSeq_ap, mFor_ap, c2, Option.bind_some]
  simp only
  rw [e3, Option.bind_some, M.thn_nx]
  simp
noncomputable def boa0 : Ms BagT := mSet 2 (mOp2 fAdd (mC (.int 1)) (mCall F_draw (mCons (mV 0) (mCons (mV 1) (mNil)))))
noncomputable def boa1 : Ms BagT := mPars [3, 4] (mCons (mH (mCall F_law_shuffle (mCons (mV 0) (mCons (mV 2) (mNil))))) (mCons (mH (mCall F_law_shuffle (mCons (mV 0) (mCons (mV 2) (mNil))))) (mNil)))
noncomputable def boa2_0 : Ms BagT := mSet 6 (mComp [8] (mRng fR1 (mCons (mV 2) (mNil))) (tmN 8) (mBl (mOp2 (fInB true) (mV 8) (mCall F_law_reached (mCons (mV 3) (mCons (mV 4) (mNil)))))) (mD (mV 8)))
noncomputable def boa2_1 : Ms BagT := mIf (mBl (mOp2 fNe (mV 6) (mLst (mNil)))) (mPut (mTup (mCons (mD (mOp2 fIx (mV 4) (mC (.int 0)))) (mCons (mD (mOp2 fIx (mV 4) (mOp2 fIx (mV 6) (mC (.int 0))))) (mNil)))) (tmT (tmCons (tmSub 4 (mOp2 fIx (mV 6) (mC (.int 0)))) (tmCons (tmSub 4 (mC (.int 0))) (tmNil))) 2)) (mSkip)
noncomputable def boa2b : Ms BagT := mSeq boa2_0 boa2_1
noncomputable def boa2 : Ms BagT := mFor (mRng fR1 (mCons (mV 2) (mNil))) (tmN 5) boa2b
noncomputable def boa3 : Ms BagT := mSet 7 (mIfE (mBl (mOp2 fEq (mCall F_draw (mCons (mV 0) (mCons (mC (.int 4)) (mNil)))) (mC (.int 0)))) (mComp [8] (mRng fR1 (mCons (mV 2) (mNil))) (tmN 8) (mBl (mOp2 fEq (mCall F_draw (mCons (mV 0) (mCons (mC (.int 2)) (mNil)))) (mC (.int 0)))) (mD (mV 8))) (mLst (mNil)))
noncomputable def boa4 : Ms BagT := mRet (mCall F_law_board_of (mCons (mV 3) (mCons (mV 4) (mCons (mV 7) (mNil)))))
theorem law_board_run : F_law_board = runF 2 9 (mSeq boa0 (mSeq boa1 (mSeq boa2 (mSeq boa3 boa4)))) := rfl
noncomputable def cwa0 : Ms BagT := mSet 3 (mOp2 fAdd (mC (.int 1)) (mCall F_draw (mCons (mV 0) (mCons (mV 1) (mNil)))))
noncomputable def cwa1 : Ms BagT := mPars [4, 5] (mCons (mH (mCall F_law_shuffle (mCons (mV 0) (mCons (mV 3) (mNil))))) (mCons (mH (mCall F_law_shuffle (mCons (mV 0) (mCons (mV 3) (mNil))))) (mNil)))
noncomputable def cwa2_0 : Ms BagT := mSet 7 (mComp [17] (mRng fR1 (mCons (mV 3) (mNil))) (tmN 17) (mBl (mOp2 (fInB true) (mV 17) (mCall F_law_reached (mCons (mV 4) (mCons (mV 5) (mNil)))))) (mD (mV 17)))
noncomputable def cwa2_1 : Ms BagT := mIf (mBl (mOp2 fNe (mV 7) (mLst (mNil)))) (mPut (mTup (mCons (mD (mOp2 fIx (mV 5) (mC (.int 0)))) (mCons (mD (mOp2 fIx (mV 5) (mOp2 fIx (mV 7) (mC (.int 0))))) (mNil)))) (tmT (tmCons (tmSub 5 (mOp2 fIx (mV 7) (mC (.int 0)))) (tmCons (tmSub 5 (mC (.int 0))) (tmNil))) 2)) (mSkip)
noncomputable def cwa2b : Ms BagT := mSeq cwa2_0 cwa2_1
noncomputable def cwa2 : Ms BagT := mFor (mRng fR1 (mCons (mV 3) (mNil))) (tmN 6) cwa2b
noncomputable def cwa3 : Ms BagT := mSet 8 (mComp [18] (mIt (mV 2)) (tmN 18) (mYes) (mD (mCall F_law_cover (mCons (mV 0) (mCons (mTup (mCons (mD (mV 4)) (mCons (mD (mV 5)) (mNil)))) (mCons (mV 18) (mNil)))))))
noncomputable def cwa4 : Ms BagT := mSet 9 (mComp [17] (mRng fR1 (mCons (mV 3) (mNil))) (tmN 17) (mBl (mOp2 fEq (mCall F_draw (mCons (mV 0) (mCons (mC (.int 4)) (mNil)))) (mC (.int 0)))) (mD (mV 17)))
noncomputable def cwa5 : Ms BagT := mFor (mIt (mV 8)) (tmN 10) (mSet 9 (mOp2 fAdd (mV 9) (mComp [17] (mIt (mCall F_law_ends (mCons (mOp2 fIx (mV 10) (mC (.int 0))) (mCons (mOp2 fIx (mV 10) (mC (.int 1))) (mNil))))) (tmN 17) (mYes) (mD (mOp2 fMod (mV 17) (mV 3))))))
noncomputable def cwa6 : Ms BagT := mPars [11, 12] (mCons (mH (mCall F_law_board_of (mCons (mV 4) (mCons (mV 5) (mCons (mV 9) (mNil)))))) (mCons (mH (mCall F_law_pick (mCons (mV 0) (mCons (mLst (mCons (mD (mC (.int 1))) (mCons (mD (mC (.int 2))) (mCons (mD (mC (.int 3))) (mCons (mD (mC (.int 100))) (mNil)))))) (mNil))))) (mNil)))
noncomputable def cwa7 : Ms BagT := mPars [13, 14] (mCons (mH (mComp [17] (mRng fR1 (mCons (mV 3) (mNil))) (tmN 17) (mYes) (mD (mCall F_draw (mCons (mV 0) (mCons (mV 12) (mNil))))))) (mCons (mH (mComp [17] (mRng fR1 (mCons (mV 3) (mNil))) (tmN 17) (mYes) (mD (mCall F_draw (mCons (mV 0) (mCons (mV 12) (mNil))))))) (mNil)))
noncomputable def cwa8 : Ms BagT := mSet 15 (mLst (mCons (mD (mTup (mCons (mD (mV 11)) (mCons (mD (mBi fTuple (mCons (mV 13) (mNil)))) (mCons (mD (mBi fTuple (mCons (mV 14) (mNil)))) (mNil)))))) (mNil)))
noncomputable def cwa9_0 : Ms BagT := mSet 12 (mBi fLen (mCons (mOp2 fIx (mV 10) (mC (.int 0))) (mNil)))
noncomputable def cwa9_1 : Ms BagT := mSet 16 (mCall F_law_board_of (mCons (mOp2 fIx (mV 10) (mC (.int 0))) (mCons (mOp2 fIx (mV 10) (mC (.int 1))) (mCons (mComp [17] (mRng fR1 (mCons (mV 12) (mNil))) (tmN 17) (mBl (mOp2 (fInB false) (mOp2 fMod (mV 17) (mV 3)) (mOp2 fIx (mV 11) (mC (.int 2))))) (mD (mV 17))) (mNil)))))
noncomputable def cwa9_2 : Ms BagT := mEx (mOwn 15 fAppend (mCons (mD (mTup (mCons (mD (mV 16)) (mCons (mD (mBi fTuple (mCons (mComp [17] (mRng fR1 (mCons (mV 12) (mNil))) (tmN 17) (mYes) (mD (mOp2 fIx (mV 13) (mOp2 fMod (mV 17) (mV 3))))) (mNil)))) (mCons (mD (mBi fTuple (mCons (mComp [17] (mRng fR1 (mCons (mV 12) (mNil))) (tmN 17) (mYes) (mD (mOp2 fIx (mV 14) (mOp2 fMod (mV 17) (mV 3))))) (mNil)))) (mNil)))))) (mNil)))
noncomputable def cwa9b : Ms BagT := mSeq cwa9_0 (mSeq cwa9_1 cwa9_2)
noncomputable def cwa9 : Ms BagT := mFor (mIt (mV 8)) (tmN 10) cwa9b
noncomputable def cwa10 : Ms BagT := mRet (mV 15)
theorem law_covers_run : F_law_covers = runF 3 19 (mSeq cwa0 (mSeq cwa1 (mSeq cwa2 (mSeq cwa3 (mSeq cwa4 (mSeq cwa5 (mSeq cwa6 (mSeq cwa7 (mSeq cwa8 (mSeq cwa9 cwa10)))))))))) := rfl

theorem bo_apart {n : Nat} (r a : List Nat) (z5 z6 : Sl) (v1 : Sl) (b : BagT) (hr : Lt n r) (ha : Lt n a) (h0 : 0 < n) (hn : n ≤ 1000) :
    boa2_0 (⟨[.val .res, v1, .val (.int (n : Int)), .own (.lst (ni r)), .own (.lst (ni a)), z5, z6, .no, .no], b⟩ : Sta BagT) = some (.nx, (⟨[.val .res, v1, .val (.int (n : Int)), .own (.lst (ni r)), .own (.lst (ni a)), z5, .own (.lst (ni ((List.range n).filter fun k => !decide (k ∈ reachN r a)))), .no, .no], b⟩ : Sta BagT)) := by
  have c1 : mRng fR1 (mCons (mV 2) (mNil)) (⟨[.val .res, v1, .val (.int (n : Int)), .own (.lst (ni r)), .own (.lst (ni a)), z5, z6, .no, .no], b⟩ : Sta BagT) = some (ni (List.range n), (⟨[.val .res, v1, .val (.int (n : Int)), .own (.lst (ni r)), .own (.lst (ni a)), z5, z6, .no, .no], b⟩ : Sta BagT)) := by
    simp [rgOk_nat (show n ≤ 1000000 by omega), rgL_ni]
  have g := law_reached_eq (X := .lock (.lst (ni r))) (Y := .lock (.lst (ni a))) (b := b) (.inl rfl) (.inl rfl) hr ha h0 hn
  have c2 := mComp_pure (vs := [8]) (tg := tmN 8) (tt := mBl (mOp2 (fInB true) (mV 8) (mCall F_law_reached (mCons (mV 3) (mCons (mV 4) (mNil)))))) (te := mD (mV 8)) (pN fun k => !decide (k ∈ reachN r a)) id c1 rfl (by rw [ni_length, List.length_range]; unfold line; omega) (fun d hd => by
    obtain ⟨k, hk, rfl⟩ := mem_ni hd
    refine ⟨(⟨[.val .res, v1, .val (.int (n : Int)), .own (.lst (ni r)), .own (.lst (ni a)), z5, z6, .no, .val (.int (k : Int))], b⟩ : Sta BagT), (⟨[.val .res, v1, .val (.int (n : Int)), .own (.lst (ni r)), .own (.lst (ni a)), z5, z6, .no, .val (.int (k : Int))], b⟩ : Sta BagT), rfl, ?_, fun _ => ⟨(⟨[.val .res, v1, .val (.int (n : Int)), .own (.lst (ni r)), .own (.lst (ni a)), z5, z6, .no, .val (.int (k : Int))], b⟩ : Sta BagT), rfl, rfl, rfl⟩, fun _ => ⟨rfl, rfl⟩⟩
    have d1 := dIn_ni k (reachN r a)
    generalize reachN r a = gg at *
    simp [g, pN, d1])
  unfold boa2_0
  rw [mSet_ap, c2, filter_ni, map_id_ni]
  rfl
theorem bo_body {n : Nat} (r a : List Nat) (z5 z6 : Sl) (v1 : Sl) (b : BagT) (hr : Pm n r) (ha : Pm n a) (h0 : 0 < n) (hn : n ≤ 1000) : ∃ a' z6', Pm n a' ∧ (Conn n r a' ∨ (groupN r a).length < (groupN r a').length) ∧
    boa2b (⟨[.val .res, v1, .val (.int (n : Int)), .own (.lst (ni r)), .own (.lst (ni a)), z5, z6, .no, .no], b⟩ : Sta BagT) = some (.nx, (⟨[.val .res, v1, .val (.int (n : Int)), .own (.lst (ni r)), (.own (.lst (ni a'))), z5, z6', .no, .no], b⟩ : Sta BagT)) := by
  have hs := bo_apart r a z5 z6 v1 b hr.lt ha.lt h0 hn
  have hlt : ∀ k ∈ (List.range n).filter fun k => !decide (k ∈ reachN r a), k < n := fun k hk => List.mem_range.mp (List.mem_filter.mp hk).1
  have hap : ∀ k, k < n → k ∉ groupN r a → k ∈ (List.range n).filter fun k => !decide (k ∈ reachN r a) := fun k hk hg => List.mem_filter.mpr ⟨List.mem_range.mpr hk, by simpa [reach_mem hr ha h0] using hg⟩
  have hag : ∀ k ∈ (List.range n).filter fun k => !decide (k ∈ reachN r a), k ∉ groupN r a := fun k hk => by simpa [reach_mem hr ha h0] using (List.mem_filter.mp hk).2
  generalize ((List.range n).filter fun k => !decide (k ∈ reachN r a)) = ap at hs hlt hap hag
  unfold boa2b
  cases ap with
  | nil =>
    have hc : Conn n r a := fun k hk => by
      apply Classical.byContradiction
      intro hg
      have := hap k hk hg
      simp at this
    refine ⟨a, .own (.lst (ni [])), ha, .inl hc, ?_⟩
    rw [mSeq_ap, hs, Option.bind_some, M.thn_nx]
    unfold boa2_1
    simp [fNe, ni, deqL, deq]
  | cons k0 ap =>
    have hk := hlt k0 List.mem_cons_self
    refine ⟨(a.set k0 (a.getD 0 0)).set 0 (a.getD k0 0), .own (.lst (ni (k0 :: ap))), pm_swap ha hk h0, .inr (merge_len hr ha h0 hk (hag k0 List.mem_cons_self)), ?_⟩
    rw [mSeq_ap, hs, Option.bind_some, M.thn_nx]
    have g1 := (ha.lt.get h0).1
    have g2 := (ha.lt.get hk).1
    generalize a.getD 0 0 = u at g1 ⊢
    generalize a.getD k0 0 = v at g2 ⊢
    have hl : 2 ≤ line := by decide
    have h1 : ixN a.length (k0 : Int) = some k0 := ixN_nc (by rw [ha.lt.1]; omega)
    have h2 : ixN a.length 0 = some 0 := ixN_nc (k := 0) (by rw [ha.lt.1]; omega)
    have e1 : atI (ni (k0 :: ap)) 0 = some (.int (k0 : Int)) := by simp [atI, ixN, ni]; first | done | omega
    have e2 : fNe (.lst (ni (k0 :: ap))) (.lst []) = some (.val (.bl true)) := by
      simp only [fNe, okq_lni, okq_lnil]
      rfl
    have e3 : atI (ni a) 0 = some (.int (u : Int)) := by
      unfold atI
      rw [ni_length, h2]
      simp [g1]
    unfold boa2_1
    simp [e1, e2, e3, g2, h1, h2, hl, ni_set]
theorem bo_loop {n : Nat} (r a : List Nat) (v1 : Sl) (b : BagT) (hr : Pm n r) (ha : Pm n a) (h0 : 0 < n) (hn : n ≤ 1000) : ∃ a' z5 z6, Pm n a' ∧ Conn n r a' ∧ boa2 (⟨[.val .res, v1, .val (.int (n : Int)), .own (.lst (ni r)), .own (.lst (ni a)), .no, .no, .no, .no], b⟩ : Sta BagT) = some (.nx, (⟨[.val .res, v1, .val (.int (n : Int)), .own (.lst (ni r)), (.own (.lst (ni a'))), z5, z6, .no, .no], b⟩ : Sta BagT)) := by
  have c3 : mRng fR1 (mCons (mV 2) (mNil)) (⟨[.val .res, v1, .val (.int (n : Int)), .own (.lst (ni r)), .own (.lst (ni a)), .no, .no, .no, .no], b⟩ : Sta BagT) = some (ni (List.range n), (⟨[.val .res, v1, .val (.int (n : Int)), .own (.lst (ni r)), .own (.lst (ni a)), .no, .no, .no, .no], b⟩ : Sta BagT)) := by
    simp [rgOk_nat (show n ≤ 1000000 by omega), rgL_ni]
  obtain ⟨st4, e4, a4, z5, z6, hst4, ha4⟩ := forL_inv (tg := tmN 5) (body := boa2b)
    (fun i (st : Sta BagT) => ∃ a z5 z6, st = (⟨[.val .res, v1, .val (.int (n : Int)), .own (.lst (ni r)), .own (.lst (ni a)), z5, z6, .no, .no], b⟩ : Sta BagT) ∧ (Pm n a ∧ (Conn n r a ∨ i < (groupN r a).length))) (ni (List.range n)) 0 (⟨[.val .res, v1, .val (.int (n : Int)), .own (.lst (ni r)), .own (.lst (ni a)), .no, .no, .no, .no], b⟩ : Sta BagT) ⟨a, .no, .no, rfl, ⟨ha, .inr (List.length_pos_of_mem (group_gi hr.lt ha.lt h0).z)⟩⟩ (fun i d st hd ⟨a, z5, z6, hst, ⟨ha, hcn⟩⟩ => by
      subst hst
      obtain ⟨a', z6', ha', hg', e⟩ := bo_body r a (.val d) z6 v1 b hr ha h0 hn
      refine ⟨_, .nx, _, rfl, e, .inl rfl, a', _, z6', rfl, ⟨ha', ?_⟩⟩
      rcases hg' with hg' | hg'
      · exact .inl hg'
      · rcases hcn with hcn | hcn
        · have h1 := sub_len (l := List.range n) (m := groupN r a) List.nodup_range fun x hx => hcn x (List.mem_range.mp hx)
          have h2 := group_len hr.lt ha'.lt h0
          rw [List.length_range] at h1
          omega
        · exact .inr (by omega))
  have hcn4 : Conn n r a4 := by
    rcases ha4.2 with h | h
    · exact h
    · have h2 := group_len hr.lt ha4.1.lt h0
      rw [ni_length, List.length_range] at h
      omega
  refine ⟨a4, z5, z6, ha4.1, hcn4, ?_⟩
  unfold boa2
  rw [mFor_ap, c3, Option.bind_some]
  simp only
  rw [e4, hst4]

theorem cw_apart {n : Nat} (r a : List Nat) (z5 z6 : Sl) (v1 v2 : Sl) (b : BagT) (hr : Lt n r) (ha : Lt n a) (h0 : 0 < n) (hn : n ≤ 1000) :
    cwa2_0 (⟨[.val .res, v1, v2, .val (.int (n : Int)), .own (.lst (ni r)), .own (.lst (ni a)), z5, z6, .no, .no, .no, .no, .no, .no, .no, .no, .no, .no, .no], b⟩ : Sta BagT) = some (.nx, (⟨[.val .res, v1, v2, .val (.int (n : Int)), .own (.lst (ni r)), .own (.lst (ni a)), z5, .own (.lst (ni ((List.range n).filter fun k => !decide (k ∈ reachN r a)))), .no, .no, .no, .no, .no, .no, .no, .no, .no, .no, .no], b⟩ : Sta BagT)) := by
  have c1 : mRng fR1 (mCons (mV 3) (mNil)) (⟨[.val .res, v1, v2, .val (.int (n : Int)), .own (.lst (ni r)), .own (.lst (ni a)), z5, z6, .no, .no, .no, .no, .no, .no, .no, .no, .no, .no, .no], b⟩ : Sta BagT) = some (ni (List.range n), (⟨[.val .res, v1, v2, .val (.int (n : Int)), .own (.lst (ni r)), .own (.lst (ni a)), z5, z6, .no, .no, .no, .no, .no, .no, .no, .no, .no, .no, .no], b⟩ : Sta BagT)) := by
    simp [rgOk_nat (show n ≤ 1000000 by omega), rgL_ni]
  have g := law_reached_eq (X := .lock (.lst (ni r))) (Y := .lock (.lst (ni a))) (b := b) (.inl rfl) (.inl rfl) hr ha h0 hn
  have c2 := mComp_pure (vs := [17]) (tg := tmN 17) (tt := mBl (mOp2 (fInB true) (mV 17) (mCall F_law_reached (mCons (mV 4) (mCons (mV 5) (mNil)))))) (te := mD (mV 17)) (pN fun k => !decide (k ∈ reachN r a)) id c1 rfl (by rw [ni_length, List.length_range]; unfold line; omega) (fun d hd => by
    obtain ⟨k, hk, rfl⟩ := mem_ni hd
    refine ⟨(⟨[.val .res, v1, v2, .val (.int (n : Int)), .own (.lst (ni r)), .own (.lst (ni a)), z5, z6, .no, .no, .no, .no, .no, .no, .no, .no, .no, .val (.int (k : Int)), .no], b⟩ : Sta BagT), (⟨[.val .res, v1, v2, .val (.int (n : Int)), .own (.lst (ni r)), .own (.lst (ni a)), z5, z6, .no, .no, .no, .no, .no, .no, .no, .no, .no, .val (.int (k : Int)), .no], b⟩ : Sta BagT), rfl, ?_, fun _ => ⟨(⟨[.val .res, v1, v2, .val (.int (n : Int)), .own (.lst (ni r)), .own (.lst (ni a)), z5, z6, .no, .no, .no, .no, .no, .no, .no, .no, .no, .val (.int (k : Int)), .no], b⟩ : Sta BagT), rfl, rfl, rfl⟩, fun _ => ⟨rfl, rfl⟩⟩
    have d1 := dIn_ni k (reachN r a)
    generalize reachN r a = gg at *
    simp [g, pN, d1])
  unfold cwa2_0
  rw [mSet_ap, c2, filter_ni, map_id_ni]
  rfl
theorem cw_body {n : Nat} (r a : List Nat) (z5 z6 : Sl) (v1 v2 : Sl) (b : BagT) (hr : Pm n r) (ha : Pm n a) (h0 : 0 < n) (hn : n ≤ 1000) : ∃ a' z6', Pm n a' ∧ (Conn n r a' ∨ (groupN r a).length < (groupN r a').length) ∧
    cwa2b (⟨[.val .res, v1, v2, .val (.int (n : Int)), .own (.lst (ni r)), .own (.lst (ni a)), z5, z6, .no, .no, .no, .no, .no, .no, .no, .no, .no, .no, .no], b⟩ : Sta BagT) = some (.nx, (⟨[.val .res, v1, v2, .val (.int (n : Int)), .own (.lst (ni r)), (.own (.lst (ni a'))), z5, z6', .no, .no, .no, .no, .no, .no, .no, .no, .no, .no, .no], b⟩ : Sta BagT)) := by
  have hs := cw_apart r a z5 z6 v1 v2 b hr.lt ha.lt h0 hn
  have hlt : ∀ k ∈ (List.range n).filter fun k => !decide (k ∈ reachN r a), k < n := fun k hk => List.mem_range.mp (List.mem_filter.mp hk).1
  have hap : ∀ k, k < n → k ∉ groupN r a → k ∈ (List.range n).filter fun k => !decide (k ∈ reachN r a) := fun k hk hg => List.mem_filter.mpr ⟨List.mem_range.mpr hk, by simpa [reach_mem hr ha h0] using hg⟩
  have hag : ∀ k ∈ (List.range n).filter fun k => !decide (k ∈ reachN r a), k ∉ groupN r a := fun k hk => by simpa [reach_mem hr ha h0] using (List.mem_filter.mp hk).2
  generalize ((List.range n).filter fun k => !decide (k ∈ reachN r a)) = ap at hs hlt hap hag
  unfold cwa2b
  cases ap with
  | nil =>
    have hc : Conn n r a := fun k hk => by
      apply Classical.byContradiction
      intro hg
      have := hap k hk hg
      simp at this
    refine ⟨a, .own (.lst (ni [])), ha, .inl hc, ?_⟩
    rw [mSeq_ap, hs, Option.bind_some, M.thn_nx]
    unfold cwa2_1
    simp [fNe, ni, deqL, deq]
  | cons k0 ap =>
    have hk := hlt k0 List.mem_cons_self
    refine ⟨(a.set k0 (a.getD 0 0)).set 0 (a.getD k0 0), .own (.lst (ni (k0 :: ap))), pm_swap ha hk h0, .inr (merge_len hr ha h0 hk (hag k0 List.mem_cons_self)), ?_⟩
    rw [mSeq_ap, hs, Option.bind_some, M.thn_nx]
    have g1 := (ha.lt.get h0).1
    have g2 := (ha.lt.get hk).1
    generalize a.getD 0 0 = u at g1 ⊢
    generalize a.getD k0 0 = v at g2 ⊢
    have hl : 2 ≤ line := by decide
    have h1 : ixN a.length (k0 : Int) = some k0 := ixN_nc (by rw [ha.lt.1]; omega)
    have h2 : ixN a.length 0 = some 0 := ixN_nc (k := 0) (by rw [ha.lt.1]; omega)
    have e1 : atI (ni (k0 :: ap)) 0 = some (.int (k0 : Int)) := by simp [atI, ixN, ni]; first | done | omega
    have e2 : fNe (.lst (ni (k0 :: ap))) (.lst []) = some (.val (.bl true)) := by
      simp only [fNe, okq_lni, okq_lnil]
      rfl
    have e3 : atI (ni a) 0 = some (.int (u : Int)) := by
      unfold atI
      rw [ni_length, h2]
      simp [g1]
    unfold cwa2_1
    simp [e1, e2, e3, g2, h1, h2, hl, ni_set]
theorem cw_loop {n : Nat} (r a : List Nat) (v1 v2 : Sl) (b : BagT) (hr : Pm n r) (ha : Pm n a) (h0 : 0 < n) (hn : n ≤ 1000) : ∃ a' z5 z6, Pm n a' ∧ Conn n r a' ∧ cwa2 (⟨[.val .res, v1, v2, .val (.int (n : Int)), .own (.lst (ni r)), .own (.lst (ni a)), .no, .no, .no, .no, .no, .no, .no, .no, .no, .no, .no, .no, .no], b⟩ : Sta BagT) = some (.nx, (⟨[.val .res, v1, v2, .val (.int (n : Int)), .own (.lst (ni r)), (.own (.lst (ni a'))), z5, z6, .no, .no, .no, .no, .no, .no, .no, .no, .no, .no, .no], b⟩ : Sta BagT)) := by
  have c3 : mRng fR1 (mCons (mV 3) (mNil)) (⟨[.val .res, v1, v2, .val (.int (n : Int)), .own (.lst (ni r)), .own (.lst (ni a)), .no, .no, .no, .no, .no, .no, .no, .no, .no, .no, .no, .no, .no], b⟩ : Sta BagT) = some (ni (List.range n), (⟨[.val .res, v1, v2, .val (.int (n : Int)), .own (.lst (ni r)), .own (.lst (ni a)), .no, .no, .no, .no, .no, .no, .no, .no, .no, .no, .no, .no, .no], b⟩ : Sta BagT)) := by
    simp [rgOk_nat (show n ≤ 1000000 by omega), rgL_ni]
  obtain ⟨st4, e4, a4, z5, z6, hst4, ha4⟩ := forL_inv (tg := tmN 6) (body := cwa2b)
    (fun i (st : Sta BagT) => ∃ a z5 z6, st = (⟨[.val .res, v1, v2, .val (.int (n : Int)), .own (.lst (ni r)), .own (.lst (ni a)), z5, z6, .no, .no, .no, .no, .no, .no, .no, .no, .no, .no, .no], b⟩ : Sta BagT) ∧ (Pm n a ∧ (Conn n r a ∨ i < (groupN r a).length))) (ni (List.range n)) 0 (⟨[.val .res, v1, v2, .val (.int (n : Int)), .own (.lst (ni r)), .own (.lst (ni a)), .no, .no, .no, .no, .no, .no, .no, .no, .no, .no, .no, .no, .no], b⟩ : Sta BagT) ⟨a, .no, .no, rfl, ⟨ha, .inr (List.length_pos_of_mem (group_gi hr.lt ha.lt h0).z)⟩⟩ (fun i d st hd ⟨a, z5, z6, hst, ⟨ha, hcn⟩⟩ => by
      subst hst
      obtain ⟨a', z6', ha', hg', e⟩ := cw_body r a (.val d) z6 v1 v2 b hr ha h0 hn
      refine ⟨_, .nx, _, rfl, e, .inl rfl, a', _, z6', rfl, ⟨ha', ?_⟩⟩
      rcases hg' with hg' | hg'
      · exact .inl hg'
      · rcases hcn with hcn | hcn
        · have h1 := sub_len (l := List.range n) (m := groupN r a) List.nodup_range fun x hx => hcn x (List.mem_range.mp hx)
          have h2 := group_len hr.lt ha'.lt h0
          rw [List.length_range] at h1
          omega
        · exact .inr (by omega))
  have hcn4 : Conn n r a4 := by
    rcases ha4.2 with h | h
    · exact h
    · have h2 := group_len hr.lt ha4.1.lt h0
      rw [ni_length, List.length_range] at h
      omega
  refine ⟨a4, z5, z6, ha4.1, hcn4, ?_⟩
  unfold cwa2
  rw [mFor_ap, c3, Option.bind_some]
  simp only
  rw [e4, hst4]
end W

set_option maxHeartbeats 1000000
/-! E9: lists drawn, boards drawn. -/
namespace W
open PySem L2 M
variable [Wrt]
theorem set_no {xs : List Sl} {C : Nat} (h : xs[C]? = some .no) : xs.set C .no = xs := by
  refine List.ext_getElem? fun j => ?_
  by_cases z : C = j
  · subst z
    rw [List.getElem?_set_self (List.getElem?_eq_some_iff.mp h).1, h]
  · rw [List.getElem?_set_ne z]
theorem back_no {xs : List Sl} {C : Nat} (h : xs[C]? = some .no) (s : Sl) : backE xs (xs.set C s) [C] = xs := by
  show (xs.set C s).set C (xs.getD C .no) = xs
  rw [List.getD_eq_getElem?_getD, h, List.set_set]
  exact set_no h
/-- a comprehension that draws -/
theorem comp_draw (xs : List Sl) (C : Nat) (it : Mn BagT (List D)) (ds : List D) (te : Mn BagT D) (P : D → Prop) (b : BagT) (hb : Bg b) (e0 : it ⟨xs, b⟩ = some (ds, ⟨xs, b⟩)) (hC : xs[C]? = some .no) (hl : ds.length ≤ 1000)
    (h : ∀ d ∈ ds, ∀ b, Bg b → ∃ x b', te (⟨xs.set C (.val d), b⟩ : Sta BagT) = some (x, ⟨xs.set C (.val d), b'⟩) ∧ P x ∧ Bg b') : ∃ out b', mComp [C] it (tmN C) (mYes) te (⟨xs, b⟩ : Sta BagT) = some (.new (.lst out), ⟨xs, b'⟩) ∧ out.length = ds.length ∧ (∀ x ∈ out, P x) ∧ Bg b' := by
  obtain ⟨out, st', e, he, hlen, hP, hb'⟩ := compL_inv (vs := [C]) (e0 := xs) (tg := tmN C) (tt := mYes) (te := te) (fun i acc (st : Sta BagT) => st.env = xs ∧ acc.length = i ∧ (∀ x ∈ acc, P x) ∧ Bg st.bag) ds 0 [] ⟨xs, b⟩ ⟨rfl, rfl, by simp, hb⟩ (fun i d acc st hd ⟨he, hlen, hP, hbg⟩ => by
    obtain ⟨env, bag⟩ := st
    simp only at he hbg
    subst he
    obtain ⟨x, b', ex, hx, hb'⟩ := h d (List.mem_of_getElem? hd) bag hbg
    have hi : i < ds.length := (List.getElem?_eq_some_iff.mp hd).1
    refine ⟨⟨env.set C (.val d), bag⟩, true, ⟨env.set C (.val d), bag⟩, ?_, rfl, fun _ => ⟨x, _, ex, by unfold line; omega, back_no hC _, by simp; omega, fun y hy => ?_, hb'⟩, fun z => by cases z⟩
    · show some (⟨(env.set C .no).set C (.val d), bag⟩ : Sta BagT) = _
      rw [set_no hC]
    · rcases List.mem_append.mp hy with z | z
      · exact hP y z
      · rw [List.mem_singleton.mp z]; exact hx)
  obtain ⟨env, bag⟩ := st'
  simp only at he hb'
  subst he
  refine ⟨out, bag, ?_, by omega, hP, hb'⟩
  rw [mComp_ap, e0, Option.bind_some]
  simp only
  rw [if_pos (by simp [noOwn, hC]), e]
  rfl
/-- .. that draws which to take -/
theorem comp_some (xs : List Sl) (C : Nat) (it : Mn BagT (List D)) (ds : List D) (tt : Mn BagT Bool) (b : BagT) (hb : Bg b) (e0 : it ⟨xs, b⟩ = some (ds, ⟨xs, b⟩)) (hC : xs[C]? = some .no) (hl : ds.length ≤ 1000)
    (h : ∀ d ∈ ds, ∀ b, Bg b → ∃ x b', tt (⟨xs.set C (.val d), b⟩ : Sta BagT) = some (x, ⟨xs.set C (.val d), b'⟩) ∧ Bg b') : ∃ out b', mComp [C] it (tmN C) tt (mD (mV C)) (⟨xs, b⟩ : Sta BagT) = some (.new (.lst out), ⟨xs, b'⟩) ∧ out.length ≤ ds.length ∧ (∀ x ∈ out, x ∈ ds) ∧ Bg b' := by
  have hCl : C < xs.length := (List.getElem?_eq_some_iff.mp hC).1
  obtain ⟨out, st', e, he, hlen, hP, hb'⟩ := compL_inv (vs := [C]) (e0 := xs) (tg := tmN C) (tt := tt) (te := mD (mV C)) (fun i acc (st : Sta BagT) => st.env = xs ∧ acc.length ≤ i ∧ (∀ x ∈ acc, x ∈ ds) ∧ Bg st.bag) ds 0 [] ⟨xs, b⟩ ⟨rfl, Nat.le_refl _, by simp, hb⟩ (fun i d acc st hd ⟨he, hlen, hP, hbg⟩ => by
    obtain ⟨env, bag⟩ := st
    simp only at he hbg
    subst he
    obtain ⟨x, b', ex, hb'⟩ := h d (List.mem_of_getElem? hd) bag hbg
    have hi : i < ds.length := (List.getElem?_eq_some_iff.mp hd).1
    refine ⟨⟨env.set C (.val d), bag⟩, x, ⟨env.set C (.val d), b'⟩, ?_, ex, fun _ => ⟨d, ⟨env.set C (.val d), b'⟩, ?_, by unfold line; omega, back_no hC _, by simp; omega, fun y hy => ?_, hb'⟩, fun _ => ⟨back_no hC _, by omega, hP, hb'⟩⟩
    · show some (⟨(env.set C .no).set C (.val d), bag⟩ : Sta BagT) = _
      rw [set_no hC]
    · rw [mD_ap, mV_ap]
      simp only [List.getElem?_set_self hCl]
      rfl
    · rcases List.mem_append.mp hy with z | z
      · exact hP y z
      · rw [List.mem_singleton.mp z]; exact List.mem_of_getElem? hd)
  obtain ⟨env, bag⟩ := st'
  simp only at he hb'
  subst he
  refine ⟨out, bag, ?_, by omega, hP, hb'⟩
  rw [mComp_ap, e0, Option.bind_some]
  simp only
  rw [if_pos (by simp [noOwn, hC]), e]
  rfl
/-- a list of numbers -/
theorem ni_of {out : List D} (h : ∀ x ∈ out, ∃ k : Nat, x = .int (k : Int)) : ∃ l, out = ni l := by
  induction out with
  | nil => exact ⟨[], rfl⟩
  | cons x out ih =>
    obtain ⟨k, rfl⟩ := h x List.mem_cons_self
    obtain ⟨l, rfl⟩ := ih fun y hy => h y (List.mem_cons_of_mem _ hy)
    exact ⟨k :: l, rfl⟩
/-- many numbers drawn -/
theorem draws_eq (xs : List Sl) (C S : Nat) (it : Mn BagT (List D)) (ds : List D) (size : Nat) (b : BagT) (hb : Bg b) (e0 : it ⟨xs, b⟩ = some (ds, ⟨xs, b⟩)) (hC : xs[C]? = some .no) (hl : ds.length ≤ 1000) {i0 : Nat} (h0 : xs[i0]? = some (.val .res)) (hS : xs[S]? = some (.val (.int (size : Int)))) (hs : 0 < size) (hs2 : size ≤ 1000) :
    ∃ l b', mComp [C] it (tmN C) (mYes) (mD (mCall F_draw (mCons (mV i0) (mCons (mV S) (mNil))))) (⟨xs, b⟩ : Sta BagT) = some (.new (.lst (ni l)), ⟨xs, b'⟩) ∧ l.length = ds.length ∧ Bg b' := by
  have n0 : C ≠ i0 := fun z => by rw [← z, hC] at h0; cases h0
  have nS : C ≠ S := fun z => by rw [← z, hC] at hS; cases hS
  obtain ⟨out, b', e, h1, h2, h3⟩ := comp_draw xs C it ds (mD (mCall F_draw (mCons (mV i0) (mCons (mV S) (mNil))))) (fun x => ∃ k : Nat, x = .int (k : Int)) b hb e0 hC hl (fun d _ b hb => by
    obtain ⟨j, b', ed, _, hb'⟩ := drw b hb size hs (by omega)
    refine ⟨.int (j : Int), b', ?_, ⟨j, rfl⟩, hb'⟩
    simp [List.getElem?_set_ne n0, List.getElem?_set_ne nS, h0, hS, ed])
  obtain ⟨l, rfl⟩ := ni_of h2
  exact ⟨l, b', e, by simpa using h1, h3⟩
/-- squares drawn -/
theorem flats_eq (xs : List Sl) (C N m : Nat) (n : Nat) (b : BagT) (hb : Bg b) (hC : xs[C]? = some .no) (h0 : xs[0]? = some (.val .res)) (hN : xs[N]? = some (.val (.int (n : Int)))) (hn : n ≤ 1000) (hm : 0 < m) (hm2 : m ≤ 1000) :
    ∃ l b', mComp [C] (mRng fR1 (mCons (mV N) (mNil))) (tmN C) (mBl (mOp2 fEq (mCall F_draw (mCons (mV 0) (mCons (mC (.int (m : Int))) (mNil)))) (mC (.int 0)))) (mD (mV C)) (⟨xs, b⟩ : Sta BagT) = some (.new (.lst (ni l)), ⟨xs, b'⟩) ∧ l.length ≤ n ∧ (∀ k ∈ l, k < n) ∧ Bg b' := by
  have n0 : C ≠ 0 := fun z => by rw [← z, hC] at h0; cases h0
  have e0 : mRng fR1 (mCons (mV N) (mNil)) (⟨xs, b⟩ : Sta BagT) = some (ni (List.range n), ⟨xs, b⟩) := by
    simp [hN, rgOk_nat (show n ≤ 1000000 by omega), rgL_ni]
  obtain ⟨out, b', e, h1, h2, h3⟩ := comp_some xs C (mRng fR1 (mCons (mV N) (mNil))) (ni (List.range n)) (mBl (mOp2 fEq (mCall F_draw (mCons (mV 0) (mCons (mC (.int (m : Int))) (mNil)))) (mC (.int 0)))) b hb e0 hC (by simpa using hn) (fun d _ b hb => by
    obtain ⟨j, b', ed, _, hb'⟩ := drw b hb m hm (by omega)
    refine ⟨((j : Int) == 0), b', ?_, hb'⟩
    simp [List.getElem?_set_ne n0, h0, ed])
  obtain ⟨l, rfl⟩ := ni_of fun x hx => by
    obtain ⟨k, _, rfl⟩ := mem_ni (h2 x hx)
    exact ⟨k, rfl⟩
  refine ⟨l, b', e, by simpa using h1, fun k hk => ?_, h3⟩
  obtain ⟨k', hk', e2⟩ := mem_ni (h2 (.int (k : Int)) (by unfold ni; exact List.mem_map.mpr ⟨k, hk, rfl⟩))
  simp only [D.int.injEq] at e2
  have := List.mem_range.mp hk'
  omega
theorem law_board_eq (m : Nat) (hm : 0 < m) (hm2 : m ≤ 60) (b : BagT) (hb : Bg b) : ∃ n r a e b', F_law_board [.val .res, .val (.int (m : Int))] b = some (.val (bdD r a e), b') ∧ 0 < n ∧ n ≤ m ∧ Pm n r ∧ Pm n a ∧ Bg b' := by
  obtain ⟨j, b1, ed, hj, hb1⟩ := drw b hb m hm (by omega)
  obtain ⟨n, hn⟩ : ∃ n, n = 1 + j := ⟨_, rfl⟩
  have h0 : 0 < n := by omega
  have hn2 : n ≤ 1000 := by omega
  obtain ⟨r, b2, er, hr, hb2⟩ := law_shuffle_eq n h0 hn2 b1 hb1
  obtain ⟨a, b3, ea, ha, hb3⟩ := law_shuffle_eq n h0 hn2 b2 hb2
  have en : (1 : Int) + (j : Int) = (n : Int) := by omega
  have c1 : boa0 (⟨[.val .res, .val (.int (m : Int)), .no, .no, .no, .no, .no, .no, .no], b⟩ : Sta BagT) = some (.nx, ⟨[.val .res, .val (.int (m : Int)), .val (.int (n : Int)), .no, .no, .no, .no, .no, .no], b1⟩) := by
    simp [boa0, ed, en]
  have c2 : boa1 (⟨[.val .res, .val (.int (m : Int)), .val (.int (n : Int)), .no, .no, .no, .no, .no, .no], b1⟩ : Sta BagT) = some (.nx, ⟨[.val .res, .val (.int (m : Int)), .val (.int (n : Int)), .own (.lst (ni r)), .own (.lst (ni a)), .no, .no, .no, .no], b3⟩) := by
    simp [boa1, er, ea]
  obtain ⟨a4, z5, z6, ha4, _, c3⟩ := bo_loop r a (.val (.int (m : Int))) b3 hr ha h0 hn2
  obtain ⟨j6, b6, e6, hj6, hb6⟩ := drw b3 hb3 4 (by omega) (by omega)
  have e6' : F_draw [.val .res, .val (.int 4)] b3 = some (.val (.int (j6 : Int)), b6) := e6
  have c4 : ∃ fl b7, boa3 (⟨[.val .res, .val (.int (m : Int)), .val (.int (n : Int)), .own (.lst (ni r)), .own (.lst (ni a4)), z5, z6, .no, .no], b3⟩ : Sta BagT) = some (.nx, ⟨[.val .res, .val (.int (m : Int)), .val (.int (n : Int)), .own (.lst (ni r)), .own (.lst (ni a4)), z5, z6, .own (.lst (ni fl)), .no], b7⟩) ∧ Bg b7 := by
    by_cases h4 : j6 = 0
    · subst h4
      obtain ⟨fl, b7, ef, _, _, hb7⟩ := flats_eq [.val .res, .val (.int (m : Int)), .val (.int (n : Int)), .own (.lst (ni r)), .own (.lst (ni a4)), z5, z6, .no, .no] 8 2 2 n b6 hb6 rfl rfl rfl hn2 (by omega) (by omega)
      refine ⟨fl, b7, ?_, hb7⟩
      unfold boa3
      have ef' : mComp [8] (mRng fR1 (mCons (mV 2) (mNil))) (tmN 8) (mBl (mOp2 fEq (mCall F_draw (mCons (mV 0) (mCons (mC (.int 2)) (mNil)))) (mC (.int 0)))) (mD (mV 8)) (⟨[.val .res, .val (.int (m : Int)), .val (.int (n : Int)), .own (.lst (ni r)), .own (.lst (ni a4)), z5, z6, .no, .no], b6⟩ : Sta BagT) = some (.new (.lst (ni fl)), ⟨[.val .res, .val (.int (m : Int)), .val (.int (n : Int)), .own (.lst (ni r)), .own (.lst (ni a4)), z5, z6, .no, .no], b7⟩) := ef
      simp [e6', ef']
    · have h4' : ¬ (j6 : Int) = 0 := by omega
      refine ⟨[], b6, ?_, hb6⟩
      unfold boa3
      simp [e6', h4, h4', ni]
  obtain ⟨fl, b7, c4, hb7⟩ := c4
  have bo := law_board_of_eq (x := .lock (.lst (ni r))) (y := .lock (.lst (ni a4))) (z := .lock (.lst (ni fl))) (rowa_l r) (rowa_l a4) (rowa_l fl) hr.lt ha4.lt hn2 b7
  refine ⟨n, r, a4, bdE r a4 fl, b7, ?_, h0, by omega, hr, ha4, hb7⟩
  rw [law_board_run, runF_eq, if_pos (by rfl)]
  show outF (mSeq _ _ (⟨[.val .res, .val (.int (m : Int)), .no, .no, .no, .no, .no, .no, .no], b⟩ : Sta BagT)) = _
  rw [mSeq_ap, c1, Option.bind_some, M.thn_nx, mSeq_ap, c2, Option.bind_some, M.thn_nx, mSeq_ap, c3, Option.bind_some, M.thn_nx, mSeq_ap, c4, Option.bind_some, M.thn_nx]
  unfold boa4
  simp [bo]
theorem is_int_eq (k : Nat) (b : BagT) : F_law_is_int [.val (.int (k : Int))] b = some (.val (.bl true), b) := by
  simp [F_law_is_int, fIsi_eq]
theorem same_bl (k : Nat) (x y : Bool) (b : BagT) : F_law_same (k + 1) [.val (.bl x), .val (.bl y)] b = some (.val (.bl (x == y)), b) := by
  simp [F_law_same, fIsi_eq, M.isNon]
end W

set_option maxHeartbeats 1000000
/-! E10: boards over boards: plain. -/
namespace W
open PySem L2 M
variable [Wrt]
/-- a row over a row: square k over k % m -/
def ovN (m d : Nat) (p : List Nat) (o : List (List Nat)) : List Nat := (List.range (m * d)).map fun k => p.getD (k % m) 0 + m * (o.getD (k % m) []).getD (k / m) 0
/-- a row lies over p -/
def Ovr (m : Nat) (p s : List Nat) : Prop := ∀ k, k < s.length → s.getD k 0 % m = p.getD (k % m) 0
section
variable {m d : Nat} {p : List Nat} {o : List (List Nat)}
theorem kd {k : Nat} (hm : 0 < m) (hk : k < m * d) : k % m < m ∧ k / m < d := ⟨Nat.mod_lt _ hm, Nat.div_lt_of_lt_mul hk⟩
theorem ov_at {k : Nat} (hk : k < m * d) : (ovN m d p o).getD k 0 = p.getD (k % m) 0 + m * (o.getD (k % m) []).getD (k / m) 0 := getD_map _ 0 hk
theorem ov_ovr (hm : 0 < m) (hp : Pm m p) : Ovr m p (ovN m d p o) := fun k hk => by
  have hk : k < m * d := by simpa [ovN] using hk
  rw [ov_at hk, Nat.add_mul_mod_self_left]
  exact Nat.mod_eq_of_lt (hp.get (kd hm hk).1)
theorem ov_pm (hm : 0 < m) (hp : Pm m p) (hol : o.length = m) (ho : ∀ l ∈ o, Pm d l) : Pm (m * d) (ovN m d p o) := by
  have hoi : ∀ i, i < m → Pm d (o.getD i []) := fun i hi => by
    have : o[i]? = some (o.getD i []) := by
      rw [List.getD_eq_getElem?_getD, List.getElem?_eq_getElem (by omega)]
      rfl
    exact ho _ (List.mem_of_getElem? this)
  refine ⟨⟨by simp [ovN], fun x hx => ?_⟩, nd_of_inj fun i j hi hj e => ?_⟩
  · unfold ovN at hx
    obtain ⟨k, hk, rfl⟩ := List.mem_map.mp hx
    have q := kd hm (List.mem_range.mp hk)
    have h1 := hp.get q.1
    have h2 := (hoi _ q.1).get q.2
    have : m * ((o.getD (k % m) []).getD (k / m) 0 + 1) ≤ m * d := Nat.mul_le_mul_left m h2
    rw [Nat.mul_add, Nat.mul_one] at this
    omega
  · have hi : i < m * d := by simpa [ovN] using hi
    have hj : j < m * d := by simpa [ovN] using hj
    rw [ov_at hi, ov_at hj] at e
    have qi := kd hm hi
    have qj := kd hm hj
    have h1 := hp.get qi.1
    have h2 := hp.get qj.1
    have em : p.getD (i % m) 0 = p.getD (j % m) 0 := by
      have := congrArg (· % m) e
      simp only [Nat.add_mul_mod_self_left, Nat.mod_eq_of_lt h1, Nat.mod_eq_of_lt h2] at this
      exact this
    have eij : i % m = j % m := hp.inj qi.1 qj.1 em
    rw [em, eij] at e
    have e2 : (o.getD (j % m) []).getD (i / m) 0 = (o.getD (j % m) []).getD (j / m) 0 := by
      have := Nat.add_left_cancel e
      exact Nat.eq_of_mul_eq_mul_left hm this
    have ed : i / m = j / m := (hoi _ qj.1).inj qi.2 qj.2 e2
    rw [← Nat.div_add_mod i m, ← Nat.div_add_mod j m, eij, ed]
end
theorem ovr_swap {m : Nat} {p s : List Nat} (h : Ovr m p s) (hm : 0 < m) {k : Nat} (hk : k < s.length) (h0 : 0 < s.length) (hkm : k % m = 0) : Ovr m p ((s.set k (s.getD 0 0)).set 0 (s.getD k 0)) := fun x hx => by
  have hx : x < s.length := by simpa using hx
  by_cases e0 : x = 0
  · subst e0
    rw [getD_set_eq (by simpa using h0), h k hk, hkm, Nat.zero_mod]
  · rw [getD_set_ne (Ne.symm e0)]
    by_cases ek : x = k
    · subst ek
      rw [show (s.set x (s.getD 0 0)).getD x 0 = s.getD 0 0 from getD_set_eq hk, h 0 h0, hkm, Nat.zero_mod]
    · rw [getD_set_ne (Ne.symm ek), h x hx]
/-- what stands apart stands so over square 0, too -/
theorem apart_0 {m n : Nat} {p q R A : List Nat} (hm : 0 < m) (hn : 0 < n) (hp : Pm m p) (hq : Pm m q) (hc : Conn m p q) (hR : Pm n R) (hA : Pm n A) (oR : Ovr m p R) (oA : Ovr m q A) (hall : ∀ k, k < n → k % m = 0 → k ∈ groupN R A) : ∀ k, k < n → k ∈ groupN R A := by
  have cl := fun {x : Nat} (hx : x ∈ groupN R A) => group_cl hR.lt hA.lt hn hx
  have gl := (group_gi hR.lt hA.lt hn).lt
  -- from below: a row's step led back
  have fwd : ∀ (s S : List Nat), Pm m s → Pm n S → Ovr m s S → (∀ x ∈ groupN R A, S.getD x 0 ∈ groupN R A) → ∀ i, i < m → (∀ u, u < n → u % m = i → u ∈ groupN R A) → ∀ u, u < n → u % m = s.getD i 0 → u ∈ groupN R A := fun s S hs hS oS cS i hi h u hu e => by
    obtain ⟨w, hw, ew⟩ := hS.sur hu
    have e1 := oS w (by rw [hS.lt.1]; exact hw)
    rw [ew, e] at e1
    have hwm : w % m = i := (hs.inj (Nat.mod_lt _ hm) hi (e1.symm))
    rw [← ew]
    exact cS w (h w hw hwm)
  have bwd : ∀ (s S : List Nat), Pm m s → Pm n S → Ovr m s S → (∀ x ∈ groupN R A, (back S).getD x 0 ∈ groupN R A) → ∀ i, i < m → (∀ u, u < n → u % m = i → u ∈ groupN R A) → ∀ u, u < n → u % m = (back s).getD i 0 → u ∈ groupN R A := fun s S hs hS oS cS i hi h u hu e => by
    have e1 := oS u (by rw [hS.lt.1]; exact hu)
    rw [e, of_back hs hi] at e1
    have := cS _ (h _ (hS.get hu) e1)
    rwa [back_of hS hu] at this
  intro k hk
  have key : ∀ i ∈ groupN p q, ∀ u, u < n → u % m = i → u ∈ groupN R A := group_least hp.lt hq.lt hm (T := fun i => ∀ u, u < n → u % m = i → u ∈ groupN R A) hall (fun i hi hT e he => by
    simp only [nbrs, List.mem_cons, List.mem_nil_iff, or_false] at he
    rcases he with rfl | rfl | rfl | rfl
    · exact fwd p R hp hR oR (fun x hx => cl hx _ (by simp [nbrs])) i hi hT
    · exact fwd q A hq hA oA (fun x hx => cl hx _ (by simp [nbrs])) i hi hT
    · exact bwd p R hp hR oR (fun x hx => cl hx _ (by simp [nbrs])) i hi hT
    · exact bwd q A hq hA oA (fun x hx => cl hx _ (by simp [nbrs])) i hi hT)
  exact key (k % m) (hc _ (Nat.mod_lt _ hm)) k hk rfl
end W

set_option maxHeartbeats 1000000
/-! E11: printed by mk_e11.py: boards over boards: the walk. -/
namespace W
open PySem L2 M
variable [Wrt]
noncomputable def cvOrd : Mn BagT R := mComp [8] (mRng fR1 (mCons (mV 3) (mNil))) (tmN 8) (mYes) (mD (mCall F_law_shuffle (mCons (mV 0) (mCons (mV 2) (mNil)))))
noncomputable def cvRow : Mn BagT R := mComp [8] (mRng fR1 (mCons (mOp2 fMul (mV 3) (mV 2)) (mNil))) (tmN 8) (mYes) (mD (mOp2 fAdd (mOp2 fIx (mOp2 fIx (mV 1) (mV 9)) (mOp2 fMod (mV 8) (mV 3))) (mOp2 fMul (mV 3) (mOp2 fIx (mOp2 fIx (mOp2 fIx (mV 4) (mV 9)) (mOp2 fMod (mV 8) (mV 3))) (mOp2 fDiv (mV 8) (mV 3))))))
noncomputable def cvAp : Mn BagT R := mComp [8] (mRng fR1 (mCons (mOp2 fMul (mV 3) (mV 2)) (mNil))) (tmN 8) (mBl (mOp2 (fInB true) (mV 8) (mCall F_law_reached (mCons (mOp2 fIx (mV 5) (mC (.int 0))) (mCons (mOp2 fIx (mV 5) (mC (.int 1))) (mNil)))))) (mD (mV 8))
noncomputable def cvOv : Mn BagT R := mComp [10] (mIt (mV 7)) (tmN 10) (mBl (mOp2 fEq (mOp2 fMod (mV 10) (mV 3)) (mC (.int 0)))) (mD (mV 10))
noncomputable def cvPut : Ms BagT := mPut (mTup (mCons (mD (mOp2 fIx (mLk (mOp2 fIx (mV 5) (mC (.int 1)))) (mC (.int 0)))) (mCons (mD (mOp2 fIx (mLk (mOp2 fIx (mV 5) (mC (.int 1)))) (mV 8))) (mNil)))) (tmT (tmCons (tmLoc (mOp2 fIx (mV 5) (mC (.int 1))) (mV 8)) (tmCons (tmLoc (mOp2 fIx (mV 5) (mC (.int 1))) (mC (.int 0))) (tmNil))) 2)
noncomputable def cvB : Ms BagT := mSeq (mSet 7 cvAp) (mIf (mBl (mOp2 fNe (mV 7) (mLst (mNil)))) (mSeq (mSet 8 (mOp2 fIx cvOv (mC (.int 0)))) cvPut) (mSkip))
theorem law_cover_run : F_law_cover = trimF (runF 3 11 (mSeq (mSet 3 (mBi fLen (mCons (mOp2 fIx (mV 1) (mC (.int 0))) (mNil))))
    (mSeq (mSet 4 (mComp [9] (mRng fR1 (mCons (mC (.int 2)) (mNil))) (tmN 9) (mYes) (mD cvOrd)))
    (mSeq (mSet 5 (mComp [9] (mRng fR1 (mCons (mC (.int 2)) (mNil))) (tmN 9) (mYes) (mD (mNew cvRow))))
    (mSeq (mFor (mRng fR1 (mCons (mOp2 fMul (mV 3) (mV 2)) (mNil))) (tmN 6) cvB)
    (mRet (mTup (mCons (mD (mOp2 fIx (mV 5) (mC (.int 0)))) (mCons (mD (mOp2 fIx (mV 5) (mC (.int 1)))) (mNil))))))))))  := rfl
def lsD' (o : List (List Nat)) : D := .lst (o.map fun l => .lst (ni l))
def cvBase (p q : List Nat) : D := .tup [.lst (ni p), .lst (ni q)]
section
variable {m d : Nat} {p q : List Nat} {b : BagT}
theorem cv_ord (hd : 0 < d) (hd2 : d ≤ 100) (hm : m ≤ 100) (B : D) (s : Int) (b : BagT) (hb : Bg b) : ∃ o b', cvOrd (⟨[.val .res, .val B, .val (.int (d : Int)), .val (.int (m : Int)), .no, .no, .no, .no, .no, .val (.int s), .no], b⟩ : Sta BagT) = some (.new (lsD' o), ⟨[.val .res, .val B, .val (.int (d : Int)), .val (.int (m : Int)), .no, .no, .no, .no, .no, .val (.int s), .no], b'⟩) ∧ o.length = m ∧ (∀ l ∈ o, Pm d l) ∧ Bg b' := by
  have e0 : mRng fR1 (mCons (mV 3) (mNil)) (⟨[.val .res, .val B, .val (.int (d : Int)), .val (.int (m : Int)), .no, .no, .no, .no, .no, .val (.int s), .no], b⟩ : Sta BagT) = some (ni (List.range m), ⟨[.val .res, .val B, .val (.int (d : Int)), .val (.int (m : Int)), .no, .no, .no, .no, .no, .val (.int s), .no], b⟩) := by
    simp [rgOk_nat (show m ≤ 1000000 by omega), rgL_ni]
  obtain ⟨out, b', e, h1, h2, h3⟩ := comp_draw [.val .res, .val B, .val (.int (d : Int)), .val (.int (m : Int)), .no, .no, .no, .no, .no, .val (.int s), .no] 8 (mRng fR1 (mCons (mV 3) (mNil))) (ni (List.range m)) (mD (mCall F_law_shuffle (mCons (mV 0) (mCons (mV 2) (mNil))))) (fun x => ∃ l, x = .lst (ni l) ∧ Pm d l) b hb e0 rfl (by simp; omega) (fun x _ b hb => by
    obtain ⟨l, b', es, hl, hb'⟩ := law_shuffle_eq d hd (by omega) b hb
    refine ⟨.lst (ni l), b', ?_, ⟨l, rfl, hl⟩, hb'⟩
    simp [es])
  have of : ∀ out : List D, (∀ x ∈ out, ∃ l, x = .lst (ni l) ∧ Pm d l) → ∃ o : List (List Nat), out = o.map (fun l => .lst (ni l)) ∧ ∀ l ∈ o, Pm d l := fun out => by
    induction out with
    | nil => exact fun _ => ⟨[], rfl, by simp⟩
    | cons x out ih =>
      intro h
      obtain ⟨l, rfl, hl⟩ := h x List.mem_cons_self
      obtain ⟨o, rfl, ho⟩ := ih fun y hy => h y (List.mem_cons_of_mem _ hy)
      exact ⟨l :: o, rfl, fun y hy => by
        rcases List.mem_cons.mp hy with rfl | hy
        · exact hl
        · exact ho y hy⟩
  obtain ⟨o, rfl, ho⟩ := of out h2
  exact ⟨o, b', e, by simpa using h1, ho, h3⟩
theorem cv_row (hm : 0 < m) (hm2 : m ≤ 100) (hd : 0 < d) (hd2 : d ≤ 100) (hp : Pm m p) {o : List (List Nat)} (hol : o.length = m) (ho : ∀ l ∈ o, Pm d l) {B O : List D} {s : Nat} (hB : B[s]? = some (.lst (ni p))) (hO : O[s]? = some (lsD' o)) (b : BagT) : cvRow (⟨[.val .res, .val (.tup B), .val (.int (d : Int)), .val (.int (m : Int)), .own (.lst O), .no, .no, .no, .no, .val (.int (s : Int)), .no], b⟩ : Sta BagT) = some (.new (.lst (ni (ovN m d p o))), ⟨[.val .res, .val (.tup B), .val (.int (d : Int)), .val (.int (m : Int)), .own (.lst O), .no, .no, .no, .no, .val (.int (s : Int)), .no], b⟩) := by
  have hmd : m * d ≤ 10000 := Nat.mul_le_mul hm2 hd2
  have c1 : cMul (m : Int) (d : Int) = true := cMul_l (by omega)
  have c2 : rgOk ((m : Int) * (d : Int)) = true := by
    rw [show ((m : Int) * (d : Int)) = ((m * d : Nat) : Int) by simp]
    exact rgOk_nat (by omega)
  have c3 : ((m : Int) * (d : Int)).toNat = m * d := by
    rw [show ((m : Int) * (d : Int)) = ((m * d : Nat) : Int) by simp, Int.toNat_natCast]
  have e0 : mRng fR1 (mCons (mOp2 fMul (mV 3) (mV 2)) (mNil)) (⟨[.val .res, .val (.tup B), .val (.int (d : Int)), .val (.int (m : Int)), .own (.lst O), .no, .no, .no, .no, .val (.int (s : Int)), .no], b⟩ : Sta BagT) = some (ni (List.range (m * d)), ⟨[.val .res, .val (.tup B), .val (.int (d : Int)), .val (.int (m : Int)), .own (.lst O), .no, .no, .no, .no, .val (.int (s : Int)), .no], b⟩) := by
    simp [c1, c2, c3, rgL_ni]
  have k := mComp_pure (vs := [8]) (tg := tmN 8) (tt := mYes) (te := mD (mOp2 fAdd (mOp2 fIx (mOp2 fIx (mV 1) (mV 9)) (mOp2 fMod (mV 8) (mV 3))) (mOp2 fMul (mV 3) (mOp2 fIx (mOp2 fIx (mOp2 fIx (mV 4) (mV 9)) (mOp2 fMod (mV 8) (mV 3))) (mOp2 fDiv (mV 8) (mV 3)))))) (fun _ => true) (fun x => match x with
      | .int i => .int (((ovN m d p o).getD i.toNat 0 : Nat) : Int)
      | x => x) e0 rfl (by rw [ni_length, List.length_range]; unfold line; omega) (fun x hx => by
    obtain ⟨k, hk, rfl⟩ := mem_ni hx
    have hk := List.mem_range.mp hk
    have q := kd hm hk
    have go : o[k % m]? = some (o.getD (k % m) []) := by
      rw [List.getD_eq_getElem?_getD, List.getElem?_eq_getElem (by omega)]
      rfl
    have hl := ho _ (List.mem_of_getElem? go)
    have gl := (hl.lt.get q.2).1
    have gp := (hp.lt.get q.1).1
    have hlt : (o.getD (k % m) []).getD (k / m) 0 < d := (hl.lt.get q.2).2
    refine ⟨⟨[.val .res, .val (.tup B), .val (.int (d : Int)), .val (.int (m : Int)), .own (.lst O), .no, .no, .no, .val (.int (k : Int)), .val (.int (s : Int)), .no], b⟩, ⟨[.val .res, .val (.tup B), .val (.int (d : Int)), .val (.int (m : Int)), .own (.lst O), .no, .no, .no, .val (.int (k : Int)), .val (.int (s : Int)), .no], b⟩, rfl, rfl, fun _ => ⟨⟨[.val .res, .val (.tup B), .val (.int (d : Int)), .val (.int (m : Int)), .own (.lst O), .no, .no, .no, .val (.int (k : Int)), .val (.int (s : Int)), .no], b⟩, ?_, rfl, rfl⟩, fun h => by cases h⟩
    show _ = some (D.int (((ovN m d p o).getD k 0 : Nat) : Int), _)
    rw [ov_at hk]
    have cm : cMod (k : Int) (m : Int) = true := cMod_pos (by omega)
    have cd : cDiv (k : Int) (m : Int) = true := cDiv_pos (by omega) (by omega)
    have em : ((k : Int) % (m : Int)) = ((k % m : Nat) : Int) := by simp
    have ed : ((k : Int) / (m : Int)) = ((k / m : Nat) : Int) := by simp
    generalize o.getD (k % m) [] = ol at *
    generalize k % m = x1 at *
    generalize k / m = x2 at *
    generalize p.getD x1 0 = y1 at *
    generalize ol.getD x2 0 = y2 at *
    have cx : cMul (m : Int) (y2 : Int) = true := cMul_l (by omega)
    have hO2 : (o.map fun l => D.lst (ni l))[x1]? = some (.lst (ni ol)) := by rw [List.getElem?_map, go]; rfl
    rw [lsD'] at hO
    simp only [mD_ap, mOp2_ap, mV_ap, List.getElem?_cons_succ, List.getElem?_cons_zero, slR_val, slR_own, Option.map_some, Option.bind_some, pk_val, pk_at, slD_own, fIx_t, fIx_l, atI_nc, hB, hO, fMod_i, if_pos cm, em, fDiv_i, if_pos cd, ed, hO2, gp, gl, ni_get, fMul_i, if_pos cx, fAdd_i, toD_val]
    simp)
  unfold cvRow
  rw [k, List.filter_eq_self.mpr (fun _ _ => rfl)]
  have e : (ni (List.range (m * d))).map (fun x => match x with
      | .int i => .int (((ovN m d p o).getD i.toNat 0 : Nat) : Int)
      | x => x) = ni (ovN m d p o) := by
    refine List.ext_getElem? fun j => ?_
    rw [List.getElem?_map, ni_get, ni_get]
    by_cases hj : j < m * d
    · rw [List.getElem?_range hj, get_of (s := ovN m d p o) (by simpa [ovN] using hj)]
      rfl
    · rw [List.getElem?_eq_none (by simp; omega), List.getElem?_eq_none (by simp [ovN]; omega)]
      rfl
  rw [e]
end
end W

set_option maxHeartbeats 1000000
/-! E12: boards over boards. -/
namespace W
open PySem L2 M
variable [Wrt]
section
variable {m d : Nat} {p q : List Nat} {b : BagT}
def cvX (m d : Nat) (B : D) (x4 x5 z6 z7 z8 : Sl) : List Sl := [.val .res, .val B, .val (.int (d : Int)), .val (.int (m : Int)), x4, x5, z6, z7, z8, .no, .no]
def rwS (s : List Nat) : Ob := .dat (.lst (ni s))
theorem bag_sto {b : BagT} (h : b.sto = []) : ({ b with sto := [] } : BagT) = b := by
  obtain ⟨_, _, _, _, _⟩ := b
  simp only at h
  subst h
  rfl
/-- the rows, laid to be changed -/
theorem cv_rows (hm : 0 < m) (hm2 : m ≤ 100) (hd : 0 < d) (hd2 : d ≤ 100) (hp : Pm m p) (hq : Pm m q) {o0 o1 : List (List Nat)} (hl0 : o0.length = m) (h0 : ∀ l ∈ o0, Pm d l) (hl1 : o1.length = m) (h1 : ∀ l ∈ o1, Pm d l) (hb : Bg b) :
    mSet 5 (mComp [9] (mRng fR1 (mCons (mC (.int 2)) (mNil))) (tmN 9) (mYes) (mD (mNew cvRow))) (⟨cvX m d (cvBase p q) (.own (.lst [lsD' o0, lsD' o1])) .no .no .no .no, b⟩ : Sta BagT) = some (.nx, ⟨cvX m d (cvBase p q) (.own (.lst [lsD' o0, lsD' o1])) (.own (.lst [.loc 0, .loc 1])) .no .no .no, { b with sto := [rwS (ovN m d p o0), rwS (ovN m d q o1)] }⟩) := by
  have e0 : mRng fR1 (mCons (mC (.int 2)) (mNil)) (⟨cvX m d (cvBase p q) (.own (.lst [lsD' o0, lsD' o1])) .no .no .no .no, b⟩ : Sta BagT) = some (ni [0, 1], ⟨cvX m d (cvBase p q) (.own (.lst [lsD' o0, lsD' o1])) .no .no .no .no, b⟩) := by
    have h1 : rgOk (2 : Int) = true := rgOk_small (by omega) (by omega)
    simp [h1, rgL_ni]
    rfl
  obtain ⟨out, st', e, he, hbg, hacc⟩ := compL_inv (vs := [9]) (e0 := cvX m d (cvBase p q) (.own (.lst [lsD' o0, lsD' o1])) .no .no .no .no) (tg := tmN 9) (tt := mYes) (te := mD (mNew cvRow))
    (fun i acc (st : Sta BagT) => st.env = cvX m d (cvBase p q) (.own (.lst [lsD' o0, lsD' o1])) .no .no .no .no ∧ st.bag = { b with sto := ([ovN m d p o0, ovN m d q o1].take i).map rwS } ∧ acc = (List.range i).map D.loc) (ni [0, 1]) 0 [] ⟨cvX m d (cvBase p q) (.own (.lst [lsD' o0, lsD' o1])) .no .no .no .no, b⟩ ⟨rfl, (bag_sto hb.s).symm, rfl⟩ (fun i x acc st hd' ⟨he, hbg, hacc⟩ => by
      obtain ⟨env, bag⟩ := st
      simp only at he hbg
      subst he hbg hacc
      rw [ni_get] at hd'
      have key : ∀ (s : Nat) (w : List Nat) (ow : List (List Nat)), s = i → Pm m w → ow.length = m → (∀ l ∈ ow, Pm d l) → [D.lst (ni p), .lst (ni q)][s]? = some (.lst (ni w)) → [lsD' o0, lsD' o1][s]? = some (lsD' ow) → [ovN m d p o0, ovN m d q o1][i]? = some (ovN m d w ow) → x = .int (s : Int) → _ := fun s w ow hsi hw hol how hB hO hR hx => by
        have cr := cv_row hm hm2 hd hd2 hw hol how hB hO ({ b with sto := ([ovN m d p o0, ovN m d q o1].take (0 + i)).map rwS })
        have hil : i < 2 := by
          have := (List.getElem?_eq_some_iff.mp hR).1
          simpa using this
        have et : ([ovN m d p o0, ovN m d q o1].take (0 + i + 1)).map rwS = ([ovN m d p o0, ovN m d q o1].take (0 + i)).map rwS ++ [rwS (ovN m d w ow)] := by
          rw [List.take_add_one, Nat.zero_add, hR, List.map_append]
          rfl
        have hlen : (([ovN m d p o0, ovN m d q o1].take (0 + i)).map rwS).length = i := by
          simp
          omega
        exact (show ∃ s1 c s2, tmN 9 x (⟨wipeE (cvX m d (cvBase p q) (.own (.lst [lsD' o0, lsD' o1])) .no .no .no .no) [9], { b with sto := ([ovN m d p o0, ovN m d q o1].take (0 + i)).map rwS }⟩ : Sta BagT) = some s1 ∧ mYes s1 = some (c, s2) ∧
          (c = true → ∃ x s3, mD (mNew cvRow) s2 = some (x, s3) ∧ ((List.range (0 + i)).map D.loc).length < line ∧ backE (cvX m d (cvBase p q) (.own (.lst [lsD' o0, lsD' o1])) .no .no .no .no) s3.env [9] = cvX m d (cvBase p q) (.own (.lst [lsD' o0, lsD' o1])) .no .no .no .no ∧ s3.bag = { b with sto := ([ovN m d p o0, ovN m d q o1].take (0 + i + 1)).map rwS } ∧ (List.range (0 + i)).map D.loc ++ [x] = (List.range (0 + i + 1)).map D.loc) ∧ (c = false → False) from by
          refine ⟨⟨[.val .res, .val (cvBase p q), .val (.int (d : Int)), .val (.int (m : Int)), .own (.lst [lsD' o0, lsD' o1]), .no, .no, .no, .no, .val (.int (s : Int)), .no], { b with sto := ([ovN m d p o0, ovN m d q o1].take (0 + i)).map rwS }⟩, true, ⟨[.val .res, .val (cvBase p q), .val (.int (d : Int)), .val (.int (m : Int)), .own (.lst [lsD' o0, lsD' o1]), .no, .no, .no, .no, .val (.int (s : Int)), .no], { b with sto := ([ovN m d p o0, ovN m d q o1].take (0 + i)).map rwS }⟩, by rw [hx]; rfl, rfl, fun _ => ⟨.loc (0 + i), ⟨[.val .res, .val (cvBase p q), .val (.int (d : Int)), .val (.int (m : Int)), .own (.lst [lsD' o0, lsD' o1]), .no, .no, .no, .no, .val (.int (s : Int)), .no], { b with sto := ([ovN m d p o0, ovN m d q o1].take (0 + i + 1)).map rwS }⟩, ?_, by unfold line; simp; omega, rfl, rfl, by rw [List.range_succ, List.map_append]; rfl⟩, fun z => by cases z⟩
          rw [mD_ap, mNew, mBind_ap]
          unfold cvBase
          rw [cr]
          simp only [Option.bind_some]
          rw [et]
          show some (D.loc (([ovN m d p o0, ovN m d q o1].take (0 + i)).map rwS).length, _) = _
          rw [hlen, Nat.zero_add]
          rfl)
      have fin : ∃ s1 c s2, tmN 9 x (⟨wipeE (cvX m d (cvBase p q) (.own (.lst [lsD' o0, lsD' o1])) .no .no .no .no) [9], { b with sto := ([ovN m d p o0, ovN m d q o1].take (0 + i)).map rwS }⟩ : Sta BagT) = some s1 ∧ mYes s1 = some (c, s2) ∧
          (c = true → ∃ x s3, mD (mNew cvRow) s2 = some (x, s3) ∧ ((List.range (0 + i)).map D.loc).length < line ∧ backE (cvX m d (cvBase p q) (.own (.lst [lsD' o0, lsD' o1])) .no .no .no .no) s3.env [9] = cvX m d (cvBase p q) (.own (.lst [lsD' o0, lsD' o1])) .no .no .no .no ∧ s3.bag = { b with sto := ([ovN m d p o0, ovN m d q o1].take (0 + i + 1)).map rwS } ∧ (List.range (0 + i)).map D.loc ++ [x] = (List.range (0 + i + 1)).map D.loc) ∧ (c = false → False) := by
        match i, hd' with
        | 0, hd' =>
          cases hd'
          exact key 0 p o0 rfl hp hl0 h0 rfl rfl rfl rfl
        | 1, hd' =>
          cases hd'
          exact key 1 q o1 rfl hq hl1 h1 rfl rfl rfl rfl
      obtain ⟨s1, c, s2, f1, f2, f3, f4⟩ := fin
      exact ⟨s1, c, s2, f1, f2, fun hc => by
        obtain ⟨y, s3, g1, g2, g3, g4, g5⟩ := f3 hc
        exact ⟨y, s3, g1, g2, g3, g4, g5⟩, fun hc => (f4 hc).elim⟩)
  obtain ⟨env, bag⟩ := st'
  simp only at he hbg
  subst he hbg
  rw [mSet_ap, mComp_ap, e0, Option.bind_some]
  simp only
  rw [if_pos (by rfl), e]
  subst hacc
  rfl
theorem tmLoc_eq {e : List Sl} {b : BagT} {mo a : Mn BagT R} {n j : Nat} {i : Int} {ds : List D} {x : D} (h1 : mo ⟨e, b⟩ = some (.val (.loc n), ⟨e, b⟩)) (h2 : a ⟨e, b⟩ = some (.val (.int i), ⟨e, b⟩)) (h3 : b.sto[n]? = some (.dat (.lst ds))) (h4 : ixN ds.length i = some j) :
    tmLoc mo a x (⟨e, b⟩ : Sta BagT) = some ⟨e, { b with sto := b.sto.set n (.dat (.lst (ds.set j x))) }⟩ := by
  unfold tmLoc
  rw [h1]
  simp only
  rw [h2]
  simp only [stoS_b, h3, h4, putS_b]
def cvBg (b : BagT) (R A : List Nat) : BagT := { b with sto := [rwS R, rwS A] }
theorem cv_ap (hm2 : m ≤ 100) (hd2 : d ≤ 100) (h0 : 0 < m * d) (hn : m * d ≤ 1000) (B : D) (x4 z6 z7 z8 : Sl) (hz : ∀ d, z8 ≠ .own d) {R A : List Nat} (hR : Pm (m * d) R) (hA : Pm (m * d) A) : cvAp (⟨cvX m d B x4 (.own (.lst [.loc 0, .loc 1])) z6 z7 z8, cvBg b R A⟩ : Sta BagT) = some (.new (.lst (ni ((List.range (m * d)).filter fun k => !decide (k ∈ reachN R A)))), ⟨cvX m d B x4 (.own (.lst [.loc 0, .loc 1])) z6 z7 z8, cvBg b R A⟩) := by
  have c1 : cMul (m : Int) (d : Int) = true := cMul_l (by omega)
  have c2 : rgOk ((m : Int) * (d : Int)) = true := by
    rw [show ((m : Int) * (d : Int)) = ((m * d : Nat) : Int) by simp]
    exact rgOk_nat (by omega)
  have c3 : ((m : Int) * (d : Int)).toNat = m * d := by
    rw [show ((m : Int) * (d : Int)) = ((m * d : Nat) : Int) by simp, Int.toNat_natCast]
  have e0 : mRng fR1 (mCons (mOp2 fMul (mV 3) (mV 2)) (mNil)) (⟨cvX m d B x4 (.own (.lst [.loc 0, .loc 1])) z6 z7 z8, cvBg b R A⟩ : Sta BagT) = some (ni (List.range (m * d)), ⟨cvX m d B x4 (.own (.lst [.loc 0, .loc 1])) z6 z7 z8, cvBg b R A⟩) := by
    simp [cvX, c1, c2, c3, rgL_ni]
  have g := law_reached_eq (X := .val (.loc 0)) (Y := .val (.loc 1)) (b := cvBg b R A) (r := R) (a := A) (.inr ⟨0, rfl, rfl⟩) (.inr ⟨1, rfl, rfl⟩) hR.lt hA.lt h0 hn
  have no : noOwn (cvX m d B x4 (.own (.lst [.loc 0, .loc 1])) z6 z7 z8) [8] = true := by
    cases z8 with
    | own d => exact absurd rfl (hz d)
    | _ => rfl
  have k := mComp_pure (vs := [8]) (tg := tmN 8) (tt := mBl (mOp2 (fInB true) (mV 8) (mCall F_law_reached (mCons (mOp2 fIx (mV 5) (mC (.int 0))) (mCons (mOp2 fIx (mV 5) (mC (.int 1))) (mNil)))))) (te := mD (mV 8)) (pN fun k => !decide (k ∈ reachN R A)) id e0 no (by rw [ni_length, List.length_range]; unfold line; omega) (fun x hx => by
    obtain ⟨k, hk, rfl⟩ := mem_ni hx
    refine ⟨⟨cvX m d B x4 (.own (.lst [.loc 0, .loc 1])) z6 z7 (.val (.int (k : Int))), cvBg b R A⟩, ⟨cvX m d B x4 (.own (.lst [.loc 0, .loc 1])) z6 z7 (.val (.int (k : Int))), cvBg b R A⟩, rfl, ?_, fun _ => ⟨⟨cvX m d B x4 (.own (.lst [.loc 0, .loc 1])) z6 z7 (.val (.int (k : Int))), cvBg b R A⟩, rfl, rfl, rfl⟩, fun _ => ⟨rfl, rfl⟩⟩
    have d1 := dIn_ni k (reachN R A)
    generalize reachN R A = gg at *
    simp [cvX, g, pN, d1])
  unfold cvAp
  rw [k, filter_ni, map_id_ni]
theorem cv_ov (hm : 0 < m) (B : D) (x4 x5 z6 z8 : Sl) {F : List Nat} (hF : F.length ≤ 1000) (b : BagT) : cvOv (⟨cvX m d B x4 x5 z6 (.own (.lst (ni F))) z8, b⟩ : Sta BagT) = some (.new (.lst (ni (F.filter fun k => decide (k % m = 0)))), ⟨cvX m d B x4 x5 z6 (.val (.lst (ni F))) z8, b⟩) := by
  have e0 : mIt (mV 7) (⟨cvX m d B x4 x5 z6 (.own (.lst (ni F))) z8, b⟩ : Sta BagT) = some (ni F, ⟨cvX m d B x4 x5 z6 (.val (.lst (ni F))) z8, b⟩) := rfl
  have k := mComp_pure (vs := [10]) (tg := tmN 10) (tt := mBl (mOp2 fEq (mOp2 fMod (mV 10) (mV 3)) (mC (.int 0)))) (te := mD (mV 10)) (pN fun k => decide (k % m = 0)) id e0 rfl (by rw [ni_length]; unfold line; omega) (fun x hx => by
    obtain ⟨k, hk, rfl⟩ := mem_ni hx
    refine ⟨⟨[.val .res, .val B, .val (.int (d : Int)), .val (.int (m : Int)), x4, x5, z6, .val (.lst (ni F)), z8, .no, .val (.int (k : Int))], b⟩, ⟨[.val .res, .val B, .val (.int (d : Int)), .val (.int (m : Int)), x4, x5, z6, .val (.lst (ni F)), z8, .no, .val (.int (k : Int))], b⟩, rfl, ?_, fun _ => ⟨⟨[.val .res, .val B, .val (.int (d : Int)), .val (.int (m : Int)), x4, x5, z6, .val (.lst (ni F)), z8, .no, .val (.int (k : Int))], b⟩, rfl, rfl, rfl⟩, fun _ => ⟨rfl, rfl⟩⟩
    have cm : cMod (k : Int) (m : Int) = true := cMod_pos (by omega)
    have em : ((k : Int) % (m : Int)) = ((k % m : Nat) : Int) := by simp
    have e2 := eqN (k % m) 0
    simp only [mBl_ap, mOp2_ap, mV_ap, List.getElem?_cons_succ, List.getElem?_cons_zero, slR_val, Option.map_some, Option.bind_some, pk_val, fMod_i, if_pos cm, em, mC_ap, fEq_i, rBl_bl, pN, Int.toNat_natCast]
    rw [show ((0 : Int)) = ((0 : Nat) : Int) from rfl, e2])
  unfold cvOv
  rw [k, filter_ni, map_id_ni]
end
end W

set_option maxHeartbeats 1000000
/-! E13: a board over a board. -/
namespace W
open PySem L2 M
variable [Wrt]
section
variable {m d : Nat} {p q : List Nat} {b : BagT}
abbrev rws : Sl := .own (.lst [.loc 0, .loc 1])
theorem cv_put {n : Nat} (B : D) (x4 z6 z7 : Sl) {R A : List Nat} (hA : Pm n A) {k : Nat} (hk : k < n) (h0 : 0 < n) : cvPut (⟨cvX m d B x4 rws z6 z7 (.val (.int (k : Int))), cvBg b R A⟩ : Sta BagT) = some (.nx, ⟨cvX m d B x4 rws z6 z7 (.val (.int (k : Int))), cvBg b R ((A.set k (A.getD 0 0)).set 0 (A.getD k 0))⟩) := by
  have g1 := (hA.lt.get h0).1
  have g2 := (hA.lt.get hk).1
  have l2 : 2 ≤ line := by decide
  have e0 : mD (mTup (mCons (mD (mOp2 fIx (mLk (mOp2 fIx (mV 5) (mC (.int 1)))) (mC (.int 0)))) (mCons (mD (mOp2 fIx (mLk (mOp2 fIx (mV 5) (mC (.int 1)))) (mV 8))) (mNil)))) (⟨cvX m d B x4 rws z6 z7 (.val (.int (k : Int))), cvBg b R A⟩ : Sta BagT) = some (.tup [.int (A.getD 0 0 : Int), .int (A.getD k 0 : Int)], ⟨cvX m d B x4 rws z6 z7 (.val (.int (k : Int))), cvBg b R A⟩) := by
    generalize A.getD 0 0 = u at g1 ⊢
    generalize A.getD k 0 = v at g2 ⊢
    simp [cvX, cvBg, rwS, g1, g2, l2]
  have r1 : ∀ bb : BagT, mOp2 fIx (mV 5) (mC (.int 1)) (⟨cvX m d B x4 rws z6 z7 (.val (.int (k : Int))), bb⟩ : Sta BagT) = some (.val (.loc 1), ⟨cvX m d B x4 rws z6 z7 (.val (.int (k : Int))), bb⟩) := fun bb => by simp [cvX]
  have i1 : ixN (ni A).length (k : Int) = some k := ixN_nc (by rw [ni_length, hA.lt.1]; exact hk)
  have i2 : ixN (ni (A.set k (A.getD 0 0))).length 0 = some 0 := ixN_nc (k := 0) (by rw [ni_length, List.length_set, hA.lt.1]; exact h0)
  have t1 := tmLoc_eq (e := cvX m d B x4 rws z6 z7 (.val (.int (k : Int)))) (b := cvBg b R A) (mo := mOp2 fIx (mV 5) (mC (.int 1))) (a := mV 8) (n := 1) (i := (k : Int)) (ds := ni A) (x := .int (A.getD 0 0 : Int)) (r1 _) rfl rfl i1
  have t2 := tmLoc_eq (e := cvX m d B x4 rws z6 z7 (.val (.int (k : Int)))) (b := cvBg b R (A.set k (A.getD 0 0))) (mo := mOp2 fIx (mV 5) (mC (.int 1))) (a := mC (.int 0)) (n := 1) (i := 0) (ds := ni (A.set k (A.getD 0 0))) (x := .int (A.getD k 0 : Int)) (r1 _) rfl rfl i2
  rw [ni_set] at t1 t2
  have t1' : tmLoc (mOp2 fIx (mV 5) (mC (.int 1))) (mV 8) (.int (A.getD 0 0 : Int)) (⟨cvX m d B x4 rws z6 z7 (.val (.int (k : Int))), cvBg b R A⟩ : Sta BagT) = some ⟨cvX m d B x4 rws z6 z7 (.val (.int (k : Int))), cvBg b R (A.set k (A.getD 0 0))⟩ := t1
  have t2' : tmLoc (mOp2 fIx (mV 5) (mC (.int 1))) (mC (.int 0)) (.int (A.getD k 0 : Int)) (⟨cvX m d B x4 rws z6 z7 (.val (.int (k : Int))), cvBg b R (A.set k (A.getD 0 0))⟩ : Sta BagT) = some ⟨cvX m d B x4 rws z6 z7 (.val (.int (k : Int))), cvBg b R ((A.set k (A.getD 0 0)).set 0 (A.getD k 0))⟩ := t2
  have e9 : tmT (tmCons (tmLoc (mOp2 fIx (mV 5) (mC (.int 1))) (mV 8)) (tmCons (tmLoc (mOp2 fIx (mV 5) (mC (.int 1))) (mC (.int 0))) (tmNil))) 2 (.tup [.int (A.getD 0 0 : Int), .int (A.getD k 0 : Int)]) (⟨cvX m d B x4 rws z6 z7 (.val (.int (k : Int))), cvBg b R A⟩ : Sta BagT) = some ⟨cvX m d B x4 rws z6 z7 (.val (.int (k : Int))), cvBg b R ((A.set k (A.getD 0 0)).set 0 (A.getD k 0))⟩ := by
    show tmCons _ _ [_, _] _ = _
    simp only [tmCons, t1', t2', tmNil]
  unfold cvPut
  rw [mPut_ap, e0, Option.bind_some]
  show Option.map _ (tmT _ _ _ _) = _
  rw [e9]
  rfl
theorem cv_body (hm : 0 < m) (hm2 : m ≤ 100) (hd2 : d ≤ 100) (h0 : 0 < m * d) (hn : m * d ≤ 1000) (hp : Pm m p) (hq : Pm m q) (hc : Conn m p q) (B : D) (x4 z6 z7 z8 : Sl) (hz : ∀ d, z8 ≠ .own d) {R A : List Nat} (hR : Pm (m * d) R) (hA : Pm (m * d) A) (oR : Ovr m p R) (oA : Ovr m q A) :
    ∃ A' z7' z8', (∀ d, z8' ≠ .own d) ∧ Pm (m * d) A' ∧ Ovr m q A' ∧ cvB (⟨cvX m d B x4 rws z6 z7 z8, cvBg b R A⟩ : Sta BagT) = some (.nx, ⟨cvX m d B x4 rws z6 z7' z8', cvBg b R A'⟩) := by
  have ap := cv_ap (b := b) hm2 hd2 h0 hn B x4 z6 z7 z8 hz hR hA
  have s7 : mSet 7 cvAp (⟨cvX m d B x4 rws z6 z7 z8, cvBg b R A⟩ : Sta BagT) = some (.nx, ⟨cvX m d B x4 rws z6 (.own (.lst (ni ((List.range (m * d)).filter fun k => !decide (k ∈ reachN R A))))) z8, cvBg b R A⟩) := by
    rw [mSet_ap, ap]
    rfl
  have hlt : ∀ k ∈ (List.range (m * d)).filter fun k => !decide (k ∈ reachN R A), k < m * d := fun k hk => List.mem_range.mp (List.mem_filter.mp hk).1
  have hin : ∀ k, k < m * d → k ∉ groupN R A → k ∈ (List.range (m * d)).filter fun k => !decide (k ∈ reachN R A) := fun k hk hg => List.mem_filter.mpr ⟨List.mem_range.mpr hk, by simpa [reach_mem hR hA h0] using hg⟩
  have hag : ∀ k ∈ (List.range (m * d)).filter fun k => !decide (k ∈ reachN R A), k ∉ groupN R A := fun k hk => by simpa [reach_mem hR hA h0] using (List.mem_filter.mp hk).2
  have hFl : ((List.range (m * d)).filter fun k => !decide (k ∈ reachN R A)).length ≤ 1000 := by
    have := List.length_filter_le (fun k => !decide (k ∈ reachN R A)) (List.range (m * d))
    rw [List.length_range] at this
    omega
  generalize ((List.range (m * d)).filter fun k => !decide (k ∈ reachN R A)) = F at s7 hlt hin hag hFl
  unfold cvB
  rw [mSeq_ap, s7, Option.bind_some, M.thn_nx]
  cases F with
  | nil =>
    refine ⟨A, .own (.lst (ni [])), z8, hz, hA, oA, ?_⟩
    simp [cvX, fNe, ni, deqL, deq]
  | cons f0 Fs =>
    have ov := cv_ov (m := m) (d := d) hm B x4 rws z6 z8 hFl (cvBg b R A)
    have hne : ((f0 :: Fs).filter fun k => decide (k % m = 0)) ≠ [] := fun z => by
      have none : ∀ k ∈ f0 :: Fs, k % m ≠ 0 := fun k hk e => by
        have : k ∈ (f0 :: Fs).filter fun k => decide (k % m = 0) := List.mem_filter.mpr ⟨hk, decide_eq_true e⟩
        rw [z] at this
        cases this
      have all := apart_0 hm h0 hp hq hc hR hA oR oA fun k hk hkm => by
        apply Classical.byContradiction
        intro hg
        exact none k (hin k hk hg) hkm
      exact hag f0 List.mem_cons_self (all f0 (hlt f0 List.mem_cons_self))
    have hmem : ∀ k ∈ (f0 :: Fs).filter fun k => decide (k % m = 0), k ∈ f0 :: Fs ∧ k % m = 0 := fun k hk => ⟨(List.mem_filter.mp hk).1, of_decide_eq_true (List.mem_filter.mp hk).2⟩
    generalize ((f0 :: Fs).filter fun k => decide (k % m = 0)) = G at ov hne hmem
    cases G with
    | nil => exact absurd rfl hne
    | cons k0 G =>
      obtain ⟨hk1, hk2⟩ := hmem k0 List.mem_cons_self
      have hk := hlt k0 hk1
      refine ⟨(A.set k0 (A.getD 0 0)).set 0 (A.getD k0 0), .val (.lst (ni (f0 :: Fs))), .val (.int (k0 : Int)), fun d z => (by cases z), pm_swap hA hk h0, ovr_swap oA hm (by rw [hA.lt.1]; exact hk) (by rw [hA.lt.1]; exact h0) hk2, ?_⟩
      have e2 : fNe (.lst (ni (f0 :: Fs))) (.lst []) = some (.val (.bl true)) := by
        simp only [fNe, okq_lni, okq_lnil]
        rfl
      have hl0 : 0 ≤ line := Nat.zero_le _
      have tt : mBl (mOp2 fNe (mV 7) (mLst (mNil))) (⟨cvX m d B x4 rws z6 (.own (.lst (ni (f0 :: Fs)))) z8, cvBg b R A⟩ : Sta BagT) = some (true, ⟨cvX m d B x4 rws z6 (.own (.lst (ni (f0 :: Fs)))) z8, cvBg b R A⟩) := by
        simp [cvX, e2]
      have s8 : mSet 8 (mOp2 fIx cvOv (mC (.int 0))) (⟨cvX m d B x4 rws z6 (.own (.lst (ni (f0 :: Fs)))) z8, cvBg b R A⟩ : Sta BagT) = some (.nx, ⟨cvX m d B x4 rws z6 (.val (.lst (ni (f0 :: Fs)))) (.val (.int (k0 : Int))), cvBg b R A⟩) := by
        rw [mSet_ap, mOp2_ap, ov, Option.bind_some]
        simp only [mC_ap, Option.bind_some, pk_new, pk_val, fIx_l, atI_0]
        rfl
      rw [mIf_ap, tt, Option.bind_some]
      show mSeq (mSet 8 (mOp2 fIx cvOv (mC (.int 0)))) cvPut (⟨cvX m d B x4 rws z6 (.own (.lst (ni (f0 :: Fs)))) z8, cvBg b R A⟩ : Sta BagT) = _
      rw [mSeq_ap, s8, Option.bind_some, M.thn_nx, cv_put B x4 z6 _ hA hk h0]
theorem nlo_ni (s : List Nat) : nlo (.lst (ni s)) = true := by
  have h : ∀ s : List Nat, nloL (ni s) = true := fun s => by
    induction s with
    | nil => rfl
    | cons k s ih =>
      show (nlo (.int (k : Int)) && nloL (ni s)) = true
      rw [ih]
      rfl
  exact h s
theorem trimF_ap (f : Fn BagT) (args : List Sl) (b : BagT) (h : b.sto = []) : trimF f args b = (f args b).bind fun p => (fzR p.2.sto p.1).map fun r => (r, { p.2 with sto := [] }) := by
  unfold trimF
  rw [sto_b, h]
  simp only
  cases f args b with
  | none => rfl
  | some p =>
    obtain ⟨r, b'⟩ := p
    simp only [Option.bind_some, sto_b]
    cases fzR b'.sto r <;> rfl
theorem law_cover_eq (hm : 0 < m) (hm2 : m ≤ 100) (hd : 0 < d) (hd2 : d ≤ 100) (hn : m * d ≤ 1000) (hp : Pm m p) (hq : Pm m q) (hc : Conn m p q) (b : BagT) (hb : Bg b) : ∃ R A b', F_law_cover [.val .res, .val (cvBase p q), .val (.int (d : Int))] b = some (.val (.tup [.lst (ni R), .lst (ni A)]), b') ∧ Pm (m * d) R ∧ Pm (m * d) A ∧ Ovr m p R ∧ Ovr m q A ∧ Bg b' := by
  have h0 : 0 < m * d := Nat.mul_pos hm hd
  have c0 : mSet 3 (mBi fLen (mCons (mOp2 fIx (mV 1) (mC (.int 0))) (mNil))) (⟨[.val .res, .val (cvBase p q), .val (.int (d : Int)), .no, .no, .no, .no, .no, .no, .no, .no], b⟩ : Sta BagT) = some (.nx, ⟨cvX m d (cvBase p q) .no .no .no .no .no, b⟩) := by
    simp [cvBase, cvX, hp.lt.1]
  -- the orders
  have e0 : ∀ b : BagT, mRng fR1 (mCons (mC (.int 2)) (mNil)) (⟨cvX m d (cvBase p q) .no .no .no .no .no, b⟩ : Sta BagT) = some (ni [0, 1], ⟨cvX m d (cvBase p q) .no .no .no .no .no, b⟩) := fun b => by
    have h1 : rgOk (2 : Int) = true := rgOk_small (by omega) (by omega)
    simp [h1, rgL_ni]
    rfl
  obtain ⟨out, b1, eo, ho1, ho2, hb1⟩ := comp_draw (cvX m d (cvBase p q) .no .no .no .no .no) 9 (mRng fR1 (mCons (mC (.int 2)) (mNil))) (ni [0, 1]) (mD cvOrd) (fun x => ∃ o, x = lsD' o ∧ o.length = m ∧ ∀ l ∈ o, Pm d l) b hb (e0 b) rfl (by simp) (fun x hx b hb => by
    obtain ⟨s, _, rfl⟩ := mem_ni hx
    obtain ⟨o, b', e, h1, h2, h3⟩ := cv_ord hd hd2 hm2 (cvBase p q) (s : Int) b hb
    refine ⟨lsD' o, b', ?_, ⟨o, rfl, h1, h2⟩, h3⟩
    rw [mD_ap]
    show (cvOrd (⟨[.val .res, .val (cvBase p q), .val (.int (d : Int)), .val (.int (m : Int)), .no, .no, .no, .no, .no, .val (.int (s : Int)), .no], b⟩ : Sta BagT)).bind _ = _
    rw [e]
    rfl)
  obtain ⟨y0, y1, rfl⟩ : ∃ y0 y1, out = [y0, y1] := by
    match out, ho1 with
    | [y0, y1], _ => exact ⟨y0, y1, rfl⟩
  obtain ⟨o0, rfl, hl0, hp0⟩ := ho2 y0 (by simp)
  obtain ⟨o1, rfl, hl1, hp1⟩ := ho2 y1 (by simp)
  have c1 : mSet 4 (mComp [9] (mRng fR1 (mCons (mC (.int 2)) (mNil))) (tmN 9) (mYes) (mD cvOrd)) (⟨cvX m d (cvBase p q) .no .no .no .no .no, b⟩ : Sta BagT) = some (.nx, ⟨cvX m d (cvBase p q) (.own (.lst [lsD' o0, lsD' o1])) .no .no .no .no, b1⟩) := by
    rw [mSet_ap, eo]
    rfl
  have c2 := cv_rows hm hm2 hd hd2 hp hq hl0 hp0 hl1 hp1 hb1
  have hR := ov_pm hm hp hl0 hp0
  have hA := ov_pm hm hq hl1 hp1
  have oR := ov_ovr (d := d) (o := o0) hm hp
  have oA := ov_ovr (d := d) (o := o1) hm hq
  generalize ovN m d p o0 = R at c2 hR oR
  generalize ovN m d q o1 = A at c2 hA oA
  have k1 : cMul (m : Int) (d : Int) = true := cMul_l (by omega)
  have k2 : rgOk ((m : Int) * (d : Int)) = true := by
    rw [show ((m : Int) * (d : Int)) = ((m * d : Nat) : Int) by simp]
    exact rgOk_nat (by omega)
  have k3 : ((m : Int) * (d : Int)).toNat = m * d := by
    rw [show ((m : Int) * (d : Int)) = ((m * d : Nat) : Int) by simp, Int.toNat_natCast]
  have e3 : mRng fR1 (mCons (mOp2 fMul (mV 3) (mV 2)) (mNil)) (⟨cvX m d (cvBase p q) (.own (.lst [lsD' o0, lsD' o1])) rws .no .no .no, cvBg b1 R A⟩ : Sta BagT) = some (ni (List.range (m * d)), ⟨cvX m d (cvBase p q) (.own (.lst [lsD' o0, lsD' o1])) rws .no .no .no, cvBg b1 R A⟩) := by
    simp [cvX, k1, k2, k3, rgL_ni]
  obtain ⟨st', e4, A', z6, z7, z8, hz, hA', oA', hst⟩ := forL_inv (tg := tmN 6) (body := cvB) (fun _ (st : Sta BagT) => ∃ A z6 z7 z8, (∀ d, z8 ≠ .own d) ∧ Pm (m * d) A ∧ Ovr m q A ∧ st = ⟨cvX m d (cvBase p q) (.own (.lst [lsD' o0, lsD' o1])) rws z6 z7 z8, cvBg b1 R A⟩) (ni (List.range (m * d))) 0 ⟨cvX m d (cvBase p q) (.own (.lst [lsD' o0, lsD' o1])) rws .no .no .no, cvBg b1 R A⟩ ⟨A, .no, .no, .no, (fun _ z => by cases z), hA, oA, rfl⟩ (fun i x st _ ⟨A, z6, z7, z8, hz, hA, oA, hst⟩ => by
    subst hst
    obtain ⟨A', z7', z8', hz', hA', oA', e⟩ := cv_body (b := b1) hm hm2 hd2 h0 hn hp hq hc (cvBase p q) (.own (.lst [lsD' o0, lsD' o1])) (.val x) z7 z8 hz hR hA oR oA
    exact ⟨⟨cvX m d (cvBase p q) (.own (.lst [lsD' o0, lsD' o1])) rws (.val x) z7 z8, cvBg b1 R A⟩, .nx, _, rfl, e, .inl rfl, A', _, z7', z8', hz', hA', oA', rfl⟩)
  have l2 : 2 ≤ line := by decide
  refine ⟨R, A', b1, ?_, hR, hA', oR, oA', hb1⟩
  rw [law_cover_run, trimF_ap _ _ _ hb.s, runF_eq, if_pos (by rfl)]
  have run : outF (mSeq (mSet 3 (mBi fLen (mCons (mOp2 fIx (mV 1) (mC (.int 0))) (mNil))))
    (mSeq (mSet 4 (mComp [9] (mRng fR1 (mCons (mC (.int 2)) (mNil))) (tmN 9) (mYes) (mD cvOrd)))
    (mSeq (mSet 5 (mComp [9] (mRng fR1 (mCons (mC (.int 2)) (mNil))) (tmN 9) (mYes) (mD (mNew cvRow))))
    (mSeq (mFor (mRng fR1 (mCons (mOp2 fMul (mV 3) (mV 2)) (mNil))) (tmN 6) cvB)
    (mRet (mTup (mCons (mD (mOp2 fIx (mV 5) (mC (.int 0)))) (mCons (mD (mOp2 fIx (mV 5) (mC (.int 1)))) (mNil)))))))) (⟨[.val .res, .val (cvBase p q), .val (.int (d : Int)), .no, .no, .no, .no, .no, .no, .no, .no], b⟩ : Sta BagT)) = some (.val (.tup [.loc 0, .loc 1]), cvBg b1 R A') := by
    rw [mSeq_ap, c0, Option.bind_some, M.thn_nx, mSeq_ap, c1, Option.bind_some, M.thn_nx, mSeq_ap, c2, Option.bind_some, M.thn_nx, mSeq_ap, mFor_ap]
    show outF ((((mRng _ _ (⟨_, cvBg b1 R A⟩ : Sta BagT)).bind _)).bind _) = _
    rw [e3, Option.bind_some]
    simp only
    rw [e4, hst, Option.bind_some, M.thn_nx]
    simp [cvX, l2]
  show Option.bind (outF (mSeq _ _ (⟨[.val .res, .val (cvBase p q), .val (.int (d : Int)), .no, .no, .no, .no, .no, .no, .no, .no], b⟩ : Sta BagT))) _ = _
  rw [run, Option.bind_some]
  have f : fzR (cvBg b1 R A').sto (.val (.tup [.loc 0, .loc 1])) = some (.val (.tup [.lst (ni R), .lst (ni A')])) := by
    simp [fzR, fz, fzL, cvBg, rwS, nlo_ni]
  rw [f]
  show some (_, ({ cvBg b1 R A' with sto := [] } : BagT)) = _
  congr 2
  have := hb1.s
  obtain ⟨_, _, _, _, _⟩ := b1
  simp only at this
  subst this
  rfl
end
end W

set_option maxHeartbeats 1000000
/-! E14: labelled boards over boards. -/
namespace W
open PySem L2 M
variable [Wrt]
theorem law_pick_eq (s : List Nat) (h0 : 0 < s.length) (hl : s.length ≤ 1000) (b : BagT) (hb : Bg b) : ∃ x b', F_law_pick [.val .res, .lock (.lst (ni s))] b = some (.val (.int ((x : Nat) : Int)), b') ∧ x ∈ s ∧ Bg b' := by
  obtain ⟨j, b', ed, hj, hb'⟩ := drw b hb s.length h0 (by omega)
  have g := get_of hj
  refine ⟨s.getD j 0, b', ?_, List.mem_of_getElem? g, hb'⟩
  generalize s.getD j 0 = x at g ⊢
  simp [F_law_pick, ed, g]
def cwE (V1 V2 : Sl) (n : Nat) (x4 x5 z6 z7 x8 x9 x10 x11 x12 x13 x14 x15 x16 : Sl) : List Sl := [.val .res, V1, V2, .val (.int (n : Int)), x4, x5, z6, z7, x8, x9, x10, x11, x12, x13, x14, x15, x16, .no, .no]
section
variable {n dg : Nat} {r a R A : List Nat} {b : BagT}
abbrev rL (r : List Nat) : Sl := .val (.lst (ni r))
theorem cw_c3 (V1 z6 z7 : Sl) {b' : BagT} (hc : F_law_cover [.val .res, .val (cvBase r a), .val (.int (dg : Int))] b = some (.val (.tup [.lst (ni R), .lst (ni A)]), b')) :
    cwa3 (⟨cwE V1 (.lock (.lst (ni [dg]))) n (.own (.lst (ni r))) (.own (.lst (ni a))) z6 z7 .no .no .no .no .no .no .no .no .no, b⟩ : Sta BagT) = some (.nx, ⟨cwE V1 (.lock (.lst (ni [dg]))) n (rL r) (rL a) z6 z7 (.own (.lst [.tup [.lst (ni R), .lst (ni A)]])) .no .no .no .no .no .no .no .no, b'⟩) := by
  have l2 : 2 ≤ line := by decide
  have te : mD (mCall F_law_cover (mCons (mV 0) (mCons (mTup (mCons (mD (mV 4)) (mCons (mD (mV 5)) (mNil)))) (mCons (mV 18) (mNil))))) (⟨[.val .res, V1, .lock (.lst (ni [dg])), .val (.int (n : Int)), .own (.lst (ni r)), .own (.lst (ni a)), z6, z7, .no, .no, .no, .no, .no, .no, .no, .no, .no, .no, .val (.int (dg : Int))], b⟩ : Sta BagT) = some (.tup [.lst (ni R), .lst (ni A)], ⟨[.val .res, V1, .lock (.lst (ni [dg])), .val (.int (n : Int)), rL r, rL a, z6, z7, .no, .no, .no, .no, .no, .no, .no, .no, .no, .no, .val (.int (dg : Int))], b'⟩) := by
    unfold cvBase at hc
    simp [l2, hc]
  have e0 : mIt (mV 2) (⟨cwE V1 (.lock (.lst (ni [dg]))) n (.own (.lst (ni r))) (.own (.lst (ni a))) z6 z7 .no .no .no .no .no .no .no .no .no, b⟩ : Sta BagT) = some (ni [dg], ⟨cwE V1 (.lock (.lst (ni [dg]))) n (.own (.lst (ni r))) (.own (.lst (ni a))) z6 z7 .no .no .no .no .no .no .no .no .no, b⟩) := rfl
  have cl : compL [18] (cwE V1 (.lock (.lst (ni [dg]))) n (.own (.lst (ni r))) (.own (.lst (ni a))) z6 z7 .no .no .no .no .no .no .no .no .no) (tmN 18) (mYes) (mD (mCall F_law_cover (mCons (mV 0) (mCons (mTup (mCons (mD (mV 4)) (mCons (mD (mV 5)) (mNil)))) (mCons (mV 18) (mNil)))))) (ni [dg]) [] (⟨cwE V1 (.lock (.lst (ni [dg]))) n (.own (.lst (ni r))) (.own (.lst (ni a))) z6 z7 .no .no .no .no .no .no .no .no .no, b⟩ : Sta BagT) = some ([.tup [.lst (ni R), .lst (ni A)]], ⟨cwE V1 (.lock (.lst (ni [dg]))) n (rL r) (rL a) z6 z7 .no .no .no .no .no .no .no .no .no, b'⟩) := by
    have h1 : ([] : List D).length < line := by decide
    simp only [ni, List.map_cons, List.map_nil, compL]
    have s1 : tmN 18 (.int (dg : Int)) (⟨wipeE (cwE V1 (.lock (.lst (ni [dg]))) n (.own (.lst (ni r))) (.own (.lst (ni a))) z6 z7 .no .no .no .no .no .no .no .no .no) [18], b⟩ : Sta BagT) = some (⟨[.val .res, V1, .lock (.lst (ni [dg])), .val (.int (n : Int)), .own (.lst (ni r)), .own (.lst (ni a)), z6, z7, .no, .no, .no, .no, .no, .no, .no, .no, .no, .no, .val (.int (dg : Int))], b⟩ : Sta BagT) := rfl
    have s1' := s1
    simp only [ni, List.map_cons, List.map_nil] at s1' te
    rw [s1']
    simp only [mYes_ap]
    rw [te]
    simp only
    rw [if_pos h1]
    rfl
  unfold cwa3
  rw [mSet_ap, mComp_ap, e0, Option.bind_some]
  simp only
  rw [if_pos (by rfl), cl]
  rfl
theorem cw_c5 (hn : 0 < n) (V1 V2 z6 z7 : Sl) (hR : Pm (n * dg) R) (hA : Pm (n * dg) A) (hN : n * dg ≤ 1000) {fl : List Nat} (hfl : fl.length ≤ 1000) : cwa5 (⟨cwE V1 V2 n (rL r) (rL a) z6 z7 (.own (.lst [.tup [.lst (ni R), .lst (ni A)]])) (.own (.lst (ni fl))) .no .no .no .no .no .no .no, b⟩ : Sta BagT) = some (.nx, ⟨cwE V1 V2 n (rL r) (rL a) z6 z7 (.val (.lst [.tup [.lst (ni R), .lst (ni A)]])) (.own (.lst (ni (fl ++ (endsN R A).map (· % n))))) (.val (.tup [.lst (ni R), .lst (ni A)])) .no .no .no .no .no .no, b⟩) := by
  have e0 : mIt (mV 8) (⟨cwE V1 V2 n (rL r) (rL a) z6 z7 (.own (.lst [.tup [.lst (ni R), .lst (ni A)]])) (.own (.lst (ni fl))) .no .no .no .no .no .no .no, b⟩ : Sta BagT) = some ([.tup [.lst (ni R), .lst (ni A)]], ⟨cwE V1 V2 n (rL r) (rL a) z6 z7 (.val (.lst [.tup [.lst (ni R), .lst (ni A)]])) (.own (.lst (ni fl))) .no .no .no .no .no .no .no, b⟩) := rfl
  have ee := law_ends_eq (x := rL R) (y := rL A) (.inr (.inr rfl)) (.inr (.inr rfl)) hR.lt hA.lt hN b
  have hel : (endsN R A).length ≤ 1000 := by
    unfold endsN
    have := List.length_filter_le (fun k => !decide (turnOf R A k = k)) (List.range R.length)
    rw [List.length_range] at this
    have := hR.lt.1
    omega
  generalize endsN R A = en at *
  have c0 : mIt (mCall F_law_ends (mCons (mOp2 fIx (mV 10) (mC (.int 0))) (mCons (mOp2 fIx (mV 10) (mC (.int 1))) (mNil)))) (⟨cwE V1 V2 n (rL r) (rL a) z6 z7 (.val (.lst [.tup [.lst (ni R), .lst (ni A)]])) (.own (.lst (ni fl))) (.val (.tup [.lst (ni R), .lst (ni A)])) .no .no .no .no .no .no, b⟩ : Sta BagT) = some (ni en, ⟨cwE V1 V2 n (rL r) (rL a) z6 z7 (.val (.lst [.tup [.lst (ni R), .lst (ni A)]])) (.own (.lst (ni fl))) (.val (.tup [.lst (ni R), .lst (ni A)])) .no .no .no .no .no .no, b⟩) := by
    simp [cwE, ee]
  have k := mComp_pure (vs := [17]) (tg := tmN 17) (tt := mYes) (te := mD (mOp2 fMod (mV 17) (mV 3))) (fun _ => true) (fun x => match x with
      | .int i => .int ((i.toNat % n : Nat) : Int)
      | x => x) c0 rfl (by rw [ni_length]; unfold line; omega) (fun x hx => by
    obtain ⟨k, hk, rfl⟩ := mem_ni hx
    refine ⟨⟨[.val .res, V1, V2, .val (.int (n : Int)), rL r, rL a, z6, z7, .val (.lst [.tup [.lst (ni R), .lst (ni A)]]), .own (.lst (ni fl)), .val (.tup [.lst (ni R), .lst (ni A)]), .no, .no, .no, .no, .no, .no, .val (.int (k : Int)), .no], b⟩, ⟨[.val .res, V1, V2, .val (.int (n : Int)), rL r, rL a, z6, z7, .val (.lst [.tup [.lst (ni R), .lst (ni A)]]), .own (.lst (ni fl)), .val (.tup [.lst (ni R), .lst (ni A)]), .no, .no, .no, .no, .no, .no, .val (.int (k : Int)), .no], b⟩, rfl, rfl, fun _ => ⟨⟨[.val .res, V1, V2, .val (.int (n : Int)), rL r, rL a, z6, z7, .val (.lst [.tup [.lst (ni R), .lst (ni A)]]), .own (.lst (ni fl)), .val (.tup [.lst (ni R), .lst (ni A)]), .no, .no, .no, .no, .no, .no, .val (.int (k : Int)), .no], b⟩, ?_, rfl, rfl⟩, fun h => by cases h⟩
    have cm : cMod (k : Int) (n : Int) = true := cMod_pos (by omega)
    simp [cm])
  have e2 : ((ni en).filter fun _ => true).map (fun x => match x with
      | .int i => .int ((i.toNat % n : Nat) : Int)
      | x => x) = ni (en.map (· % n)) := by
    rw [List.filter_eq_self.mpr (fun _ _ => rfl)]
    unfold ni
    rw [List.map_map, List.map_map]
    rfl
  rw [e2] at k
  have hl : fl.length + en.length ≤ line := by unfold line; omega
  unfold cwa5
  rw [mFor_ap, e0, Option.bind_some]
  simp only
  rw [forL_cons]
  have s1 : tmN 10 (.tup [.lst (ni R), .lst (ni A)]) (⟨cwE V1 V2 n (rL r) (rL a) z6 z7 (.val (.lst [.tup [.lst (ni R), .lst (ni A)]])) (.own (.lst (ni fl))) .no .no .no .no .no .no .no, b⟩ : Sta BagT) = some ⟨cwE V1 V2 n (rL r) (rL a) z6 z7 (.val (.lst [.tup [.lst (ni R), .lst (ni A)]])) (.own (.lst (ni fl))) (.val (.tup [.lst (ni R), .lst (ni A)])) .no .no .no .no .no .no, b⟩ := rfl
  have v9 : mV 9 (⟨cwE V1 V2 n (rL r) (rL a) z6 z7 (.val (.lst [.tup [.lst (ni R), .lst (ni A)]])) (.own (.lst (ni fl))) (.val (.tup [.lst (ni R), .lst (ni A)])) .no .no .no .no .no .no, b⟩ : Sta BagT) = some (.at 9, ⟨cwE V1 V2 n (rL r) (rL a) z6 z7 (.val (.lst [.tup [.lst (ni R), .lst (ni A)]])) (.own (.lst (ni fl))) (.val (.tup [.lst (ni R), .lst (ni A)])) .no .no .no .no .no .no, b⟩) := rfl
  rw [s1, Option.bind_some, mSet_ap, mOp2_ap, v9, Option.bind_some]
  simp only
  rw [k, Option.bind_some]
  have p9 : pk (.at 9) (⟨cwE V1 V2 n (rL r) (rL a) z6 z7 (.val (.lst [.tup [.lst (ni R), .lst (ni A)]])) (.own (.lst (ni fl))) (.val (.tup [.lst (ni R), .lst (ni A)])) .no .no .no .no .no .no, b⟩ : Sta BagT) = some (.lst (ni fl)) := rfl
  simp only [p9, Option.bind_some, pk_new, fAdd_ll4, ni_length, List.length_map, if_pos hl, ni_append]
  rfl
theorem cw_c6 (V1 V2 z6 z7 x8 x10 : Sl) (hr : Lt n r) (ha : Lt n a) (hn : n ≤ 1000) {fl : List Nat} (hb : Bg b) : ∃ size b', 0 < size ∧ size ≤ 1000 ∧ Bg b' ∧ cwa6 (⟨cwE V1 V2 n (rL r) (rL a) z6 z7 x8 (.own (.lst (ni fl))) x10 .no .no .no .no .no .no, b⟩ : Sta BagT) = some (.nx, ⟨cwE V1 V2 n (rL r) (rL a) z6 z7 x8 (.own (.lst (ni fl))) x10 (.val (bdD r a (bdE r a fl))) (.val (.int ((size : Nat) : Int))) .no .no .no .no, b'⟩) := by
  have bo := law_board_of_eq (x := rL r) (y := rL a) (z := .lock (.lst (ni fl))) (.inr (.inr rfl)) (.inr (.inr rfl)) (rowa_l fl) hr ha hn b
  obtain ⟨size, b', ep, hs, hb'⟩ := law_pick_eq [1, 2, 3, 100] (by decide) (by decide) b hb
  have l4 : 4 ≤ line := by decide
  have ep' : F_law_pick [.val .res, .lock (.lst [.int 1, .int 2, .int 3, .int 100])] b = some (.val (.int (size : Int)), b') := ep
  refine ⟨size, b', ?_, ?_, hb', ?_⟩
  · simp at hs; omega
  · simp at hs; omega
  · simp [cwa6, cwE, bo, ep', l4]
theorem cw_c7 (V1 V2 z6 z7 x8 x9 x10 x11 : Sl) (hn : n ≤ 1000) {size : Nat} (hs : 0 < size) (hs2 : size ≤ 1000) (hb : Bg b) : ∃ u v b', u.length = n ∧ v.length = n ∧ Bg b' ∧ cwa7 (⟨cwE V1 V2 n (rL r) (rL a) z6 z7 x8 x9 x10 x11 (.val (.int (size : Int))) .no .no .no .no, b⟩ : Sta BagT) = some (.nx, ⟨cwE V1 V2 n (rL r) (rL a) z6 z7 x8 x9 x10 x11 (.val (.int (size : Int))) (.own (.lst (ni u))) (.own (.lst (ni v))) .no .no, b'⟩) := by
  have e0 : ∀ b : BagT, mRng fR1 (mCons (mV 3) (mNil)) (⟨cwE V1 V2 n (rL r) (rL a) z6 z7 x8 x9 x10 x11 (.val (.int (size : Int))) .no .no .no .no, b⟩ : Sta BagT) = some (ni (List.range n), ⟨cwE V1 V2 n (rL r) (rL a) z6 z7 x8 x9 x10 x11 (.val (.int (size : Int))) .no .no .no .no, b⟩) := fun b => by
    simp [cwE, rgOk_nat (show n ≤ 1000000 by omega), rgL_ni]
  obtain ⟨u, b1, eu, hu, hb1⟩ := draws_eq (cwE V1 V2 n (rL r) (rL a) z6 z7 x8 x9 x10 x11 (.val (.int (size : Int))) .no .no .no .no) 17 12 (mRng fR1 (mCons (mV 3) (mNil))) (ni (List.range n)) size b hb (e0 b) rfl (by simpa using hn) (i0 := 0) rfl rfl hs hs2
  obtain ⟨v, b2, ev, hv, hb2⟩ := draws_eq (cwE V1 V2 n (rL r) (rL a) z6 z7 x8 x9 x10 x11 (.val (.int (size : Int))) .no .no .no .no) 17 12 (mRng fR1 (mCons (mV 3) (mNil))) (ni (List.range n)) size b1 hb1 (e0 b1) rfl (by simpa using hn) (i0 := 0) rfl rfl hs hs2
  refine ⟨u, v, b2, by simpa using hu, by simpa using hv, hb2, ?_⟩
  unfold cwa7
  rw [mPars_ap, mCons_ap, mH_ap, eu]
  simp only [Option.bind_some, mCons_ap, mH_ap, ev, mNil_ap]
  simp [cwE]
theorem cw_c8 (V1 V2 z6 z7 x8 x9 x10 x12 : Sl) (B : D) (u v : List Nat) : cwa8 (⟨cwE V1 V2 n (rL r) (rL a) z6 z7 x8 x9 x10 (.val B) x12 (.own (.lst (ni u))) (.own (.lst (ni v))) .no .no, b⟩ : Sta BagT) = some (.nx, ⟨cwE V1 V2 n (rL r) (rL a) z6 z7 x8 x9 x10 (.val B) x12 (.own (.lst (ni u))) (.own (.lst (ni v))) (.own (.lst [.tup [B, .tup (ni u), .tup (ni v)]])) .no, b⟩) := by
  have l3 : 3 ≤ line := by decide
  have l1 : 1 ≤ line := by decide
  simp [cwa8, cwE, l3, l1]
/-- labels above -/
def upN (N n : Nat) (u : List Nat) : List Nat := (List.range N).map fun k => u.getD (k % n) 0
def upE (N n : Nat) (e : List Nat) : List Nat := (List.range N).filter fun k => decide (k % n ∈ e)
theorem up_comp (hn : 0 < n) (xs : List Sl) (i : Nat) {N : Nat} (hN : N ≤ 1000) {u : List Nat} (hu : u.length = n) (h3 : xs[3]? = some (.val (.int (n : Int)))) (h12 : xs[12]? = some (.val (.int (N : Int)))) (hi : xs[i]? = some (.own (.lst (ni u)))) (h17 : xs[17]? = some .no) (n3 : 17 ≠ 3) (n12 : 17 ≠ 12) (ni' : 17 ≠ i) : mComp [17] (mRng fR1 (mCons (mV 12) (mNil))) (tmN 17) (mYes) (mD (mOp2 fIx (mV i) (mOp2 fMod (mV 17) (mV 3)))) (⟨xs, b⟩ : Sta BagT) = some (.new (.lst (ni (upN N n u))), ⟨xs, b⟩) := by
  have hl : 17 < xs.length := (List.getElem?_eq_some_iff.mp h17).1
  have c0 : mRng fR1 (mCons (mV 12) (mNil)) (⟨xs, b⟩ : Sta BagT) = some (ni (List.range N), ⟨xs, b⟩) := by
    simp [h12, rgOk_nat (show N ≤ 1000000 by omega), rgL_ni]
  have k := mComp_pure (vs := [17]) (tg := tmN 17) (tt := mYes) (te := mD (mOp2 fIx (mV i) (mOp2 fMod (mV 17) (mV 3)))) (fun _ => true) (fun x => match x with
      | .int j => .int (u.getD (j.toNat % n) 0 : Int)
      | x => x) c0 (by simp [noOwn, h17]) (by rw [ni_length, List.length_range]; unfold line; omega) (fun x hx => by
    obtain ⟨k, hk, rfl⟩ := mem_ni hx
    have g := get_of (s := u) (k := k % n) (by rw [hu]; exact Nat.mod_lt _ hn)
    refine ⟨⟨xs.set 17 (.val (.int (k : Int))), b⟩, ⟨xs.set 17 (.val (.int (k : Int))), b⟩, ?_, rfl, fun _ => ⟨⟨xs.set 17 (.val (.int (k : Int))), b⟩, ?_, rfl, back_no h17 _⟩, fun h => by cases h⟩
    · show some (⟨(xs.set 17 .no).set 17 _, b⟩ : Sta BagT) = _
      rw [set_no h17]
    · have cm : cMod (k : Int) (n : Int) = true := cMod_pos (by omega)
      have em : ((k : Int) % (n : Int)) = ((k % n : Nat) : Int) := by simp
      show _ = some (D.int (u.getD (k % n) 0 : Int), _)
      generalize u.getD (k % n) 0 = y at g ⊢
      simp only [mD_ap, mOp2_ap, mV_ap, List.getElem?_set_ne ni', List.getElem?_set_ne n3, List.getElem?_set_self hl, hi, h3, slR_own, slR_val, Option.map_some, Option.bind_some, pk_val, fMod_i, if_pos cm, em, pk_at, slD_own, fIx_l, atI_nc, ni_get, g, toD_val])
  rw [k, List.filter_eq_self.mpr (fun _ _ => rfl)]
  have e : (ni (List.range N)).map (fun x => match x with
      | .int j => .int (u.getD (j.toNat % n) 0 : Int)
      | x => x) = ni (upN N n u) := by
    unfold ni upN
    rw [List.map_map, List.map_map]
    rfl
  rw [e]
theorem cw_c9 (hn : 0 < n) (V1 V2 z6 z7 x9 x10 x12 : Sl) {N : Nat} (hR : Pm N R) (hA : Pm N A) (hN : N ≤ 1000) {e u v : List Nat} (hu : u.length = n) (hv : v.length = n) (L0 : D) : cwa9 (⟨cwE V1 V2 n (rL r) (rL a) z6 z7 (.val (.lst [.tup [.lst (ni R), .lst (ni A)]])) x9 x10 (.val (bdD r a e)) x12 (.own (.lst (ni u))) (.own (.lst (ni v))) (.own (.lst [L0])) .no, b⟩ : Sta BagT) = some (.nx, ⟨cwE V1 V2 n (rL r) (rL a) z6 z7 (.val (.lst [.tup [.lst (ni R), .lst (ni A)]])) x9 (.val (.tup [.lst (ni R), .lst (ni A)])) (.val (bdD r a e)) (.val (.int (N : Int))) (.own (.lst (ni u))) (.own (.lst (ni v))) (.own (.lst [L0, lbD R A (bdE R A (upE N n e)) (upN N n u) (upN N n v)])) (.val (bdD R A (bdE R A (upE N n e)))), b⟩) := by
  have e0 : mIt (mV 8) (⟨cwE V1 V2 n (rL r) (rL a) z6 z7 (.val (.lst [.tup [.lst (ni R), .lst (ni A)]])) x9 x10 (.val (bdD r a e)) x12 (.own (.lst (ni u))) (.own (.lst (ni v))) (.own (.lst [L0])) .no, b⟩ : Sta BagT) = some ([.tup [.lst (ni R), .lst (ni A)]], ⟨cwE V1 V2 n (rL r) (rL a) z6 z7 (.val (.lst [.tup [.lst (ni R), .lst (ni A)]])) x9 x10 (.val (bdD r a e)) x12 (.own (.lst (ni u))) (.own (.lst (ni v))) (.own (.lst [L0])) .no, b⟩) := rfl
  have s0 : cwa9_0 (⟨cwE V1 V2 n (rL r) (rL a) z6 z7 (.val (.lst [.tup [.lst (ni R), .lst (ni A)]])) x9 (.val (.tup [.lst (ni R), .lst (ni A)])) (.val (bdD r a e)) x12 (.own (.lst (ni u))) (.own (.lst (ni v))) (.own (.lst [L0])) .no, b⟩ : Sta BagT) = some (.nx, ⟨cwE V1 V2 n (rL r) (rL a) z6 z7 (.val (.lst [.tup [.lst (ni R), .lst (ni A)]])) x9 (.val (.tup [.lst (ni R), .lst (ni A)])) (.val (bdD r a e)) (.val (.int (N : Int))) (.own (.lst (ni u))) (.own (.lst (ni v))) (.own (.lst [L0])) .no, b⟩) := by
    simp [cwa9_0, cwE, hR.lt.1]
  have c0 : mRng fR1 (mCons (mV 12) (mNil)) (⟨cwE V1 V2 n (rL r) (rL a) z6 z7 (.val (.lst [.tup [.lst (ni R), .lst (ni A)]])) x9 (.val (.tup [.lst (ni R), .lst (ni A)])) (.val (bdD r a e)) (.val (.int (N : Int))) (.own (.lst (ni u))) (.own (.lst (ni v))) (.own (.lst [L0])) .no, b⟩ : Sta BagT) = some (ni (List.range N), ⟨cwE V1 V2 n (rL r) (rL a) z6 z7 (.val (.lst [.tup [.lst (ni R), .lst (ni A)]])) x9 (.val (.tup [.lst (ni R), .lst (ni A)])) (.val (bdD r a e)) (.val (.int (N : Int))) (.own (.lst (ni u))) (.own (.lst (ni v))) (.own (.lst [L0])) .no, b⟩) := by
    simp [cwE, rgOk_nat (show N ≤ 1000000 by omega), rgL_ni]
  have k := mComp_pure (vs := [17]) (tg := tmN 17) (tt := mBl (mOp2 (fInB false) (mOp2 fMod (mV 17) (mV 3)) (mOp2 fIx (mV 11) (mC (.int 2))))) (te := mD (mV 17)) (pN fun k => decide (k % n ∈ e)) id c0 rfl (by rw [ni_length, List.length_range]; unfold line; omega) (fun x hx => by
    obtain ⟨k, hk, rfl⟩ := mem_ni hx
    refine ⟨⟨[.val .res, V1, V2, .val (.int (n : Int)), rL r, rL a, z6, z7, .val (.lst [.tup [.lst (ni R), .lst (ni A)]]), x9, .val (.tup [.lst (ni R), .lst (ni A)]), .val (bdD r a e), .val (.int (N : Int)), .own (.lst (ni u)), .own (.lst (ni v)), .own (.lst [L0]), .no, .val (.int (k : Int)), .no], b⟩, ⟨[.val .res, V1, V2, .val (.int (n : Int)), rL r, rL a, z6, z7, .val (.lst [.tup [.lst (ni R), .lst (ni A)]]), x9, .val (.tup [.lst (ni R), .lst (ni A)]), .val (bdD r a e), .val (.int (N : Int)), .own (.lst (ni u)), .own (.lst (ni v)), .own (.lst [L0]), .no, .val (.int (k : Int)), .no], b⟩, rfl, ?_, fun _ => ⟨⟨[.val .res, V1, V2, .val (.int (n : Int)), rL r, rL a, z6, z7, .val (.lst [.tup [.lst (ni R), .lst (ni A)]]), x9, .val (.tup [.lst (ni R), .lst (ni A)]), .val (bdD r a e), .val (.int (N : Int)), .own (.lst (ni u)), .own (.lst (ni v)), .own (.lst [L0]), .no, .val (.int (k : Int)), .no], b⟩, rfl, rfl, rfl⟩, fun _ => ⟨rfl, rfl⟩⟩
    have cm : cMod (k : Int) (n : Int) = true := cMod_pos (by omega)
    have em : ((k : Int) % (n : Int)) = ((k % n : Nat) : Int) := by simp
    have d1 := dIn_ni (k % n) e
    simp only [mBl_ap, mOp2_ap, mV_ap, List.getElem?_cons_succ, List.getElem?_cons_zero, slR_val, Option.map_some, Option.bind_some, pk_val, fMod_i, if_pos cm, em, mC_ap, bdD, fIx_t, atI_2, fInB_t, okq_int, okq_tni, Bool.and_self, if_true, Bool.false_eq_true, if_false, d1, rBl_bl, pN, Int.toNat_natCast])
  rw [filter_ni, map_id_ni] at k
  have bo := law_board_of_eq (x := rL R) (y := rL A) (z := .lock (.lst (ni (upE N n e)))) (.inr (.inr rfl)) (.inr (.inr rfl)) (rowa_l _) hR.lt hA.lt hN b
  have s1 : cwa9_1 (⟨cwE V1 V2 n (rL r) (rL a) z6 z7 (.val (.lst [.tup [.lst (ni R), .lst (ni A)]])) x9 (.val (.tup [.lst (ni R), .lst (ni A)])) (.val (bdD r a e)) (.val (.int (N : Int))) (.own (.lst (ni u))) (.own (.lst (ni v))) (.own (.lst [L0])) .no, b⟩ : Sta BagT) = some (.nx, ⟨cwE V1 V2 n (rL r) (rL a) z6 z7 (.val (.lst [.tup [.lst (ni R), .lst (ni A)]])) x9 (.val (.tup [.lst (ni R), .lst (ni A)])) (.val (bdD r a e)) (.val (.int (N : Int))) (.own (.lst (ni u))) (.own (.lst (ni v))) (.own (.lst [L0])) (.val (bdD R A (bdE R A (upE N n e)))), b⟩) := by
    have ix0 : mOp2 fIx (mV 10) (mC (.int 0)) (⟨cwE V1 V2 n (rL r) (rL a) z6 z7 (.val (.lst [.tup [.lst (ni R), .lst (ni A)]])) x9 (.val (.tup [.lst (ni R), .lst (ni A)])) (.val (bdD r a e)) (.val (.int (N : Int))) (.own (.lst (ni u))) (.own (.lst (ni v))) (.own (.lst [L0])) .no, b⟩ : Sta BagT) = some (.val (.lst (ni R)), ⟨cwE V1 V2 n (rL r) (rL a) z6 z7 (.val (.lst [.tup [.lst (ni R), .lst (ni A)]])) x9 (.val (.tup [.lst (ni R), .lst (ni A)])) (.val (bdD r a e)) (.val (.int (N : Int))) (.own (.lst (ni u))) (.own (.lst (ni v))) (.own (.lst [L0])) .no, b⟩) := by simp [cwE]
    have ix1 : mOp2 fIx (mV 10) (mC (.int 1)) (⟨cwE V1 V2 n (rL r) (rL a) z6 z7 (.val (.lst [.tup [.lst (ni R), .lst (ni A)]])) x9 (.val (.tup [.lst (ni R), .lst (ni A)])) (.val (bdD r a e)) (.val (.int (N : Int))) (.own (.lst (ni u))) (.own (.lst (ni v))) (.own (.lst [L0])) .no, b⟩ : Sta BagT) = some (.val (.lst (ni A)), ⟨cwE V1 V2 n (rL r) (rL a) z6 z7 (.val (.lst [.tup [.lst (ni R), .lst (ni A)]])) x9 (.val (.tup [.lst (ni R), .lst (ni A)])) (.val (bdD r a e)) (.val (.int (N : Int))) (.own (.lst (ni u))) (.own (.lst (ni v))) (.own (.lst [L0])) .no, b⟩) := by simp [cwE]
    unfold cwa9_1
    rw [mSet_ap, mCall_ap, mCons_ap, ix0]
    simp only [Option.bind_some]
    rw [mCons_ap, ix1]
    simp only [Option.bind_some]
    rw [mCons_ap, k]
    unfold upE at bo ⊢
    simp [cwE, bo]
  have u1 := up_comp (b := b) hn (cwE V1 V2 n (rL r) (rL a) z6 z7 (.val (.lst [.tup [.lst (ni R), .lst (ni A)]])) x9 (.val (.tup [.lst (ni R), .lst (ni A)])) (.val (bdD r a e)) (.val (.int (N : Int))) (.own (.lst (ni u))) (.own (.lst (ni v))) (.own (.lst [L0])) (.val (bdD R A (bdE R A (upE N n e))))) 13 hN hu rfl rfl rfl rfl (by decide) (by decide) (by decide)
  have u2 := up_comp (b := b) hn (cwE V1 V2 n (rL r) (rL a) z6 z7 (.val (.lst [.tup [.lst (ni R), .lst (ni A)]])) x9 (.val (.tup [.lst (ni R), .lst (ni A)])) (.val (bdD r a e)) (.val (.int (N : Int))) (.own (.lst (ni u))) (.own (.lst (ni v))) (.own (.lst [L0])) (.val (bdD R A (bdE R A (upE N n e))))) 14 hN hv rfl rfl rfl rfl (by decide) (by decide) (by decide)
  have s2 : cwa9_2 (⟨cwE V1 V2 n (rL r) (rL a) z6 z7 (.val (.lst [.tup [.lst (ni R), .lst (ni A)]])) x9 (.val (.tup [.lst (ni R), .lst (ni A)])) (.val (bdD r a e)) (.val (.int (N : Int))) (.own (.lst (ni u))) (.own (.lst (ni v))) (.own (.lst [L0])) (.val (bdD R A (bdE R A (upE N n e)))), b⟩ : Sta BagT) = some (.nx, ⟨cwE V1 V2 n (rL r) (rL a) z6 z7 (.val (.lst [.tup [.lst (ni R), .lst (ni A)]])) x9 (.val (.tup [.lst (ni R), .lst (ni A)])) (.val (bdD r a e)) (.val (.int (N : Int))) (.own (.lst (ni u))) (.own (.lst (ni v))) (.own (.lst [L0, lbD R A (bdE R A (upE N n e)) (upN N n u) (upN N n v)])) (.val (bdD R A (bdE R A (upE N n e)))), b⟩) := by
    have v16 : mD (mV 16) (⟨cwE V1 V2 n (rL r) (rL a) z6 z7 (.val (.lst [.tup [.lst (ni R), .lst (ni A)]])) x9 (.val (.tup [.lst (ni R), .lst (ni A)])) (.val (bdD r a e)) (.val (.int (N : Int))) (.own (.lst (ni u))) (.own (.lst (ni v))) (.own (.lst [L0])) (.val (bdD R A (bdE R A (upE N n e)))), b⟩ : Sta BagT) = some (bdD R A (bdE R A (upE N n e)), (⟨cwE V1 V2 n (rL r) (rL a) z6 z7 (.val (.lst [.tup [.lst (ni R), .lst (ni A)]])) x9 (.val (.tup [.lst (ni R), .lst (ni A)])) (.val (bdD r a e)) (.val (.int (N : Int))) (.own (.lst (ni u))) (.own (.lst (ni v))) (.own (.lst [L0])) (.val (bdD R A (bdE R A (upE N n e)))), b⟩ : Sta BagT)) := rfl
    have t1 : mD (mBi fTuple (mCons (mComp [17] (mRng fR1 (mCons (mV 12) (mNil))) (tmN 17) (mYes) (mD (mOp2 fIx (mV 13) (mOp2 fMod (mV 17) (mV 3))))) (mNil))) (⟨cwE V1 V2 n (rL r) (rL a) z6 z7 (.val (.lst [.tup [.lst (ni R), .lst (ni A)]])) x9 (.val (.tup [.lst (ni R), .lst (ni A)])) (.val (bdD r a e)) (.val (.int (N : Int))) (.own (.lst (ni u))) (.own (.lst (ni v))) (.own (.lst [L0])) (.val (bdD R A (bdE R A (upE N n e)))), b⟩ : Sta BagT) = some (.tup (ni (upN N n u)), (⟨cwE V1 V2 n (rL r) (rL a) z6 z7 (.val (.lst [.tup [.lst (ni R), .lst (ni A)]])) x9 (.val (.tup [.lst (ni R), .lst (ni A)])) (.val (bdD r a e)) (.val (.int (N : Int))) (.own (.lst (ni u))) (.own (.lst (ni v))) (.own (.lst [L0])) (.val (bdD R A (bdE R A (upE N n e)))), b⟩ : Sta BagT)) := by
      rw [mD_ap, mBi_ap, mCons_ap, u1]
      simp
    have t2 : mD (mBi fTuple (mCons (mComp [17] (mRng fR1 (mCons (mV 12) (mNil))) (tmN 17) (mYes) (mD (mOp2 fIx (mV 14) (mOp2 fMod (mV 17) (mV 3))))) (mNil))) (⟨cwE V1 V2 n (rL r) (rL a) z6 z7 (.val (.lst [.tup [.lst (ni R), .lst (ni A)]])) x9 (.val (.tup [.lst (ni R), .lst (ni A)])) (.val (bdD r a e)) (.val (.int (N : Int))) (.own (.lst (ni u))) (.own (.lst (ni v))) (.own (.lst [L0])) (.val (bdD R A (bdE R A (upE N n e)))), b⟩ : Sta BagT) = some (.tup (ni (upN N n v)), (⟨cwE V1 V2 n (rL r) (rL a) z6 z7 (.val (.lst [.tup [.lst (ni R), .lst (ni A)]])) x9 (.val (.tup [.lst (ni R), .lst (ni A)])) (.val (bdD r a e)) (.val (.int (N : Int))) (.own (.lst (ni u))) (.own (.lst (ni v))) (.own (.lst [L0])) (.val (bdD R A (bdE R A (upE N n e)))), b⟩ : Sta BagT)) := by
      rw [mD_ap, mBi_ap, mCons_ap, u2]
      simp
    have l3 : [bdD R A (bdE R A (upE N n e)), .tup (ni (upN N n u)), .tup (ni (upN N n v))].length ≤ line := (by decide : 3 ≤ line)
    have ar : mCons (mD (mTup (mCons (mD (mV 16)) (mCons (mD (mBi fTuple (mCons (mComp [17] (mRng fR1 (mCons (mV 12) (mNil))) (tmN 17) (mYes) (mD (mOp2 fIx (mV 13) (mOp2 fMod (mV 17) (mV 3))))) (mNil)))) (mCons (mD (mBi fTuple (mCons (mComp [17] (mRng fR1 (mCons (mV 12) (mNil))) (tmN 17) (mYes) (mD (mOp2 fIx (mV 14) (mOp2 fMod (mV 17) (mV 3))))) (mNil)))) (mNil)))))) (mNil) (⟨cwE V1 V2 n (rL r) (rL a) z6 z7 (.val (.lst [.tup [.lst (ni R), .lst (ni A)]])) x9 (.val (.tup [.lst (ni R), .lst (ni A)])) (.val (bdD r a e)) (.val (.int (N : Int))) (.own (.lst (ni u))) (.own (.lst (ni v))) (.own (.lst [L0])) (.val (bdD R A (bdE R A (upE N n e)))), b⟩ : Sta BagT) = some ([lbD R A (bdE R A (upE N n e)) (upN N n u) (upN N n v)], (⟨cwE V1 V2 n (rL r) (rL a) z6 z7 (.val (.lst [.tup [.lst (ni R), .lst (ni A)]])) x9 (.val (.tup [.lst (ni R), .lst (ni A)])) (.val (bdD r a e)) (.val (.int (N : Int))) (.own (.lst (ni u))) (.own (.lst (ni v))) (.own (.lst [L0])) (.val (bdD R A (bdE R A (upE N n e)))), b⟩ : Sta BagT)) := by
      have t : mCons (mD (mV 16)) (mCons (mD (mBi fTuple (mCons (mComp [17] (mRng fR1 (mCons (mV 12) (mNil))) (tmN 17) (mYes) (mD (mOp2 fIx (mV 13) (mOp2 fMod (mV 17) (mV 3))))) (mNil)))) (mCons (mD (mBi fTuple (mCons (mComp [17] (mRng fR1 (mCons (mV 12) (mNil))) (tmN 17) (mYes) (mD (mOp2 fIx (mV 14) (mOp2 fMod (mV 17) (mV 3))))) (mNil)))) (mNil))) (⟨cwE V1 V2 n (rL r) (rL a) z6 z7 (.val (.lst [.tup [.lst (ni R), .lst (ni A)]])) x9 (.val (.tup [.lst (ni R), .lst (ni A)])) (.val (bdD r a e)) (.val (.int (N : Int))) (.own (.lst (ni u))) (.own (.lst (ni v))) (.own (.lst [L0])) (.val (bdD R A (bdE R A (upE N n e)))), b⟩ : Sta BagT) = some ([bdD R A (bdE R A (upE N n e)), .tup (ni (upN N n u)), .tup (ni (upN N n v))], (⟨cwE V1 V2 n (rL r) (rL a) z6 z7 (.val (.lst [.tup [.lst (ni R), .lst (ni A)]])) x9 (.val (.tup [.lst (ni R), .lst (ni A)])) (.val (bdD r a e)) (.val (.int (N : Int))) (.own (.lst (ni u))) (.own (.lst (ni v))) (.own (.lst [L0])) (.val (bdD R A (bdE R A (upE N n e)))), b⟩ : Sta BagT)) := by
        rw [mCons_ap, v16, Option.bind_some, mCons_ap, t1, Option.bind_some, mCons_ap, t2]
        rfl
      rw [mCons_ap, mD_ap, mTup_ap, t, Option.bind_some]
      simp only
      rw [if_pos l3]
      rfl
    have l1 : [L0].length < line := (show (1 : Nat) < line by decide)
    unfold cwa9_2
    rw [mEx_ap, mOwn_ap, if_pos (by rfl), ar, Option.bind_some]
    have so : slOwn (cwE V1 V2 n (rL r) (rL a) z6 z7 (.val (.lst [.tup [.lst (ni R), .lst (ni A)]])) x9 (.val (.tup [.lst (ni R), .lst (ni A)])) (.val (bdD r a e)) (.val (.int (N : Int))) (.own (.lst (ni u))) (.own (.lst (ni v))) (.own (.lst [L0])) (.val (bdD R A (bdE R A (upE N n e)))))[15]? = some [L0] := rfl
    simp only [so, Option.bind_some, fAppend_1, if_pos l1]
    rfl
  unfold cwa9
  rw [mFor_ap, e0, Option.bind_some]
  simp only
  rw [forL_cons]
  show (((some (⟨cwE V1 V2 n (rL r) (rL a) z6 z7 (.val (.lst [.tup [.lst (ni R), .lst (ni A)]])) x9 (.val (.tup [.lst (ni R), .lst (ni A)])) (.val (bdD r a e)) x12 (.own (.lst (ni u))) (.own (.lst (ni v))) (.own (.lst [L0])) .no, b⟩ : Sta BagT)).bind cwa9b).bind _) = _
  rw [Option.bind_some]
  unfold cwa9b
  rw [mSeq_ap, s0, Option.bind_some, M.thn_nx, mSeq_ap, s1, Option.bind_some, M.thn_nx, s2, Option.bind_some]
  rfl
theorem law_covers_eq (mo : Nat) (hmo : 0 < mo) (hmo2 : mo ≤ 4) (hd : 0 < dg) (hd2 : dg ≤ 4) (b : BagT) (hb : Bg b) : ∃ n r a fl u v R A b', F_law_covers [.val .res, .val (.int (mo : Int)), .lock (.lst [.int (dg : Int)])] b = some (.new (.lst [lbD r a (bdE r a fl) u v, lbD R A (bdE R A (upE (n * dg) n (bdE r a fl))) (upN (n * dg) n u) (upN (n * dg) n v)]), b') ∧ 0 < n ∧ n ≤ mo ∧ Pm n r ∧ Pm n a ∧ u.length = n ∧ v.length = n ∧ Pm (n * dg) R ∧ Pm (n * dg) A ∧ Ovr n r R ∧ Ovr n a A ∧ (∀ k ∈ endsN R A, k % n ∈ fl) ∧ Bg b' := by
  obtain ⟨j, b1, ed, hj, hb1⟩ := drw b hb mo hmo (by omega)
  obtain ⟨n, hn⟩ : ∃ n, n = 1 + j := ⟨_, rfl⟩
  have h0 : 0 < n := by omega
  have hn2 : n ≤ 1000 := by omega
  obtain ⟨r, b2, er, hr, hb2⟩ := law_shuffle_eq n h0 hn2 b1 hb1
  obtain ⟨a0, b3, ea, ha0, hb3⟩ := law_shuffle_eq n h0 hn2 b2 hb2
  have en : (1 : Int) + (j : Int) = (n : Int) := by omega
  have c1 : cwa0 (⟨[.val .res, .val (.int (mo : Int)), .lock (.lst [.int (dg : Int)]), .no, .no, .no, .no, .no, .no, .no, .no, .no, .no, .no, .no, .no, .no, .no, .no], b⟩ : Sta BagT) = some (.nx, ⟨[.val .res, .val (.int (mo : Int)), .lock (.lst [.int (dg : Int)]), .val (.int (n : Int)), .no, .no, .no, .no, .no, .no, .no, .no, .no, .no, .no, .no, .no, .no, .no], b1⟩) := by
    simp [cwa0, ed, en]
  have c2 : cwa1 (⟨[.val .res, .val (.int (mo : Int)), .lock (.lst [.int (dg : Int)]), .val (.int (n : Int)), .no, .no, .no, .no, .no, .no, .no, .no, .no, .no, .no, .no, .no, .no, .no], b1⟩ : Sta BagT) = some (.nx, ⟨[.val .res, .val (.int (mo : Int)), .lock (.lst [.int (dg : Int)]), .val (.int (n : Int)), .own (.lst (ni r)), .own (.lst (ni a0)), .no, .no, .no, .no, .no, .no, .no, .no, .no, .no, .no, .no, .no], b3⟩) := by
    simp [cwa1, er, ea]
  obtain ⟨a, z6, z7, ha, hc, c3⟩ := cw_loop r a0 (.val (.int (mo : Int))) (.lock (.lst [.int (dg : Int)])) b3 hr ha0 h0 hn2
  have hN : n * dg ≤ 16 := Nat.mul_le_mul (show n ≤ 4 by omega) hd2
  obtain ⟨R, A, b4, ec, hR, hA, oR, oA, hb4⟩ := law_cover_eq h0 (by omega) hd (by omega) (by omega) hr ha hc b3 hb3
  have c4 := cw_c3 (n := n) (.val (.int (mo : Int))) z6 z7 ec
  obtain ⟨fl, b5, ef, hfl, _, hb5⟩ := flats_eq (cwE (.val (.int (mo : Int))) (.lock (.lst (ni [dg]))) n (rL r) (rL a) z6 z7 (.own (.lst [.tup [.lst (ni R), .lst (ni A)]])) .no .no .no .no .no .no .no .no) 17 3 4 n b4 hb4 rfl rfl rfl hn2 (by omega) (by omega)
  have c5 : cwa4 (⟨cwE (.val (.int (mo : Int))) (.lock (.lst (ni [dg]))) n (rL r) (rL a) z6 z7 (.own (.lst [.tup [.lst (ni R), .lst (ni A)]])) .no .no .no .no .no .no .no .no, b4⟩ : Sta BagT) = some (.nx, ⟨cwE (.val (.int (mo : Int))) (.lock (.lst (ni [dg]))) n (rL r) (rL a) z6 z7 (.own (.lst [.tup [.lst (ni R), .lst (ni A)]])) (.own (.lst (ni fl))) .no .no .no .no .no .no .no, b5⟩) := by
    unfold cwa4
    have ef' : mComp [17] (mRng fR1 (mCons (mV 3) (mNil))) (tmN 17) (mBl (mOp2 fEq (mCall F_draw (mCons (mV 0) (mCons (mC (.int 4)) (mNil)))) (mC (.int 0)))) (mD (mV 17)) (⟨cwE (.val (.int (mo : Int))) (.lock (.lst (ni [dg]))) n (rL r) (rL a) z6 z7 (.own (.lst [.tup [.lst (ni R), .lst (ni A)]])) .no .no .no .no .no .no .no .no, b4⟩ : Sta BagT) = _ := ef
    rw [mSet_ap, ef']
    rfl
  have c6 := cw_c5 (b := b5) (r := r) (a := a) h0 (.val (.int (mo : Int))) (.lock (.lst (ni [dg]))) z6 z7 hR hA (by omega) (fl := fl) (by omega)
  obtain ⟨size, b6, hs, hs2, hb6, c7⟩ := cw_c6 (.val (.int (mo : Int))) (.lock (.lst (ni [dg]))) z6 z7 (.val (.lst [.tup [.lst (ni R), .lst (ni A)]])) (.val (.tup [.lst (ni R), .lst (ni A)])) hr.lt ha.lt hn2 (fl := fl ++ (endsN R A).map (· % n)) hb5
  obtain ⟨u, v, b7, hu, hv, hb7, c8⟩ := cw_c7 (r := r) (a := a) (.val (.int (mo : Int))) (.lock (.lst (ni [dg]))) z6 z7 (.val (.lst [.tup [.lst (ni R), .lst (ni A)]])) (.own (.lst (ni (fl ++ (endsN R A).map (· % n))))) (.val (.tup [.lst (ni R), .lst (ni A)])) (.val (bdD r a (bdE r a (fl ++ (endsN R A).map (· % n))))) hn2 hs hs2 hb6
  have c9 := cw_c8 (n := n) (r := r) (a := a) (b := b7) (.val (.int (mo : Int))) (.lock (.lst (ni [dg]))) z6 z7 (.val (.lst [.tup [.lst (ni R), .lst (ni A)]])) (.own (.lst (ni (fl ++ (endsN R A).map (· % n))))) (.val (.tup [.lst (ni R), .lst (ni A)])) (.val (.int (size : Int))) (bdD r a (bdE r a (fl ++ (endsN R A).map (· % n)))) u v
  have c10 := cw_c9 (b := b7) (r := r) (a := a) h0 (.val (.int (mo : Int))) (.lock (.lst (ni [dg]))) z6 z7 (.own (.lst (ni (fl ++ (endsN R A).map (· % n))))) (.val (.tup [.lst (ni R), .lst (ni A)])) (.val (.int (size : Int))) hR hA (by omega) (e := bdE r a (fl ++ (endsN R A).map (· % n))) hu hv (.tup [bdD r a (bdE r a (fl ++ (endsN R A).map (· % n))), .tup (ni u), .tup (ni v)])
  refine ⟨n, r, a, fl ++ (endsN R A).map (· % n), u, v, R, A, b7, ?_, h0, by omega, hr, ha, hu, hv, hR, hA, oR, oA, fun k hk => List.mem_append_right _ (List.mem_map.mpr ⟨k, hk, rfl⟩), hb7⟩
  rw [law_covers_run, runF_eq, if_pos (by rfl)]
  show outF (mSeq _ _ (⟨[.val .res, .val (.int (mo : Int)), .lock (.lst [.int (dg : Int)]), .no, .no, .no, .no, .no, .no, .no, .no, .no, .no, .no, .no, .no, .no, .no, .no], b⟩ : Sta BagT)) = _
  rw [mSeq_ap, c1, Option.bind_some, M.thn_nx, mSeq_ap, c2, Option.bind_some, M.thn_nx, mSeq_ap, c3, Option.bind_some, M.thn_nx, mSeq_ap]
  show outF ((cwa3 (⟨cwE (.val (.int (mo : Int))) (.lock (.lst (ni [dg]))) n (.own (.lst (ni r))) (.own (.lst (ni a))) z6 z7 .no .no .no .no .no .no .no .no .no, b3⟩ : Sta BagT)).bind _) = _
  rw [c4, Option.bind_some, M.thn_nx, mSeq_ap, c5, Option.bind_some, M.thn_nx, mSeq_ap, c6, Option.bind_some, M.thn_nx, mSeq_ap, c7, Option.bind_some, M.thn_nx, mSeq_ap, c8, Option.bind_some, M.thn_nx, mSeq_ap, c9, Option.bind_some, M.thn_nx, mSeq_ap, c10, Option.bind_some, M.thn_nx]
  rfl
end
end W

set_option maxHeartbeats 1000000
/-! E15: the law. -/
namespace W
open PySem L2 M
variable [Wrt]
noncomputable def laa0_0 : Ms BagT := mIf (mBl (mOp2 fEq (mCall F_draw (mCons (mV 1) (mCons (mC (.int 2)) (mNil)))) (mC (.int 0)))) (mSeq (mPars [3, 4] (mCons (mH (mCall F_law_board (mCons (mV 1) (mCons (mC (.int 10)) (mNil))))) (mCons (mH (mCall F_law_pick (mCons (mV 1) (mCons (mLst (mCons (mD (mC (.int 1))) (mCons (mD (mC (.int 1))) (mCons (mD (mC (.int 2))) (mCons (mD (mC (.int 100))) (mNil)))))) (mNil))))) (mNil)))) (mSet 5 (mTup (mCons (mD (mV 3)) (mCons (mD (mBi fTuple (mCons (mComp [12] (mIt (mOp2 fIx (mV 3) (mC (.int 0)))) (tmN 12) (mYes) (mD (mCall F_draw (mCons (mV 1) (mCons (mV 4) (mNil)))))) (mNil)))) (mCons (mD (mBi fTuple (mCons (mComp [12] (mIt (mOp2 fIx (mV 3) (mC (.int 0)))) (tmN 12) (mYes) (mD (mCall F_draw (mCons (mV 1) (mCons (mV 4) (mNil)))))) (mNil)))) (mNil))))))) (mSet 5 (mOp2 fIx (mCall F_law_covers (mCons (mV 1) (mCons (mC (.int 2)) (mCons (mLst (mCons (mD (mOp2 fAdd (mC (.int 1)) (mCall F_draw (mCons (mV 1) (mCons (mC (.int 4)) (mNil)))))) (mNil))) (mNil))))) (mC (.int 1))))
noncomputable def laa0_1 : Ms BagT := mSet 6 (mBi fLen (mCons (mOp2 fIx (mV 5) (mC (.int 1))) (mNil)))
noncomputable def laa0_2 : Ms BagT := mSet 7 (mIfE (mBl (mOp2 fGt (mV 2) (mC (.int 0)))) (mCall F_least_board (mCons (mV 5) (mNil))) (mCallK F_least_board [0] 0 1 mNil (mCons (mV 5) (mNil))))
noncomputable def laa0_3 : Ms BagT := mIf (mOr (mNot (mTr (mOp1 (fIsi "tuple") (mV 7)))) (mOr (mBl (mOp2 fNe (mBi fLen (mCons (mV 7) (mNil))) (mC (.int 2)))) (mOr (mNot (mTr (mOp1 (fIsi "tuple") (mOp2 fIx (mV 7) (mC (.int 1)))))) (mOr (mBl (mOp2 fNe (mBi fLen (mCons (mOp2 fIx (mV 7) (mC (.int 1))) (mNil))) (mV 6))) (mBl (mOp2 fNe (mComp [13] (mIt (mOp2 fIx (mV 7) (mC (.int 1)))) (tmN 13) (mNot (mTr (mCall F_law_is_int (mCons (mV 13) (mNil))))) (mD (mV 13))) (mLst (mNil)))))))) (mRet (mC (.bl false))) (mSkip)
noncomputable def laa0_4 : Ms BagT := mFor (mRng fR1 (mCons (mV 6) (mNil))) (tmN 8) (mFor (mRng fR2 (mCons (mV 8) (mCons (mV 6) (mNil)))) (tmN 9) (mSeq (mSet 10 (mCall F_law_is_alike (mCons (mV 5) (mCons (mV 8) (mCons (mV 5) (mCons (mV 9) (mNil))))))) (mSeq (mSet 11 (mIfE (mBl (mOp2 fGt (mV 2) (mC (.int 0)))) (mCall F_same_square (mCons (mV 5) (mCons (mV 8) (mCons (mV 9) (mNil))))) (mCallK F_same_square [2, 1, 0] 0 3 mNil (mCons (mV 9) (mCons (mV 8) (mCons (mV 5) (mNil))))))) (mIf (mOr (mNot (mTr (mCall (F_law_same 12) (mCons (mV 11) (mCons (mV 10) (mNil)))))) (mOr (mNot (mTr (mCall (F_law_same 12) (mCons (mCall F_same_square (mCons (mV 5) (mCons (mV 9) (mCons (mV 8) (mNil))))) (mCons (mV 10) (mNil)))))) (mBl (mOp2 fNe (mOp2 fEq (mOp2 fIx (mOp2 fIx (mV 7) (mC (.int 1))) (mV 8)) (mOp2 fIx (mOp2 fIx (mV 7) (mC (.int 1))) (mV 9))) (mV 10))))) (mRet (mC (.bl false))) (mSkip)))))
noncomputable def laa0b : Ms BagT := mSeq laa0_0 (mSeq laa0_1 (mSeq laa0_2 (mSeq laa0_3 laa0_4)))
noncomputable def laa0 : Ms BagT := mFor (mRng fR1 (mCons (mC (.int 3)) (mNil))) (tmN 2) laa0b
noncomputable def laa1 : Ms BagT := mRet (mC (.bl true))
theorem law_run : F_law = mSeq laa0 laa1 := rfl
theorem alike_symm {n : Nat} {r a : List Nat} {mf : Nat → K3} {i j : Nat} (h : Alike n r a mf i j) : Alike n r a mf j i := by
  obtain ⟨T, hT, ht⟩ := h
  exact ⟨fun x y => T y x, ⟨fun x y z => ⟨(hT.lt y x z).2, (hT.lt y x z).1⟩, fun x y z => (hT.ms y x z).symm, fun x y z => hT.rr y x z, fun x y z => hT.aa y x z⟩, ht⟩
def laS (t : Nat) (x3 x4 x5 x6 x7 x8 x9 x10 x11 : Sl) : List Sl := [.no, .val .res, .val (.int (t : Int)), x3, x4, x5, x6, x7, x8, x9, x10, x11, .no, .no]
theorem la_0 (t : Nat) (x3 x4 x5 x6 x7 x8 x9 x10 x11 : Sl) (b : BagT) (hb : Bg b) : ∃ n r a e u v y3 y4 b', Lb n r a e u v ∧ Bg b' ∧ laa0_0 (⟨laS t x3 x4 x5 x6 x7 x8 x9 x10 x11, b⟩ : Sta BagT) = some (.nx, ⟨laS t y3 y4 (.val (lbD r a e u v)) x6 x7 x8 x9 x10 x11, b'⟩) := by
  obtain ⟨j, b1, ed, hj, hb1⟩ := drw b hb 2 (by omega) (by omega)
  have ed' : F_draw [.val .res, .val (.int 2)] b = some (.val (.int (j : Int)), b1) := ed
  by_cases h : j = 0
  · subst h
    have tt : mBl (mOp2 fEq (mCall F_draw (mCons (mV 1) (mCons (mC (.int 2)) (mNil)))) (mC (.int 0))) (⟨laS t x3 x4 x5 x6 x7 x8 x9 x10 x11, b⟩ : Sta BagT) = some (true, ⟨laS t x3 x4 x5 x6 x7 x8 x9 x10 x11, b1⟩) := by
      simp [laS, ed']
    obtain ⟨n, r, a, e, b2, eb, h0, hn, hr, ha, hb2⟩ := law_board_eq 10 (by omega) (by omega) b1 hb1
    obtain ⟨size, b3, ep, hs, hb3⟩ := law_pick_eq [1, 1, 2, 100] (by decide) (by decide) b2 hb2
    have ep' : F_law_pick [.val .res, .lock (.lst [.int 1, .int 1, .int 2, .int 100])] b2 = some (.val (.int (size : Int)), b3) := ep
    have eb' : F_law_board [.val .res, .val (.int 10)] b1 = some (.val (bdD r a e), b2) := eb
    have l4 : 4 ≤ line := by decide
    have c1 : mPars [3, 4] (mCons (mH (mCall F_law_board (mCons (mV 1) (mCons (mC (.int 10)) (mNil))))) (mCons (mH (mCall F_law_pick (mCons (mV 1) (mCons (mLst (mCons (mD (mC (.int 1))) (mCons (mD (mC (.int 1))) (mCons (mD (mC (.int 2))) (mCons (mD (mC (.int 100))) (mNil)))))) (mNil))))) (mNil))) (⟨laS t x3 x4 x5 x6 x7 x8 x9 x10 x11, b1⟩ : Sta BagT) = some (.nx, ⟨laS t (.val (bdD r a e)) (.val (.int (size : Int))) x5 x6 x7 x8 x9 x10 x11, b3⟩) := by
      simp [laS, eb', ep', l4]
    have hs0 : 0 < size := by simp at hs; omega
    have hs2 : size ≤ 1000 := by simp at hs; omega
    have e0 : ∀ b : BagT, mIt (mOp2 fIx (mV 3) (mC (.int 0))) (⟨laS t (.val (bdD r a e)) (.val (.int (size : Int))) x5 x6 x7 x8 x9 x10 x11, b⟩ : Sta BagT) = some (ni r, ⟨laS t (.val (bdD r a e)) (.val (.int (size : Int))) x5 x6 x7 x8 x9 x10 x11, b⟩) := fun b => by
      simp [laS, bdD]
    obtain ⟨u, b4, eu, hu, hb4⟩ := draws_eq (laS t (.val (bdD r a e)) (.val (.int (size : Int))) x5 x6 x7 x8 x9 x10 x11) 12 4 (mIt (mOp2 fIx (mV 3) (mC (.int 0)))) (ni r) size b3 hb3 (e0 b3) rfl (by rw [ni_length, hr.lt.1]; omega) (i0 := 1) rfl rfl hs0 hs2
    obtain ⟨v, b5, ev, hv, hb5⟩ := draws_eq (laS t (.val (bdD r a e)) (.val (.int (size : Int))) x5 x6 x7 x8 x9 x10 x11) 12 4 (mIt (mOp2 fIx (mV 3) (mC (.int 0)))) (ni r) size b4 hb4 (e0 b4) rfl (by rw [ni_length, hr.lt.1]; omega) (i0 := 1) rfl rfl hs0 hs2
    rw [ni_length, hr.lt.1] at hu hv
    refine ⟨n, r, a, e, u, v, .val (bdD r a e), .val (.int (size : Int)), b5, ⟨h0, by omega, hr.lt, ha.lt, hu, hv⟩, hb5, ?_⟩
    have l3 : 3 ≤ line := by decide
    have c2 : mSet 5 (mTup (mCons (mD (mV 3)) (mCons (mD (mBi fTuple (mCons (mComp [12] (mIt (mOp2 fIx (mV 3) (mC (.int 0)))) (tmN 12) (mYes) (mD (mCall F_draw (mCons (mV 1) (mCons (mV 4) (mNil)))))) (mNil)))) (mCons (mD (mBi fTuple (mCons (mComp [12] (mIt (mOp2 fIx (mV 3) (mC (.int 0)))) (tmN 12) (mYes) (mD (mCall F_draw (mCons (mV 1) (mCons (mV 4) (mNil)))))) (mNil)))) (mNil))))) (⟨laS t (.val (bdD r a e)) (.val (.int (size : Int))) x5 x6 x7 x8 x9 x10 x11, b3⟩ : Sta BagT) = some (.nx, ⟨laS t (.val (bdD r a e)) (.val (.int (size : Int))) (.val (lbD r a e u v)) x6 x7 x8 x9 x10 x11, b5⟩) := by
      have v3 : mD (mV 3) (⟨laS t (.val (bdD r a e)) (.val (.int (size : Int))) x5 x6 x7 x8 x9 x10 x11, b3⟩ : Sta BagT) = some (bdD r a e, ⟨laS t (.val (bdD r a e)) (.val (.int (size : Int))) x5 x6 x7 x8 x9 x10 x11, b3⟩) := rfl
      have t1 : mD (mBi fTuple (mCons (mComp [12] (mIt (mOp2 fIx (mV 3) (mC (.int 0)))) (tmN 12) (mYes) (mD (mCall F_draw (mCons (mV 1) (mCons (mV 4) (mNil)))))) (mNil))) (⟨laS t (.val (bdD r a e)) (.val (.int (size : Int))) x5 x6 x7 x8 x9 x10 x11, b3⟩ : Sta BagT) = some (.tup (ni u), ⟨laS t (.val (bdD r a e)) (.val (.int (size : Int))) x5 x6 x7 x8 x9 x10 x11, b4⟩) := by
        rw [mD_ap, mBi_ap, mCons_ap, eu]
        simp
      have t2 : mD (mBi fTuple (mCons (mComp [12] (mIt (mOp2 fIx (mV 3) (mC (.int 0)))) (tmN 12) (mYes) (mD (mCall F_draw (mCons (mV 1) (mCons (mV 4) (mNil)))))) (mNil))) (⟨laS t (.val (bdD r a e)) (.val (.int (size : Int))) x5 x6 x7 x8 x9 x10 x11, b4⟩ : Sta BagT) = some (.tup (ni v), ⟨laS t (.val (bdD r a e)) (.val (.int (size : Int))) x5 x6 x7 x8 x9 x10 x11, b5⟩) := by
        rw [mD_ap, mBi_ap, mCons_ap, ev]
        simp
      rw [mSet_ap, mTup_ap, mCons_ap, v3, Option.bind_some]
      simp only
      rw [mCons_ap, t1, Option.bind_some]
      simp only
      rw [mCons_ap, t2]
      simp [l3]
      rfl
    unfold laa0_0
    rw [mIf_ap, tt, Option.bind_some]
    show mSeq _ _ (⟨laS t x3 x4 x5 x6 x7 x8 x9 x10 x11, b1⟩ : Sta BagT) = _
    rw [mSeq_ap, c1, Option.bind_some, M.thn_nx, c2]
  · have h1 : ¬ (j : Int) = 0 := by omega
    have tt : mBl (mOp2 fEq (mCall F_draw (mCons (mV 1) (mCons (mC (.int 2)) (mNil)))) (mC (.int 0))) (⟨laS t x3 x4 x5 x6 x7 x8 x9 x10 x11, b⟩ : Sta BagT) = some (false, ⟨laS t x3 x4 x5 x6 x7 x8 x9 x10 x11, b1⟩) := by
      simp [laS, ed', h]
    obtain ⟨k, b2, ek, hk, hb2⟩ := drw b1 hb1 4 (by omega) (by omega)
    have ek' : F_draw [.val .res, .val (.int 4)] b1 = some (.val (.int (k : Int)), b2) := ek
    obtain ⟨n, r, a, fl, u, v, R, A, b3, ec, h0, hn, hr, ha, hu, hv, hR, hA, _, _, _, hb3⟩ := law_covers_eq (dg := 1 + k) 2 (by omega) (by omega) (by omega) (by omega) b2 hb2
    have hN : n * (1 + k) ≤ 2 * 4 := Nat.mul_le_mul hn (by omega)
    have hN0 : 0 < n * (1 + k) := Nat.mul_pos h0 (by omega)
    have ek2 : (((1 + k : Nat)) : Int) = 1 + (k : Int) := by omega
    rw [ek2] at ec
    have ec' : F_law_covers [.val .res, .val (.int 2), .lock (.lst [.int (1 + (k : Int))])] b2 = _ := ec
    refine ⟨n * (1 + k), R, A, bdE R A (upE (n * (1 + k)) n (bdE r a fl)), upN (n * (1 + k)) n u, upN (n * (1 + k)) n v, x3, x4, b3, ⟨hN0, by omega, hR.lt, hA.lt, by simp [upN], by simp [upN]⟩, hb3, ?_⟩
    have l1 : 1 ≤ line := by decide
    unfold laa0_0
    rw [mIf_ap, tt, Option.bind_some]
    show mSet 5 _ (⟨laS t x3 x4 x5 x6 x7 x8 x9 x10 x11, b1⟩ : Sta BagT) = _
    simp [laS, ek', l1, ec']
theorem fNe_b (x y : Bool) : fNe (.bl x) (.bl y) = some (.val (.bl (x != y))) := by
  simp [fNe, okq, fine, deep, deq, bne]
section
variable {n : Nat} {r a e u v : List Nat} {b : BagT}
theorem la_2 (h : Lb n r a e u v) (t : Nat) (x3 x4 x7 x8 x9 x10 x11 : Sl) : ∃ l, LF n r a (mfL e u v) l ∧ laa0_2 (⟨laS t x3 x4 (.val (lbD r a e u v)) (.val (.int (n : Int))) x7 x8 x9 x10 x11, b⟩ : Sta BagT) = some (.nx, ⟨laS t x3 x4 (.val (lbD r a e u v)) (.val (.int (n : Int))) (.val (.tup [lsD l r a e u v, .tup (ni (nmN l))])) x8 x9 x10 x11, b⟩) := by
  obtain ⟨l, el, hl⟩ := least_board_eq h b
  refine ⟨l, hl, ?_⟩
  have pk : pickL [0] [Sl.val (lbD r a e u v)] = [.val (lbD r a e u v)] := rfl
  generalize lbD r a e u v = L at *
  by_cases ht : 0 < t
  · have ht' : (0 : Int) < (t : Int) := by omega
    simp [laa0_2, laS, el, ht, ht']
  · have ht' : ¬ (0 : Int) < (t : Int) := by omega
    simp [laa0_2, laS, el, ht, ht', pk]
theorem la_3 (t : Nat) (x3 x4 x5 x8 x9 x10 x11 : Sl) (X : D) {nm : List Nat} (hn : nm.length = n) (hn2 : n ≤ 1000) : laa0_3 (⟨laS t x3 x4 x5 (.val (.int (n : Int))) (.val (.tup [X, .tup (ni nm)])) x8 x9 x10 x11, b⟩ : Sta BagT) = some (.nx, ⟨laS t x3 x4 x5 (.val (.int (n : Int))) (.val (.tup [X, .tup (ni nm)])) x8 x9 x10 x11, b⟩) := by
  have e0 : mIt (mOp2 fIx (mV 7) (mC (.int 1))) (⟨laS t x3 x4 x5 (.val (.int (n : Int))) (.val (.tup [X, .tup (ni nm)])) x8 x9 x10 x11, b⟩ : Sta BagT) = some (ni nm, ⟨laS t x3 x4 x5 (.val (.int (n : Int))) (.val (.tup [X, .tup (ni nm)])) x8 x9 x10 x11, b⟩) := by simp [laS]
  have k := mComp_pure (vs := [13]) (tg := tmN 13) (tt := mNot (mTr (mCall F_law_is_int (mCons (mV 13) (mNil))))) (te := mD (mV 13)) (fun _ => false) id e0 rfl (by rw [ni_length]; unfold line; omega) (fun x hx => by
    obtain ⟨k, hk, rfl⟩ := mem_ni hx
    have ii := is_int_eq k b
    refine ⟨⟨[.no, .val .res, .val (.int (t : Int)), x3, x4, x5, .val (.int (n : Int)), .val (.tup [X, .tup (ni nm)]), x8, x9, x10, x11, .no, .val (.int (k : Int))], b⟩, ⟨[.no, .val .res, .val (.int (t : Int)), x3, x4, x5, .val (.int (n : Int)), .val (.tup [X, .tup (ni nm)]), x8, x9, x10, x11, .no, .val (.int (k : Int))], b⟩, rfl, ?_, fun h => (by cases h), fun _ => ⟨rfl, rfl⟩⟩
    simp [ii])
  have e1 : ((ni nm).filter fun _ => false).map id = [] := by simp
  rw [e1] at k
  have f2 : fNe (.lst []) (.lst []) = some (.val (.bl false)) := by
    simp only [fNe, okq_lnil]
    rfl
  have e2 : mBl (mOp2 fNe (mComp [13] (mIt (mOp2 fIx (mV 7) (mC (.int 1)))) (tmN 13) (mNot (mTr (mCall F_law_is_int (mCons (mV 13) (mNil))))) (mD (mV 13))) (mLst (mNil))) (⟨laS t x3 x4 x5 (.val (.int (n : Int))) (.val (.tup [X, .tup (ni nm)])) x8 x9 x10 x11, b⟩ : Sta BagT) = some (false, ⟨laS t x3 x4 x5 (.val (.int (n : Int))) (.val (.tup [X, .tup (ni nm)])) x8 x9 x10 x11, b⟩) := by
    rw [mBl_ap, mOp2_ap, k]
    simp [f2]
  have e3 : mBl (mOp2 fNe (mBi fLen (mCons (mOp2 fIx (mV 7) (mC (.int 1))) (mNil))) (mV 6)) (⟨laS t x3 x4 x5 (.val (.int (n : Int))) (.val (.tup [X, .tup (ni nm)])) x8 x9 x10 x11, b⟩ : Sta BagT) = some (false, ⟨laS t x3 x4 x5 (.val (.int (n : Int))) (.val (.tup [X, .tup (ni nm)])) x8 x9 x10 x11, b⟩) := by
    simp [laS, hn]
  have e4 : mNot (mTr (mOp1 (fIsi "tuple") (mOp2 fIx (mV 7) (mC (.int 1))))) (⟨laS t x3 x4 x5 (.val (.int (n : Int))) (.val (.tup [X, .tup (ni nm)])) x8 x9 x10 x11, b⟩ : Sta BagT) = some (false, ⟨laS t x3 x4 x5 (.val (.int (n : Int))) (.val (.tup [X, .tup (ni nm)])) x8 x9 x10 x11, b⟩) := by
    simp [laS, fIsi_eq]
  have e5 : mBl (mOp2 fNe (mBi fLen (mCons (mV 7) (mNil))) (mC (.int 2))) (⟨laS t x3 x4 x5 (.val (.int (n : Int))) (.val (.tup [X, .tup (ni nm)])) x8 x9 x10 x11, b⟩ : Sta BagT) = some (false, ⟨laS t x3 x4 x5 (.val (.int (n : Int))) (.val (.tup [X, .tup (ni nm)])) x8 x9 x10 x11, b⟩) := by
    simp [laS]
  have e6 : mNot (mTr (mOp1 (fIsi "tuple") (mV 7))) (⟨laS t x3 x4 x5 (.val (.int (n : Int))) (.val (.tup [X, .tup (ni nm)])) x8 x9 x10 x11, b⟩ : Sta BagT) = some (false, ⟨laS t x3 x4 x5 (.val (.int (n : Int))) (.val (.tup [X, .tup (ni nm)])) x8 x9 x10 x11, b⟩) := by
    simp [laS, fIsi_eq]
  unfold laa0_3
  rw [mIf_ap, mOr_ap, e6, Option.bind_some]
  simp only [Bool.false_eq_true, if_false]
  rw [mOr_ap, e5, Option.bind_some]
  simp only [Bool.false_eq_true, if_false]
  rw [mOr_ap, e4, Option.bind_some]
  simp only [Bool.false_eq_true, if_false]
  rw [mOr_ap, e3, Option.bind_some]
  simp only [Bool.false_eq_true, if_false]
  rw [e2]
  rfl
end
end W

set_option maxHeartbeats 1000000
/-! E16: the law is true. -/
namespace W
open PySem L2 M
variable [Wrt]
noncomputable def lpA : Ms BagT := mSet 10 (mCall F_law_is_alike (mCons (mV 5) (mCons (mV 8) (mCons (mV 5) (mCons (mV 9) (mNil))))))
noncomputable def lpB : Ms BagT := mSet 11 (mIfE (mBl (mOp2 fGt (mV 2) (mC (.int 0)))) (mCall F_same_square (mCons (mV 5) (mCons (mV 8) (mCons (mV 9) (mNil))))) (mCallK F_same_square [2, 1, 0] 0 3 mNil (mCons (mV 9) (mCons (mV 8) (mCons (mV 5) (mNil))))))
noncomputable def lpC : Ms BagT := mIf (mOr (mNot (mTr (mCall (F_law_same 12) (mCons (mV 11) (mCons (mV 10) (mNil)))))) (mOr (mNot (mTr (mCall (F_law_same 12) (mCons (mCall F_same_square (mCons (mV 5) (mCons (mV 9) (mCons (mV 8) (mNil))))) (mCons (mV 10) (mNil)))))) (mBl (mOp2 fNe (mOp2 fEq (mOp2 fIx (mOp2 fIx (mV 7) (mC (.int 1))) (mV 8)) (mOp2 fIx (mOp2 fIx (mV 7) (mC (.int 1))) (mV 9))) (mV 10))))) (mRet (mC (.bl false))) (mSkip)
noncomputable def lpBody : Ms BagT := mSeq lpA (mSeq lpB lpC)
theorem la4_run : laa0_4 = mFor (mRng fR1 (mCons (mV 6) (mNil))) (tmN 8) (mFor (mRng fR2 (mCons (mV 8) (mCons (mV 6) (mNil)))) (tmN 9) lpBody) := rfl
section
variable {n : Nat} {r a e u v : List Nat} {b : BagT}
theorem pair_eq (h : Lb n r a e u v) {l : List Nat} (hl : LF n r a (mfL e u v) l) (t : Nat) (x3 x4 x10 x11 : Sl) (X : D) {i j : Nat} (hi : i < n) (hj : j < n) : ∃ y10 y11, lpBody (⟨laS t x3 x4 (.val (lbD r a e u v)) (.val (.int (n : Int))) (.val (.tup [X, .tup (ni (nmN l))])) (.val (.int (i : Int))) (.val (.int (j : Int))) x10 x11, b⟩ : Sta BagT) = some (.nx, ⟨laS t x3 x4 (.val (lbD r a e u v)) (.val (.int (n : Int))) (.val (.tup [X, .tup (ni (nmN l))])) (.val (.int (i : Int))) (.val (.int (j : Int))) y10 y11, b⟩) := by
  obtain ⟨k1, e1, h1⟩ := alike_eq h hi hj b
  obtain ⟨k2, e2, h2⟩ := same_square_eq h b hi hj
  obtain ⟨k3, e3, h3⟩ := same_square_eq h b hj hi
  have n1 : (nmN l).getD i 0 = (nmN l).getD j 0 ↔ Alike n r a (mfL e u v) i j := (nm_iff hl.lp.len hi hj).trans (hl.iff h.hr h.ha hi hj)
  have g1 := getD_len hl.lp hi
  have g2 := getD_len hl.lp hj
  have q2 : k2 = k1 := by
    rw [Bool.eq_iff_iff, h1, h2]
  have q3 : k3 = k1 := by
    rw [Bool.eq_iff_iff, h1, h3]
    exact ⟨alike_symm, alike_symm⟩
  have q4 : decide ((nmN l).getD i 0 = (nmN l).getD j 0) = k1 := by
    rw [Bool.eq_iff_iff, decide_eq_true_eq, n1, h1]
  have q5 := eqN ((nmN l).getD i 0) ((nmN l).getD j 0)
  rw [q4] at q5
  subst q2 q3
  refine ⟨.val (.bl k3), .val (.bl k3), ?_⟩
  generalize (nmN l).getD i 0 = x at *
  generalize (nmN l).getD j 0 = y at *
  generalize lbD r a e u v = L at *
  have pk : pickL [2, 1, 0] [Sl.val (.int (j : Int)), .val (.int (i : Int)), .val L] = [.val L, .val (.int (i : Int)), .val (.int (j : Int))] := rfl
  have c1 : lpA (⟨laS t x3 x4 (.val L) (.val (.int (n : Int))) (.val (.tup [X, .tup (ni (nmN l))])) (.val (.int (i : Int))) (.val (.int (j : Int))) x10 x11, b⟩ : Sta BagT) = some (.nx, ⟨laS t x3 x4 (.val L) (.val (.int (n : Int))) (.val (.tup [X, .tup (ni (nmN l))])) (.val (.int (i : Int))) (.val (.int (j : Int))) (.val (.bl k3)) x11, b⟩) := by
    simp [lpA, laS, e1]
  have c2 : lpB (⟨laS t x3 x4 (.val L) (.val (.int (n : Int))) (.val (.tup [X, .tup (ni (nmN l))])) (.val (.int (i : Int))) (.val (.int (j : Int))) (.val (.bl k3)) x11, b⟩ : Sta BagT) = some (.nx, ⟨laS t x3 x4 (.val L) (.val (.int (n : Int))) (.val (.tup [X, .tup (ni (nmN l))])) (.val (.int (i : Int))) (.val (.int (j : Int))) (.val (.bl k3)) (.val (.bl k3)), b⟩) := by
    by_cases ht : 0 < t
    · have ht' : (0 : Int) < (t : Int) := by omega
      simp [lpB, laS, e2, ht, ht']
    · have ht' : ¬ (0 : Int) < (t : Int) := by omega
      simp [lpB, laS, e2, ht, ht', pk]
  have c3 : lpC (⟨laS t x3 x4 (.val L) (.val (.int (n : Int))) (.val (.tup [X, .tup (ni (nmN l))])) (.val (.int (i : Int))) (.val (.int (j : Int))) (.val (.bl k3)) (.val (.bl k3)), b⟩ : Sta BagT) = some (.nx, ⟨laS t x3 x4 (.val L) (.val (.int (n : Int))) (.val (.tup [X, .tup (ni (nmN l))])) (.val (.int (i : Int))) (.val (.int (j : Int))) (.val (.bl k3)) (.val (.bl k3)), b⟩) := by
    have s := same_bl 11 k3 k3 b
    have s' : F_law_same 12 [.val (.bl k3), .val (.bl k3)] b = some (.val (.bl true), b) := by rw [s]; simp
    simp [lpC, laS, s', e3, g1, g2, q5, fNe_b]
  unfold lpBody
  rw [mSeq_ap, c1, Option.bind_some, M.thn_nx, mSeq_ap, c2, Option.bind_some, M.thn_nx, c3]
theorem la_4 (h : Lb n r a e u v) {l : List Nat} (hl : LF n r a (mfL e u v) l) (t : Nat) (x3 x4 x8 x9 x10 x11 : Sl) (X : D) : ∃ y8 y9 y10 y11, laa0_4 (⟨laS t x3 x4 (.val (lbD r a e u v)) (.val (.int (n : Int))) (.val (.tup [X, .tup (ni (nmN l))])) x8 x9 x10 x11, b⟩ : Sta BagT) = some (.nx, ⟨laS t x3 x4 (.val (lbD r a e u v)) (.val (.int (n : Int))) (.val (.tup [X, .tup (ni (nmN l))])) y8 y9 y10 y11, b⟩) := by
  have hn := h.hn
  have e0 : mRng fR1 (mCons (mV 6) (mNil)) (⟨laS t x3 x4 (.val (lbD r a e u v)) (.val (.int (n : Int))) (.val (.tup [X, .tup (ni (nmN l))])) x8 x9 x10 x11, b⟩ : Sta BagT) = some (ni (List.range n), ⟨laS t x3 x4 (.val (lbD r a e u v)) (.val (.int (n : Int))) (.val (.tup [X, .tup (ni (nmN l))])) x8 x9 x10 x11, b⟩) := by
    simp [laS, rgOk_nat (show n ≤ 1000000 by omega), rgL_ni]
  obtain ⟨st', e2, y8, y9, y10, y11, hst⟩ := forL_inv (tg := tmN 8) (body := mFor (mRng fR2 (mCons (mV 8) (mCons (mV 6) (mNil)))) (tmN 9) lpBody) (fun _ (st : Sta BagT) => ∃ y8 y9 y10 y11, st = ⟨laS t x3 x4 (.val (lbD r a e u v)) (.val (.int (n : Int))) (.val (.tup [X, .tup (ni (nmN l))])) y8 y9 y10 y11, b⟩) (ni (List.range n)) 0 ⟨laS t x3 x4 (.val (lbD r a e u v)) (.val (.int (n : Int))) (.val (.tup [X, .tup (ni (nmN l))])) x8 x9 x10 x11, b⟩ ⟨_, _, _, _, rfl⟩ (fun i d st hd ⟨y8, y9, y10, y11, hst⟩ => by
    subst hst
    have hi : i < n := by
      have := (List.getElem?_eq_some_iff.mp hd).1
      simpa using this
    rw [ni_get, List.getElem?_range hi] at hd
    cases hd
    have c1 : mRng fR2 (mCons (mV 8) (mCons (mV 6) (mNil))) (⟨laS t x3 x4 (.val (lbD r a e u v)) (.val (.int (n : Int))) (.val (.tup [X, .tup (ni (nmN l))])) (.val (.int (i : Int))) y9 y10 y11, b⟩ : Sta BagT) = some (rgL (i : Int) ((n : Int) - (i : Int)).toNat, ⟨laS t x3 x4 (.val (lbD r a e u v)) (.val (.int (n : Int))) (.val (.tup [X, .tup (ni (nmN l))])) (.val (.int (i : Int))) y9 y10 y11, b⟩) := by
      simp [laS, rgOk_nat (show n ≤ 1000000 by omega), rgOk_nat (show i ≤ 1000000 by omega)]
    obtain ⟨st', e2, z9, z10, z11, hst⟩ := forL_inv (tg := tmN 9) (body := lpBody) (fun _ (st : Sta BagT) => ∃ y9 y10 y11, st = ⟨laS t x3 x4 (.val (lbD r a e u v)) (.val (.int (n : Int))) (.val (.tup [X, .tup (ni (nmN l))])) (.val (.int (i : Int))) y9 y10 y11, b⟩) (rgL (i : Int) ((n : Int) - (i : Int)).toNat) 0 ⟨laS t x3 x4 (.val (lbD r a e u v)) (.val (.int (n : Int))) (.val (.tup [X, .tup (ni (nmN l))])) (.val (.int (i : Int))) y9 y10 y11, b⟩ ⟨_, _, _, rfl⟩ (fun m d st hd ⟨y9, y10, y11, hst⟩ => by
      subst hst
      unfold rgL at hd
      rw [List.getElem?_map] at hd
      have hm : m < ((n : Int) - (i : Int)).toNat := by
        apply Classical.byContradiction
        intro hc
        rw [List.getElem?_eq_none (by simp; omega)] at hd
        cases hd
      rw [List.getElem?_range hm] at hd
      cases hd
      obtain ⟨w10, w11, ep⟩ := pair_eq (b := b) h hl t x3 x4 y10 y11 X hi (j := i + m) (by omega)
      have ec : ((i : Int) + (m : Int)) = ((i + m : Nat) : Int) := by omega
      refine ⟨⟨laS t x3 x4 (.val (lbD r a e u v)) (.val (.int (n : Int))) (.val (.tup [X, .tup (ni (nmN l))])) (.val (.int (i : Int))) (.val (.int ((i + m : Nat) : Int))) y10 y11, b⟩, .nx, _, ?_, ep, .inl rfl, _, _, _, rfl⟩
      simp only [ec]
      rfl)
    refine ⟨⟨laS t x3 x4 (.val (lbD r a e u v)) (.val (.int (n : Int))) (.val (.tup [X, .tup (ni (nmN l))])) (.val (.int (i : Int))) y9 y10 y11, b⟩, .nx, st', rfl, ?_, .inl rfl, _, _, _, _, hst⟩
    rw [mFor_ap, c1, Option.bind_some]
    exact e2)
  refine ⟨y8, y9, y10, y11, ?_⟩
  rw [la4_run, mFor_ap, e0, Option.bind_some]
  simp only
  rw [e2, hst]
end
theorem la_turn (t : Nat) (x3 x4 x5 x6 x7 x8 x9 x10 x11 : Sl) (b : BagT) (hb : Bg b) : ∃ y3 y4 y5 y6 y7 y8 y9 y10 y11 b', Bg b' ∧ laa0b (⟨laS t x3 x4 x5 x6 x7 x8 x9 x10 x11, b⟩ : Sta BagT) = some (.nx, ⟨laS t y3 y4 y5 y6 y7 y8 y9 y10 y11, b'⟩) := by
  obtain ⟨n, r, a, e, u, v, y3, y4, b', hL, hb', c0⟩ := la_0 t x3 x4 x5 x6 x7 x8 x9 x10 x11 b hb
  have c1 : laa0_1 (⟨laS t y3 y4 (.val (lbD r a e u v)) x6 x7 x8 x9 x10 x11, b'⟩ : Sta BagT) = some (.nx, ⟨laS t y3 y4 (.val (lbD r a e u v)) (.val (.int (n : Int))) x7 x8 x9 x10 x11, b'⟩) := by
    simp [laa0_1, laS, lbD, hL.hu]
  obtain ⟨l, hl, c2⟩ := la_2 (b := b') hL t y3 y4 x7 x8 x9 x10 x11
  have hn := hL.hn
  have c3 := la_3 (b := b') t y3 y4 (.val (lbD r a e u v)) x8 x9 x10 x11 (lsD l r a e u v) (nm := nmN l) (n := n) (by simp [nmN, hl.lp.len]) (by omega)
  obtain ⟨y8, y9, y10, y11, c4⟩ := la_4 (b := b') hL hl t y3 y4 x8 x9 x10 x11 (lsD l r a e u v)
  refine ⟨y3, y4, .val (lbD r a e u v), .val (.int (n : Int)), .val (.tup [lsD l r a e u v, .tup (ni (nmN l))]), y8, y9, y10, y11, b', hb', ?_⟩
  unfold laa0b
  rw [mSeq_ap, c0, Option.bind_some, M.thn_nx, mSeq_ap, c1, Option.bind_some, M.thn_nx, mSeq_ap, c2, Option.bind_some, M.thn_nx, mSeq_ap, c3, Option.bind_some, M.thn_nx, c4]
theorem law_true (b : BagT) (hb : Bg b) : ∃ st', F_law (⟨[.no, .val .res, .no, .no, .no, .no, .no, .no, .no, .no, .no, .no, .no, .no], b⟩ : Sta BagT) = some (.rt (.val (.bl true)), st') := by
  have e0 : mRng fR1 (mCons (mC (.int 3)) (mNil)) (⟨[.no, .val .res, .no, .no, .no, .no, .no, .no, .no, .no, .no, .no, .no, .no], b⟩ : Sta BagT) = some (ni (List.range 3), ⟨[.no, .val .res, .no, .no, .no, .no, .no, .no, .no, .no, .no, .no, .no, .no], b⟩) := by
    have h1 : rgOk (3 : Int) = true := rgOk_small (by omega) (by omega)
    simp [h1, rgL_ni]
  obtain ⟨st', e2, _⟩ := forL_inv (tg := tmN 2) (body := laa0b) (fun _ (st : Sta BagT) => ∃ x2 y3 y4 y5 y6 y7 y8 y9 y10 y11 b', Bg b' ∧ st = ⟨[.no, .val .res, x2, y3, y4, y5, y6, y7, y8, y9, y10, y11, .no, .no], b'⟩) (ni (List.range 3)) 0 ⟨[.no, .val .res, .no, .no, .no, .no, .no, .no, .no, .no, .no, .no, .no, .no], b⟩ ⟨_, _, _, _, _, _, _, _, _, _, b, hb, rfl⟩ (fun t d st hd ⟨x2, y3, y4, y5, y6, y7, y8, y9, y10, y11, b', hb', hst⟩ => by
    subst hst
    have ht : t < 3 := by
      have := (List.getElem?_eq_some_iff.mp hd).1
      simpa using this
    rw [ni_get, List.getElem?_range ht] at hd
    cases hd
    obtain ⟨z3, z4, z5, z6, z7, z8, z9, z10, z11, b2, hb2, e⟩ := la_turn t y3 y4 y5 y6 y7 y8 y9 y10 y11 b' hb'
    exact ⟨⟨laS t y3 y4 y5 y6 y7 y8 y9 y10 y11, b'⟩, .nx, _, rfl, e, .inl rfl, _, _, _, _, _, _, _, _, _, _, b2, hb2, rfl⟩)
  refine ⟨st', ?_⟩
  rw [law_run, mSeq_ap]
  unfold laa0
  rw [mFor_ap, e0, Option.bind_some]
  simp only
  rw [e2, Option.bind_some, M.thn_nx]
  rfl
end W


namespace W
open PySem PySem.Spec PyProof.Rows L2 M
section
variable [Wrt] {P : Program} {mg : Str → Option Value} {base : Heap}
def spLaw (ts : List Addr) (K : PySem.W.Frag) : Sp := fun vs H Q _ => ∃ (a : Addr) (ns : List Int), vs = [.ref a] ∧ SqL K H a (ns.map V.int) ∧ ns.length ≤ 63 ∧ (∀ p ∈ ts, H p = some (.tbl #[])) ∧ ∀ H', Q (.bl true) H'
theorem W_law [Tabs] (T : Txt Wrt.K mg)  {f : Addr} {fd : FuncData} (F : Fun Wrt.K "law" "law" s_law f fd) : FnOk P Wrt.w Wrt.K mg base CX0 13 f fd ["script"] (spLaw Tabs.ts Wrt.K) := by
  obtain ⟨fb, fdb, gb, FB, ok_bag⟩ := W_law_bag (P := P) (base := base) T
  have D_law_draw := W_law_draw (P := P) (base := base) T
  have D_ends_at := W_ends_at (P := P) (base := base) T 
  have D_first_marks := W_first_marks (P := P) (base := base) T D_ends_at
  have D_least_alike := W_least_alike (P := P) (base := base) T 
  have D_lots_by := W_lots_by (P := P) (base := base) T D_least_alike
  have D_least_board := W_least_board (P := P) (base := base) T D_lots_by D_first_marks D_ends_at
  have D_same_square := W_same_square (P := P) (base := base) T D_least_board
  have D_law_pick := W_law_pick (P := P) (base := base) T D_law_draw
  have D_law_same := W_law_same (P := P) (base := base) T  12
  have D_law_is_int := W_law_is_int (P := P) (base := base) T 
  have D_law_back := W_law_back (P := P) (base := base) T 
  have D_law_turn_of := W_law_turn_of (P := P) (base := base) T D_law_back
  have D_law_ends := W_law_ends (P := P) (base := base) T D_law_turn_of
  have D_law_reached := W_law_reached (P := P) (base := base) T 
  have D_law_shuffle := W_law_shuffle (P := P) (base := base) T D_law_draw
  have D_law_board_of := W_law_board_of (P := P) (base := base) T D_law_ends
  have D_law_board := W_law_board (P := P) (base := base) T D_law_draw D_law_shuffle D_law_reached D_law_board_of
  have D_law_mark := W_law_mark (P := P) (base := base) T 
  have D_law_is_alike := W_law_is_alike (P := P) (base := base) T D_law_mark
  have D_law_cover := W_law_cover (P := P) (base := base) T D_law_shuffle D_law_reached
  have D_law_covers := W_law_covers (P := P) (base := base) T D_law_draw D_law_shuffle D_law_reached D_law_cover D_law_ends D_law_pick D_law_board_of
  have S := S_law
  refine F.ok S_law (fun vs H Q E h => ?_) (fun cdv A outer s H vs Q E hr h => ⟨_, pss_cons (ps_set (i := 1) S.nd rfl (by first | exact Or.inl rfl | exact Or.inr rfl) (pe_call (ok_bag.mono (show 1 ≤ 12 by decide)) hr (by rfl) gb FB.kp (FB.binds (ps := ["script"]) fun _ _ _ _ _ _ us hl => match us, hl with | [_], _ => rfl) .nil pass0 (pa_cons (pv 0) pa_nil))) (rest_law T D_law_draw D_law_pick D_law_board D_law_covers D_least_board D_law_is_int D_law_is_alike D_same_square D_law_same hr), ?_⟩)
  · obtain ⟨a, ns, rfl, _⟩ := h
    rfl
  · obtain ⟨a, ns, rfl, hS, hlen, ht, q⟩ := h
    refine ⟨.ref a, rfl, a, ns, rfl, hS, hlen, fun ab ag ac b H' hb hso hk hrel0 => ?_⟩
    have hrel : (bagRes Tabs.ts ab ag ac).rel b H' := ⟨hrel0, fun p hp => ⟨#[], hk p _ (ht p hp), True.intro⟩⟩
    obtain ⟨st', e⟩ := law_true b ⟨hb, hso⟩
    refine ⟨⟨bagRes Tabs.ts ab ag ac, ⟨ab, ag, ac, rfl⟩, H', ⟨(bagRes Tabs.ts ab ag ac).foot, fun _ => none⟩, fun x hx => (bagRes Tabs.ts ab ag ac).there b H' x hrel hx, fun _ h => h, fun _ ⟨⟨_, z⟩, _⟩ => nomatch z⟩, ⟨(bagRes Tabs.ts ab ag ac).foot, fun _ => none⟩, ⟨[.no, .val .res, .no, .no, .no, .no, .no, .no, .no, .no, .no, .no, .no, .no], b⟩, _, st', ⟨rfl, fun i s hi => ?_, fun i j d e hi hj _ => ?_, fun a o ha _ => ha, hrel, fun _ h => h, fun x hx => (bagRes Tabs.ts ab ag ac).there b H' x hrel hx, (fun _ _ ⟨⟨_, z⟩, _⟩ => nomatch z), (fun _ _ z => nomatch z), (fun _ ⟨⟨_, z⟩, _⟩ => nomatch z), ⟨fun n o e => (by simp [Sto.sto, hso] at e), fun _ _ => rfl, (fun _ _ _ z => nomatch z), (fun _ _ z => nomatch z), (fun _ _ z => nomatch z)⟩⟩, e, ?_⟩
    · match i, hi with
      | 0, hi => cases hi; trivial
      | 1, hi =>
        cases hi
        exact ⟨.ref ab, rfl, by simp [Rep, bagRes]⟩
      | 2, hi => cases hi; trivial
      | 3, hi => cases hi; trivial
      | 4, hi => cases hi; trivial
      | 5, hi => cases hi; trivial
      | 6, hi => cases hi; trivial
      | 7, hi => cases hi; trivial
      | 8, hi => cases hi; trivial
      | 9, hi => cases hi; trivial
      | 10, hi => cases hi; trivial
      | 11, hi => cases hi; trivial
      | 12, hi => cases hi; trivial
      | 13, hi => cases hi; trivial
      | i + 14, hi => simp at hi
    · match i, hi with
      | 0, hi => simp at hi
      | 1, hi => simp at hi
      | 2, hi => simp at hi
      | 3, hi => simp at hi
      | 4, hi => simp at hi
      | 5, hi => simp at hi
      | 6, hi => simp at hi
      | 7, hi => simp at hi
      | 8, hi => simp at hi
      | 9, hi => simp at hi
      | 10, hi => simp at hi
      | 11, hi => simp at hi
      | 12, hi => simp at hi
      | 13, hi => simp at hi
      | i + 14, hi => simp at hi
    · intro v H2 F2 ⟨_, hv⟩
      have hv2 : v = .bl true := by simpa [ResR, Rep] using hv
      rw [hv2]
      exact q H2
end
end W
namespace W
open PySem PySem.Spec PyProof.Rows L2 M
theorem txt_mk {K : PySem.W.Frag} {w : World} {mg : Str → Option Value} (h0 : Dn K mg "ends_at" s_ends_at) (h1 : Dn K mg "first_marks" s_first_marks) (h2 : Dn K mg "least_alike" s_least_alike) (h3 : Dn K mg "lots_by" s_lots_by) (h4 : Dn K mg "least_board" s_least_board) (h5 : Dn K mg "same_square" s_same_square) (h6 : Dn K mg "_law_bag" s_law_bag) (h7 : Dn K mg "_law_draw" s_law_draw) (h8 : Dn K mg "_law_pick" s_law_pick) (h9 : Dn K mg "_law_same" s_law_same) (h10 : Dn K mg "_law_is_int" s_law_is_int) (h11 : Dn K mg "_law_back" s_law_back) (h12 : Dn K mg "_law_turn_of" s_law_turn_of) (h13 : Dn K mg "_law_ends" s_law_ends) (h14 : Dn K mg "_law_reached" s_law_reached) (h15 : Dn K mg "_law_shuffle" s_law_shuffle) (h16 : Dn K mg "_law_board_of" s_law_board_of) (h17 : Dn K mg "_law_board" s_law_board) (h18 : Dn K mg "_law_mark" s_law_mark) (h19 : Dn K mg "_law_is_alike" s_law_is_alike) (h20 : Dn K mg "_law_cover" s_law_cover) (h21 : Dn K mg "_law_covers" s_law_covers) (h22 : Dn K mg "law" s_law) (h23 : mg "abs" = none) (h24 : mg "bool" = none) (h25 : mg "enumerate" = none) (h26 : mg "int" = none) (h27 : mg "isinstance" = none) (h28 : mg "len" = none) (h29 : mg "list" = none) (h30 : mg "range" = none) (h31 : mg "sorted" = none) (h32 : mg "str" = none) (h33 : mg "tuple" = none) (h34 : mg "zip" = none) : @Txt ⟨K, w⟩ K mg :=
  letI : Wrt := ⟨K, w⟩
  ⟨h0, h1, h2, h3, h4, h5, h6, h7, h8, h9, h10, h11, h12, h13, h14, h15, h16, h17, h18, h19, h20, h21, h22, h23, h24, h25, h26, h27, h28, h29, h30, h31, h32, h33, h34⟩
end W

namespace W
open PySem PySem.Spec PyProof.Rows L2 M
/-- a def of the top, as it stands in the heap -/
theorem dn_mk {K : PySem.W.Frag} {h : Heap} {mg : Str → Option Value} {x : Str} {st : Stmt} {f : Addr} (X : K.In h) (G : h.Ns mainGlobals mg) {od an : Option Addr} {sl : Array (Option Value)} {oc kV dc pm cd ct : Value}
    (a : PySem.W.nsIn K mainGlobals x = some (some (.ref f))) (l : K.lookup f = some ⟨oc, od, .func (PySem.W.fnOf x x (defArgs st) (defBody st) (defScope st) .none kV dc pm an cd ct), sl⟩) (c : PySem.W.codeIn K cd x = true) (k : PySem.W.keepIn K (.ref f) = true) : Dn K mg x st :=
  ⟨f, _, PySem.W.mg_of X G a, fun_mk (st := st) l c k⟩
/-- a whole number of the top -/
theorem int_mk {K : PySem.W.Frag} {h : Heap} {mg : Str → Option Value} {x : Str} {v : Value} {i : Int} (X : K.In h) (G : h.Ns mainGlobals mg) (e : PySem.W.nsIn K mainGlobals x = some (some v)) (hv : ∃ t, v = .int i t) : ∃ t, mg x = some (.int i t) := by
  obtain ⟨t, rfl⟩ := hv
  exact ⟨t, PySem.W.mg_of X G e⟩
/-- a tuple of the top -/
theorem tup_mk {K : PySem.W.Frag} {w : World} {h : Heap} {mg : Str → Option Value} {x : Str} {a : Addr} {xs : List V} {o : Obj} {its : Array Value} {n : Nat} (X : K.In h) (G : h.Ns mainGlobals mg) (e : PySem.W.nsIn K mainGlobals x = some (some (.ref a))) (l : K.lookup a = some o) (c : o.cls = .type "tuple") (d : o.data = .seq its n) (s : its.size ≤ sizeLine) (v : Vals xs its.toList) : ∃ a, mg x = some (.ref a) ∧ @M.Wr ⟨K, w⟩ a xs :=
  ⟨a, PySem.W.mg_of X G e, o, its, n, l, c, d, s, v⟩
/-- a def that holds generator expressions: where its code object and that one's table are -/
structure TabAt (K : PySem.W.Frag) (h : Heap) (mg : Str → Option Value) (x : Str) (st : Stmt) (c tb : Addr) : Prop where
  ex : ∃ f fd, mg x = some (.ref f) ∧ Fun K x x st f fd ∧ fd.code = .ref c
  hd : PySem.W.CodeHd h c tb
  emp : h.get? tb = some { cls := .none, data := .fields #[] }
  out : K.lookup tb = none
theorem tab_mk {K : PySem.W.Frag} {h : Heap} {mg : Str → Option Value} {x : Str} {st : Stmt} {f c tb : Addr} (X : K.In h) (G : h.Ns mainGlobals mg) (O : ∀ f, mg x = some (.ref f) → LamX.OwnTab K f h) {od an : Option Addr} {sl : Array (Option Value)} {oc kV dc pm ct : Value}
    (a : PySem.W.nsIn K mainGlobals x = some (some (.ref f))) (l : K.lookup f = some ⟨oc, od, .func (PySem.W.fnOf x x (defArgs st) (defBody st) (defScope st) .none kV dc pm an (.ref c) ct), sl⟩) (ci : PySem.W.codeIn K (.ref c) x = true) (k : PySem.W.keepIn K (.ref f) = true)
    {e : Value} {dd : Option Addr} {vs : Array Value} {sl2 : Array (Option Value)} (lc : K.lookup c = some ⟨e, dd, .fields vs, sl2⟩) (v : vs[11]? = some (.ref tb)) (ch : PySem.W.codeHdIn K c tb = true) (n : K.lookup tb = none) : TabAt K h mg x st c tb :=
  ⟨⟨f, _, PySem.W.mg_of X G a, fun_mk (st := st) l ci k, rfl⟩, PySem.W.codeHd_of_K X ch, O f (PySem.W.mg_of X G a) c tb _ _ e dd vs sl2 l rfl rfl lc v, n⟩
theorem TabAt.dt {K : PySem.W.Frag} {h base : Heap} {mg : Str → Option Value} {x : Str} {st : Stmt} {c tb : Addr} {ts : List Addr} (t : TabAt K h mg x st c tb) (B : LamX.TabB base mg c tb) (m : tb ∈ ts) : M.Dt K mg x st base ts := by
  obtain ⟨f, fd, h1, h2, h3⟩ := t.ex
  exact ⟨f, fd, c, tb, h1, h2, h3, ⟨B.code, B.bm, B.gP⟩, m⟩
/-- the end of a law whose text's defs hold generator expressions: each def's table is empty when the law is called -/
theorem walk_tabs {l : PySem.W.OpenLaw} {n k : Nat} {q : Program} {loose : List Str} {XP : (Str → Option Value) → Heap → Prop} {YP : World → Heap → Prop} {d : DefRec} {K : Params → PySem.W.Frag} {CX : World → CXT} {x : Str}
    (hn : l.most = some n) (hn2 : n ≤ sizeLine) (hdf : d.params.defaults = []) (hr : Room k callerA) (hY : ∀ (w : World) (h : Heap), YP w h → (K w.params).In h)
    (F : ∀ (w : World) (mg : Str → Option Value) (fa : Addr) (h : Heap), YP w h → (K w.params).In h → h.Ns mainGlobals mg → mg d.name = some (.ref fa) →
      (∀ (y : Str) (f : Addr), ((recsOf q).any fun e => e.name == y) = true → mg y = some (.ref f) → LamX.OwnTab (K w.params) f h) → LamX.LawAtS l w (K w.params) (CX w) k n x mg fa h)
    (hCX : ∀ (w : World) (H : Hp) (s : Shared) (e : Value) (s' : Shared), CX w [] H s (fun _ _ _ => False) e s' → False) :
    PySem.W.WalkO q loose XP YP l.row.toRowW d [] (fun f vs => PySem.call f vs) := by
  refine (Att.attach_callB hn hdf fun w s₀ s₁ mg mb fa o pm cd doc a vs ns G Y ho hd hcd hmg hobj hints hlen hbits hg => ?_)
  have KX := hY w _ Y
  have own : ∀ (y : Str) (f : Addr), ((recsOf q).any fun e => e.name == y) = true → mg y = some (.ref f) → LamX.OwnTab (K w.params) f s₁.heap := fun y f hy hf c P o1 fd1 e dd vs1 sl k1 k2 k3 k4 k5 => by
    obtain ⟨dL, hm, hn1⟩ := List.any_eq_true.mp hy
    have hn2 : dL.name = y := beq_iff_eq.mp hn1
    obtain ⟨a', o', fd', c', P', h1, h2, h3, h4, h5, h6⟩ := G.T.tab dL hm
    rw [hn2, hf] at h1
    cases h1
    have g1 := (KX _ _ k1).symm.trans h2
    cases g1
    have g2 := k2.symm.trans h3
    cases g2
    have g3 := k3.symm.trans h4
    cases g3
    obtain ⟨⟨oc, vc, e1, _, e3, e4⟩, hP⟩ := h6
    have g4 := (KX _ _ k4).symm.trans e1
    cases g4
    cases e3
    have g5 := k5.symm.trans e4
    cases g5
    exact hP
  obtain ⟨fd, cs, sp, hT, nT, C, hb, hsp, hF⟩ := F w mg fa _ Y KX G.T.g hmg own
  exact LamX.law_callTs KX G.T.g G.T.b G.T.builtins G.T.nolimit hg hT nT C G.T.bmain hobj hints (Nat.le_trans hlen hn2) hr hF hb (fun H hH hS => hsp H a ns hlen hbits hH hS) (fun H e s' => hCX w H s₁ e s')
theorem all_mk {l : PySem.W.OpenLaw} {w : World} {K : PySem.W.Frag} {h : Heap} {mg : Str → Option Value} {fa f2 : Addr} (X : K.In h) (G : h.Ns mainGlobals mg) (hfa : mg "law" = some (.ref fa)) (T : @Txt ⟨K, w⟩ K mg) 
    {od2 an2 : Option Addr} {sl2 : Array (Option Value)} {oc2 kV2 dc2 pm2 cd2 ct2 : Value}
    (a2 : PySem.W.nsIn K mainGlobals "law" = some (some (.ref f2))) (l2 : K.lookup f2 = some ⟨oc2, od2, .func (PySem.W.fnOf "law" "law" (defArgs s_law) (defBody s_law) (defScope s_law) .none kV2 dc2 pm2 an2 cd2 ct2), sl2⟩) (c2 : PySem.W.codeIn K cd2 "law" = true) (k2 : PySem.W.keepIn K (.ref f2) = true) :
    LamX.LawAtS l w K CX0 13 63 "script" mg fa h := by
  have e := hfa.symm.trans (PySem.W.mg_of X G a2)
  cases e
  have F2 := fun_mk (st := s_law) l2 c2 k2
  letI : Wrt := ⟨K, w⟩
  letI : Tabs := ⟨[]⟩
  have two : ∀ {Pr : Addr × Addr → Prop}, True → ∀ p ∈ [], Pr p := fun {Pr} hh p hp => by
    cases hp
  refine ⟨PySem.W.fnOf "law" "law" (defArgs s_law) (defBody s_law) (defScope s_law) .none kV2 dc2 pm2 an2 cd2 ct2, [], spLaw Tabs.ts K, ?_, ?_, ?_, fun s v => .of_eq rfl, fun H a ns hl _ ht hS => ⟨a, ns, rfl, hS, hl, fun p hp => ?_, fun _ => rfl⟩, fun base _ _ TB => ?_⟩
  · exact two trivial
  · exact two trivial
  · exact two trivial
  · exact absurd (show p ∈ ([] : List Addr) from hp) (by simp)
  · exact W_law T  F2
end W
open PySem PySem.W PyProof.Rows
set_option maxHeartbeats 0 in
theorem PySem.Challenge.cw_blockedshots_k49_whole_same_squares_holds : PySem.Challenge.rw_blockedshots_k49_whole_same_squares.Holds := by
  w_on; o_law; k_head; (case hw => w_witness2)
  k_fill
  refine W.walk_tabs (l := PySem.Challenge.rw_blockedshots_k49_whole_same_squares) (n := 63) (k := 13) (x := "script") (CX := fun _ => L2.CX0) rfl (by decide) rfl ⟨rfl, by decide, by decide⟩ (fun w h Y => PySem.W.kIn_of Y) ?F (fun _ _ _ _ _ h => h)
  case F =>
    intro w mg fa h YY KX G hmg OT
    refine' W.all_mk KX G hmg ?T  ?a2 ?l2 ?c2 ?k2
    (case T =>
      refine' W.txt_mk ?_ ?_ ?_ ?_ ?_ ?_ ?_ ?_ ?_ ?_ ?_ ?_ ?_ ?_ ?_ ?_ ?_ ?_ ?_ ?_ ?_ ?_ ?_ ?_ ?_ ?_ ?_ ?_ ?_ ?_ ?_ ?_ ?_ ?_ ?_
      · refine' W.dn_mk KX G ?a ?l ?c ?k
        (case a => k_is); (case l => k_is); (case c => k_is); (case k => k_is)
      · refine' W.dn_mk KX G ?a ?l ?c ?k
        (case a => k_is); (case l => k_is); (case c => k_is); (case k => k_is)
      · refine' W.dn_mk KX G ?a ?l ?c ?k
        (case a => k_is); (case l => k_is); (case c => k_is); (case k => k_is)
      · refine' W.dn_mk KX G ?a ?l ?c ?k
        (case a => k_is); (case l => k_is); (case c => k_is); (case k => k_is)
      · refine' W.dn_mk KX G ?a ?l ?c ?k
        (case a => k_is); (case l => k_is); (case c => k_is); (case k => k_is)
      · refine' W.dn_mk KX G ?a ?l ?c ?k
        (case a => k_is); (case l => k_is); (case c => k_is); (case k => k_is)
      · refine' W.dn_mk KX G ?a ?l ?c ?k
        (case a => k_is); (case l => k_is); (case c => k_is); (case k => k_is)
      · refine' W.dn_mk KX G ?a ?l ?c ?k
        (case a => k_is); (case l => k_is); (case c => k_is); (case k => k_is)
      · refine' W.dn_mk KX G ?a ?l ?c ?k
        (case a => k_is); (case l => k_is); (case c => k_is); (case k => k_is)
      · refine' W.dn_mk KX G ?a ?l ?c ?k
        (case a => k_is); (case l => k_is); (case c => k_is); (case k => k_is)
      · refine' W.dn_mk KX G ?a ?l ?c ?k
        (case a => k_is); (case l => k_is); (case c => k_is); (case k => k_is)
      · refine' W.dn_mk KX G ?a ?l ?c ?k
        (case a => k_is); (case l => k_is); (case c => k_is); (case k => k_is)
      · refine' W.dn_mk KX G ?a ?l ?c ?k
        (case a => k_is); (case l => k_is); (case c => k_is); (case k => k_is)
      · refine' W.dn_mk KX G ?a ?l ?c ?k
        (case a => k_is); (case l => k_is); (case c => k_is); (case k => k_is)
      · refine' W.dn_mk KX G ?a ?l ?c ?k
        (case a => k_is); (case l => k_is); (case c => k_is); (case k => k_is)
      · refine' W.dn_mk KX G ?a ?l ?c ?k
        (case a => k_is); (case l => k_is); (case c => k_is); (case k => k_is)
      · refine' W.dn_mk KX G ?a ?l ?c ?k
        (case a => k_is); (case l => k_is); (case c => k_is); (case k => k_is)
      · refine' W.dn_mk KX G ?a ?l ?c ?k
        (case a => k_is); (case l => k_is); (case c => k_is); (case k => k_is)
      · refine' W.dn_mk KX G ?a ?l ?c ?k
        (case a => k_is); (case l => k_is); (case c => k_is); (case k => k_is)
      · refine' W.dn_mk KX G ?a ?l ?c ?k
        (case a => k_is); (case l => k_is); (case c => k_is); (case k => k_is)
      · refine' W.dn_mk KX G ?a ?l ?c ?k
        (case a => k_is); (case l => k_is); (case c => k_is); (case k => k_is)
      · refine' W.dn_mk KX G ?a ?l ?c ?k
        (case a => k_is); (case l => k_is); (case c => k_is); (case k => k_is)
      · refine' W.dn_mk KX G ?a ?l ?c ?k
        (case a => k_is); (case l => k_is); (case c => k_is); (case k => k_is)
      · refine' PySem.W.mg_none_of KX G ?z
        (case z => k_is)
      · refine' PySem.W.mg_none_of KX G ?z
        (case z => k_is)
      · refine' PySem.W.mg_none_of KX G ?z
        (case z => k_is)
      · refine' PySem.W.mg_none_of KX G ?z
        (case z => k_is)
      · refine' PySem.W.mg_none_of KX G ?z
        (case z => k_is)
      · refine' PySem.W.mg_none_of KX G ?z
        (case z => k_is)
      · refine' PySem.W.mg_none_of KX G ?z
        (case z => k_is)
      · refine' PySem.W.mg_none_of KX G ?z
        (case z => k_is)
      · refine' PySem.W.mg_none_of KX G ?z
        (case z => k_is)
      · refine' PySem.W.mg_none_of KX G ?z
        (case z => k_is)
      · refine' PySem.W.mg_none_of KX G ?z
        (case z => k_is)
      · refine' PySem.W.mg_none_of KX G ?z
        (case z => k_is)
    )
    (case a2 => k_is); (case l2 => k_is); (case c2 => k_is); (case k2 => k_is)

